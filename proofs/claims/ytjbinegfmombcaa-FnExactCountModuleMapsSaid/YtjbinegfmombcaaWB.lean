/- The program and the reference count the module maps alike, for all arguments (FnExactCountModuleMaps). This file is a part of the proof. -/
import Derived.Test.YtjbinegfmombcaaWA
namespace Go.Wk
open Go Go.Proofs Go.Ab
set_option maxRecDepth 100000
theorem t_impl_identityOf (x0 : Int) (x1 : Int) (r : SMatrix) (h : f_impl_identityOf x0 x1 = some r) : FnC Try.prog 136 [I x0,I x1] [eSMatrix r] [] := by
 refine fB Try.func136 (fun St W w0 v => ?_)
 refine sR ?_
 refine a_alloc ?_
 refine rN ?_
 refine sR ?_
 refine a_mv ?_
 refine a_mv ?_
 refine oP (x_build bld_76 [(0,.tmp 8),(1,.tmp 9)] [(0,.slot 8 (I x0)),(1,.slot 9 (I x1))] [.slot 8 (I x0),.slot 9 (I x1),.zero (L 1 lV [])] (pkS rfl (clean_of (Enc.clean (f := I) _)) rfl (pkS rfl (clean_of (Enc.clean (f := I) _)) rfl (pkZ rfl pkN))) (bqC (.slot _ _) (bqC (.slot _ _) bqN)) rfl) ?_
 refine a_alloc ?_
 refine oP (x_stp inf_76 rfl (locB rfl rfl) rfl rfl rfl rfl (clean_of (cleanA ⟨(Enc.clean (f := I) _),(Enc.clean (f := I) _),trivial,trivial⟩)) rfl) ?_
 refine rN ?_
 refine CW.seq ?_
 refine sR ?_
 refine a_mv ?_
 refine a_mv ?_
 refine rN ?_
 refine CW.block ?_
 obtain ⟨r5,hr5,h⟩ := bd h
 refine CW.lp (s := ([],0)) (l1_impl_identityOf x1) (fun s1 : (List (List Int)) × Int => envL [(1,I x1),(4,T.ptr (T.agg [I 0,I 0,L 1 lV []])),(5,T.ptr (T.agg [I x0,I x1,L 1 lV s1.1])),(11,I x1),(12,I s1.2)]) (fun (r5 : (List (List Int))) e E => e = .exit 0 ∧ Ghost ⟨St,W,w0,Try.f136.ntmps⟩ E (envL [(4,T.ptr (T.agg [I 0,I 0,L 1 lV []])),(5,T.ptr (T.agg [I x0,I x1,L 1 lV r5]))])) (.has ⟨rfl,rfl,rfl,rfl,rfl,trivial⟩) (fun s1 x h => ?_) hr5 (fun e E hq => ?_)
 ·refine sR ?_
  refine a_lss ?_
  refine rN ?_
  refine CW.seq ?_
  refine cn h (fun hc h => ?_) (fun hc h => ?_)
  ·refine CW.skip ?_
   refine nA ?_
   refine CW.seq ?_
   refine CW.block ?_
   refine sR ?_
   refine a_mv ?_
   refine a_as ?_
   refine rN ?_
   refine sR ?_
   refine a_mv ?_
   obtain ⟨m1,hm1,h⟩ := bd h
   refine oP (x_makeL (f := I) (z := 0) elt_22 (rfl) hm1 rfl rfl rfl) ?_
   refine a_as ?_
   refine RW.ghost (Ghost.tr 7 16 _ rfl rfl (clean_of (cleanL (Enc.clean (f := I)))) rfl) ?_
   refine rN ?_
   refine sR ?_
   refine a_mv ?_
   refine a_mv ?_
   obtain ⟨v2,hv2,h⟩ := bd h
   refine a_ix ?_
   refine oP (x_stcT inf_2 rfl rfl rfl (getc hv2 rfl) (setc hv2 rfl) rfl rfl) ?_
   refine rN ?_
   refine CW.region ?_
   refine a_fa ?_
   refine a_ld ?_
   refine a_mv ?_
   refine RW.ghost (Ghost.tr 22 7 _ rfl rfl (clean_of (cleanL (Enc.clean (f := I)))) rfl) ?_
   refine oP (x_bs elt_23 [.tmp 22] [.slot 22 (L 1 I ((List.replicate m1 (0 : Int)).set s1.2.toNat 1))] [(List.replicate m1 (0 : Int)).set s1.2.toNat 1] lV ⟨.slot _ _,trivial⟩ (pkS rfl (clean_of (cleanL (Enc.clean (f := I)))) rfl pkN) rfl rfl) ?_
   refine RW.ghost (Ghost.trq 21 5 [2,0] rfl rfl rfl (clean_of (cleanL (Enc.clean (f := lV)))) rfl) ?_
   obtain ⟨v3,hv3,h⟩ := bd h
   refine oP (x_appm (f := lV) elt_23 hv3 rfl rfl rfl) ?_
   refine a_fa ?_
   refine oP (x_st inf_23 rfl rfl rfl rfl rfl rfl (clean_of (cleanL (Enc.clean (f := lV)))) rfl) ?_
   refine RW.nil ?_
   refine nB ?_
   refine nA ?_
   refine CW.region ?_
   obtain ⟨v4,hv4,h⟩ := bd h
   refine a_add ?_
   refine a_mv ?_
   refine RW.nil ?_
   exact eN h
  ·refine CW.exit ?_
   refine xA ?_
   exact eX h
 ·obtain ⟨rfl,hg⟩ := hq
  refine xB ?_
  refine nA ?_
  refine CW.ghost hg ?_
  refine sR ?_
  refine a_ldp ?_
  refine RW.ghost (Ghost.trf 27 [2] 5 [2,0] _ _ rfl rfl rfl rfl rfl (clean_of (cleanL (Enc.clean (f := lV)))) rfl) ?_
  refine oP (x_stp inf_76 rfl (locB rfl rfl) rfl rfl rfl rfl (clean_of (cleanA ⟨(Enc.clean (f := I) _),(Enc.clean (f := I) _),(cleanL (Enc.clean (f := lV))),trivial⟩)) rfl) ?_
  refine rN ?_
  refine CW.ret ?_
  obtain rfl := sI h
  exact ⟨_,Ghost.refl,⟨.inl rfl,[(4,[0],T.agg [I x0,I x1,L 1 lV r5])],⟨⟨rfl,rfl,rfl,(var_76.h _ rfl rfl).h⟩,trivial⟩,rfl,(by simp),(by simp),trivial⟩⟩
theorem t_impl_residue (x0 : Int) (x1 : Int) (r : Int) (h : f_impl_residue x0 x1 = some r) : FnC Try.prog 104 [I x0,I x1] [I r] [] := by
 refine fB Try.func104 (fun St W w0 v => ?_)
 refine sR ?_
 refine a_as ?_
 refine rN ?_
 refine sR ?_
 refine a_mv ?_
 refine a_mv ?_
 obtain ⟨v1,hv1,h⟩ := bd h
 refine a_rem ?_
 refine a_mv ?_
 obtain ⟨v2,hv2,h⟩ := bd h
 refine a_add ?_
 refine a_mv ?_
 obtain ⟨v3,hv3,h⟩ := bd h
 refine a_rem ?_
 refine a_as ?_
 refine rN ?_
 refine CW.ret ?_
 obtain rfl := sI h
 exact rT
theorem t_impl_addMultiple (x0 : List Int) (x1 : List Int) (x2 : Int) (x3 : Int) (r : (List Int)) (h : f_impl_addMultiple x0 x1 x2 x3 = some r) : FnC Try.prog 65 [L 1 I x0,T.ro (lV x1),I x2,I x3] [] [(0,lV r)] := by
 refine fB Try.func65 (fun St W w0 v => ?_)
 refine sR ?_
 refine a_mv ?_
 refine a_len ?_
 refine a_mv ?_
 refine rN ?_
 refine CW.block ?_
 obtain ⟨r8,hr8,h⟩ := bd h
 refine CW.lp (s := (x0,0)) (l1_impl_addMultiple x0 x1 x2 x3) (fun s1 : (List Int) × Int => envL [(0,L 1 I s1.1),(1,T.ro (lV x1)),(2,I x2),(3,I x3),(10,I (x0.length : Int)),(11,I s1.2)]) (fun (r8 : (List Int)) e E => e = .exit 0 ∧ Ghost ⟨St,W,w0,Try.f65.ntmps⟩ E (envL [(0,L 1 I r8)])) (.has ⟨rfl,rfl,rfl,rfl,rfl,rfl,trivial⟩) (fun s1 x h => ?_) hr8 (fun e E hq => ?_)
 ·refine sR ?_
  refine a_lss ?_
  refine rN ?_
  refine CW.seq ?_
  refine cn h (fun hc h => ?_) (fun hc h => ?_)
  ·refine CW.skip ?_
   refine nA ?_
   refine CW.seq ?_
   refine CW.block ?_
   refine sR ?_
   refine a_mv ?_
   refine a_as ?_
   refine rN ?_
   obtain ⟨v1,hv1,h⟩ := bd h
   obtain ⟨v2,hv2,h⟩ := bd h
   obtain ⟨v3,hv3,h⟩ := bd h
   obtain ⟨v4,hv4,h⟩ := bd h
   obtain ⟨r5,hr5,h⟩ := bd h
   obtain ⟨v6,hv6,h⟩ := bd h
   refine CW.dk ?_
   refine d_mv [(0,_)] ?_
   refine d_mv [(8,_)] ?_
   refine d_mv [(0,_)] ?_
   refine d_mv [(8,_)] ?_
   refine dG [(16,_),(0,_),(17,_)] [([(18,some (T.addr 0 [s1.2.toNat]))],[(18,0)])] ⟨rfl,rfl,rfl,trivial⟩ (fun E h => IxOk.opE (x_ix (f := I) row_22 hv1 (locA h.1 h.2.1 rfl rfl) h.2.2.1 rfl) rfl) ?_
   refine dG [(18,_),(0,_)] [([(19,some (I v1))],[(19,0)])] ⟨rfl,rfl,trivial⟩ (fun E h => IxOk.opE (x_ld (var_2.h _ rfl rfl) h.1 h.2.1 (getc hv1 rfl) rfl) rfl) ?_
   refine d_mv [(2,_)] ?_
   refine d_mv [(1,_)] ?_
   refine d_mv [(8,_)] ?_
   refine d_ixr [(21,_),(22,_)] ?_
   refine d_ldr [(23,_)] ?_
   refine d_mul [(20,_),(24,_)] ?_
   refine d_add [(19,_),(25,_)] ?_ (h := fun _ h => (x_add hv4 h.1 h.2.1 rfl))
   refine d_mv [(3,_)] ?_
   refine dC [(26,_),(27,_)] Try.call104 (t_impl_residue _ _ _ hr5) ?_
   refine dG [(14,_),(0,_),(15,_)] [([(29,some (T.addr 0 [s1.2.toNat]))],[(29,0)])] ⟨rfl,rfl,rfl,trivial⟩ (fun E h => IxOk.opE (x_ix (f := I) row_22 hv6 (locA h.1 h.2.1 rfl rfl) h.2.2.1 rfl) rfl) ?_
   refine dG [(29,_),(0,_),(28,_)] [([(0,some (L 1 I (s1.1.set s1.2.toNat r5)))],[(0,1)])] ⟨rfl,rfl,rfl,trivial⟩ (fun E h => IxOk.opE (x_st inf_2 rfl h.1 h.2.1 (getc hv6 rfl) (setc hv6 rfl) h.2.2.1 (clean_of (Enc.clean (f := I) _)) rfl) rfl) ?_
   refine dNA mixedP ?_
   refine nB ?_
   refine nA ?_
   refine CW.region ?_
   obtain ⟨v7,hv7,h⟩ := bd h
   refine a_add ?_
   refine a_mv ?_
   refine RW.nil ?_
   exact eN h
  ·refine CW.exit ?_
   refine xA ?_
   exact eX h
 ·obtain ⟨rfl,hg⟩ := hq
  refine xB ?_
  obtain rfl := sI h
  exact rTg hg rT
theorem t_impl_vectorTimes (x0 : List Int) (x1 : SMatrix) (r : (List Int)) (h : f_impl_vectorTimes x0 x1 = some r) : FnC Try.prog 103 [T.ro (lV x0),qMatrix x1] [lV r] [] := by
 refine fB Try.func103 (fun St W w0 v => ?_)
 refine sR ?_
 refine a_box ?_
 refine oP (x_nil 1 rfl) ?_
 refine rN ?_
 refine sR ?_
 refine a_fa ?_
 refine a_ld ?_
 obtain ⟨m1,hm1,h⟩ := bd h
 refine oP (x_makeL (f := I) (z := 0) elt_22 (rfl) hm1 rfl rfl rfl) ?_
 refine a_as ?_
 refine RW.ghost (Ghost.tr 5 10 _ rfl rfl (clean_of (cleanL (Enc.clean (f := I)))) rfl) ?_
 refine rN ?_
 refine CW.seq ?_
 refine sR ?_
 refine a_mv ?_
 refine a_lenr ?_
 refine a_mv ?_
 refine rN ?_
 refine CW.block ?_
 obtain ⟨r6,hr6,h⟩ := bd h
 refine CW.lp (s := (List.replicate m1 (0 : Int),0)) (l1_impl_vectorTimes x0 x1) (fun s1 : (List Int) × Int => envL [(3,T.ptr (qMatrix x1)),(5,L 1 I s1.1),(11,T.ro (lV x0)),(12,I (x0.length : Int)),(13,I s1.2)]) (fun (r6 : (List Int)) e E => e = .exit 0 ∧ Ghost ⟨St,W,w0,Try.f103.ntmps⟩ E (envL [(5,L 1 I r6)])) (.has ⟨rfl,rfl,rfl,rfl,rfl,trivial⟩) (fun s1 x h => ?_) hr6 (fun e E hq => ?_)
 ·refine sR ?_
  refine a_lss ?_
  refine rN ?_
  refine CW.seq ?_
  refine cn h (fun hc h => ?_) (fun hc h => ?_)
  ·refine CW.skip ?_
   refine nA ?_
   refine CW.seq ?_
   refine CW.block ?_
   refine sR ?_
   refine a_mv ?_
   obtain ⟨v2,hv2,h⟩ := bd h
   refine a_ixr ?_
   refine a_ldr ?_
   refine a_as ?_
   refine a_as ?_
   refine rN ?_
   obtain ⟨v3,hv3,h⟩ := bd h
   obtain ⟨r4,hr4,h⟩ := bd h
   refine CW.dk ?_
   refine d_mv [(5,_)] ?_
   refine d_fa [(3,_)] ?_
   refine d_ld [(19,_),(3,_)] ?_
   refine d_mv [(6,_)] ?_
   refine d_ixr [(20,_),(21,_)] ?_
   refine d_ldr [(22,_)] ?_
   refine d_mv [(7,_)] ?_
   refine d_fa [(3,_)] ?_
   refine d_ld [(25,_),(3,_)] ?_
   refine dG [(18,_),(5,_),(23,_),(24,_),(26,_)] [([(18,some (L 1 I s1.1)),(5,some (T.same 18 []))],[(18,1),(5,1)]),([(27,some (T.tup [])),(18,some (L 1 I r4))],[(27,0),(18,1)]),([(5,some (L 1 I r4)),(18,some (T.same 5 []))],[(5,1),(18,1)])] ⟨rfl,rfl,rfl,rfl,rfl,trivial⟩ (fun E h => IxOk.opE (x_callM (xs := [.tmp 18,.tmp 23,.tmp 24,.tmp 26]) 0 18 5 [] Try.call65 (t_impl_addMultiple _ _ _ _ _ hr4) h.1 h.2.1 rfl (clean_of (cleanL (Enc.clean (f := I)))) (clean_of (cleanL (Enc.clean (f := I)))) (Enc.rofree (f := L 1 I) _) (Enc.rofree (f := L 1 I) _) ⟨(agLd rfl (clean_of (cleanL (Enc.clean (f := I)))) (Enc.rofree (f := L 1 I) _)),⟨(agM _ (keepL h.2.2.1) rfl rfl),⟨(agM _ (keepL h.2.2.2.1) rfl rfl),⟨(agM _ (keepL h.2.2.2.2.1) rfl rfl),trivial⟩⟩⟩⟩ resN rfl rfl rfl rfl) rfl) ?_
   refine dNA mixedP ?_
   refine nB ?_
   refine nA ?_
   refine CW.region ?_
   obtain ⟨v5,hv5,h⟩ := bd h
   refine a_add ?_
   refine a_mv ?_
   refine RW.nil ?_
   exact eN h
  ·refine CW.exit ?_
   refine xA ?_
   exact eX h
 ·obtain ⟨rfl,hg⟩ := hq
  refine xB ?_
  refine nA ?_
  refine CW.ghost hg ?_
  refine sR ?_
  refine a_mv ?_
  refine a_as ?_
  refine RW.ghost (Ghost.tr 4 5 _ rfl rfl (clean_of (cleanL (Enc.clean (f := I)))) rfl) ?_
  refine rN ?_
  refine CW.ret ?_
  obtain rfl := sI h
  exact rT
theorem t_impl_product (x0 : SMatrix) (x1 : SMatrix) (r : SMatrix) (h : f_impl_product x0 x1 = some r) : FnC Try.prog 64 [qMatrix x0,qMatrix x1] [eSMatrix r] [] := by
 refine fB Try.func64 (fun St W w0 v => ?_)
 refine sR ?_
 refine a_box ?_
 refine a_box ?_
 refine a_alloc ?_
 refine rN ?_
 refine sR ?_
 refine a_fa ?_
 refine a_ld ?_
 refine a_fa ?_
 refine a_ld ?_
 refine oP (x_build bld_76 [(0,.tmp 9),(1,.tmp 11)] [(0,.slot 9 (I x0.Prime)),(1,.slot 11 (I x1.Columns))] [.slot 9 (I x0.Prime),.slot 11 (I x1.Columns),.zero (L 1 lV [])] (pkS rfl (clean_of (Enc.clean (f := I) _)) rfl (pkS rfl (clean_of (Enc.clean (f := I) _)) rfl (pkZ rfl pkN))) (bqC (.slot _ _) (bqC (.slot _ _) bqN)) rfl) ?_
 refine a_alloc ?_
 refine oP (x_stp inf_76 rfl (locB rfl rfl) rfl rfl rfl rfl (clean_of (cleanA ⟨(Enc.clean (f := I) _),(Enc.clean (f := I) _),trivial,trivial⟩)) rfl) ?_
 refine rN ?_
 refine CW.seq ?_
 refine sR ?_
 refine a_fa ?_
 refine a_ld ?_
 refine a_lenr ?_
 refine a_mv ?_
 refine rN ?_
 refine CW.block ?_
 obtain ⟨r5,hr5,h⟩ := bd h
 refine CW.lp (s := ([],0)) (l1_impl_product x0 x1) (fun s1 : (List (List Int)) × Int => envL [(3,T.ptr (qMatrix x1)),(4,T.ptr (T.agg [I 0,I 0,L 1 lV []])),(5,T.ptr (T.agg [I x0.Prime,I x1.Columns,L 1 lV s1.1])),(14,T.ro (lM x0.Rows)),(15,I (x0.Rows.length : Int)),(16,I s1.2)]) (fun (r5 : (List (List Int))) e E => e = .exit 0 ∧ Ghost ⟨St,W,w0,Try.f64.ntmps⟩ E (envL [(4,T.ptr (T.agg [I 0,I 0,L 1 lV []])),(5,T.ptr (T.agg [I x0.Prime,I x1.Columns,L 1 lV r5]))])) (.has ⟨rfl,rfl,rfl,rfl,rfl,rfl,trivial⟩) (fun s1 x h => ?_) hr5 (fun e E hq => ?_)
 ·refine sR ?_
  refine a_lss ?_
  refine rN ?_
  refine CW.seq ?_
  refine cn h (fun hc h => ?_) (fun hc h => ?_)
  ·refine CW.skip ?_
   refine nA ?_
   refine CW.seq ?_
   refine CW.block ?_
   refine sR ?_
   obtain ⟨v1,hv1,h⟩ := bd h
   refine a_ixr ?_
   refine a_ldr ?_
   refine a_as ?_
   refine rN ?_
   obtain ⟨r2,hr2,h⟩ := bd h
   obtain ⟨v3,hv3,h⟩ := bd h
   refine CW.dk ?_
   refine d_fa [(5,_)] ?_
   refine d_ld [(20,_),(5,_)] ?_
   refine d_mv [(7,_)] ?_
   refine d_ldp [(3,_)] ?_
   refine dC [(22,_),(23,_)] Try.call103 (t_impl_vectorTimes _ _ _ hr2) ?_
   refine dG [(24,_)] [([(25,some (L 1 lV [r2])),(24,some (T.same 25 [0]))],[(25,0),(24,1)])] ⟨rfl,trivial⟩ (fun E h => IxOk.opE (x_bs elt_23 [.tmp 24] [.slot 24 (L 1 I r2)] [r2] lV ⟨.slot _ _,trivial⟩ (pkS h.1 (clean_of (cleanL (Enc.clean (f := I)))) rfl pkN) rfl rfl) rfl) ?_
   refine dG [(21,T.same 5 [2,0]),(5,T.ptr (T.agg [I x0.Prime,I x1.Columns,L 1 lV s1.1])),(25,L 1 lV [r2])] [([(21,some (L 1 lV s1.1)),(5,some (T.ptr (T.agg [I x0.Prime,I x1.Columns,T.any])))],[(21,1),(5,3)]),([(26,some (L 1 lV v3)),(21,some T.any),(25,some T.any)],[(26,0),(21,1),(25,1)])] ⟨rfl,rfl,rfl,trivial⟩ (fun E h => IxOk.gh (Ghost.trq 21 5 [2,0] h.1 h.2.1 rfl (clean_of (cleanL (Enc.clean (f := lV)))) rfl) <| IxOk.opE (x_appm (f := lV) elt_23 hv3 rfl (keepE h.2.2.1) rfl) rfl) ?_
   refine d_fa [(5,_)] ?_
   refine dG [(27,_),(5,_),(26,_)] [([(5,some (T.ptr (T.agg [I x0.Prime,I x1.Columns,L 1 lV v3]))),(26,some (T.same 5 [2,0]))],[(5,2),(26,1)])] ⟨rfl,rfl,rfl,trivial⟩ (fun E h => IxOk.opE (x_st inf_23 rfl h.1 h.2.1 rfl rfl h.2.2.1 (clean_of (cleanL (Enc.clean (f := lV)))) rfl) rfl) ?_
   refine dNA mixedP ?_
   refine nB ?_
   refine nA ?_
   refine CW.region ?_
   obtain ⟨v4,hv4,h⟩ := bd h
   refine a_add ?_
   refine a_mv ?_
   refine RW.nil ?_
   exact eN h
  ·refine CW.exit ?_
   refine xA ?_
   exact eX h
 ·obtain ⟨rfl,hg⟩ := hq
  refine xB ?_
  refine nA ?_
  refine CW.ghost hg ?_
  refine sR ?_
  refine a_ldp ?_
  refine RW.ghost (Ghost.trf 29 [2] 5 [2,0] _ _ rfl rfl rfl rfl rfl (clean_of (cleanL (Enc.clean (f := lV)))) rfl) ?_
  refine oP (x_stp inf_76 rfl (locB rfl rfl) rfl rfl rfl rfl (clean_of (cleanA ⟨(Enc.clean (f := I) _),(Enc.clean (f := I) _),(cleanL (Enc.clean (f := lV))),trivial⟩)) rfl) ?_
  refine rN ?_
  refine CW.ret ?_
  obtain rfl := sI h
  exact ⟨_,Ghost.refl,⟨.inl rfl,[(4,[0],T.agg [I x0.Prime,I x1.Columns,L 1 lV r5])],⟨⟨rfl,rfl,rfl,(var_76.h _ rfl rfl).h⟩,trivial⟩,rfl,(by simp),(by simp),trivial⟩⟩
theorem t_impl_actionOf (x0 : SModule) (x1 : List Int) (r : SMatrix) (h : f_impl_actionOf x0 x1 = some r) : FnC Try.prog 98 [T.ro ((Pt eSModule) x0),T.ro (lV x1)] [eSMatrix r] [] := by
 refine fB Try.func98 (fun St W w0 v => ?_)
 refine sR ?_
 refine a_alloc ?_
 refine rN ?_
 refine CW.seq ?_
 obtain ⟨r1,hr1,h⟩ := bd h
 refine CW.dk ?_
 refine d_mv [(0,_)] ?_
 refine d_nilc [(8,_)] ?_
 refine d_far [(9,_)] ?_
 refine d_ldr [(10,_)] ?_
 refine d_mv [(0,_)] ?_
 refine d_nilc [(12,_)] ?_
 refine d_far [(13,_)] ?_
 refine d_ldr [(14,_)] ?_
 refine dC [(11,_),(15,_)] Try.call136 (t_impl_identityOf _ _ _ hr1) ?_
 refine d_alloc [] ?_
 refine dG [(5,_),(16,_)] [([(5,some (T.ptr (eSMatrix r1))),(16,some (T.agg [I r1.Prime,I r1.Columns,T.same 5 [2,0]]))],[(5,1),(16,1)])] ⟨rfl,rfl,trivial⟩ (fun E h => IxOk.opE (x_stp inf_76 rfl (locB h.1 rfl) h.1 rfl rfl h.2.1 (clean_of (cleanA ⟨(Enc.clean (f := I) _),(Enc.clean (f := I) _),(cleanL (Enc.clean (f := lV))),trivial⟩)) rfl) rfl) ?_
 refine dNA mixedP ?_
 refine nA ?_
 refine CW.seq ?_
 refine sR ?_
 refine a_mv ?_
 refine a_lenr ?_
 refine a_mv ?_
 refine rN ?_
 refine CW.block ?_
 obtain ⟨r7,hr7,h⟩ := bd h
 refine CW.lp (s := (r1.Prime,r1.Columns,r1.Rows,0)) (l1_impl_actionOf x0 x1) (fun s1 : Int × Int × (List (List Int)) × Int => envL [(0,T.ro ((Pt eSModule) x0)),(4,T.ptr (T.agg [I 0,I 0,L 1 lV []])),(5,T.ptr (T.agg [I s1.1,I s1.2.1,L 1 lV s1.2.2.1])),(17,T.ro (lV x1)),(18,I (x1.length : Int)),(19,I s1.2.2.2)]) (fun (r7 : (Int × Int × (List (List Int)))) e E => e = .exit 0 ∧ Ghost ⟨St,W,w0,Try.f98.ntmps⟩ E (envL [(4,T.ptr (T.agg [I 0,I 0,L 1 lV []])),(5,T.ptr (T.agg [I r7.1,I r7.2.1,L 1 lV r7.2.2]))])) (.has ⟨rfl,rfl,rfl,rfl,rfl,rfl,trivial⟩) (fun s1 x h => ?_) hr7 (fun e E hq => ?_)
 ·refine sR ?_
  refine a_lss ?_
  refine rN ?_
  refine CW.seq ?_
  refine cn h (fun hc h => ?_) (fun hc h => ?_)
  ·refine CW.skip ?_
   refine nA ?_
   refine CW.seq ?_
   refine CW.block ?_
   refine sR ?_
   obtain ⟨v2,hv2,h⟩ := bd h
   refine a_ixr ?_
   refine a_ldr ?_
   refine a_as ?_
   refine rN ?_
   obtain ⟨v3,hv3,h⟩ := bd h
   obtain ⟨r4,hr4,h⟩ := bd h
   obtain ⟨r5,hr5,h⟩ := bd h
   refine CW.dk ?_
   refine d_ldp [(5,_)] ?_
   refine d_mv [(0,_)] ?_
   refine d_mv [(7,_)] ?_
   refine d_sub [(25,_)] ?_
   refine dG [(24,_),(26,_)] [([(27,some (qMatrix r4))],[(27,0)])] ⟨rfl,rfl,trivial⟩ (fun E h => IxOk.opE (x_callF (xs := [.tmp 24,.tmp 26]) Try.call60 (t_impl_actionAt _ _ _ hr4) (afC h.1 rfl (afC h.2.1 rfl afN)) rfl ⟨(cleanA ⟨(Enc.clean (f := I) _),(Enc.clean (f := I) _),trivial,trivial⟩),trivial⟩ rfl rfl) rfl) ?_
   refine dG [(23,_),(5,_),(27,_)] [([(28,some (eSMatrix r5))],[(28,0)])] ⟨rfl,rfl,rfl,trivial⟩ (fun E h => IxOk.opE (x_call (xs := [.tmp 23,.tmp 27]) Try.call64 (t_impl_product _ _ _ hr5) ⟨(agC _ h.1 (cloA (cloC rfl (cloC rfl (cloC (cloS h.2.1 rfl inferInstance) cloN)))) rfl),⟨(agC _ h.2.2.1 rfl rfl),trivial⟩⟩ (resC (f := eSMatrix) inferInstance resN) rfl) rfl) ?_
   refine dG [(5,_),(28,_)] [([(5,some (T.ptr (eSMatrix r5))),(28,some (T.agg [I r5.Prime,I r5.Columns,T.same 5 [2,0]]))],[(5,1),(28,1)])] ⟨rfl,rfl,trivial⟩ (fun E h => IxOk.opE (x_stp inf_76 rfl (locB h.1 rfl) h.1 rfl rfl h.2.1 (clean_of (cleanA ⟨(Enc.clean (f := I) _),(Enc.clean (f := I) _),(cleanL (Enc.clean (f := lV))),trivial⟩)) rfl) rfl) ?_
   refine dNA mixedP ?_
   refine nB ?_
   refine nA ?_
   refine CW.region ?_
   obtain ⟨v6,hv6,h⟩ := bd h
   refine a_add ?_
   refine a_mv ?_
   refine RW.nil ?_
   exact eN h
  ·refine CW.exit ?_
   refine xA ?_
   exact eX h
 ·obtain ⟨rfl,hg⟩ := hq
  refine xB ?_
  refine nA ?_
  refine CW.ghost hg ?_
  refine sR ?_
  refine a_ldp ?_
  refine RW.ghost (Ghost.trf 30 [2] 5 [2,0] _ _ rfl rfl rfl rfl rfl (clean_of (cleanL (Enc.clean (f := lV)))) rfl) ?_
  refine oP (x_stp inf_76 rfl (locB rfl rfl) rfl rfl rfl rfl (clean_of (cleanA ⟨(Enc.clean (f := I) _),(Enc.clean (f := I) _),(cleanL (Enc.clean (f := lV))),trivial⟩)) rfl) ?_
  refine rN ?_
  refine CW.ret ?_
  obtain rfl := sI h
  exact ⟨_,Ghost.refl,⟨.inl rfl,[(4,[0],T.agg [I r7.1,I r7.2.1,L 1 lV r7.2.2])],⟨⟨rfl,rfl,rfl,(var_76.h _ rfl rfl).h⟩,trivial⟩,rfl,(by simp),(by simp),trivial⟩⟩
theorem t_slices_EqualFunc_int64_int64_int64_int64 (x0 : List (List Int)) (x1 : List (List Int)) (r : Bool) (h : f_slices_EqualFunc_int64_int64_int64_int64 x0 x1 = some r) : FnC Try.prog 134 [T.ro (lM x0),T.ro (lM x1),T.lit (.func (.func 135) #[] #[])] [B r] [] := by
 refine fB Try.func134 (fun St W w0 v => ?_)
 refine sR ?_
 refine a_as ?_
 refine rN ?_
 refine CW.seq ?_
 refine sR ?_
 refine a_mv ?_
 refine a_lenr ?_
 refine a_mv ?_
 refine a_lenr ?_
 refine a_neq ?_
 refine rN ?_
 refine cn h (fun hc h => ?_) (fun hc h => ?_)
 ·refine sR ?_
  refine a_as ?_
  refine rN ?_
  refine CW.ret ?_
  refine rA ?_
  obtain rfl := sI h
  exact rT
 ·refine CW.skip ?_
  refine nA ?_
  refine CW.seq ?_
  refine sR ?_
  refine a_mv ?_
  refine a_lenr ?_
  refine a_mv ?_
  refine rN ?_
  refine CW.block ?_
  obtain ⟨r5,hr5,h⟩ := bd h
  refine CW.lp (s := 0) (l1_slices_EqualFunc_int64_int64_int64_int64 x0 x1) (fun s1 : Int => envL [(1,T.ro (lM x1)),(2,T.lit (.func (.func 135) #[] #[])),(15,T.ro (lM x0)),(16,I (x0.length : Int)),(17,I s1)]) (fun (x : Unit ⊕ Bool) e E => match x with | (.inl r5) => e = .exit 0 ∧ Ghost ⟨St,W,w0,Try.f134.ntmps⟩ E (envL []) | (.inr r5) => e = .ret ∧ RetG ⟨St,W,w0,Try.f134.ntmps⟩ Try.prog Try.f134.results [T.ro (lM x0),T.ro (lM x1),T.lit (.func (.func 135) #[] #[])] [B r5] [] .ret E) (.has ⟨rfl,rfl,rfl,rfl,rfl,trivial⟩) (fun s1 x h => ?_) hr5 (fun e E hq => ?_)
  ·refine sR ?_
   refine a_lss ?_
   refine rN ?_
   refine CW.seq ?_
   refine cn h (fun hc h => ?_) (fun hc h => ?_)
   ·refine CW.skip ?_
    refine nA ?_
    refine CW.seq ?_
    refine CW.block ?_
    refine sR ?_
    refine a_mv ?_
    obtain ⟨v1,hv1,h⟩ := bd h
    refine a_ixr ?_
    refine a_ldr ?_
    refine a_as ?_
    refine a_as ?_
    refine rN ?_
    refine sR ?_
    refine a_mv ?_
    refine a_mv ?_
    obtain ⟨v2,hv2,h⟩ := bd h
    refine a_ixr ?_
    refine a_ldr ?_
    refine a_as ?_
    refine rN ?_
    refine sR ?_
    refine a_mv ?_
    refine a_mv ?_
    refine a_mv ?_
    obtain ⟨r3,hr3,h⟩ := bd h
    refine oP (x_callV (xs := [.tmp 27,.tmp 28]) rfl Try.call135 (t_slices_Equal_int64_int64 _ _ _ hr3) ⟨(agC _ rfl rfl rfl),⟨(agC _ rfl rfl rfl),trivial⟩⟩ (resC (f := B) inferInstance resN) rfl) ?_
    refine a_not ?_
    refine rN ?_
    refine cn h (fun hc h => ?_) (fun hc h => ?_)
    ·refine sR ?_
     refine a_as ?_
     refine rN ?_
     refine CW.ret ?_
     refine rB ?_
     refine rA ?_
     exact eX h
    ·refine CW.skip ?_
     refine nB ?_
     refine nA ?_
     refine CW.region ?_
     obtain ⟨v4,hv4,h⟩ := bd h
     refine a_add ?_
     refine a_mv ?_
     refine RW.nil ?_
     exact eN h
   ·refine CW.exit ?_
    refine xA ?_
    exact eX h
  ·rcases r5 with r5 | r5
   ·obtain ⟨rfl,hg⟩ := hq
    refine xB ?_
    refine nA ?_
    refine CW.ghost hg ?_
    refine sR ?_
    refine a_as ?_
    refine rN ?_
    refine CW.ret ?_
    obtain rfl := sI h
    exact rT
   ·obtain ⟨rfl,hq⟩ := hq
    refine rB ?_
    refine rA ?_
    obtain rfl := sI h
    exact hq
theorem t_impl_sameRows (x0 : List (List Int)) (x1 : List (List Int)) (r : Bool) (h : f_impl_sameRows x0 x1 = some r) : FnC Try.prog 97 [T.ro (lM x0),T.ro (lM x1)] [B r] [] := by
 refine fB Try.func97 (fun St W w0 v => ?_)
 refine sR ?_
 refine a_as ?_
 refine rN ?_
 refine sR ?_
 refine a_mv ?_
 refine a_mv ?_
 obtain ⟨r1,hr1,h⟩ := bd h
 refine cA Try.call134 (t_slices_EqualFunc_int64_int64_int64_int64 _ _ _ hr1) ?_
 refine a_as ?_
 refine rN ?_
 refine CW.ret ?_
 obtain rfl := sI h
 exact rT
theorem t_impl_isModule (x0 : SPresentation) (x1 : SModule) (r : Bool) (h : f_impl_isModule x0 x1 = some r) : FnC Try.prog 58 [T.ro ((Pt eSPresentation) x0),T.ro ((Pt eSModule) x1)] [B r] [] := by
 refine fB Try.func58 (fun St W w0 v => ?_)
 refine sR ?_
 refine a_as ?_
 refine rN ?_
 refine CW.seq ?_
 refine CW.seq ?_
 obtain ⟨r1,hr1,h⟩ := bd h
 refine CW.casesB (!r1) (fun hc0 => ?_) (fun hc0 => ?_)
 ·have h := cT hc0 h
  refine CW.dk ?_
  refine d_mv [(0,_)] ?_
  refine d_nilc [(9,_)] ?_
  refine d_ldr [(10,_)] ?_
  refine dC [(11,_)] Try.call48 (t_impl_IsConsistent _ _ hr1) ?_
  refine dG [(12,_)] [([(13,some (B true))],[(13,0)])] ⟨rfl,trivial⟩ (fun E h => IxOk.opE (okB_eq hc0 (x_not h.1 rfl)) rfl) ?_
  refine d_mv [(13,_)] ?_
  refine dsk2 ?_
  refine dsk2 ?_
  refine dsk2 ?_
  refine dsk2 ?_
  refine dsk2 ?_
  refine dsk2 ?_
  refine d_pick [(14,_)] ?_
  refine d_mv [(21,_)] ?_
  refine dsk2 ?_
  refine dsk2 ?_
  refine dsk2 ?_
  refine dsk2 ?_
  refine dsk2 ?_
  refine dsk2 ?_
  refine d_pick [(22,_)] ?_
  refine d_mv [(29,_)] ?_
  refine dsk2 ?_
  refine dsk2 ?_
  refine dsk2 ?_
  refine dsk2 ?_
  refine dsk2 ?_
  refine dsk2 ?_
  refine dsk2 ?_
  refine dsk2 ?_
  refine dsk2 ?_
  refine dsk2 ?_
  refine dsk2 ?_
  refine d_pick [(30,_)] ?_
  refine dN ([] :: [0] :: [0,1] :: [0,1,2] :: [0,1,2,3] :: [0,1,2,3,4] :: [0,1,2,3,4,5] :: [0,1,2,3,4,5,6] :: [0,1,2,3,4,5,6,7] :: [0,1,2,3,4,5,6,7,8] :: [0,1,2,3,4,5,6,7,8,9] :: [0,1,2,3,4,5,6,7,8,9,10] :: [0,1,2,3,4,5,6,7,8,9,10,11] :: [0,1,2,3,4,5,6,7,8,9,10,11,12] :: [0,1,2,3,4,5,6,7,8,9,10,11,12,13] :: [0,1,2,3,4,5,6,7,8,9,10,11,12,13,14] :: [0,1,2,3,4,5,6,7,8,9,10,11,12,13,14,15] :: [0,1,2,3,4,5,6,7,8,9,10,11,12,13,14,15,16] :: [0,1,2,3,4,5,6,7,8,9,10,11,12,13,14,15,16,17] :: [0,1,2,3,4,5,6,7,8,9,10,11,12,13,14,15,16,17,18] :: [0,1,2,3,4,5,6,7,8,9,10,11,12,13,14,15,16,17,18,19] :: [0,1,2,3,4,5,6,7,8,9,10,11,12,13,14,15,16,17,18,19,20] :: [0,1,2,3,4,5,6,7,8,9,10,11,12,13,14,15,16,17,18,19,20,21] :: [0,1,2,3,4,5,6,7,8,9,10,11,12,13,14,15,16,17,18,19,20,21,22] :: [0,1,2,3,4,5,6,7,8,9,10,11,12,13,14,15,16,17,18,19,20,21,22,23] :: [0,1,2,3,4,5,6,7,8,9,10,11,12,13,14,15,16,17,18,19,20,21,22,23,24] :: [0,1,2,3,4,5,6,7,8,9,10,11,12,13,14,15,16,17,18,19,20,21,22,23,24,25] :: [0,1,2,3,4,5,6,7,8,9,10,11,12,13,14,15,16,17,18,19,20,21] :: [0,1,2,3,4,5,6,7,8,9,10,11,12,13,14,15,16,17,18,19,20,21,27] :: [0,1,2,3,4,5,6,7,8,9,10,11,12,13,14,15,16,17,18,19,20,21,27,28] :: [0,1,2,3,4,5,6,7,8,9,10,11,12,13,14,15,16,17,18,19,20,21,27,28,29] :: [0,1,2,3,4,5,6,7,8,9,10,11,12,13,14,15,16,17,18,19,20,21,27,28,29,30] :: [0,1,2,3,4,5,6,7,8,9,10,11,12,13,14,15,16,17,18,19,20,21,22,23,24,25,26,27,28,29,30,31] :: [0,1,2,3,4,5,6,7,8,9,10,11,12,13,14,15,16,17,18,19,20,21,22,23,24,25,26,27,28,29,30,31,32] :: []) mixedP ?_
  refine nA ?_
  refine CW.condT rfl ?_
  refine CW.seq ?_
  refine CW.to [] trivial ?_
  refine CW.region ?_
  refine a_as ?_
  refine rN ?_
  refine CW.ret ?_
  refine rA ?_
  obtain rfl := sI h
  exact rT
 ·have h := cF hc0 h
  obtain ⟨r2,hr2,h⟩ := bd h
  refine CW.casesB (!r2) (fun hc1 => ?_) (fun hc1 => ?_)
  ·have h := cT hc1 h
   refine CW.dk ?_
   refine d_mv [(0,_)] ?_
   refine d_nilc [(9,_)] ?_
   refine d_ldr [(10,_)] ?_
   refine dC [(11,_)] Try.call48 (t_impl_IsConsistent _ _ hr1) ?_
   refine dG [(12,_)] [([(13,some (B false))],[(13,0)])] ⟨rfl,trivial⟩ (fun E h => IxOk.opE (okB_eq hc0 (x_not h.1 rfl)) rfl) ?_
   refine d_mv [(13,_)] ?_
   refine e_mv [(1,_),(14,_)] ?_
   refine e_nilc [(15,_),(14,_)] ?_
   refine e_far [(16,_),(14,_)] ?_
   refine e_ldr [(17,_),(14,_)] ?_
   refine dG [(18,_),(14,_)] [([(19,some (B r2))],[(19,0)])] ⟨rfl,rfl,trivial⟩ (fun E h => IxOk.guardE 5 false 14 (x_call (xs := [.tmp 18]) Try.call93 (t_impl_IsGroupPrime _ _ hr2) ⟨(agC _ h.1 rfl rfl),trivial⟩ (resC (f := B) inferInstance resN) rfl) rfl rfl h.2.1 rfl) ?_
   refine dG [(19,_),(14,_)] [([(20,some (B true))],[(20,0)])] ⟨rfl,rfl,trivial⟩ (fun E h => IxOk.guardE 5 false 14 (okB_eq hc1 (x_not h.1 rfl)) rfl rfl h.2.1 rfl) ?_
   refine d_pick [(14,_),(20,_)] ?_
   refine d_mv [(21,_)] ?_
   refine dsk2 ?_
   refine dsk2 ?_
   refine dsk2 ?_
   refine dsk2 ?_
   refine dsk2 ?_
   refine dsk2 ?_
   refine d_pick [(22,_)] ?_
   refine d_mv [(29,_)] ?_
   refine dsk2 ?_
   refine dsk2 ?_
   refine dsk2 ?_
   refine dsk2 ?_
   refine dsk2 ?_
   refine dsk2 ?_
   refine dsk2 ?_
   refine dsk2 ?_
   refine dsk2 ?_
   refine dsk2 ?_
   refine dsk2 ?_
   refine d_pick [(30,_)] ?_
   refine dN ([] :: [0] :: [0,1] :: [0,1,2] :: [0,1,2,3] :: [0,1,2,3,4] :: [0,1,2,3,4,5] :: [0,1,2,3,4,5,6] :: [0,1,2,3,4,5,6,7] :: [0,1,2,3,4,5,6,7,8] :: [0,1,2,3,4,5,6,7,8,9] :: [0,1,2,3,4,5,6,7,8,9,10] :: [0,1,2,3,4,5,6,7,8,9,10,11] :: [0,1,2,3,4,5,6,7,8,9,10,11,12] :: [0,1,2,3,4,5,6,7,8,9,10,11,12,13] :: [0,1,2,3,4,5,6,7,8,9,10,11,12,13,14] :: [0,1,2,3,4,5,6,7,8,9,10,11,12,13,14,15] :: [0,1,2,3,4,5,6,7,8,9,10,11,12,13,14,15,16] :: [0,1,2,3,4,5,6,7,8,9,10,11,12,13,14,15,16,17] :: [0,1,2,3,4,5,6,7,8,9,10,11,12,13,14,15,16,17,18] :: [0,1,2,3,4,5,6,7,8,9,10,11,12,13,14,15,16,17,18,19] :: [0,1,2,3,4,5,6,7,8,9,10,11,12,13,14,15,16,17,18,19,20] :: [0,1,2,3,4,5,6,7,8,9,10,11,12,13,14,15,16,17,18,19,20,21] :: [0,1,2,3,4,5,6,7,8,9,10,11,12,13,14,15,16,17,18,19,20,21,22] :: [0,1,2,3,4,5,6,7,8,9,10,11,12,13,14,15,16,17,18,19,20,21,22,23] :: [0,1,2,3,4,5,6,7,8,9,10,11,12,13,14,15,16,17,18,19,20,21,22,23,24] :: [0,1,2,3,4,5,6,7,8,9,10,11,12,13,14,15,16,17,18,19,20,21,22,23,24,25] :: [0,1,2,3,4,5,6,7,8,9,10,11,12,13,14,15,16,17,18,19,20,21] :: [0,1,2,3,4,5,6,7,8,9,10,11,12,13,14,15,16,17,18,19,20,21,27] :: [0,1,2,3,4,5,6,7,8,9,10,11,12,13,14,15,16,17,18,19,20,21,27,28] :: [0,1,2,3,4,5,6,7,8,9,10,11,12,13,14,15,16,17,18,19,20,21,27,28,29] :: [0,1,2,3,4,5,6,7,8,9,10,11,12,13,14,15,16,17,18,19,20,21,27,28,29,30] :: [0,1,2,3,4,5,6,7,8,9,10,11,12,13,14,15,16,17,18,19,20,21,22,23,24,25,26,27,28,29,30,31] :: [0,1,2,3,4,5,6,7,8,9,10,11,12,13,14,15,16,17,18,19,20,21,22,23,24,25,26,27,28,29,30,31,32] :: []) mixedP ?_
   refine nA ?_
   refine CW.condT rfl ?_
   refine CW.seq ?_
   refine CW.to [] trivial ?_
   refine CW.region ?_
   refine a_as ?_
   refine rN ?_
   refine CW.ret ?_
   refine rA ?_
   obtain rfl := sI h
   exact rT
  ·have h := cF hc1 h
   obtain ⟨r3,hr3,h⟩ := bd h
   refine CW.casesB (!r3) (fun hc2 => ?_) (fun hc2 => ?_)
   ·have h := cT hc2 h
    refine CW.dk ?_
    refine d_mv [(0,_)] ?_
    refine d_nilc [(9,_)] ?_
    refine d_ldr [(10,_)] ?_
    refine dC [(11,_)] Try.call48 (t_impl_IsConsistent _ _ hr1) ?_
    refine dG [(12,_)] [([(13,some (B false))],[(13,0)])] ⟨rfl,trivial⟩ (fun E h => IxOk.opE (okB_eq hc0 (x_not h.1 rfl)) rfl) ?_
    refine d_mv [(13,_)] ?_
    refine e_mv [(1,_),(14,_)] ?_
    refine e_nilc [(15,_),(14,_)] ?_
    refine e_far [(16,_),(14,_)] ?_
    refine e_ldr [(17,_),(14,_)] ?_
    refine dG [(18,_),(14,_)] [([(19,some (B r2))],[(19,0)])] ⟨rfl,rfl,trivial⟩ (fun E h => IxOk.guardE 5 false 14 (x_call (xs := [.tmp 18]) Try.call93 (t_impl_IsGroupPrime _ _ hr2) ⟨(agC _ h.1 rfl rfl),trivial⟩ (resC (f := B) inferInstance resN) rfl) rfl rfl h.2.1 rfl) ?_
    refine dG [(19,_),(14,_)] [([(20,some (B false))],[(20,0)])] ⟨rfl,rfl,trivial⟩ (fun E h => IxOk.guardE 5 false 14 (okB_eq hc1 (x_not h.1 rfl)) rfl rfl h.2.1 rfl) ?_
    refine d_pick [(14,_),(20,_)] ?_
    refine d_mv [(21,_)] ?_
    refine e_mv [(1,_),(22,_)] ?_
    refine e_nilc [(23,_),(22,_)] ?_
    refine e_far [(24,_),(22,_)] ?_
    refine e_ldr [(25,_),(22,_)] ?_
    refine dG [(26,_),(22,_)] [([(27,some (B r3))],[(27,0)])] ⟨rfl,rfl,trivial⟩ (fun E h => IxOk.guardE 13 false 22 (x_call (xs := [.tmp 26,.const _,.const _]) Try.call94 (t_impl_inside _ _ _ _ hr3) ⟨(agC _ h.1 rfl rfl),⟨(agC _ rfl rfl rfl),⟨(agC _ rfl rfl rfl),trivial⟩⟩⟩ (resC (f := B) inferInstance resN) rfl) rfl rfl h.2.1 rfl) ?_
    refine dG [(27,_),(22,_)] [([(28,some (B true))],[(28,0)])] ⟨rfl,rfl,trivial⟩ (fun E h => IxOk.guardE 13 false 22 (okB_eq hc2 (x_not h.1 rfl)) rfl rfl h.2.1 rfl) ?_
    refine d_pick [(22,_),(28,_)] ?_
    refine d_mv [(29,_)] ?_
    refine dsk2 ?_
    refine dsk2 ?_
    refine dsk2 ?_
    refine dsk2 ?_
    refine dsk2 ?_
    refine dsk2 ?_
    refine dsk2 ?_
    refine dsk2 ?_
    refine dsk2 ?_
    refine dsk2 ?_
    refine dsk2 ?_
    refine d_pick [(30,_)] ?_
    refine dN ([] :: [0] :: [0,1] :: [0,1,2] :: [0,1,2,3] :: [0,1,2,3,4] :: [0,1,2,3,4,5] :: [0,1,2,3,4,5,6] :: [0,1,2,3,4,5,6,7] :: [0,1,2,3,4,5,6,7,8] :: [0,1,2,3,4,5,6,7,8,9] :: [0,1,2,3,4,5,6,7,8,9,10] :: [0,1,2,3,4,5,6,7,8,9,10,11] :: [0,1,2,3,4,5,6,7,8,9,10,11,12] :: [0,1,2,3,4,5,6,7,8,9,10,11,12,13] :: [0,1,2,3,4,5,6,7,8,9,10,11,12,13,14] :: [0,1,2,3,4,5,6,7,8,9,10,11,12,13,14,15] :: [0,1,2,3,4,5,6,7,8,9,10,11,12,13,14,15,16] :: [0,1,2,3,4,5,6,7,8,9,10,11,12,13,14,15,16,17] :: [0,1,2,3,4,5,6,7,8,9,10,11,12,13,14,15,16,17,18] :: [0,1,2,3,4,5,6,7,8,9,10,11,12,13,14,15,16,17,18,19] :: [0,1,2,3,4,5,6,7,8,9,10,11,12,13,14,15,16,17,18,19,20] :: [0,1,2,3,4,5,6,7,8,9,10,11,12,13,14,15,16,17,18,19,20,21] :: [0,1,2,3,4,5,6,7,8,9,10,11,12,13,14,15,16,17,18,19,20,21,22] :: [0,1,2,3,4,5,6,7,8,9,10,11,12,13,14,15,16,17,18,19,20,21,22,23] :: [0,1,2,3,4,5,6,7,8,9,10,11,12,13,14,15,16,17,18,19,20,21,22,23,24] :: [0,1,2,3,4,5,6,7,8,9,10,11,12,13,14,15,16,17,18,19,20,21,22,23,24,25] :: [0,1,2,3,4,5,6,7,8,9,10,11,12,13,14,15,16,17,18,19,20,21] :: [0,1,2,3,4,5,6,7,8,9,10,11,12,13,14,15,16,17,18,19,20,21,27] :: [0,1,2,3,4,5,6,7,8,9,10,11,12,13,14,15,16,17,18,19,20,21,27,28] :: [0,1,2,3,4,5,6,7,8,9,10,11,12,13,14,15,16,17,18,19,20,21,27,28,29] :: [0,1,2,3,4,5,6,7,8,9,10,11,12,13,14,15,16,17,18,19,20,21,27,28,29,30] :: [0,1,2,3,4,5,6,7,8,9,10,11,12,13,14,15,16,17,18,19,20,21,22,23,24,25,26,27,28,29,30,31] :: [0,1,2,3,4,5,6,7,8,9,10,11,12,13,14,15,16,17,18,19,20,21,22,23,24,25,26,27,28,29,30,31,32] :: []) mixedP ?_
    refine nA ?_
    refine CW.condT rfl ?_
    refine CW.seq ?_
    refine CW.to [] trivial ?_
    refine CW.region ?_
    refine a_as ?_
    refine rN ?_
    refine CW.ret ?_
    refine rA ?_
    obtain rfl := sI h
    exact rT
   ·have h := cF hc2 h
    refine CW.dk ?_
    refine d_mv [(0,_)] ?_
    refine d_nilc [(9,_)] ?_
    refine d_ldr [(10,_)] ?_
    refine dC [(11,_)] Try.call48 (t_impl_IsConsistent _ _ hr1) ?_
    refine dG [(12,_)] [([(13,some (B false))],[(13,0)])] ⟨rfl,trivial⟩ (fun E h => IxOk.opE (okB_eq hc0 (x_not h.1 rfl)) rfl) ?_
    refine d_mv [(13,_)] ?_
    refine e_mv [(1,_),(14,_)] ?_
    refine e_nilc [(15,_),(14,_)] ?_
    refine e_far [(16,_),(14,_)] ?_
    refine e_ldr [(17,_),(14,_)] ?_
    refine dG [(18,_),(14,_)] [([(19,some (B r2))],[(19,0)])] ⟨rfl,rfl,trivial⟩ (fun E h => IxOk.guardE 5 false 14 (x_call (xs := [.tmp 18]) Try.call93 (t_impl_IsGroupPrime _ _ hr2) ⟨(agC _ h.1 rfl rfl),trivial⟩ (resC (f := B) inferInstance resN) rfl) rfl rfl h.2.1 rfl) ?_
    refine dG [(19,_),(14,_)] [([(20,some (B false))],[(20,0)])] ⟨rfl,rfl,trivial⟩ (fun E h => IxOk.guardE 5 false 14 (okB_eq hc1 (x_not h.1 rfl)) rfl rfl h.2.1 rfl) ?_
    refine d_pick [(14,_),(20,_)] ?_
    refine d_mv [(21,_)] ?_
    refine e_mv [(1,_),(22,_)] ?_
    refine e_nilc [(23,_),(22,_)] ?_
    refine e_far [(24,_),(22,_)] ?_
    refine e_ldr [(25,_),(22,_)] ?_
    refine dG [(26,_),(22,_)] [([(27,some (B r3))],[(27,0)])] ⟨rfl,rfl,trivial⟩ (fun E h => IxOk.guardE 13 false 22 (x_call (xs := [.tmp 26,.const _,.const _]) Try.call94 (t_impl_inside _ _ _ _ hr3) ⟨(agC _ h.1 rfl rfl),⟨(agC _ rfl rfl rfl),⟨(agC _ rfl rfl rfl),trivial⟩⟩⟩ (resC (f := B) inferInstance resN) rfl) rfl rfl h.2.1 rfl) ?_
    refine dG [(27,_),(22,_)] [([(28,some (B false))],[(28,0)])] ⟨rfl,rfl,trivial⟩ (fun E h => IxOk.guardE 13 false 22 (okB_eq hc2 (x_not h.1 rfl)) rfl rfl h.2.1 rfl) ?_
    refine d_pick [(22,_),(28,_)] ?_
    refine d_mv [(29,_)] ?_
    refine e_mv [(1,_),(30,_)] ?_
    refine e_nilc [(31,_),(30,_)] ?_
    refine e_far [(32,_),(30,_)] ?_
    refine e_ldr [(33,_),(30,_)] ?_
    refine e_lenr [(34,_),(30,_)] ?_
    refine e_mv [(0,_),(30,_)] ?_
    refine e_nilc [(36,_),(30,_)] ?_
    refine e_far [(37,_),(30,_)] ?_
    refine e_ldr [(38,_),(30,_)] ?_
    refine e_lenr [(39,_),(30,_)] ?_
    refine e_neq [(35,_),(40,_),(30,_)] ?_
    refine d_pick [(30,_),(41,_)] ?_
    refine dN ([] :: [0] :: [0,1] :: [0,1,2] :: [0,1,2,3] :: [0,1,2,3,4] :: [0,1,2,3,4,5] :: [0,1,2,3,4,5,6] :: [0,1,2,3,4,5,6,7] :: [0,1,2,3,4,5,6,7,8] :: [0,1,2,3,4,5,6,7,8,9] :: [0,1,2,3,4,5,6,7,8,9,10] :: [0,1,2,3,4,5,6,7,8,9,10,11] :: [0,1,2,3,4,5,6,7,8,9,10,11,12] :: [0,1,2,3,4,5,6,7,8,9,10,11,12,13] :: [0,1,2,3,4,5,6,7,8,9,10,11,12,13,14] :: [0,1,2,3,4,5,6,7,8,9,10,11,12,13,14,15] :: [0,1,2,3,4,5,6,7,8,9,10,11,12,13,14,15,16] :: [0,1,2,3,4,5,6,7,8,9,10,11,12,13,14,15,16,17] :: [0,1,2,3,4,5,6,7,8,9,10,11,12,13,14,15,16,17,18] :: [0,1,2,3,4,5,6,7,8,9,10,11,12,13,14,15,16,17,18,19] :: [0,1,2,3,4,5,6,7,8,9,10,11,12,13,14,15,16,17,18,19,20] :: [0,1,2,3,4,5,6,7,8,9,10,11,12,13,14,15,16,17,18,19,20,21] :: [0,1,2,3,4,5,6,7,8,9,10,11,12,13,14,15,16,17,18,19,20,21,22] :: [0,1,2,3,4,5,6,7,8,9,10,11,12,13,14,15,16,17,18,19,20,21,22,23] :: [0,1,2,3,4,5,6,7,8,9,10,11,12,13,14,15,16,17,18,19,20,21,22,23,24] :: [0,1,2,3,4,5,6,7,8,9,10,11,12,13,14,15,16,17,18,19,20,21,22,23,24,25] :: [0,1,2,3,4,5,6,7,8,9,10,11,12,13,14,15,16,17,18,19,20,21] :: [0,1,2,3,4,5,6,7,8,9,10,11,12,13,14,15,16,17,18,19,20,21,27] :: [0,1,2,3,4,5,6,7,8,9,10,11,12,13,14,15,16,17,18,19,20,21,27,28] :: [0,1,2,3,4,5,6,7,8,9,10,11,12,13,14,15,16,17,18,19,20,21,27,28,29] :: [0,1,2,3,4,5,6,7,8,9,10,11,12,13,14,15,16,17,18,19,20,21,27,28,29,30] :: [0,1,2,3,4,5,6,7,8,9,10,11,12,13,14,15,16,17,18,19,20,21,22,23,24,25,26,27,28,29,30,31] :: [0,1,2,3,4,5,6,7,8,9,10,11,12,13,14,15,16,17,18,19,20,21,22,23,24,25,26,27,28,29,30,31,32] :: []) mixedP ?_
    refine nA ?_
    refine cn h (fun hc h => ?_) (fun hc h => ?_)
    ·refine CW.seq ?_
     refine CW.to [] trivial ?_
     refine CW.region ?_
     refine a_as ?_
     refine rN ?_
     refine CW.ret ?_
     refine rA ?_
     obtain rfl := sI h
     exact rT
    ·refine CW.skip ?_
     refine nA ?_
     refine CW.seq ?_
     refine CW.seq ?_
     refine CW.to [(0,T.ro ((Pt eSPresentation) x0)),(1,T.ro ((Pt eSModule) x1))] ⟨rfl,rfl,trivial⟩ ?_
     refine CW.region ?_
     refine a_mv ?_
     refine a_nilc ?_
     refine a_far ?_
     refine a_ldr ?_
     refine a_lenr ?_
     refine a_mv ?_
     refine rN ?_
     refine CW.block ?_
     obtain ⟨r8,hr8,h⟩ := bd h
     refine CW.lp (s := 0) (l1_impl_isModule x1) (fun s1 : Int => envL [(0,T.ro ((Pt eSPresentation) x0)),(1,T.ro ((Pt eSModule) x1)),(46,T.ro (lC x1.Actions)),(47,I (x1.Actions.length : Int)),(48,I s1)]) (fun (x : Unit ⊕ Bool) e E => match x with | (.inl r8) => e = .exit 0 ∧ Ghost ⟨St,W,w0,Try.f58.ntmps⟩ E (envL [(0,T.ro ((Pt eSPresentation) x0)),(1,T.ro ((Pt eSModule) x1))]) | (.inr r8) => e = .ret ∧ RetG ⟨St,W,w0,Try.f58.ntmps⟩ Try.prog Try.f58.results [T.ro ((Pt eSPresentation) x0),T.ro ((Pt eSModule) x1)] [B r8] [] .ret E) (.has ⟨rfl,rfl,rfl,rfl,rfl,trivial⟩) (fun s1 x h => ?_) hr8 (fun e E hq => ?_)
     ·refine sR ?_
      refine a_lss ?_
      refine rN ?_
      refine CW.seq ?_
      refine cn h (fun hc h => ?_) (fun hc h => ?_)
      ·refine CW.skip ?_
       refine nA ?_
       refine CW.seq ?_
       refine CW.block ?_
       refine sR ?_
       refine a_mv ?_
       obtain ⟨v4,hv4,h⟩ := bd h
       refine a_ixr ?_
       refine a_ldr ?_
       refine a_as ?_
       refine a_as ?_
       refine rN ?_
       refine sR ?_
       refine a_mv ?_
       refine a_lenr ?_
       refine a_mv ?_
       refine a_nilc ?_
       refine a_far ?_
       refine a_ldr ?_
       refine a_neq ?_
       refine a_mv ?_
       refine RW.cases 60 _ rfl (fun hc => ?_) (fun hc => ?_)
       ·have h := cT hc h
        refine sk2 ?_
        refine sk2 ?_
        refine sk2 ?_
        refine sk2 ?_
        refine sk2 ?_
        refine a_pick ?_
        refine rN ?_
        refine CW.condT rfl ?_
        refine sR ?_
        refine a_as ?_
        refine rN ?_
        refine CW.ret ?_
        refine rB ?_
        refine rA ?_
        exact eX h
       ·have h := cF hc h
        refine g_mv ?_
        refine g_mv ?_
        obtain ⟨r5,hr5,h⟩ := bd h
        refine RW.cons (IxOk.guard 7 false 60 (x_callF (xs := [.tmp 61,.tmp 62]) Try.call60 (t_impl_actionAt _ _ _ hr5) (afC rfl rfl (afC rfl rfl afN)) rfl ⟨(cleanA ⟨(Enc.clean (f := I) _),(Enc.clean (f := I) _),trivial,trivial⟩),trivial⟩ rfl rfl)) ?_
        obtain ⟨r6,hr6,h⟩ := bd h
        refine RW.cons (IxOk.guard 7 false 60 (x_call (xs := [.tmp 63]) Try.call95 (t_impl_IsMatrix _ _ hr6) ⟨(agC _ rfl rfl rfl),trivial⟩ (resC (f := B) inferInstance resN) rfl)) ?_
        refine g_not ?_
        refine a_pick ?_
        refine rN ?_
        refine cn h (fun hc h => ?_) (fun hc h => ?_)
        ·refine sR ?_
         refine a_as ?_
         refine rN ?_
         refine CW.ret ?_
         refine rB ?_
         refine rA ?_
         exact eX h
        ·refine CW.skip ?_
         refine nB ?_
         refine nA ?_
         refine CW.region ?_
         obtain ⟨v7,hv7,h⟩ := bd h
         refine a_add ?_
         refine a_mv ?_
         refine RW.nil ?_
         exact eN h
      ·refine CW.exit ?_
       refine xA ?_
       exact eX h
     ·rcases r8 with r8 | r8
      ·obtain ⟨rfl,hg⟩ := hq
       refine xB ?_
       refine nA ?_
       refine CW.ghost hg ?_
       refine CW.seq ?_
       refine sR ?_
       refine a_mv ?_
       obtain ⟨r9,hr9,h⟩ := bd h
       refine cA Try.call96 (t_impl_relationSides _ _ hr9) ?_
       refine RW.ghost (Ghost.frz 69 (k := 2) (f := (A2 lV)) (g := (A2 lV)) r9 rfl inferInstance) ?_
       refine a_lenr ?_
       refine a_mv ?_
       refine rN ?_
       refine CW.block ?_
       obtain ⟨r15,hr15,h⟩ := bd h
       refine CW.lp (s := 0) (l2_impl_isModule x1 r9) (fun s3 : Int => envL [(1,T.ro ((Pt eSModule) x1)),(69,T.ro ((L 2 (A2 lV)) r9)),(70,I (r9.length : Int)),(71,I s3)]) (fun (x : Unit ⊕ Bool) e E => match x with | (.inl r15) => e = .exit 2 ∧ Ghost ⟨St,W,w0,Try.f58.ntmps⟩ E (envL []) | (.inr r15) => e = .ret ∧ RetG ⟨St,W,w0,Try.f58.ntmps⟩ Try.prog Try.f58.results [T.ro ((Pt eSPresentation) x0),T.ro ((Pt eSModule) x1)] [B r15] [] .ret E) (.has ⟨rfl,rfl,rfl,rfl,trivial⟩) (fun s3 x h => ?_) hr15 (fun e E hq => ?_)
       ·refine sR ?_
        refine a_lss ?_
        refine rN ?_
        refine CW.seq ?_
        refine cn h (fun hc h => ?_) (fun hc h => ?_)
        ·refine CW.skip ?_
         refine nA ?_
         refine CW.seq ?_
         refine CW.block ?_
         refine sR ?_
         obtain ⟨v10,hv10,h⟩ := bd h
         refine a_ixr ?_
         refine a_ldr ?_
         refine a_alloc ?_
         refine oP (x_stp inf_121 rfl (locB rfl rfl) rfl rfl rfl rfl (clean_of (cleanA ⟨trivial,trivial,trivial⟩)) rfl) ?_
         refine rN ?_
         refine CW.seq ?_
         obtain ⟨r11,hr11,h⟩ := bd h
         obtain ⟨r12,hr12,h⟩ := bd h
         obtain ⟨r13,hr13,h⟩ := bd h
         refine CW.dk ?_
         refine d_mv [(1,_)] ?_
         refine dG [(8,_)] [([(76,some (T.addr 8 [0,0]))],[(76,0)])] ⟨rfl,trivial⟩ (fun E h => IxOk.opE (x_ixA 0 arr_121 (locB h.1 rfl) rfl rfl rfl) rfl) ?_
         refine d_ld [(76,_),(8,_)] ?_
         refine dC [(75,_),(77,_)] Try.call98 (t_impl_actionOf _ _ _ hr11) ?_
         refine dG [(78,_)] [([(79,some (T.same 78 [2]))],[(79,0)])] ⟨rfl,trivial⟩ (fun E h => IxOk.opE (x_fld fld_76_2 (fldv_76_2 rfl rfl) h.1 rfl rfl rfl) rfl) ?_
         refine d_mv [(1,_)] ?_
         refine dG [(8,_)] [([(81,some (T.addr 8 [1,0]))],[(81,0)])] ⟨rfl,trivial⟩ (fun E h => IxOk.opE (x_ixA 1 arr_121 (locB h.1 rfl) rfl rfl rfl) rfl) ?_
         refine d_ld [(81,_),(8,_)] ?_
         refine dC [(80,_),(82,_)] Try.call98 (t_impl_actionOf _ _ _ hr12) ?_
         refine dG [(83,_)] [([(84,some (T.same 83 [2]))],[(84,0)])] ⟨rfl,trivial⟩ (fun E h => IxOk.opE (x_fld fld_76_2 (fldv_76_2 rfl rfl) h.1 rfl rfl rfl) rfl) ?_
         refine dC [(79,_),(78,_),(84,_),(83,_)] Try.call97 (t_impl_sameRows _ _ _ hr13) ?_
         refine d_not [(85,_)] ?_
         refine dNA mixedP ?_
         refine nA ?_
         refine cn h (fun hc h => ?_) (fun hc h => ?_)
         ·refine sR ?_
          refine a_as ?_
          refine rN ?_
          refine CW.ret ?_
          refine rB ?_
          refine rA ?_
          exact eX h
         ·refine CW.skip ?_
          refine nB ?_
          refine nA ?_
          refine CW.region ?_
          obtain ⟨v14,hv14,h⟩ := bd h
          refine a_add ?_
          refine a_mv ?_
          refine RW.nil ?_
          exact eN h
        ·refine CW.exit ?_
         refine xA ?_
         exact eX h
       ·rcases r15 with r15 | r15
        ·obtain ⟨rfl,hg⟩ := hq
         refine xB ?_
         refine nA ?_
         refine CW.ghost hg ?_
         refine sR ?_
         refine a_as ?_
         refine rN ?_
         refine CW.ret ?_
         obtain rfl := sI h
         exact rT
        ·obtain ⟨rfl,hq⟩ := hq
         refine rB ?_
         refine rA ?_
         obtain rfl := sI h
         exact hq
      ·obtain ⟨rfl,hq⟩ := hq
       refine rB ?_
       refine rA ?_
       obtain rfl := sI h
       exact hq
theorem t_impl_modulesCode (x0 : SPresentation) (x1 : SModule) (x2 : SModule) (r : Int) (h : f_impl_modulesCode x0 x1 x2 = some r) : FnC Try.prog 36 [T.ro ((Pt eSPresentation) x0),T.ro ((Pt eSModule) x1),T.ro ((Pt eSModule) x2)] [I r] [] := by
 refine fB Try.func36 (fun St W w0 v => ?_)
 refine sR ?_
 refine a_as ?_
 refine rN ?_
 refine CW.seq ?_
 refine sR ?_
 refine a_mv ?_
 refine a_mv ?_
 obtain ⟨r1,hr1,h⟩ := bd h
 refine cA Try.call58 (t_impl_isModule _ _ _ hr1) ?_
 refine a_not ?_
 refine a_mv ?_
 refine RW.cases 11 _ rfl (fun hc => ?_) (fun hc => ?_)
 ·have h := cT hc h
  refine sk2 ?_
  refine sk2 ?_
  refine sk2 ?_
  refine sk2 ?_
  refine a_pick ?_
  refine rN ?_
  refine CW.condT rfl ?_
  refine sR ?_
  refine a_as ?_
  refine rN ?_
  refine CW.ret ?_
  refine rA ?_
  obtain rfl := sI h
  exact rT
 ·have h := cF hc h
  refine g_mv ?_
  refine g_mv ?_
  obtain ⟨r2,hr2,h⟩ := bd h
  refine RW.cons (IxOk.guard 4 false 11 (x_call (xs := [.tmp 12,.tmp 13]) Try.call58 (t_impl_isModule _ _ _ hr2) ⟨(agC _ rfl rfl rfl),⟨(agC _ rfl rfl rfl),trivial⟩⟩ (resC (f := B) inferInstance resN) rfl)) ?_
  refine g_not ?_
  refine a_pick ?_
  refine rN ?_
  refine cn h (fun hc h => ?_) (fun hc h => ?_)
  ·refine sR ?_
   refine a_as ?_
   refine rN ?_
   refine CW.ret ?_
   refine rA ?_
   obtain rfl := sI h
   exact rT
  ·refine CW.skip ?_
   refine nA ?_
   refine CW.seq ?_
   refine CW.seq ?_
   refine CW.dk ?_
   refine d_mv [(1,_)] ?_
   refine d_nilc [(17,_)] ?_
   refine d_far [(18,_)] ?_
   refine d_ldr [(19,_)] ?_
   refine d_mv [(2,_)] ?_
   refine d_nilc [(21,_)] ?_
   refine d_far [(22,_)] ?_
   refine d_ldr [(23,_)] ?_
   refine d_neq [(20,_),(24,_)] ?_
   refine dNA mixedP ?_
   refine nA ?_
   refine cn h (fun hc h => ?_) (fun hc h => ?_)
   ·refine sR ?_
    refine a_as ?_
    refine rN ?_
    refine CW.ret ?_
    refine rA ?_
    obtain rfl := sI h
    exact rT
   ·refine CW.skip ?_
    refine nA ?_
    refine sR ?_
    refine a_as ?_
    refine rN ?_
    refine CW.ret ?_
    obtain rfl := sI h
    exact rT
theorem t_laws_eqInt64S (x0 : List Int) (x1 : List Int) (r : Bool) (h : f_laws_eqInt64S x0 x1 = some r) : FnC Try.prog 39 [T.ro (lV x0),T.ro (lV x1)] [B r] [] := by
 refine fB Try.func39 (fun St W w0 v => ?_)
 refine sR ?_
 refine a_as ?_
 refine rN ?_
 refine CW.seq ?_
 refine sR ?_
 refine a_mv ?_
 refine a_lenr ?_
 refine a_mv ?_
 refine a_lenr ?_
 refine a_neq ?_
 refine rN ?_
 refine cn h (fun hc h => ?_) (fun hc h => ?_)
 ·refine sR ?_
  refine a_as ?_
  refine rN ?_
  refine CW.ret ?_
  refine rA ?_
  obtain rfl := sI h
  exact rT
 ·refine CW.skip ?_
  refine nA ?_
  refine CW.seq ?_
  refine sR ?_
  refine a_as ?_
  refine rN ?_
  refine CW.block ?_
  obtain ⟨r4,hr4,h⟩ := bd h
  refine CW.lp (s := 0) (l1_laws_eqInt64S x0 x1) (fun s1 : Int => envL [(0,T.ro (lV x0)),(1,T.ro (lV x1)),(5,I s1)]) (fun (x : Unit ⊕ Bool) e E => match x with | (.inl r4) => e = .exit 0 ∧ Ghost ⟨St,W,w0,Try.f39.ntmps⟩ E (envL []) | (.inr r4) => e = .ret ∧ RetG ⟨St,W,w0,Try.f39.ntmps⟩ Try.prog Try.f39.results [T.ro (lV x0),T.ro (lV x1)] [B r4] [] .ret E) (.has ⟨rfl,rfl,rfl,trivial⟩) (fun s1 x h => ?_) hr4 (fun e E hq => ?_)
  ·refine CW.seq ?_
   refine sR ?_
   refine a_mv ?_
   refine a_mv ?_
   refine a_lenr ?_
   refine a_lss ?_
   refine rN ?_
   refine cn h (fun hc h => ?_) (fun hc h => ?_)
   ·refine CW.skip ?_
    refine nA ?_
    refine CW.seq ?_
    refine CW.block ?_
    refine CW.seq ?_
    obtain ⟨v1,hv1,h⟩ := bd h
    obtain ⟨v2,hv2,h⟩ := bd h
    refine CW.dk ?_
    refine d_mv [(0,_)] ?_
    refine d_mv [(5,_)] ?_
    refine d_ixr [(17,_),(18,_)] ?_
    refine d_ldr [(19,_)] ?_
    refine d_mv [(1,_)] ?_
    refine d_mv [(5,_)] ?_
    refine d_ixr [(21,_),(22,_)] ?_
    refine d_ldr [(23,_)] ?_
    refine d_neq [(20,_),(24,_)] ?_
    refine dNA mixedP ?_
    refine nA ?_
    refine cn h (fun hc h => ?_) (fun hc h => ?_)
    ·refine sR ?_
     refine a_as ?_
     refine rN ?_
     refine CW.ret ?_
     refine rB ?_
     refine rA ?_
     exact eX h
    ·refine CW.skip ?_
     refine nB ?_
     refine nA ?_
     refine CW.region ?_
     refine a_mv ?_
     obtain ⟨v3,hv3,h⟩ := bd h
     refine a_add ?_
     refine a_as ?_
     refine RW.nil ?_
     exact eN h
   ·refine CW.exit ?_
    refine xA ?_
    exact eX h
  ·rcases r4 with r4 | r4
   ·obtain ⟨rfl,hg⟩ := hq
    refine xB ?_
    refine nA ?_
    refine CW.ghost hg ?_
    refine sR ?_
    refine a_as ?_
    refine rN ?_
    refine CW.ret ?_
    obtain rfl := sI h
    exact rT
   ·obtain ⟨rfl,hq⟩ := hq
    refine rB ?_
    refine rA ?_
    obtain rfl := sI h
    exact hq
theorem t_laws_eqInt64SS (x0 : List (List Int)) (x1 : List (List Int)) (r : Bool) (h : f_laws_eqInt64SS x0 x1 = some r) : FnC Try.prog 40 [T.ro (lM x0),T.ro (lM x1)] [B r] [] := by
 refine fB Try.func40 (fun St W w0 v => ?_)
 refine sR ?_
 refine a_as ?_
 refine rN ?_
 refine CW.seq ?_
 refine sR ?_
 refine a_mv ?_
 refine a_lenr ?_
 refine a_mv ?_
 refine a_lenr ?_
 refine a_neq ?_
 refine rN ?_
 refine cn h (fun hc h => ?_) (fun hc h => ?_)
 ·refine sR ?_
  refine a_as ?_
  refine rN ?_
  refine CW.ret ?_
  refine rA ?_
  obtain rfl := sI h
  exact rT
 ·refine CW.skip ?_
  refine nA ?_
  refine CW.seq ?_
  refine sR ?_
  refine a_as ?_
  refine rN ?_
  refine CW.block ?_
  obtain ⟨r5,hr5,h⟩ := bd h
  refine CW.lp (s := 0) (l1_laws_eqInt64SS x0 x1) (fun s1 : Int => envL [(0,T.ro (lM x0)),(1,T.ro (lM x1)),(5,I s1)]) (fun (x : Unit ⊕ Bool) e E => match x with | (.inl r5) => e = .exit 0 ∧ Ghost ⟨St,W,w0,Try.f40.ntmps⟩ E (envL []) | (.inr r5) => e = .ret ∧ RetG ⟨St,W,w0,Try.f40.ntmps⟩ Try.prog Try.f40.results [T.ro (lM x0),T.ro (lM x1)] [B r5] [] .ret E) (.has ⟨rfl,rfl,rfl,trivial⟩) (fun s1 x h => ?_) hr5 (fun e E hq => ?_)
  ·refine CW.seq ?_
   refine sR ?_
   refine a_mv ?_
   refine a_mv ?_
   refine a_lenr ?_
   refine a_lss ?_
   refine rN ?_
   refine cn h (fun hc h => ?_) (fun hc h => ?_)
   ·refine CW.skip ?_
    refine nA ?_
    refine CW.seq ?_
    refine CW.block ?_
    refine CW.seq ?_
    obtain ⟨v1,hv1,h⟩ := bd h
    obtain ⟨v2,hv2,h⟩ := bd h
    obtain ⟨r3,hr3,h⟩ := bd h
    refine CW.dk ?_
    refine d_mv [(0,_)] ?_
    refine d_mv [(5,_)] ?_
    refine d_ixr [(17,_),(18,_)] ?_
    refine d_ldr [(19,_)] ?_
    refine d_mv [(1,_)] ?_
    refine d_mv [(5,_)] ?_
    refine d_ixr [(21,_),(22,_)] ?_
    refine d_ldr [(23,_)] ?_
    refine dC [(20,_),(24,_)] Try.call39 (t_laws_eqInt64S _ _ _ hr3) ?_
    refine d_not [(25,_)] ?_
    refine dNA mixedP ?_
    refine nA ?_
    refine cn h (fun hc h => ?_) (fun hc h => ?_)
    ·refine sR ?_
     refine a_as ?_
     refine rN ?_
     refine CW.ret ?_
     refine rB ?_
     refine rA ?_
     exact eX h
    ·refine CW.skip ?_
     refine nB ?_
     refine nA ?_
     refine CW.region ?_
     refine a_mv ?_
     obtain ⟨v4,hv4,h⟩ := bd h
     refine a_add ?_
     refine a_as ?_
     refine RW.nil ?_
     exact eN h
   ·refine CW.exit ?_
    refine xA ?_
    exact eX h
  ·rcases r5 with r5 | r5
   ·obtain ⟨rfl,hg⟩ := hq
    refine xB ?_
    refine nA ?_
    refine CW.ghost hg ?_
    refine sR ?_
    refine a_as ?_
    refine rN ?_
    refine CW.ret ?_
    obtain rfl := sI h
    exact rT
   ·obtain ⟨rfl,hq⟩ := hq
    refine rB ?_
    refine rA ?_
    obtain rfl := sI h
    exact hq
theorem t_laws_eqInt64SSS (x0 : List (List (List Int))) (x1 : List (List (List Int))) (r : Bool) (h : f_laws_eqInt64SSS x0 x1 = some r) : FnC Try.prog 38 [T.ro (lC x0),T.ro (lC x1)] [B r] [] := by
 refine fB Try.func38 (fun St W w0 v => ?_)
 refine sR ?_
 refine a_as ?_
 refine rN ?_
 refine CW.seq ?_
 refine sR ?_
 refine a_mv ?_
 refine a_lenr ?_
 refine a_mv ?_
 refine a_lenr ?_
 refine a_neq ?_
 refine rN ?_
 refine cn h (fun hc h => ?_) (fun hc h => ?_)
 ·refine sR ?_
  refine a_as ?_
  refine rN ?_
  refine CW.ret ?_
  refine rA ?_
  obtain rfl := sI h
  exact rT
 ·refine CW.skip ?_
  refine nA ?_
  refine CW.seq ?_
  refine sR ?_
  refine a_as ?_
  refine rN ?_
  refine CW.block ?_
  obtain ⟨r5,hr5,h⟩ := bd h
  refine CW.lp (s := 0) (l1_laws_eqInt64SSS x0 x1) (fun s1 : Int => envL [(0,T.ro (lC x0)),(1,T.ro (lC x1)),(5,I s1)]) (fun (x : Unit ⊕ Bool) e E => match x with | (.inl r5) => e = .exit 0 ∧ Ghost ⟨St,W,w0,Try.f38.ntmps⟩ E (envL []) | (.inr r5) => e = .ret ∧ RetG ⟨St,W,w0,Try.f38.ntmps⟩ Try.prog Try.f38.results [T.ro (lC x0),T.ro (lC x1)] [B r5] [] .ret E) (.has ⟨rfl,rfl,rfl,trivial⟩) (fun s1 x h => ?_) hr5 (fun e E hq => ?_)
  ·refine CW.seq ?_
   refine sR ?_
   refine a_mv ?_
   refine a_mv ?_
   refine a_lenr ?_
   refine a_lss ?_
   refine rN ?_
   refine cn h (fun hc h => ?_) (fun hc h => ?_)
   ·refine CW.skip ?_
    refine nA ?_
    refine CW.seq ?_
    refine CW.block ?_
    refine CW.seq ?_
    obtain ⟨v1,hv1,h⟩ := bd h
    obtain ⟨v2,hv2,h⟩ := bd h
    obtain ⟨r3,hr3,h⟩ := bd h
    refine CW.dk ?_
    refine d_mv [(0,_)] ?_
    refine d_mv [(5,_)] ?_
    refine d_ixr [(17,_),(18,_)] ?_
    refine d_ldr [(19,_)] ?_
    refine d_mv [(1,_)] ?_
    refine d_mv [(5,_)] ?_
    refine d_ixr [(21,_),(22,_)] ?_
    refine d_ldr [(23,_)] ?_
    refine dC [(20,_),(24,_)] Try.call40 (t_laws_eqInt64SS _ _ _ hr3) ?_
    refine d_not [(25,_)] ?_
    refine dNA mixedP ?_
    refine nA ?_
    refine cn h (fun hc h => ?_) (fun hc h => ?_)
    ·refine sR ?_
     refine a_as ?_
     refine rN ?_
     refine CW.ret ?_
     refine rB ?_
     refine rA ?_
     exact eX h
    ·refine CW.skip ?_
     refine nB ?_
     refine nA ?_
     refine CW.region ?_
     refine a_mv ?_
     obtain ⟨v4,hv4,h⟩ := bd h
     refine a_add ?_
     refine a_as ?_
     refine RW.nil ?_
     exact eN h
   ·refine CW.exit ?_
    refine xA ?_
    exact eX h
  ·rcases r5 with r5 | r5
   ·obtain ⟨rfl,hg⟩ := hq
    refine xB ?_
    refine nA ?_
    refine CW.ghost hg ?_
    refine sR ?_
    refine a_as ?_
    refine rN ?_
    refine CW.ret ?_
    obtain rfl := sI h
    exact rT
   ·obtain ⟨rfl,hq⟩ := hq
    refine rB ?_
    refine rA ?_
    obtain rfl := sI h
    exact hq
theorem t_laws_eqModule (x0 : SModule) (x1 : SModule) (r : Bool) (h : f_laws_eqModule x0 x1 = some r) : FnC Try.prog 14 [qModule x0,qModule x1] [B r] [] := by
 refine fB Try.func14 (fun St W w0 v => ?_)
 refine sR ?_
 refine a_box ?_
 refine a_box ?_
 refine a_as ?_
 refine rN ?_
 refine CW.seq ?_
 refine sR ?_
 refine a_fa ?_
 refine a_ld ?_
 refine a_fa ?_
 refine a_ld ?_
 refine a_neq ?_
 refine rN ?_
 refine cn h (fun hc h => ?_) (fun hc h => ?_)
 ·refine sR ?_
  refine a_as ?_
  refine rN ?_
  refine CW.ret ?_
  refine rA ?_
  obtain rfl := sI h
  exact rT
 ·refine CW.skip ?_
  refine nA ?_
  refine CW.seq ?_
  refine sR ?_
  refine a_fa ?_
  refine a_ld ?_
  refine a_fa ?_
  refine a_ld ?_
  refine a_neq ?_
  refine rN ?_
  refine cn h (fun hc h => ?_) (fun hc h => ?_)
  ·refine sR ?_
   refine a_as ?_
   refine rN ?_
   refine CW.ret ?_
   refine rA ?_
   obtain rfl := sI h
   exact rT
  ·refine CW.skip ?_
   refine nA ?_
   refine CW.seq ?_
   refine sR ?_
   refine a_fa ?_
   refine a_ld ?_
   refine a_fa ?_
   refine a_ld ?_
   obtain ⟨r1,hr1,h⟩ := bd h
   refine cA Try.call38 (t_laws_eqInt64SSS _ _ _ hr1) ?_
   refine a_not ?_
   refine rN ?_
   refine cn h (fun hc h => ?_) (fun hc h => ?_)
   ·refine sR ?_
    refine a_as ?_
    refine rN ?_
    refine CW.ret ?_
    refine rA ?_
    obtain rfl := sI h
    exact rT
   ·refine CW.skip ?_
    refine nA ?_
    refine sR ?_
    refine a_as ?_
    refine rN ?_
    refine CW.ret ?_
    obtain rfl := sI h
    exact rT
theorem t_laws_eqPresentation (x0 : SPresentation) (x1 : SPresentation) (r : Bool) (h : f_laws_eqPresentation x0 x1 = some r) : FnC Try.prog 15 [qPresentation x0,qPresentation x1] [B r] [] := by
 refine fB Try.func15 (fun St W w0 v => ?_)
 refine sR ?_
 refine a_box ?_
 refine a_box ?_
 refine a_as ?_
 refine rN ?_
 refine CW.seq ?_
 refine sR ?_
 refine a_fa ?_
 refine a_ld ?_
 refine a_fa ?_
 refine a_ld ?_
 obtain ⟨r1,hr1,h⟩ := bd h
 refine cA Try.call39 (t_laws_eqInt64S _ _ _ hr1) ?_
 refine a_not ?_
 refine rN ?_
 refine cn h (fun hc h => ?_) (fun hc h => ?_)
 ·refine sR ?_
  refine a_as ?_
  refine rN ?_
  refine CW.ret ?_
  refine rA ?_
  obtain rfl := sI h
  exact rT
 ·refine CW.skip ?_
  refine nA ?_
  refine CW.seq ?_
  refine sR ?_
  refine a_fa ?_
  refine a_ld ?_
  refine a_fa ?_
  refine a_ld ?_
  obtain ⟨r2,hr2,h⟩ := bd h
  refine cA Try.call40 (t_laws_eqInt64SS _ _ _ hr2) ?_
  refine a_not ?_
  refine rN ?_
  refine cn h (fun hc h => ?_) (fun hc h => ?_)
  ·refine sR ?_
   refine a_as ?_
   refine rN ?_
   refine CW.ret ?_
   refine rA ?_
   obtain rfl := sI h
   exact rT
  ·refine CW.skip ?_
   refine nA ?_
   refine CW.seq ?_
   refine sR ?_
   refine a_fa ?_
   refine a_ld ?_
   refine a_fa ?_
   refine a_ld ?_
   obtain ⟨r3,hr3,h⟩ := bd h
   refine cA Try.call38 (t_laws_eqInt64SSS _ _ _ hr3) ?_
   refine a_not ?_
   refine rN ?_
   refine cn h (fun hc h => ?_) (fun hc h => ?_)
   ·refine sR ?_
    refine a_as ?_
    refine rN ?_
    refine CW.ret ?_
    refine rA ?_
    obtain rfl := sI h
    exact rT
   ·refine CW.skip ?_
    refine nA ?_
    refine sR ?_
    refine a_as ?_
    refine rN ?_
    refine CW.ret ?_
    obtain rfl := sI h
    exact rT
end Go.Wk

namespace Go.Wk
open Go Go.Proofs Go.Ab
set_option maxRecDepth 100000
theorem t_impl_copyRows (x0 : List (List Int)) (r : (List (List Int))) (h : f_impl_copyRows x0 = some r) : FnC Try.prog 105 [T.ro (lM x0)] [lM r] [] := by
 refine fB Try.func105 (fun St W w0 v => ?_)
 refine sR ?_
 refine oP (x_nil 1 rfl) ?_
 refine rN ?_
 refine sR ?_
 refine oP (x_nil 1 rfl) ?_
 refine rN ?_
 refine CW.seq ?_
 refine sR ?_
 refine a_mv ?_
 refine a_lenr ?_
 refine a_mv ?_
 refine rN ?_
 refine CW.block ?_
 obtain ⟨r5,hr5,h⟩ := bd h
 refine CW.lp (s := ([],0)) (l1_impl_copyRows x0) (fun s1 : (List (List Int)) × Int => envL [(3,L 1 lV s1.1),(6,T.ro (lM x0)),(7,I (x0.length : Int)),(8,I s1.2)]) (fun (r5 : (List (List Int))) e E => e = .exit 0 ∧ Ghost ⟨St,W,w0,Try.f105.ntmps⟩ E (envL [(3,L 1 lV r5)])) (.has ⟨rfl,rfl,rfl,rfl,trivial⟩) (fun s1 x h => ?_) hr5 (fun e E hq => ?_)
 ·refine sR ?_
  refine a_lss ?_
  refine rN ?_
  refine CW.seq ?_
  refine cn h (fun hc h => ?_) (fun hc h => ?_)
  ·refine CW.skip ?_
   refine nA ?_
   refine CW.seq ?_
   refine CW.block ?_
   refine sR ?_
   obtain ⟨v1,hv1,h⟩ := bd h
   refine a_ixr ?_
   refine a_ldr ?_
   refine a_as ?_
   refine rN ?_
   refine CW.region ?_
   refine a_mv ?_
   refine a_mv ?_
   obtain ⟨r2,hr2,h⟩ := bd h
   refine cA Try.call100 (t_slices_Clone_int64_int64 _ _ hr2) ?_
   refine oP (x_bs elt_23 [.tmp 14] [.slot 14 (L 1 I r2)] [r2] lV ⟨.slot _ _,trivial⟩ (pkS rfl (clean_of (cleanL (Enc.clean (f := I)))) rfl pkN) rfl rfl) ?_
   refine RW.ghost (Ghost.tr 12 3 _ rfl rfl (clean_of (cleanL (Enc.clean (f := lV)))) rfl) ?_
   obtain ⟨v3,hv3,h⟩ := bd h
   refine oP (x_appm (f := lV) elt_23 hv3 rfl rfl rfl) ?_
   refine a_as ?_
   refine RW.ghost (Ghost.tr 3 16 _ rfl rfl (clean_of (cleanL (Enc.clean (f := lV)))) rfl) ?_
   refine RW.nil ?_
   refine nB ?_
   refine nA ?_
   refine CW.region ?_
   obtain ⟨v4,hv4,h⟩ := bd h
   refine a_add ?_
   refine a_mv ?_
   refine RW.nil ?_
   exact eN h
  ·refine CW.exit ?_
   refine xA ?_
   exact eX h
 ·obtain ⟨rfl,hg⟩ := hq
  refine xB ?_
  refine nA ?_
  refine CW.ghost hg ?_
  refine sR ?_
  refine a_mv ?_
  refine a_as ?_
  refine RW.ghost (Ghost.tr 2 3 _ rfl rfl (clean_of (cleanL (Enc.clean (f := lV)))) rfl) ?_
  refine rN ?_
  refine CW.ret ?_
  obtain rfl := sI h
  exact rT
theorem t_impl_inverseMod (x0 : Int) (x1 : Int) (r : Int × Bool) (h : f_impl_inverseMod x0 x1 = some r) : FnC Try.prog 106 [I x0,I x1] [I r.1,B r.2] [] := by
 refine fB Try.func106 (fun St W w0 v => ?_)
 refine sR ?_
 refine a_as ?_
 refine a_as ?_
 refine rN ?_
 refine sR ?_
 refine a_mv ?_
 refine a_mv ?_
 refine a_as ?_
 refine a_as ?_
 refine a_as ?_
 refine a_as ?_
 refine rN ?_
 refine CW.seq ?_
 refine CW.block ?_
 obtain ⟨r6,hr6,h⟩ := bd h
 refine CW.lp (s := (x1,x0,0,1)) l1_impl_inverseMod (fun s1 : Int × Int × Int × Int => envL [(1,I x1),(6,I s1.1),(7,I s1.2.1),(8,I s1.2.2.1),(9,I s1.2.2.2)]) (fun (r6 : (Int × Int)) e E => e = .exit 0 ∧ Ghost ⟨St,W,w0,Try.f106.ntmps⟩ E (envL [(1,I x1),(6,I r6.1),(8,I r6.2)])) (.has ⟨rfl,rfl,rfl,rfl,rfl,trivial⟩) (fun s1 x h => ?_) hr6 (fun e E hq => ?_)
 ·refine CW.seq ?_
  refine sR ?_
  refine a_mv ?_
  refine a_neq ?_
  refine rN ?_
  refine cn h (fun hc h => ?_) (fun hc h => ?_)
  ·refine CW.skip ?_
   refine nA ?_
   refine CW.block ?_
   refine sR ?_
   refine a_mv ?_
   refine a_mv ?_
   obtain ⟨v1,hv1,h⟩ := bd h
   refine a_quo ?_
   refine a_as ?_
   refine rN ?_
   refine sR ?_
   refine a_mv ?_
   refine a_mv ?_
   refine a_mv ?_
   refine a_mv ?_
   obtain ⟨v2,hv2,h⟩ := bd h
   refine a_mul ?_
   obtain ⟨v3,hv3,h⟩ := bd h
   refine a_sub ?_
   refine a_as ?_
   refine a_as ?_
   refine rN ?_
   refine CW.region ?_
   refine a_mv ?_
   refine a_mv ?_
   refine a_mv ?_
   refine a_mv ?_
   obtain ⟨v4,hv4,h⟩ := bd h
   refine a_mul ?_
   obtain ⟨v5,hv5,h⟩ := bd h
   refine a_sub ?_
   refine a_as ?_
   refine a_as ?_
   refine RW.nil ?_
   refine nB ?_
   exact eN h
  ·refine CW.exit ?_
   refine xA ?_
   exact eX h
 ·obtain ⟨rfl,hg⟩ := hq
  refine xB ?_
  refine nA ?_
  refine CW.ghost hg ?_
  refine sR ?_
  refine a_mv ?_
  refine a_mv ?_
  obtain ⟨r7,hr7,h⟩ := bd h
  refine cA Try.call104 (t_impl_residue _ _ _ hr7) ?_
  refine a_mv ?_
  refine a_eql ?_
  refine a_as ?_
  refine a_as ?_
  refine rN ?_
  refine CW.ret ?_
  obtain rfl := sI h
  exact rT
theorem t_impl_reduceRows (x0 : Int) (x1 : List (List Int)) (r : (List (List Int))) (h : f_impl_reduceRows x0 x1 = some r) : FnC Try.prog 66 [I x0,T.ro (lM x1)] [lM r] [] := by
 refine fB Try.func66 (fun St W w0 v => ?_)
 refine sR ?_
 refine oP (x_nil 1 rfl) ?_
 refine rN ?_
 refine sR ?_
 refine a_mv ?_
 obtain ⟨r1,hr1,h⟩ := bd h
 refine cA Try.call105 (t_impl_copyRows _ _ hr1) ?_
 refine a_as ?_
 refine RW.ghost (Ghost.tr 1 13 _ rfl rfl (clean_of (cleanL (Enc.clean (f := lV)))) rfl) ?_
 refine rN ?_
 refine sR ?_
 refine a_as ?_
 refine rN ?_
 refine CW.seq ?_
 refine sR ?_
 refine a_as ?_
 refine rN ?_
 refine CW.block ?_
 obtain ⟨r33,hr33,h⟩ := bd h
 refine CW.lp (s := (r1,0,0)) (l4_impl_reduceRows x0) (fun s13 : (List (List Int)) × Int × Int => envL [(0,I x0),(1,L 1 lV s13.1),(5,I s13.2.1),(6,I s13.2.2)]) (fun (r33 : ((List (List Int)) × Int)) e E => e = .exit 0 ∧ Ghost ⟨St,W,w0,Try.f66.ntmps⟩ E (envL [(1,L 1 lV r33.1),(5,I r33.2)])) (.has ⟨rfl,rfl,rfl,rfl,trivial⟩) (fun s13 x h => ?_) hr33 (fun e E hq => ?_)
 ·refine CW.seq ?_
  refine sR ?_
  refine a_mv ?_
  refine a_len ?_
  refine a_gtr ?_
  refine a_mv ?_
  refine RW.cases 17 _ rfl (fun hc => ?_) (fun hc => ?_)
  ·have h := cT hc h
   refine g_mv ?_
   refine g_mv ?_
   obtain ⟨v2,hv2,h⟩ := bd h
   refine g_ix ?_
   refine g_ld ?_
   refine g_len ?_
   refine g_lss ?_
   refine a_pick ?_
   refine a_mv ?_
   refine RW.cases 25 _ rfl (fun hc => ?_) (fun hc => ?_)
   ·have h := cT hc h
    refine g_mv ?_
    refine g_mv ?_
    refine g_len ?_
    refine g_lss ?_
    refine a_pick ?_
    refine rN ?_
    refine cn h (fun hc h => ?_) (fun hc h => ?_)
    ·refine CW.skip ?_
     refine nA ?_
     refine CW.seq ?_
     refine CW.block ?_
     refine sR ?_
     refine a_mv ?_
     refine a_as ?_
     refine rN ?_
     refine CW.seq ?_
     refine CW.block ?_
     obtain ⟨r6,hr6,h⟩ := bd h
     refine CW.lp (s := s13.2.1) (l1_impl_reduceRows s13) (fun s14 : Int => envL [(0,I x0),(1,L 1 lV s13.1),(5,I s13.2.1),(6,I s13.2.2),(7,I s14)]) (fun (r6 : Int) e E => e = .exit 2 ∧ Ghost ⟨St,W,w0,Try.f66.ntmps⟩ E (envL [(0,I x0),(1,L 1 lV s13.1),(5,I s13.2.1),(6,I s13.2.2),(7,I r6)])) (.has ⟨rfl,rfl,rfl,rfl,rfl,trivial⟩) (fun s14 x h => ?_) hr6 (fun e E hq => ?_)
     ·refine CW.seq ?_
      refine sR ?_
      refine a_mv ?_
      refine a_mv ?_
      refine a_len ?_
      refine a_lss ?_
      refine a_mv ?_
      refine RW.cases 38 _ rfl (fun hc => ?_) (fun hc => ?_)
      ·have h := cT hc h
       refine g_mv ?_
       refine g_mv ?_
       obtain ⟨v3,hv3,h⟩ := bd h
       refine g_ix ?_
       refine g_ld ?_
       refine g_mv ?_
       obtain ⟨v4,hv4,h⟩ := bd h
       refine g_ix ?_
       refine g_ld ?_
       refine g_eql ?_
       refine a_pick ?_
       refine rN ?_
       refine cn h (fun hc h => ?_) (fun hc h => ?_)
       ·refine CW.skip ?_
        refine nA ?_
        refine CW.block ?_
        refine CW.region ?_
        refine a_mv ?_
        obtain ⟨v5,hv5,h⟩ := bd h
        refine a_add ?_
        refine a_as ?_
        refine RW.nil ?_
        refine nB ?_
        exact eN h
       ·refine CW.exit ?_
        refine xA ?_
        exact eX h
      ·have h := cF hc h
       refine sk2 ?_
       refine sk2 ?_
       refine sk2 ?_
       refine sk2 ?_
       refine sk2 ?_
       refine sk2 ?_
       refine sk2 ?_
       refine sk2 ?_
       refine a_pick ?_
       refine rN ?_
       refine CW.condF rfl ?_
       refine CW.exit ?_
       refine xA ?_
       exact eX h
     ·obtain ⟨rfl,hg⟩ := hq
      refine xB ?_
      refine nA ?_
      refine CW.ghost hg ?_
      refine CW.seq ?_
      refine sR ?_
      refine a_mv ?_
      refine a_mv ?_
      refine a_len ?_
      refine a_eql ?_
      refine rN ?_
      refine cn h (fun hc h => ?_) (fun hc h => ?_)
      ·refine CW.exit ?_
       refine xA ?_
       refine xB ?_
       refine nA ?_
       refine CW.region ?_
       refine a_mv ?_
       obtain ⟨v7,hv7,h⟩ := bd h
       refine a_add ?_
       refine a_as ?_
       refine RW.nil ?_
       exact eN h
      ·refine CW.skip ?_
       refine nA ?_
       refine CW.seq ?_
       obtain ⟨v8,hv8,h⟩ := bd h
       obtain ⟨v9,hv9,h⟩ := bd h
       refine CW.midA [(0,I x0),(1,L 1 lV (swapL s13.1 s13.2.1 r6 v8 v9)),(5,I s13.2.1),(6,I s13.2.2)] ?_ ?_
       ·refine CW.casesB (r6 == s13.2.1) (fun hc => ?_) (fun hc => ?_)
        ·have hij : (r6 : Int) = s13.2.1 := by simpa using hc
         refine CW.dkS [1] ?_
         refine d_mvS 1 ?_
         refine d_mv [(5,_)] ?_
         refine d_mvS 1 ?_
         refine d_mv [(7,_)] ?_
         refine d_mvS 1 ?_
         refine d_mv [(7,_)] ?_
         refine d_ix [(58,_),(1,_),(59,_)] ?_
         refine d_ld [(60,_),(1,_)] ?_
         refine d_mvS 1 ?_
         refine d_mv [(5,_)] ?_
         refine d_ix [(62,_),(1,_),(63,_)] ?_
         refine d_ld [(64,_),(1,_)] ?_
         refine d_ix [(54,_),(1,_),(55,_)] ?_
         refine sw1e (V := 65) inf_22 rfl hv8 hij ?_
         refine dG [(56,_),(1,_),(57,_)] [([(67,some (T.addr 1 [(r6 : Int).toNat]))],[(67,0)])] ⟨rfl,rfl,rfl,trivial⟩ (fun E h => IxOk.opE (y_ixG (locA h.1 h.2.1 rfl rfl) h.2.2.1 (ixLen hv8 (by simp)) rfl) rfl) ?_
         refine sw2e (U := 61) inf_22 rfl hv8 hv9 hij ?_
         refine dNA mixedP ?_
         exact ⟨rfl,.has ⟨rfl,rfl,rfl,rfl,trivial⟩⟩
        ·have hn := toNat_ne hv8 hv9 hc
         refine CW.dkS [1] ?_
         refine d_mvS 1 ?_
         refine d_mv [(5,_)] ?_
         refine d_mvS 1 ?_
         refine d_mv [(7,_)] ?_
         refine d_mvS 1 ?_
         refine d_mv [(7,_)] ?_
         refine d_ix [(58,_),(1,_),(59,_)] ?_
         refine d_ld [(60,_),(1,_)] ?_
         refine d_mvS 1 ?_
         refine d_mv [(5,_)] ?_
         refine d_ix [(62,_),(1,_),(63,_)] ?_
         refine d_ld [(64,_),(1,_)] ?_
         refine d_ix [(54,_),(1,_),(55,_)] ?_
         refine sw1n (V := 65) inf_22 rfl hv8 hv9 hn ?_
         refine dG [(56,_),(1,_),(57,_)] [([(67,some (T.addr 1 [(r6 : Int).toNat]))],[(67,0)])] ⟨rfl,rfl,rfl,trivial⟩ (fun E h => IxOk.opE (y_ixG (locA h.1 h.2.1 rfl rfl) h.2.2.1 (ixLen hv8 (by simp)) rfl) rfl) ?_
         refine sw2n inf_22 rfl hv8 hv9 hn ?_
         refine dNA mixedP ?_
         exact ⟨rfl,.has ⟨rfl,rfl,rfl,rfl,trivial⟩⟩
       ·refine sR ?_
        refine a_mv ?_
        refine a_mv ?_
        obtain ⟨v10,hv10,h⟩ := bd h
        refine oP (x_ix (f := lV) row_23 hv10 (locA rfl rfl rfl rfl) rfl rfl) ?_
        refine oP (x_ld (var_22.h _ rfl rfl) rfl rfl (getc hv10 rfl) rfl) ?_
        refine a_mv ?_
        obtain ⟨v11,hv11,h⟩ := bd h
        refine oP (x_ix (f := I) row_22 hv11 (locA rfl rfl (getc hv10 rfl) rfl) rfl rfl) ?_
        refine oP (x_ld (var_2.h _ rfl rfl) rfl rfl (getc hv10 (getc hv11 rfl)) rfl) ?_
        refine a_mv ?_
        obtain ⟨r12,hr12,h⟩ := bd h
        refine cA Try.call106 (t_impl_inverseMod _ _ _ hr12) ?_
        refine a_mvT ?_
        refine a_ext ?_
        refine a_ext ?_
        refine a_as ?_
        refine a_as ?_
        refine rN ?_
        refine CW.seq ?_
        refine sR ?_
        refine a_mv ?_
        refine a_mv ?_
        obtain ⟨v13,hv13,h⟩ := bd h
        refine oP (x_ix (f := lV) row_23 hv13 (locA rfl rfl rfl rfl) rfl rfl) ?_
        refine oP (x_ld (var_22.h _ rfl rfl) rfl rfl (getc hv13 rfl) rfl) ?_
        refine oP (x_len Try.underlying22 (locA rfl rfl (getc hv13 rfl) rfl) rfl) ?_
        refine a_mv ?_
        refine rN ?_
        refine CW.block ?_
        obtain ⟨r21,hr21,h⟩ := bd h
        refine CW.lp (s := (swapL s13.1 s13.2.1 r6 v8 v9,0)) (l2_impl_reduceRows x0 s13 r12 v13) (fun s16 : (List (List Int)) × Int => envL [(0,I x0),(1,L 1 lV s16.1),(5,I s13.2.1),(6,I s13.2.2),(8,I r12.1),(84,I (v13.length : Int)),(85,I s16.2)]) (fun (r21 : (List (List Int))) e E => e = .exit 4 ∧ Ghost ⟨St,W,w0,Try.f66.ntmps⟩ E (envL [(0,I x0),(1,L 1 lV r21),(5,I s13.2.1),(6,I s13.2.2)])) (.has ⟨rfl,rfl,rfl,rfl,rfl,rfl,rfl,trivial⟩) (fun s16 x h => ?_) hr21 (fun e E hq => ?_)
        ·refine sR ?_
         refine a_lss ?_
         refine rN ?_
         refine CW.seq ?_
         refine cn h (fun hc h => ?_) (fun hc h => ?_)
         ·refine CW.skip ?_
          refine nA ?_
          refine CW.seq ?_
          refine CW.block ?_
          refine sR ?_
          refine a_mv ?_
          refine a_as ?_
          refine rN ?_
          obtain ⟨v14,hv14,h⟩ := bd h
          obtain ⟨v15,hv15,h⟩ := bd h
          obtain ⟨v16,hv16,h⟩ := bd h
          obtain ⟨v17,hv17,h⟩ := bd h
          obtain ⟨v18,hv18,h⟩ := bd h
          obtain ⟨v19,hv19,h⟩ := bd h
          refine CW.dk ?_
          refine d_mv [(1,_)] ?_
          refine d_mv [(5,_)] ?_
          refine dG [(88,_),(1,_),(89,_)] [([(90,some (T.addr 1 [s13.2.1.toNat]))],[(90,0)])] ⟨rfl,rfl,rfl,trivial⟩ (fun E h => IxOk.opE (x_ix (f := lV) row_23 hv14 (locA h.1 h.2.1 rfl rfl) h.2.2.1 rfl) rfl) ?_
          refine dG [(90,_),(1,_)] [([(91,some (T.same 1 [s13.2.1.toNat]))],[(91,0)])] ⟨rfl,rfl,trivial⟩ (fun E h => IxOk.opE (x_ld (var_22.h _ rfl rfl) h.1 h.2.1 (getc hv14 rfl) rfl) rfl) ?_
          refine d_mv [(10,_)] ?_
          refine d_mv [(1,_)] ?_
          refine d_mv [(5,_)] ?_
          refine dG [(93,_),(1,_),(94,_)] [([(95,some (T.addr 1 [s13.2.1.toNat]))],[(95,0)])] ⟨rfl,rfl,rfl,trivial⟩ (fun E h => IxOk.opE (x_ix (f := lV) row_23 hv15 (locA h.1 h.2.1 rfl rfl) h.2.2.1 rfl) rfl) ?_
          refine dG [(95,_),(1,_)] [([(96,some (T.same 1 [s13.2.1.toNat]))],[(96,0)])] ⟨rfl,rfl,trivial⟩ (fun E h => IxOk.opE (x_ld (var_22.h _ rfl rfl) h.1 h.2.1 (getc hv15 rfl) rfl) rfl) ?_
          refine d_mv [(10,_)] ?_
          refine dG [(96,_),(1,_),(97,_)] [([(98,some (T.addr 1 [s16.2.toNat,s13.2.1.toNat]))],[(98,0)])] ⟨rfl,rfl,rfl,trivial⟩ (fun E h => IxOk.opE (x_ix (f := I) row_22 hv16 (locA h.1 h.2.1 (getc hv15 rfl) rfl) h.2.2.1 rfl) rfl) ?_
          refine dG [(98,_),(1,_)] [([(99,some (I v16))],[(99,0)])] ⟨rfl,rfl,trivial⟩ (fun E h => IxOk.opE (x_ld (var_2.h _ rfl rfl) h.1 h.2.1 (getc hv15 (getc hv16 rfl)) rfl) rfl) ?_
          refine d_mv [(8,_)] ?_
          refine d_mul [(99,_),(100,_)] ?_
          refine d_mv [(0,_)] ?_
          refine d_rem [(101,_),(102,_)] ?_
          refine dG [(91,_),(1,_),(92,_)] [([(104,some (T.addr 1 [s16.2.toNat,s13.2.1.toNat]))],[(104,0)])] ⟨rfl,rfl,rfl,trivial⟩ (fun E h => IxOk.opE (x_ix (f := I) row_22 hv19 (locA h.1 h.2.1 (getc hv14 rfl) rfl) h.2.2.1 rfl) rfl) ?_
          refine dG [(104,_),(1,_),(103,_)] [([(1,some (L 1 lV (s16.1.set s13.2.1.toNat (v14.set s16.2.toNat v18))))],[(1,2)])] ⟨rfl,rfl,rfl,trivial⟩ (fun E h => IxOk.opE (x_st inf_2 rfl h.1 h.2.1 (getc hv14 (getc hv19 rfl)) (setc hv14 (setc hv19 rfl)) h.2.2.1 (clean_of (Enc.clean (f := I) _)) rfl) rfl) ?_
          refine dNA mixedP ?_
          refine nB ?_
          refine nA ?_
          refine CW.region ?_
          obtain ⟨v20,hv20,h⟩ := bd h
          refine a_add ?_
          refine a_mv ?_
          refine RW.nil ?_
          exact eN h
         ·refine CW.exit ?_
          refine xA ?_
          exact eX h
        ·obtain ⟨rfl,hg⟩ := hq
         refine xB ?_
         refine nA ?_
         refine CW.ghost hg ?_
         refine CW.seq ?_
         refine sR ?_
         refine a_mv ?_
         refine a_len ?_
         refine a_mv ?_
         refine rN ?_
         refine CW.block ?_
         obtain ⟨r30,hr30,h⟩ := bd h
         refine CW.lp (s := (r21,0)) (l3_impl_reduceRows x0 s13 r21) (fun s18 : (List (List Int)) × Int => envL [(0,I x0),(1,L 1 lV s18.1),(5,I s13.2.1),(6,I s13.2.2),(107,I (r21.length : Int)),(108,I s18.2)]) (fun (r30 : (List (List Int))) e E => e = .exit 6 ∧ Ghost ⟨St,W,w0,Try.f66.ntmps⟩ E (envL [(0,I x0),(1,L 1 lV r30),(5,I s13.2.1),(6,I s13.2.2)])) (.has ⟨rfl,rfl,rfl,rfl,rfl,rfl,trivial⟩) (fun s18 x h => ?_) hr30 (fun e E hq => ?_)
         ·refine sR ?_
          refine a_lss ?_
          refine rN ?_
          refine CW.seq ?_
          refine cn h (fun hc h => ?_) (fun hc h => ?_)
          ·refine CW.skip ?_
           refine nA ?_
           refine CW.seq ?_
           refine CW.block ?_
           refine sR ?_
           refine a_mv ?_
           refine a_as ?_
           refine rN ?_
           refine sR ?_
           refine a_mv ?_
           refine a_mv ?_
           refine a_neq ?_
           refine rN ?_
           refine cn h (fun hc h => ?_) (fun hc h => ?_)
           ·obtain ⟨v22,hv22,h⟩ := bd h
            obtain ⟨v23,hv23,h⟩ := bd h
            obtain ⟨v24,hv24,h⟩ := bd h
            obtain ⟨v25,hv25,h⟩ := bd h
            obtain ⟨v26,hv26,h⟩ := bd h
            obtain ⟨r27,hr27,h⟩ := bd h
            refine CW.dk ?_
            refine d_mv [(1,_)] ?_
            refine d_mv [(11,_)] ?_
            refine dG [(114,_),(1,_),(115,_)] [([(116,some (T.addr 1 [s18.2.toNat]))],[(116,0)])] ⟨rfl,rfl,rfl,trivial⟩ (fun E h => IxOk.opE (x_ix (f := lV) row_23 hv22 (locA h.1 h.2.1 rfl rfl) h.2.2.1 rfl) rfl) ?_
            refine dG [(116,_),(1,_)] [([(117,some (T.same 1 [s18.2.toNat]))],[(117,0)])] ⟨rfl,rfl,trivial⟩ (fun E h => IxOk.opE (x_ld (var_22.h _ rfl rfl) h.1 h.2.1 (getc hv22 rfl) rfl) rfl) ?_
            refine d_mv [(1,_)] ?_
            refine d_mv [(5,_)] ?_
            refine dG [(118,_),(1,_),(119,_)] [([(120,some (T.addr 1 [s13.2.1.toNat]))],[(120,0)])] ⟨rfl,rfl,rfl,trivial⟩ (fun E h => IxOk.opE (x_ix (f := lV) row_23 hv23 (locA h.1 h.2.1 rfl rfl) h.2.2.1 rfl) rfl) ?_
            refine dG [(120,_),(1,_)] [([(121,some (T.same 1 [s13.2.1.toNat]))],[(121,0)])] ⟨rfl,rfl,trivial⟩ (fun E h => IxOk.opE (x_ld (var_22.h _ rfl rfl) h.1 h.2.1 (getc hv23 rfl) rfl) rfl) ?_
            refine d_mv [(1,_)] ?_
            refine d_mv [(11,_)] ?_
            refine dG [(122,_),(1,_),(123,_)] [([(124,some (T.addr 1 [s18.2.toNat]))],[(124,0)])] ⟨rfl,rfl,rfl,trivial⟩ (fun E h => IxOk.opE (x_ix (f := lV) row_23 hv24 (locA h.1 h.2.1 rfl rfl) h.2.2.1 rfl) rfl) ?_
            refine dG [(124,_),(1,_)] [([(125,some (T.same 1 [s18.2.toNat]))],[(125,0)])] ⟨rfl,rfl,trivial⟩ (fun E h => IxOk.opE (x_ld (var_22.h _ rfl rfl) h.1 h.2.1 (getc hv24 rfl) rfl) rfl) ?_
            refine d_mv [(6,_)] ?_
            refine dG [(125,_),(1,_),(126,_)] [([(127,some (T.addr 1 [s13.2.2.toNat,s18.2.toNat]))],[(127,0)])] ⟨rfl,rfl,rfl,trivial⟩ (fun E h => IxOk.opE (x_ix (f := I) row_22 hv25 (locA h.1 h.2.1 (getc hv24 rfl) rfl) h.2.2.1 rfl) rfl) ?_
            refine dG [(127,_),(1,_)] [([(128,some (I v25))],[(128,0)])] ⟨rfl,rfl,trivial⟩ (fun E h => IxOk.opE (x_ld (var_2.h _ rfl rfl) h.1 h.2.1 (getc hv24 (getc hv25 rfl)) rfl) rfl) ?_
            refine d_neg [(128,_)] ?_
            refine d_mv [(0,_)] ?_
            refine dG [(117,_),(1,_),(121,_),(129,_),(130,_)] [([(117,some (L 1 I v22)),(1,some ((L 1 lV s18.1).set [s18.2.toNat] T.any))],[(117,1),(1,2)]),([(131,some (T.tup [])),(117,some (L 1 I r27))],[(131,0),(117,1)]),([(1,some (L 1 lV (s18.1.set s18.2.toNat r27))),(117,some (T.same 1 [s18.2.toNat]))],[(1,2),(117,1)])] ⟨rfl,rfl,rfl,rfl,rfl,trivial⟩ (fun E h => IxOk.opE (x_callM (xs := [.tmp 117,.tmp 121,.tmp 129,.tmp 130]) 0 117 1 [s18.2.toNat] Try.call65 (t_impl_addMultiple _ _ _ _ _ hr27) h.1 h.2.1 (getc hv22 rfl) (clean_of (cleanL (Enc.clean (f := I)))) (clean_of (cleanL (Enc.clean (f := I)))) (Enc.rofree (f := L 1 I) _) (Enc.rofree (f := L 1 I) _) ⟨(agLd rfl (clean_of (cleanL (Enc.clean (f := I)))) (Enc.rofree (f := L 1 I) _)),⟨(agM _ (keepL h.2.2.1) (cloS rfl (getHole hv22 hv23 (by assumption)) inferInstance) (argClS rfl (getHole hv22 hv23 (by assumption)) rfl rfl)),⟨(agM _ (keepL h.2.2.2.1) rfl rfl),⟨(agM _ (keepL h.2.2.2.2.1) rfl rfl),trivial⟩⟩⟩⟩ resN (setc hv22 rfl) rfl rfl rfl) rfl) ?_
            refine dNA mixedP ?_
            refine nB ?_
            refine nA ?_
            refine CW.to [(0,I x0),(1,L 1 lV (s18.1.set s18.2.toNat r27)),(5,I s13.2.1),(6,I s13.2.2),(107,I (r21.length : Int)),(108,I s18.2)] ⟨rfl,rfl,rfl,rfl,rfl,rfl,trivial⟩ ?_
            refine CW.region ?_
            obtain ⟨v28,hv28,h⟩ := bd h
            refine a_add ?_
            refine a_mv ?_
            refine RW.nil ?_
            exact eN h
           ·refine CW.skip ?_
            refine nB ?_
            refine nA ?_
            refine CW.region ?_
            obtain ⟨v29,hv29,h⟩ := bd h
            refine a_add ?_
            refine a_mv ?_
            refine RW.nil ?_
            exact eN h
          ·refine CW.exit ?_
           refine xA ?_
           exact eX h
         ·obtain ⟨rfl,hg⟩ := hq
          refine xB ?_
          refine nA ?_
          refine CW.ghost hg ?_
          refine CW.region ?_
          refine a_mv ?_
          obtain ⟨v31,hv31,h⟩ := bd h
          refine oP (x_add hv31 rfl rfl rfl) ?_
          refine a_as ?_
          refine RW.nil ?_
          refine nB ?_
          refine nA ?_
          refine CW.region ?_
          refine a_mv ?_
          obtain ⟨v32,hv32,h⟩ := bd h
          refine oP (x_add hv32 rfl rfl rfl) ?_
          refine a_as ?_
          refine RW.nil ?_
          exact eN h
    ·refine CW.exit ?_
     refine xA ?_
     exact eX h
   ·have h := cF hc h
    refine sk2 ?_
    refine sk2 ?_
    refine sk2 ?_
    refine sk2 ?_
    refine a_pick ?_
    refine rN ?_
    refine CW.condF rfl ?_
    refine CW.exit ?_
    refine xA ?_
    exact eX h
  ·have h := cF hc h
   refine sk2 ?_
   refine sk2 ?_
   refine sk2 ?_
   refine sk2 ?_
   refine sk2 ?_
   refine sk2 ?_
   refine a_pick ?_
   refine a_mv ?_
   refine sk2 ?_
   refine sk2 ?_
   refine sk2 ?_
   refine sk2 ?_
   refine a_pick ?_
   refine rN ?_
   refine CW.condF rfl ?_
   refine CW.exit ?_
   refine xA ?_
   exact eX h
 ·obtain ⟨rfl,hg⟩ := hq
  refine xB ?_
  refine nA ?_
  refine CW.ghost hg ?_
  refine sR ?_
  refine a_mv ?_
  refine a_mv ?_
  refine a_mv ?_
  refine RW.ghost (Ghost.tr 135 1 _ rfl rfl (clean_of (cleanL (Enc.clean (f := lV)))) rfl) ?_
  obtain ⟨v34,hv34,h⟩ := bd h
  refine oP (x_cut (f := lV) elt_23 hv34 rfl rfl (.inr ⟨_,rfl,rfl⟩) rfl) ?_
  refine a_as ?_
  refine RW.ghost (Ghost.tr 4 138 _ rfl rfl (clean_of (cleanL (Enc.clean (f := lV)))) rfl) ?_
  refine rN ?_
  refine CW.ret ?_
  obtain rfl := sI h
  exact rT
end Go.Wk

namespace Go.Wk
open Go Go.Proofs Go.Ab
set_option maxRecDepth 100000
theorem t_spec_l01Mod (x0 : Int) (x1 : Int) (r : Int) (h : f_spec_l01Mod x0 x1 = some r) : FnC Try.prog 62 [I x0,I x1] [I r] [] := by
 refine fB Try.func62 (fun St W w0 v => ?_)
 refine sR ?_
 refine a_as ?_
 refine rN ?_
 refine sR ?_
 refine a_mv ?_
 refine a_mv ?_
 obtain ⟨v1,hv1,h⟩ := bd h
 refine a_rem ?_
 refine a_as ?_
 refine rN ?_
 refine CW.seq ?_
 refine sR ?_
 refine a_mv ?_
 refine a_lss ?_
 refine rN ?_
 refine cn h (fun hc h => ?_) (fun hc h => ?_)
 ·refine CW.region ?_
  refine a_mv ?_
  refine a_mv ?_
  obtain ⟨v2,hv2,h⟩ := bd h
  refine a_add ?_
  refine a_as ?_
  refine rN ?_
  refine sR ?_
  refine a_mv ?_
  refine a_as ?_
  refine rN ?_
  refine CW.ret ?_
  obtain rfl := sI h
  exact rT
 ·refine CW.skip ?_
  refine nA ?_
  refine sR ?_
  refine a_mv ?_
  refine a_as ?_
  refine rN ?_
  refine CW.ret ?_
  obtain rfl := sI h
  exact rT
theorem t_spec_l02Lead (x0 : List Int) (r : Int) (h : f_spec_l02Lead x0 = some r) : FnC Try.prog 102 [T.ro (lV x0)] [I r] [] := by
 refine fB Try.func102 (fun St W w0 v => ?_)
 refine sR ?_
 refine a_as ?_
 refine rN ?_
 refine CW.seq ?_
 refine sR ?_
 refine a_as ?_
 refine rN ?_
 refine CW.block ?_
 obtain ⟨r3,hr3,h⟩ := bd h
 refine CW.lp (s := 0) (l1_spec_l02Lead x0) (fun s1 : Int => envL [(0,T.ro (lV x0)),(3,I s1)]) (fun (x : Unit ⊕ Int) e E => match x with | (.inl r3) => e = .exit 0 ∧ Ghost ⟨St,W,w0,Try.f102.ntmps⟩ E (envL [(0,T.ro (lV x0))]) | (.inr r3) => e = .ret ∧ RetG ⟨St,W,w0,Try.f102.ntmps⟩ Try.prog Try.f102.results [T.ro (lV x0)] [I r3] [] .ret E) (.has ⟨rfl,rfl,trivial⟩) (fun s1 x h => ?_) hr3 (fun e E hq => ?_)
 ·refine CW.seq ?_
  refine sR ?_
  refine a_mv ?_
  refine a_mv ?_
  refine a_lenr ?_
  refine a_lss ?_
  refine rN ?_
  refine cn h (fun hc h => ?_) (fun hc h => ?_)
  ·refine CW.skip ?_
   refine nA ?_
   refine CW.seq ?_
   refine CW.block ?_
   refine sR ?_
   refine a_mv ?_
   refine a_mv ?_
   obtain ⟨v1,hv1,h⟩ := bd h
   refine a_ixr ?_
   refine a_ldr ?_
   refine a_neq ?_
   refine rN ?_
   refine cn h (fun hc h => ?_) (fun hc h => ?_)
   ·refine sR ?_
    refine a_mv ?_
    refine a_as ?_
    refine rN ?_
    refine CW.ret ?_
    refine rB ?_
    refine rA ?_
    exact eX h
   ·refine CW.skip ?_
    refine nB ?_
    refine nA ?_
    refine CW.region ?_
    refine a_mv ?_
    obtain ⟨v2,hv2,h⟩ := bd h
    refine a_add ?_
    refine a_as ?_
    refine RW.nil ?_
    exact eN h
  ·refine CW.exit ?_
   refine xA ?_
   exact eX h
 ·rcases r3 with r3 | r3
  ·obtain ⟨rfl,hg⟩ := hq
   refine xB ?_
   refine nA ?_
   refine CW.ghost hg ?_
   refine sR ?_
   refine a_mv ?_
   refine a_lenr ?_
   refine a_as ?_
   refine rN ?_
   refine CW.ret ?_
   obtain rfl := sI h
   exact rT
  ·obtain ⟨rfl,hq⟩ := hq
   refine rB ?_
   refine rA ?_
   obtain rfl := sI h
   exact hq
theorem t_spec_l02Add (x0 : Int) (x1 : List Int) (x2 : Int) (x3 : List Int) (r : (List Int)) (h : f_spec_l02Add x0 x1 x2 x3 = some r) : FnC Try.prog 157 [I x0,T.ro (lV x1),I x2,T.ro (lV x3)] [lV r] [] := by
 refine fB Try.func157 (fun St W w0 v => ?_)
 refine sR ?_
 refine oP (x_nil 1 rfl) ?_
 refine rN ?_
 refine sR ?_
 refine a_mv ?_
 obtain ⟨r1,hr1,h⟩ := bd h
 refine cA Try.call72 (t_spec_l01Own _ _ hr1) ?_
 refine a_as ?_
 refine RW.ghost (Ghost.tr 9 12 _ rfl rfl (clean_of (cleanL (Enc.clean (f := I)))) rfl) ?_
 refine rN ?_
 refine CW.seq ?_
 refine sR ?_
 refine a_as ?_
 refine rN ?_
 refine CW.block ?_
 obtain ⟨r9,hr9,h⟩ := bd h
 refine CW.lp (s := (r1,0)) (l1_spec_l02Add x0 x2 x3) (fun s1 : (List Int) × Int => envL [(0,I x0),(2,I x2),(3,T.ro (lV x3)),(9,L 1 I s1.1),(10,I s1.2)]) (fun (r9 : (List Int)) e E => e = .exit 0 ∧ Ghost ⟨St,W,w0,Try.f157.ntmps⟩ E (envL [(9,L 1 I r9)])) (.has ⟨rfl,rfl,rfl,rfl,rfl,trivial⟩) (fun s1 x h => ?_) hr9 (fun e E hq => ?_)
 ·refine CW.seq ?_
  refine sR ?_
  refine a_mv ?_
  refine a_mv ?_
  refine a_len ?_
  refine a_lss ?_
  refine a_mv ?_
  refine RW.cases 17 _ rfl (fun hc => ?_) (fun hc => ?_)
  ·have h := cT hc h
   refine g_mv ?_
   refine g_mv ?_
   refine g_lenr ?_
   refine g_lss ?_
   refine a_pick ?_
   refine rN ?_
   refine cn h (fun hc h => ?_) (fun hc h => ?_)
   ·refine CW.skip ?_
    refine nA ?_
    refine CW.seq ?_
    refine CW.block ?_
    obtain ⟨v2,hv2,h⟩ := bd h
    obtain ⟨v3,hv3,h⟩ := bd h
    obtain ⟨v4,hv4,h⟩ := bd h
    obtain ⟨v5,hv5,h⟩ := bd h
    obtain ⟨r6,hr6,h⟩ := bd h
    obtain ⟨v7,hv7,h⟩ := bd h
    refine CW.dk ?_
    refine d_mv [(9,_)] ?_
    refine d_mv [(10,_)] ?_
    refine d_mv [(9,_)] ?_
    refine d_mv [(10,_)] ?_
    refine dG [(27,_),(9,_),(28,_)] [([(29,some (T.addr 9 [s1.2.toNat]))],[(29,0)])] ⟨rfl,rfl,rfl,trivial⟩ (fun E h => IxOk.opE (x_ix (f := I) row_22 hv2 (locA h.1 h.2.1 rfl rfl) h.2.2.1 rfl) rfl) ?_
    refine dG [(29,_),(9,_)] [([(30,some (I v2))],[(30,0)])] ⟨rfl,rfl,trivial⟩ (fun E h => IxOk.opE (x_ld (var_2.h _ rfl rfl) h.1 h.2.1 (getc hv2 rfl) rfl) rfl) ?_
    refine d_mv [(2,_)] ?_
    refine d_mv [(3,_)] ?_
    refine d_mv [(10,_)] ?_
    refine d_ixr [(32,_),(33,_)] ?_
    refine d_ldr [(34,_)] ?_
    refine d_mul [(31,_),(35,_)] ?_
    refine d_add [(30,_),(36,_)] ?_ (h := fun _ h => (x_add hv5 h.1 h.2.1 rfl))
    refine d_mv [(0,_)] ?_
    refine dC [(37,_),(38,_)] Try.call62 (t_spec_l01Mod _ _ _ hr6) ?_
    refine dG [(25,_),(9,_),(26,_)] [([(40,some (T.addr 9 [s1.2.toNat]))],[(40,0)])] ⟨rfl,rfl,rfl,trivial⟩ (fun E h => IxOk.opE (x_ix (f := I) row_22 hv7 (locA h.1 h.2.1 rfl rfl) h.2.2.1 rfl) rfl) ?_
    refine dG [(40,_),(9,_),(39,_)] [([(9,some (L 1 I (s1.1.set s1.2.toNat r6)))],[(9,1)])] ⟨rfl,rfl,rfl,trivial⟩ (fun E h => IxOk.opE (x_st inf_2 rfl h.1 h.2.1 (getc hv7 rfl) (setc hv7 rfl) h.2.2.1 (clean_of (Enc.clean (f := I) _)) rfl) rfl) ?_
    refine dNA mixedP ?_
    refine nB ?_
    refine nA ?_
    refine CW.to [(0,I x0),(2,I x2),(3,T.ro (lV x3)),(9,L 1 I (s1.1.set s1.2.toNat r6)),(10,I s1.2)] ⟨rfl,rfl,rfl,rfl,rfl,trivial⟩ ?_
    refine CW.region ?_
    refine a_mv ?_
    obtain ⟨v8,hv8,h⟩ := bd h
    refine a_add ?_
    refine a_as ?_
    refine RW.nil ?_
    exact eN h
   ·refine CW.exit ?_
    refine xA ?_
    exact eX h
  ·have h := cF hc h
   refine sk2 ?_
   refine sk2 ?_
   refine sk2 ?_
   refine sk2 ?_
   refine a_pick ?_
   refine rN ?_
   refine CW.condF rfl ?_
   refine CW.exit ?_
   refine xA ?_
   exact eX h
 ·obtain ⟨rfl,hg⟩ := hq
  refine xB ?_
  refine nA ?_
  refine CW.ghost hg ?_
  refine sR ?_
  refine a_mv ?_
  refine a_as ?_
  refine RW.ghost (Ghost.tr 8 9 _ rfl rfl (clean_of (cleanL (Enc.clean (f := I)))) rfl) ?_
  refine rN ?_
  refine CW.ret ?_
  obtain rfl := sI h
  exact rT
theorem t_spec_l02Clear (x0 : Int) (x1 : List (List Int)) (x2 : List Int) (r : (List Int)) (h : f_spec_l02Clear x0 x1 x2 = some r) : FnC Try.prog 154 [I x0,T.ro (lM x1),T.ro (lV x2)] [lV r] [] := by
 refine fB Try.func154 (fun St W w0 v => ?_)
 refine sR ?_
 refine oP (x_nil 1 rfl) ?_
 refine rN ?_
 refine sR ?_
 refine a_mv ?_
 obtain ⟨r1,hr1,h⟩ := bd h
 refine cA Try.call72 (t_spec_l01Own _ _ hr1) ?_
 refine a_as ?_
 refine RW.ghost (Ghost.tr 7 11 _ rfl rfl (clean_of (cleanL (Enc.clean (f := I)))) rfl) ?_
 refine rN ?_
 refine CW.seq ?_
 refine sR ?_
 refine a_as ?_
 refine rN ?_
 refine CW.block ?_
 obtain ⟨r12,hr12,h⟩ := bd h
 refine CW.lp (s := (r1,0)) (l1_spec_l02Clear x0 x1) (fun s1 : (List Int) × Int => envL [(0,I x0),(1,T.ro (lM x1)),(7,L 1 I s1.1),(8,I s1.2)]) (fun (r12 : (List Int)) e E => e = .exit 0 ∧ Ghost ⟨St,W,w0,Try.f154.ntmps⟩ E (envL [(7,L 1 I r12)])) (.has ⟨rfl,rfl,rfl,rfl,trivial⟩) (fun s1 x h => ?_) hr12 (fun e E hq => ?_)
 ·refine CW.seq ?_
  refine sR ?_
  refine a_mv ?_
  refine a_mv ?_
  refine a_lenr ?_
  refine a_lss ?_
  refine rN ?_
  refine cn h (fun hc h => ?_) (fun hc h => ?_)
  ·refine CW.skip ?_
   refine nA ?_
   refine CW.seq ?_
   refine CW.block ?_
   refine sR ?_
   refine a_mv ?_
   refine a_mv ?_
   obtain ⟨v2,hv2,h⟩ := bd h
   refine oP (x_ixr (f := lV) row_23 hv2 (locB rfl rfl) rfl rfl) ?_
   refine a_ldr ?_
   obtain ⟨r3,hr3,h⟩ := bd h
   refine cA Try.call102 (t_spec_l02Lead _ _ hr3) ?_
   refine a_as ?_
   refine rN ?_
   refine sR ?_
   refine a_mv ?_
   refine a_mv ?_
   refine a_len ?_
   refine a_lss ?_
   refine a_mv ?_
   refine RW.cases 27 _ rfl (fun hc => ?_) (fun hc => ?_)
   ·have h := cT hc h
    refine g_mv ?_
    refine g_mv ?_
    obtain ⟨v4,hv4,h⟩ := bd h
    refine RW.cons (IxOk.guard 4 true 27 (x_ix (f := I) row_22 hv4 (locA rfl rfl rfl rfl) rfl rfl)) ?_
    refine RW.cons (IxOk.guard 4 true 27 (x_ld (var_2.h _ rfl rfl) rfl rfl (getc hv4 rfl) rfl)) ?_
    refine g_neq ?_
    refine a_pick ?_
    refine rN ?_
    refine cn h (fun hc h => ?_) (fun hc h => ?_)
    ·obtain ⟨v5,hv5,h⟩ := bd h
     obtain ⟨v6,hv6,h⟩ := bd h
     obtain ⟨v7,hv7,h⟩ := bd h
     obtain ⟨r8,hr8,h⟩ := bd h
     refine CW.dk ?_
     refine d_mv [(0,_)] ?_
     refine d_mv [(7,_)] ?_
     refine d_mv [(0,_)] ?_
     refine d_mv [(7,_)] ?_
     refine d_mv [(9,_)] ?_
     refine dG [(37,_),(7,_),(38,_)] [([(39,some (T.addr 7 [r3.toNat]))],[(39,0)])] ⟨rfl,rfl,rfl,trivial⟩ (fun E h => IxOk.opE (x_ix (f := I) row_22 hv5 (locA h.1 h.2.1 rfl rfl) h.2.2.1 rfl) rfl) ?_
     refine dG [(39,_),(7,_)] [([(40,some (I v5))],[(40,0)])] ⟨rfl,rfl,trivial⟩ (fun E h => IxOk.opE (x_ld (var_2.h _ rfl rfl) h.1 h.2.1 (getc hv5 rfl) rfl) rfl) ?_
     refine d_sub [(36,_),(40,_)] ?_
     refine d_mv [(1,_)] ?_
     refine d_mv [(8,_)] ?_
     refine dG [(42,_),(43,_)] [([(44,some (T.ro ((Pt lV) v7)))],[(44,0)])] ⟨rfl,rfl,trivial⟩ (fun E h => IxOk.opE (x_ixr (f := lV) row_23 hv7 (locB h.1 rfl) h.2.1 rfl) rfl) ?_
     refine d_ldr [(44,_)] ?_
     refine dC [(34,_),(35,_),(7,_),(41,_),(45,_)] Try.call157 (t_spec_l02Add _ _ _ _ _ hr8) ?_
     refine d_as [(46,_)] ?_
     refine dNA mixedP ?_
     refine nB ?_
     refine nA ?_
     refine CW.to [(0,I x0),(1,T.ro (lM x1)),(7,T.same 46 []),(8,I s1.2),(46,L 1 I r8)] ⟨rfl,rfl,rfl,rfl,rfl,trivial⟩ ?_
     refine CW.region ?_
     refine a_mv ?_
     obtain ⟨v9,hv9,h⟩ := bd h
     refine a_add ?_
     refine a_as ?_
     refine RW.ghost (Ghost.tr 7 46 _ rfl rfl (clean_of (cleanL (Enc.clean (f := I)))) rfl) ?_
     refine RW.nil ?_
     exact eN h
    ·refine CW.skip ?_
     refine nB ?_
     refine nA ?_
     refine CW.region ?_
     refine a_mv ?_
     obtain ⟨v10,hv10,h⟩ := bd h
     refine a_add ?_
     refine a_as ?_
     refine RW.nil ?_
     exact eN h
   ·have h := cF hc h
    refine sk2 ?_
    refine sk2 ?_
    refine sk2 ?_
    refine sk2 ?_
    refine sk2 ?_
    refine a_pick ?_
    refine rN ?_
    refine CW.condF rfl ?_
    refine CW.skip ?_
    refine nB ?_
    refine nA ?_
    refine CW.region ?_
    refine a_mv ?_
    obtain ⟨v11,hv11,h⟩ := bd h
    refine a_add ?_
    refine a_as ?_
    refine RW.nil ?_
    exact eN h
  ·refine CW.exit ?_
   refine xA ?_
   exact eX h
 ·obtain ⟨rfl,hg⟩ := hq
  refine xB ?_
  refine nA ?_
  refine CW.ghost hg ?_
  refine sR ?_
  refine a_mv ?_
  refine a_as ?_
  refine RW.ghost (Ghost.tr 6 7 _ rfl rfl (clean_of (cleanL (Enc.clean (f := I)))) rfl) ?_
  refine rN ?_
  refine CW.ret ?_
  obtain rfl := sI h
  exact rT
theorem t_spec_l01Inv (x0 : Int) (x1 : Int) (r : Int) (h : f_spec_l01Inv x0 x1 = some r) : FnC Try.prog 156 [I x0,I x1] [I r] [] := by
 refine fB Try.func156 (fun St W w0 v => ?_)
 refine sR ?_
 refine a_as ?_
 refine rN ?_
 refine CW.seq ?_
 refine sR ?_
 refine a_as ?_
 refine rN ?_
 refine CW.block ?_
 obtain ⟨r5,hr5,h⟩ := bd h
 refine CW.lp (s := 1) (l1_spec_l01Inv x0 x1) (fun s1 : Int => envL [(0,I x0),(1,I x1),(5,I s1)]) (fun (x : Unit ⊕ Int) e E => match x with | (.inl r5) => e = .exit 0 ∧ Ghost ⟨St,W,w0,Try.f156.ntmps⟩ E (envL []) | (.inr r5) => e = .ret ∧ RetG ⟨St,W,w0,Try.f156.ntmps⟩ Try.prog Try.f156.results [I x0,I x1] [I r5] [] .ret E) (.has ⟨rfl,rfl,rfl,trivial⟩) (fun s1 x h => ?_) hr5 (fun e E hq => ?_)
 ·refine CW.seq ?_
  refine sR ?_
  refine a_mv ?_
  refine a_mv ?_
  refine a_lss ?_
  refine rN ?_
  refine cn h (fun hc h => ?_) (fun hc h => ?_)
  ·refine CW.skip ?_
   refine nA ?_
   refine CW.seq ?_
   refine CW.block ?_
   refine sR ?_
   refine a_mv ?_
   refine a_mv ?_
   obtain ⟨r1,hr1,h⟩ := bd h
   refine cA Try.call62 (t_spec_l01Mod _ _ _ hr1) ?_
   refine a_mv ?_
   obtain ⟨v2,hv2,h⟩ := bd h
   refine a_mul ?_
   refine a_mv ?_
   obtain ⟨v3,hv3,h⟩ := bd h
   refine a_rem ?_
   refine a_eql ?_
   refine rN ?_
   refine cn h (fun hc h => ?_) (fun hc h => ?_)
   ·refine sR ?_
    refine a_mv ?_
    refine a_as ?_
    refine rN ?_
    refine CW.ret ?_
    refine rB ?_
    refine rA ?_
    exact eX h
   ·refine CW.skip ?_
    refine nB ?_
    refine nA ?_
    refine CW.region ?_
    refine a_mv ?_
    obtain ⟨v4,hv4,h⟩ := bd h
    refine a_add ?_
    refine a_as ?_
    refine RW.nil ?_
    exact eN h
  ·refine CW.exit ?_
   refine xA ?_
   exact eX h
 ·rcases r5 with r5 | r5
  ·obtain ⟨rfl,hg⟩ := hq
   refine xB ?_
   refine nA ?_
   refine CW.ghost hg ?_
   refine sR ?_
   refine a_as ?_
   refine rN ?_
   refine CW.ret ?_
   obtain rfl := sI h
   exact rT
  ·obtain ⟨rfl,hq⟩ := hq
   refine rB ?_
   refine rA ?_
   obtain rfl := sI h
   exact hq
theorem t_spec_l02Scale (x0 : Int) (x1 : Int) (x2 : List Int) (r : (List Int)) (h : f_spec_l02Scale x0 x1 x2 = some r) : FnC Try.prog 155 [I x0,I x1,T.ro (lV x2)] [lV r] [] := by
 refine fB Try.func155 (fun St W w0 v => ?_)
 refine sR ?_
 refine oP (x_nil 1 rfl) ?_
 refine rN ?_
 refine sR ?_
 refine a_mv ?_
 refine a_mv ?_
 refine a_lenr ?_
 obtain ⟨m1,hm1,h⟩ := bd h
 refine oP (x_makeL (f := I) (z := 0) elt_22 (rfl) hm1 rfl rfl rfl) ?_
 refine a_mv ?_
 refine a_mv ?_
 obtain ⟨r2,hr2,h⟩ := bd h
 refine cA Try.call157 (t_spec_l02Add _ _ _ _ _ hr2) ?_
 refine a_as ?_
 refine RW.ghost (Ghost.tr 6 13 _ rfl rfl (clean_of (cleanL (Enc.clean (f := I)))) rfl) ?_
 refine rN ?_
 refine CW.ret ?_
 obtain rfl := sI h
 exact rT
theorem t_spec_l02Reduce (x0 : Int) (x1 : List (List Int)) (r : (List (List Int))) (h : f_spec_l02Reduce x0 x1 = some r) : FnC Try.prog 137 [I x0,T.ro (lM x1)] [(L 1 (Ro lV)) r] [] := by
 refine fB Try.func137 (fun St W w0 v => ?_)
 refine sR ?_
 refine oP (x_nil 1 rfl) ?_
 refine rN ?_
 refine sR ?_
 refine oP (x_bs0 elt_23 rfl) ?_
 refine a_as ?_
 refine RW.ghost (Ghost.tr 5 12 _ rfl rfl (clean_of trivial) rfl) ?_
 refine rN ?_
 refine CW.seq ?_
 refine sR ?_
 refine a_as ?_
 refine rN ?_
 refine CW.block ?_
 obtain ⟨r36,hr36,h⟩ := bd h
 refine CW.lp (s := ([],0)) (l2_spec_l02Reduce x0 x1) (fun s5 : (List (List Int)) × Int => envL [(0,I x0),(1,T.ro (lM x1)),(5,L 1 (Ro lV) s5.1),(6,I s5.2)]) (fun (r36 : (List (List Int))) e E => e = .exit 0 ∧ Ghost ⟨St,W,w0,Try.f137.ntmps⟩ E (envL [(5,L 1 (Ro lV) r36)])) (.has ⟨rfl,rfl,rfl,rfl,trivial⟩) (fun s5 x h => ?_) hr36 (fun e E hq => ?_)
 ·refine CW.seq ?_
  refine sR ?_
  refine a_mv ?_
  refine a_mv ?_
  refine a_lenr ?_
  refine a_lss ?_
  refine rN ?_
  refine cn h (fun hc h => ?_) (fun hc h => ?_)
  ·refine CW.skip ?_
   refine nA ?_
   refine CW.seq ?_
   refine CW.block ?_
   refine sR ?_
   refine a_mv ?_
   refine a_mv ?_
   refine a_mv ?_
   refine a_mv ?_
   obtain ⟨v1,hv1,h⟩ := bd h
   refine a_ixr ?_
   refine a_ldr ?_
   obtain ⟨r2,hr2,h⟩ := bd h
   refine cA Try.call154 (t_spec_l02Clear _ _ _ _ hr2) ?_
   refine a_as ?_
   refine RW.ghost (Ghost.tr 7 25 _ rfl rfl (clean_of (cleanL (Enc.clean (f := I)))) rfl) ?_
   refine rN ?_
   refine sR ?_
   refine a_mv ?_
   obtain ⟨r3,hr3,h⟩ := bd h
   refine cA Try.call102 (t_spec_l02Lead _ _ hr3) ?_
   refine a_as ?_
   refine rN ?_
   refine CW.seq ?_
   refine sR ?_
   refine a_mv ?_
   refine a_mv ?_
   refine a_len ?_
   refine a_eql ?_
   refine rN ?_
   refine cn h (fun hc h => ?_) (fun hc h => ?_)
   ·refine CW.exit ?_
    refine xA ?_
    refine xB ?_
    refine nA ?_
    refine CW.region ?_
    refine a_mv ?_
    obtain ⟨v4,hv4,h⟩ := bd h
    refine a_add ?_
    refine a_as ?_
    refine RW.nil ?_
    exact eN h
   ·refine CW.skip ?_
    refine nA ?_
    refine sR ?_
    refine a_mv ?_
    refine a_mv ?_
    refine a_mv ?_
    obtain ⟨v5,hv5,h⟩ := bd h
    refine a_ix ?_
    refine a_ld ?_
    refine a_mv ?_
    obtain ⟨r6,hr6,h⟩ := bd h
    refine cA Try.call156 (t_spec_l01Inv _ _ _ hr6) ?_
    refine a_mv ?_
    obtain ⟨r7,hr7,h⟩ := bd h
    refine cA Try.call155 (t_spec_l02Scale _ _ _ _ hr7) ?_
    refine RW.ghost (Ghost.frz 40 (k := 1) (f := I) (g := I) r7 rfl inferInstance) ?_
    refine a_as ?_
    refine rN ?_
    refine CW.seq ?_
    refine CW.to [(0,I x0),(1,T.ro (lM x1)),(5,L 1 (Ro lV) s5.1),(6,I s5.2),(7,T.ro (lV r7)),(8,I r3)] ⟨rfl,rfl,rfl,rfl,rfl,rfl,trivial⟩ ?_
    refine CW.region ?_
    refine oP (x_bs0 elt_23 rfl) ?_
    refine a_as ?_
    refine a_as ?_
    refine RW.ghost (Ghost.tr 9 41 _ rfl rfl (clean_of trivial) rfl) ?_
    refine rN ?_
    refine CW.seq ?_
    refine sR ?_
    refine a_as ?_
    refine rN ?_
    refine CW.block ?_
    obtain ⟨r32,hr32,h⟩ := bd h
    refine CW.lp (s := ([],false,0)) (l1_spec_l02Reduce x0 s5 r3 r7) (fun s6 : (List (List Int)) × Bool × Int => envL [(0,I x0),(1,T.ro (lM x1)),(5,L 1 (Ro lV) s5.1),(6,I s5.2),(7,T.ro (lV r7)),(8,I r3),(9,L 1 (Ro lV) s6.1),(10,B s6.2.1),(11,I s6.2.2)]) (fun (r32 : ((List (List Int)) × Bool)) e E => e = .exit 2 ∧ Ghost ⟨St,W,w0,Try.f137.ntmps⟩ E (envL [(0,I x0),(1,T.ro (lM x1)),(6,I s5.2),(7,T.ro (lV r7)),(9,L 1 (Ro lV) r32.1),(10,B r32.2)])) (.has ⟨rfl,rfl,rfl,rfl,rfl,rfl,rfl,rfl,rfl,trivial⟩) (fun s6 x h => ?_) hr32 (fun e E hq => ?_)
    ·refine CW.seq ?_
     refine sR ?_
     refine a_mv ?_
     refine a_mv ?_
     refine a_len ?_
     refine a_lss ?_
     refine rN ?_
     refine cn h (fun hc h => ?_) (fun hc h => ?_)
     ·refine CW.skip ?_
      refine nA ?_
      refine CW.seq ?_
      refine CW.block ?_
      refine CW.seq ?_
      refine sR ?_
      refine a_mv ?_
      refine a_not ?_
      refine a_mv ?_
      refine RW.cases 50 _ rfl (fun hc => ?_) (fun hc => ?_)
      ·have h := cT hc h
       refine g_mv ?_
       refine g_mv ?_
       obtain ⟨v8,hv8,h⟩ := bd h
       refine RW.cons (IxOk.guard 2 true 50 (x_ix (f := (Ro lV)) row_23 hv8 (locA rfl rfl rfl rfl) rfl rfl)) ?_
       refine RW.cons (IxOk.guard 2 true 50 (x_ld (var_22.h _ rfl rfl) rfl rfl (getc hv8 rfl) rfl)) ?_
       obtain ⟨r9,hr9,h⟩ := bd h
       refine RW.cons (IxOk.guard 2 true 50 (x_call (xs := [.tmp 54]) Try.call102 (t_spec_l02Lead _ _ hr9) ⟨(agC _ rfl rfl rfl),trivial⟩ (resC (f := I) inferInstance resN) rfl)) ?_
       refine g_mv ?_
       refine g_gtr ?_
       refine a_pick ?_
       refine rN ?_
       refine cn h (fun hc h => ?_) (fun hc h => ?_)
       ·refine sR ?_
        refine a_mv ?_
        refine a_mv ?_
        refine oP (x_bs elt_23 [.tmp 60] [.slot 60 (T.ro (lV r7))] [r7] (Ro lV) ⟨.slot _ _,trivial⟩ (pkS rfl (clean_of trivial) rfl pkN) rfl rfl) ?_
        refine RW.ghost (Ghost.tr 59 9 _ rfl rfl (clean_of (cleanL (fun _ => trivial))) rfl) ?_
        obtain ⟨v10,hv10,h⟩ := bd h
        refine oP (x_appc (f := (Ro lV)) elt_23 (fun _ => rfl) hv10 rfl (locB rfl rfl) rfl) ?_
        refine a_as ?_
        refine RW.ghost (Ghost.tr 9 62 _ rfl rfl (clean_of (cleanL (fun _ => trivial))) rfl) ?_
        refine rN ?_
        refine CW.region ?_
        refine a_as ?_
        refine rN ?_
        obtain ⟨v11,hv11,h⟩ := bd h
        obtain ⟨v12,hv12,h⟩ := bd h
        obtain ⟨v13,hv13,h⟩ := bd h
        obtain ⟨v14,hv14,h⟩ := bd h
        obtain ⟨r15,hr15,h⟩ := bd h
        obtain ⟨v16,hv16,h⟩ := bd h
        refine CW.dk ?_
        refine d_mv [(9,_)] ?_
        refine d_mv [(0,_)] ?_
        refine d_mv [(5,_)] ?_
        refine d_mv [(11,_)] ?_
        refine dG [(65,_),(5,_),(66,_)] [([(67,some (T.addr 5 [s6.2.2.toNat]))],[(67,0)])] ⟨rfl,rfl,rfl,trivial⟩ (fun E h => IxOk.opE (x_ix (f := (Ro lV)) row_23 hv11 (locA h.1 h.2.1 rfl rfl) h.2.2.1 rfl) rfl) ?_
        refine dG [(67,_),(5,_)] [([(68,some (T.ro (lV v11)))],[(68,0)])] ⟨rfl,rfl,trivial⟩ (fun E h => IxOk.opE (x_ld (var_22.h _ rfl rfl) h.1 h.2.1 (getc hv11 rfl) rfl) rfl) ?_
        refine d_mv [(0,_)] ?_
        refine d_mv [(5,_)] ?_
        refine d_mv [(11,_)] ?_
        refine dG [(70,_),(5,_),(71,_)] [([(72,some (T.addr 5 [s6.2.2.toNat]))],[(72,0)])] ⟨rfl,rfl,rfl,trivial⟩ (fun E h => IxOk.opE (x_ix (f := (Ro lV)) row_23 hv12 (locA h.1 h.2.1 rfl rfl) h.2.2.1 rfl) rfl) ?_
        refine dG [(72,_),(5,_)] [([(73,some (T.ro (lV v12)))],[(73,0)])] ⟨rfl,rfl,trivial⟩ (fun E h => IxOk.opE (x_ld (var_22.h _ rfl rfl) h.1 h.2.1 (getc hv12 rfl) rfl) rfl) ?_
        refine d_mv [(8,_)] ?_
        refine d_ixr [(73,_),(74,_)] ?_
        refine d_ldr [(75,_)] ?_
        refine d_sub [(69,_),(76,_)] ?_
        refine d_mv [(7,_)] ?_
        refine dC [(64,_),(68,_),(77,_),(78,_)] Try.call157 (t_spec_l02Add _ _ _ _ _ hr15) ?_
        refine dG [(79,L 1 I r15)] [([(79,some (T.ro (lV r15)))],[(79,1)]),([(80,some (L 1 (Ro lV) [r15]))],[(80,0)])] ⟨rfl,trivial⟩ (fun E h => IxOk.gh (Ghost.frz 79 (k := 1) (f := I) (g := I) r15 h.1 inferInstance) <| IxOk.opE (x_bs elt_23 [.tmp 79] [.slot 79 (T.ro (lV r15))] [r15] (Ro lV) ⟨.slot _ _,trivial⟩ (pkS rfl (clean_of trivial) rfl pkN) rfl rfl) rfl) ?_
        refine dG [(63,T.same 9 []),(9,L 1 (Ro lV) v10),(80,L 1 (Ro lV) [r15])] [([(63,some (L 1 (Ro lV) v10)),(9,some (T.same 63 []))],[(63,1),(9,1)]),([(81,some (L 1 (Ro lV) v16)),(63,some T.any)],[(81,0),(63,1)])] ⟨rfl,rfl,rfl,trivial⟩ (fun E h => IxOk.gh (Ghost.tr 63 9 _ h.1 h.2.1 (clean_of (cleanL (fun _ => trivial))) rfl) <| IxOk.opE (x_appc (f := (Ro lV)) elt_23 (fun _ => rfl) hv16 rfl (locB (keepE h.2.2.1) rfl) rfl) rfl) ?_
        refine d_as [(81,_)] ?_
        refine dNA mixedP ?_
        refine nB ?_
        refine nA ?_
        refine CW.to [(0,I x0),(1,T.ro (lM x1)),(5,L 1 (Ro lV) s5.1),(6,I s5.2),(7,T.ro (lV r7)),(8,I r3),(9,T.same 81 []),(10,B true),(11,I s6.2.2),(81,L 1 (Ro lV) v16)] ⟨rfl,rfl,rfl,rfl,rfl,rfl,rfl,rfl,rfl,rfl,trivial⟩ ?_
        refine CW.region ?_
        refine a_mv ?_
        obtain ⟨v17,hv17,h⟩ := bd h
        refine a_add ?_
        refine a_as ?_
        refine RW.ghost (Ghost.tr 9 81 _ rfl rfl (clean_of (cleanL (fun _ => trivial))) rfl) ?_
        refine RW.nil ?_
        exact eN h
       ·refine CW.skip ?_
        refine nA ?_
        obtain ⟨v18,hv18,h⟩ := bd h
        obtain ⟨v19,hv19,h⟩ := bd h
        obtain ⟨v20,hv20,h⟩ := bd h
        obtain ⟨v21,hv21,h⟩ := bd h
        obtain ⟨r22,hr22,h⟩ := bd h
        obtain ⟨v23,hv23,h⟩ := bd h
        refine CW.dk ?_
        refine d_mv [(9,_)] ?_
        refine d_mv [(0,_)] ?_
        refine d_mv [(5,_)] ?_
        refine d_mv [(11,_)] ?_
        refine dG [(65,_),(5,_),(66,_)] [([(67,some (T.addr 5 [s6.2.2.toNat]))],[(67,0)])] ⟨rfl,rfl,rfl,trivial⟩ (fun E h => IxOk.opE (x_ix (f := (Ro lV)) row_23 hv18 (locA h.1 h.2.1 rfl rfl) h.2.2.1 rfl) rfl) ?_
        refine dG [(67,_),(5,_)] [([(68,some (T.ro (lV v18)))],[(68,0)])] ⟨rfl,rfl,trivial⟩ (fun E h => IxOk.opE (x_ld (var_22.h _ rfl rfl) h.1 h.2.1 (getc hv18 rfl) rfl) rfl) ?_
        refine d_mv [(0,_)] ?_
        refine d_mv [(5,_)] ?_
        refine d_mv [(11,_)] ?_
        refine dG [(70,_),(5,_),(71,_)] [([(72,some (T.addr 5 [s6.2.2.toNat]))],[(72,0)])] ⟨rfl,rfl,rfl,trivial⟩ (fun E h => IxOk.opE (x_ix (f := (Ro lV)) row_23 hv19 (locA h.1 h.2.1 rfl rfl) h.2.2.1 rfl) rfl) ?_
        refine dG [(72,_),(5,_)] [([(73,some (T.ro (lV v19)))],[(73,0)])] ⟨rfl,rfl,trivial⟩ (fun E h => IxOk.opE (x_ld (var_22.h _ rfl rfl) h.1 h.2.1 (getc hv19 rfl) rfl) rfl) ?_
        refine d_mv [(8,_)] ?_
        refine d_ixr [(73,_),(74,_)] ?_
        refine d_ldr [(75,_)] ?_
        refine d_sub [(69,_),(76,_)] ?_
        refine d_mv [(7,_)] ?_
        refine dC [(64,_),(68,_),(77,_),(78,_)] Try.call157 (t_spec_l02Add _ _ _ _ _ hr22) ?_
        refine dG [(79,L 1 I r22)] [([(79,some (T.ro (lV r22)))],[(79,1)]),([(80,some (L 1 (Ro lV) [r22]))],[(80,0)])] ⟨rfl,trivial⟩ (fun E h => IxOk.gh (Ghost.frz 79 (k := 1) (f := I) (g := I) r22 h.1 inferInstance) <| IxOk.opE (x_bs elt_23 [.tmp 79] [.slot 79 (T.ro (lV r22))] [r22] (Ro lV) ⟨.slot _ _,trivial⟩ (pkS rfl (clean_of trivial) rfl pkN) rfl rfl) rfl) ?_
        refine dG [(63,T.same 9 []),(9,L 1 (Ro lV) s6.1),(80,L 1 (Ro lV) [r22])] [([(63,some (L 1 (Ro lV) s6.1)),(9,some (T.same 63 []))],[(63,1),(9,1)]),([(81,some (L 1 (Ro lV) v23)),(63,some T.any)],[(81,0),(63,1)])] ⟨rfl,rfl,rfl,trivial⟩ (fun E h => IxOk.gh (Ghost.tr 63 9 _ h.1 h.2.1 (clean_of (cleanL (fun _ => trivial))) rfl) <| IxOk.opE (x_appc (f := (Ro lV)) elt_23 (fun _ => rfl) hv23 rfl (locB (keepE h.2.2.1) rfl) rfl) rfl) ?_
        refine d_as [(81,_)] ?_
        refine dNA mixedP ?_
        refine nB ?_
        refine nA ?_
        refine CW.to [(0,I x0),(1,T.ro (lM x1)),(5,L 1 (Ro lV) s5.1),(6,I s5.2),(7,T.ro (lV r7)),(8,I r3),(9,T.same 81 []),(10,B s6.2.1),(11,I s6.2.2),(81,L 1 (Ro lV) v23)] ⟨rfl,rfl,rfl,rfl,rfl,rfl,rfl,rfl,rfl,rfl,trivial⟩ ?_
        refine CW.region ?_
        refine a_mv ?_
        obtain ⟨v24,hv24,h⟩ := bd h
        refine a_add ?_
        refine a_as ?_
        refine RW.ghost (Ghost.tr 9 81 _ rfl rfl (clean_of (cleanL (fun _ => trivial))) rfl) ?_
        refine RW.nil ?_
        exact eN h
      ·have h := cF hc h
       refine sk2 ?_
       refine sk2 ?_
       refine sk2 ?_
       refine sk2 ?_
       refine sk2 ?_
       refine sk2 ?_
       refine sk2 ?_
       refine a_pick ?_
       refine rN ?_
       refine CW.condF rfl ?_
       refine CW.skip ?_
       refine nA ?_
       obtain ⟨v25,hv25,h⟩ := bd h
       obtain ⟨v26,hv26,h⟩ := bd h
       obtain ⟨v27,hv27,h⟩ := bd h
       obtain ⟨v28,hv28,h⟩ := bd h
       obtain ⟨r29,hr29,h⟩ := bd h
       obtain ⟨v30,hv30,h⟩ := bd h
       refine CW.dk ?_
       refine d_mv [(9,_)] ?_
       refine d_mv [(0,_)] ?_
       refine d_mv [(5,_)] ?_
       refine d_mv [(11,_)] ?_
       refine dG [(65,_),(5,_),(66,_)] [([(67,some (T.addr 5 [s6.2.2.toNat]))],[(67,0)])] ⟨rfl,rfl,rfl,trivial⟩ (fun E h => IxOk.opE (x_ix (f := (Ro lV)) row_23 hv25 (locA h.1 h.2.1 rfl rfl) h.2.2.1 rfl) rfl) ?_
       refine dG [(67,_),(5,_)] [([(68,some (T.ro (lV v25)))],[(68,0)])] ⟨rfl,rfl,trivial⟩ (fun E h => IxOk.opE (x_ld (var_22.h _ rfl rfl) h.1 h.2.1 (getc hv25 rfl) rfl) rfl) ?_
       refine d_mv [(0,_)] ?_
       refine d_mv [(5,_)] ?_
       refine d_mv [(11,_)] ?_
       refine dG [(70,_),(5,_),(71,_)] [([(72,some (T.addr 5 [s6.2.2.toNat]))],[(72,0)])] ⟨rfl,rfl,rfl,trivial⟩ (fun E h => IxOk.opE (x_ix (f := (Ro lV)) row_23 hv26 (locA h.1 h.2.1 rfl rfl) h.2.2.1 rfl) rfl) ?_
       refine dG [(72,_),(5,_)] [([(73,some (T.ro (lV v26)))],[(73,0)])] ⟨rfl,rfl,trivial⟩ (fun E h => IxOk.opE (x_ld (var_22.h _ rfl rfl) h.1 h.2.1 (getc hv26 rfl) rfl) rfl) ?_
       refine d_mv [(8,_)] ?_
       refine d_ixr [(73,_),(74,_)] ?_
       refine d_ldr [(75,_)] ?_
       refine d_sub [(69,_),(76,_)] ?_
       refine d_mv [(7,_)] ?_
       refine dC [(64,_),(68,_),(77,_),(78,_)] Try.call157 (t_spec_l02Add _ _ _ _ _ hr29) ?_
       refine dG [(79,L 1 I r29)] [([(79,some (T.ro (lV r29)))],[(79,1)]),([(80,some (L 1 (Ro lV) [r29]))],[(80,0)])] ⟨rfl,trivial⟩ (fun E h => IxOk.gh (Ghost.frz 79 (k := 1) (f := I) (g := I) r29 h.1 inferInstance) <| IxOk.opE (x_bs elt_23 [.tmp 79] [.slot 79 (T.ro (lV r29))] [r29] (Ro lV) ⟨.slot _ _,trivial⟩ (pkS rfl (clean_of trivial) rfl pkN) rfl rfl) rfl) ?_
       refine dG [(63,T.same 9 []),(9,L 1 (Ro lV) s6.1),(80,L 1 (Ro lV) [r29])] [([(63,some (L 1 (Ro lV) s6.1)),(9,some (T.same 63 []))],[(63,1),(9,1)]),([(81,some (L 1 (Ro lV) v30)),(63,some T.any)],[(81,0),(63,1)])] ⟨rfl,rfl,rfl,trivial⟩ (fun E h => IxOk.gh (Ghost.tr 63 9 _ h.1 h.2.1 (clean_of (cleanL (fun _ => trivial))) rfl) <| IxOk.opE (x_appc (f := (Ro lV)) elt_23 (fun _ => rfl) hv30 rfl (locB (keepE h.2.2.1) rfl) rfl) rfl) ?_
       refine d_as [(81,_)] ?_
       refine dNA mixedP ?_
       refine nB ?_
       refine nA ?_
       refine CW.to [(0,I x0),(1,T.ro (lM x1)),(5,L 1 (Ro lV) s5.1),(6,I s5.2),(7,T.ro (lV r7)),(8,I r3),(9,T.same 81 []),(10,B s6.2.1),(11,I s6.2.2),(81,L 1 (Ro lV) v30)] ⟨rfl,rfl,rfl,rfl,rfl,rfl,rfl,rfl,rfl,rfl,trivial⟩ ?_
       refine CW.region ?_
       refine a_mv ?_
       obtain ⟨v31,hv31,h⟩ := bd h
       refine a_add ?_
       refine a_as ?_
       refine RW.ghost (Ghost.tr 9 81 _ rfl rfl (clean_of (cleanL (fun _ => trivial))) rfl) ?_
       refine RW.nil ?_
       exact eN h
     ·refine CW.exit ?_
      refine xA ?_
      exact eX h
    ·obtain ⟨rfl,hg⟩ := hq
     refine xB ?_
     refine nA ?_
     refine CW.ghost hg ?_
     refine CW.seq ?_
     refine sR ?_
     refine a_mv ?_
     refine a_not ?_
     refine rN ?_
     refine cn h (fun hc h => ?_) (fun hc h => ?_)
     ·refine CW.region ?_
      refine a_mv ?_
      refine a_mv ?_
      refine oP (x_bs elt_23 [.tmp 85] [.slot 85 (T.ro (lV r7))] [r7] (Ro lV) ⟨.slot _ _,trivial⟩ (pkS rfl (clean_of trivial) rfl pkN) rfl rfl) ?_
      refine RW.ghost (Ghost.tr 84 9 _ rfl rfl (clean_of (cleanL (fun _ => trivial))) rfl) ?_
      obtain ⟨v33,hv33,h⟩ := bd h
      refine oP (x_appc (f := (Ro lV)) elt_23 (fun _ => rfl) hv33 rfl (locB rfl rfl) rfl) ?_
      refine a_as ?_
      refine RW.ghost (Ghost.tr 9 87 _ rfl rfl (clean_of (cleanL (fun _ => trivial))) rfl) ?_
      refine rN ?_
      refine CW.region ?_
      refine a_mv ?_
      refine a_as ?_
      refine RW.ghost (Ghost.tr 5 9 _ rfl rfl (clean_of (cleanL (fun _ => trivial))) rfl) ?_
      refine RW.nil ?_
      refine nB ?_
      refine nA ?_
      refine CW.region ?_
      refine a_mv ?_
      obtain ⟨v34,hv34,h⟩ := bd h
      refine a_add ?_
      refine a_as ?_
      refine RW.nil ?_
      exact eN h
     ·refine CW.skip ?_
      refine nA ?_
      refine CW.region ?_
      refine a_mv ?_
      refine a_as ?_
      refine RW.ghost (Ghost.tr 5 9 _ rfl rfl (clean_of (cleanL (fun _ => trivial))) rfl) ?_
      refine RW.nil ?_
      refine nB ?_
      refine nA ?_
      refine CW.region ?_
      refine a_mv ?_
      obtain ⟨v35,hv35,h⟩ := bd h
      refine a_add ?_
      refine a_as ?_
      refine RW.nil ?_
      exact eN h
  ·refine CW.exit ?_
   refine xA ?_
   exact eX h
 ·obtain ⟨rfl,hg⟩ := hq
  refine xB ?_
  refine nA ?_
  refine CW.ghost hg ?_
  refine sR ?_
  refine a_mv ?_
  refine a_as ?_
  refine RW.ghost (Ghost.tr 4 5 _ rfl rfl (clean_of (cleanL (fun _ => trivial))) rfl) ?_
  refine rN ?_
  refine CW.ret ?_
  obtain rfl := sI h
  exact rT
theorem t_spec_l02Wide (x0 : Int) (x1 : List (List Int)) (r : (List (List Int))) (h : f_spec_l02Wide x0 x1 = some r) : FnC Try.prog 101 [I x0,T.ro (lM x1)] [(L 1 (Ro lV)) r] [] := by
 refine fB Try.func101 (fun St W w0 v => ?_)
 refine sR ?_
 refine oP (x_nil 1 rfl) ?_
 refine rN ?_
 refine sR ?_
 refine a_mv ?_
 refine a_lenr ?_
 obtain ⟨r1,hr1,h⟩ := bd h
 refine cA Try.call90 (t_spec_l02Unit _ _ hr1) ?_
 refine a_as ?_
 refine RW.ghost (Ghost.tr 5 10 _ rfl rfl (clean_of (cleanL (Enc.clean (f := lV)))) rfl) ?_
 refine rN ?_
 refine sR ?_
 refine oP (x_bs0 elt_23 rfl) ?_
 refine a_as ?_
 refine RW.ghost (Ghost.tr 6 11 _ rfl rfl (clean_of trivial) rfl) ?_
 refine rN ?_
 refine CW.seq ?_
 refine sR ?_
 refine a_as ?_
 refine rN ?_
 refine CW.block ?_
 obtain ⟨r8,hr8,h⟩ := bd h
 refine CW.lp (s := ([],0)) (l1_spec_l02Wide x1 r1) (fun s1 : (List (List Int)) × Int => envL [(0,I x0),(1,T.ro (lM x1)),(5,L 1 lV r1),(6,L 1 lV s1.1),(7,I s1.2)]) (fun (r8 : (List (List Int))) e E => e = .exit 0 ∧ Ghost ⟨St,W,w0,Try.f101.ntmps⟩ E (envL [(0,I x0),(6,L 1 lV r8)])) (.has ⟨rfl,rfl,rfl,rfl,rfl,trivial⟩) (fun s1 x h => ?_) hr8 (fun e E hq => ?_)
 ·refine CW.seq ?_
  refine sR ?_
  refine a_mv ?_
  refine a_mv ?_
  refine a_lenr ?_
  refine a_lss ?_
  refine rN ?_
  refine cn h (fun hc h => ?_) (fun hc h => ?_)
  ·refine CW.skip ?_
   refine nA ?_
   refine CW.seq ?_
   refine CW.block ?_
   obtain ⟨v2,hv2,h⟩ := bd h
   obtain ⟨r3,hr3,h⟩ := bd h
   obtain ⟨v4,hv4,h⟩ := bd h
   obtain ⟨v5,hv5,h⟩ := bd h
   obtain ⟨v6,hv6,h⟩ := bd h
   refine CW.dk ?_
   refine d_mv [(6,_)] ?_
   refine d_mv [(1,_)] ?_
   refine d_mv [(7,_)] ?_
   refine d_ixr [(19,_),(20,_)] ?_
   refine d_ldr [(21,_)] ?_
   refine dC [(22,_)] Try.call72 (t_spec_l01Own _ _ hr3) ?_
   refine d_mv [(5,_)] ?_
   refine d_mv [(7,_)] ?_
   refine d_ix [(24,_),(5,_),(25,_)] ?_
   refine d_ld [(26,_),(5,_)] ?_
   refine dG [(23,_),(27,_),(5,_)] [([(28,some (L 1 I v5)),(23,some T.any)],[(28,0),(23,1)])] ⟨rfl,rfl,rfl,trivial⟩ (fun E h => IxOk.opE (x_appc (f := I) elt_22 (fun _ => rfl) hv5 h.1 (locA h.2.1 h.2.2.1 (getc hv4 rfl) rfl) rfl) rfl) ?_
   refine dG [(28,_)] [([(29,some (L 1 lV [v5])),(28,some (T.same 29 [0]))],[(29,0),(28,1)])] ⟨rfl,trivial⟩ (fun E h => IxOk.opE (x_bs elt_23 [.tmp 28] [.slot 28 (L 1 I v5)] [v5] lV ⟨.slot _ _,trivial⟩ (pkS h.1 (clean_of (cleanL (Enc.clean (f := I)))) rfl pkN) rfl rfl) rfl) ?_
   refine dG [(18,T.same 6 []),(6,L 1 lV s1.1),(29,L 1 lV [v5])] [([(18,some (L 1 lV s1.1)),(6,some (T.same 18 []))],[(18,1),(6,1)]),([(30,some (L 1 lV v6)),(18,some T.any),(29,some T.any)],[(30,0),(18,1),(29,1)])] ⟨rfl,rfl,rfl,trivial⟩ (fun E h => IxOk.gh (Ghost.tr 18 6 _ h.1 h.2.1 (clean_of (cleanL (Enc.clean (f := lV)))) rfl) <| IxOk.opE (x_appm (f := lV) elt_23 hv6 rfl (keepE h.2.2.1) rfl) rfl) ?_
   refine d_as [(30,_)] ?_
   refine dNA mixedP ?_
   refine nB ?_
   refine nA ?_
   refine CW.region ?_
   refine a_mv ?_
   obtain ⟨v7,hv7,h⟩ := bd h
   refine a_add ?_
   refine a_as ?_
   refine RW.ghost (Ghost.tr 6 30 _ rfl rfl (clean_of (cleanL (Enc.clean (f := lV)))) rfl) ?_
   refine RW.nil ?_
   exact eN h
  ·refine CW.exit ?_
   refine xA ?_
   exact eX h
 ·obtain ⟨rfl,hg⟩ := hq
  refine xB ?_
  refine nA ?_
  refine CW.ghost hg ?_
  refine sR ?_
  refine a_mv ?_
  refine a_mv ?_
  refine RW.ghost (Ghost.frzG 6 _ (t' := T.ro (lM r8)) rfl (fzO inferInstance)) ?_
  refine RW.ghost (Ghost.res 32 6 [] _ rfl rfl rfl) ?_
  obtain ⟨r9,hr9,h⟩ := bd h
  refine oP (x_callF (xs := [.tmp 31,.tmp 32]) Try.call137 (t_spec_l02Reduce _ _ _ hr9) (afC rfl rfl (afC rfl rfl afN)) rfl ⟨(cleanL (fun _ => trivial)),trivial⟩ rfl rfl) ?_
  refine a_as ?_
  refine RW.ghost (Ghost.tr 4 33 _ rfl rfl (clean_of (cleanL (fun _ => trivial))) rfl) ?_
  refine rN ?_
  refine CW.ret ?_
  obtain rfl := sI h
  exact rT
theorem t_spec_l02Null (x0 : Int) (x1 : List (List Int)) (x2 : Int) (r : (List (List Int))) (h : f_spec_l02Null x0 x1 x2 = some r) : FnC Try.prog 63 [I x0,T.ro (lM x1),I x2] [lM r] [] := by
 refine fB Try.func63 (fun St W w0 v => ?_)
 refine sR ?_
 refine oP (x_nil 1 rfl) ?_
 refine rN ?_
 refine sR ?_
 refine a_mv ?_
 refine a_mv ?_
 obtain ⟨r1,hr1,h⟩ := bd h
 refine oP (x_callF (xs := [.tmp 10,.tmp 11]) Try.call101 (t_spec_l02Wide _ _ _ hr1) (afC rfl rfl (afC rfl rfl afN)) rfl ⟨(cleanL (fun _ => trivial)),trivial⟩ rfl rfl) ?_
 refine a_as ?_
 refine RW.ghost (Ghost.tr 7 12 _ rfl rfl (clean_of (cleanL (fun _ => trivial))) rfl) ?_
 refine rN ?_
 refine sR ?_
 refine oP (x_bs0 elt_23 rfl) ?_
 refine a_as ?_
 refine RW.ghost (Ghost.tr 8 13 _ rfl rfl (clean_of trivial) rfl) ?_
 refine rN ?_
 refine CW.seq ?_
 refine sR ?_
 refine a_as ?_
 refine rN ?_
 refine CW.block ?_
 obtain ⟨r10,hr10,h⟩ := bd h
 refine CW.lp (s := ([],0)) (l1_spec_l02Null x2 r1) (fun s1 : (List (List Int)) × Int => envL [(2,I x2),(7,L 1 (Ro lV) r1),(8,L 1 lV s1.1),(9,I s1.2)]) (fun (r10 : (List (List Int))) e E => e = .exit 0 ∧ Ghost ⟨St,W,w0,Try.f63.ntmps⟩ E (envL [(8,L 1 lV r10)])) (.has ⟨rfl,rfl,rfl,rfl,trivial⟩) (fun s1 x h => ?_) hr10 (fun e E hq => ?_)
 ·refine CW.seq ?_
  refine sR ?_
  refine a_mv ?_
  refine a_mv ?_
  refine a_len ?_
  refine a_lss ?_
  refine rN ?_
  refine cn h (fun hc h => ?_) (fun hc h => ?_)
  ·refine CW.skip ?_
   refine nA ?_
   refine CW.seq ?_
   refine CW.block ?_
   refine sR ?_
   refine a_mv ?_
   refine a_mv ?_
   obtain ⟨v2,hv2,h⟩ := bd h
   refine oP (x_ix (f := (Ro lV)) row_23 hv2 (locA rfl rfl rfl rfl) rfl rfl) ?_
   refine oP (x_ld (var_22.h _ rfl rfl) rfl rfl (getc hv2 rfl) rfl) ?_
   obtain ⟨r3,hr3,h⟩ := bd h
   refine cA Try.call102 (t_spec_l02Lead _ _ hr3) ?_
   refine a_mv ?_
   refine a_geq ?_
   refine rN ?_
   refine cn h (fun hc h => ?_) (fun hc h => ?_)
   ·refine CW.region ?_
    refine a_mv ?_
    refine a_mv ?_
    refine a_mv ?_
    obtain ⟨v4,hv4,h⟩ := bd h
    refine oP (x_ix (f := (Ro lV)) row_23 hv4 (locA rfl rfl rfl rfl) rfl rfl) ?_
    refine oP (x_ld (var_22.h _ rfl rfl) rfl rfl (getc hv4 rfl) rfl) ?_
    refine a_mv ?_
    obtain ⟨v5,hv5,h⟩ := bd h
    refine oP (x_slr row_22 hv5 (locB rfl rfl) (optS (sliceO_lo hv5) rfl) optN rfl) ?_
    obtain ⟨r6,hr6,h⟩ := bd h
    refine cA Try.call72 (t_spec_l01Own _ _ hr6) ?_
    refine oP (x_bs elt_23 [.tmp 34] [.slot 34 (L 1 I r6)] [r6] lV ⟨.slot _ _,trivial⟩ (pkS rfl (clean_of (cleanL (Enc.clean (f := I)))) rfl pkN) rfl rfl) ?_
    refine RW.ghost (Ghost.tr 27 8 _ rfl rfl (clean_of (cleanL (Enc.clean (f := lV)))) rfl) ?_
    obtain ⟨v7,hv7,h⟩ := bd h
    refine oP (x_appm (f := lV) elt_23 hv7 rfl rfl rfl) ?_
    refine a_as ?_
    refine RW.ghost (Ghost.tr 8 36 _ rfl rfl (clean_of (cleanL (Enc.clean (f := lV)))) rfl) ?_
    refine RW.nil ?_
    refine nB ?_
    refine nA ?_
    refine CW.region ?_
    refine a_mv ?_
    obtain ⟨v8,hv8,h⟩ := bd h
    refine a_add ?_
    refine a_as ?_
    refine RW.nil ?_
    exact eN h
   ·refine CW.skip ?_
    refine nB ?_
    refine nA ?_
    refine CW.region ?_
    refine a_mv ?_
    obtain ⟨v9,hv9,h⟩ := bd h
    refine a_add ?_
    refine a_as ?_
    refine RW.nil ?_
    exact eN h
  ·refine CW.exit ?_
   refine xA ?_
   exact eX h
 ·obtain ⟨rfl,hg⟩ := hq
  refine xB ?_
  refine nA ?_
  refine CW.ghost hg ?_
  refine sR ?_
  refine a_mv ?_
  refine a_as ?_
  refine RW.ghost (Ghost.tr 6 8 _ rfl rfl (clean_of (cleanL (Enc.clean (f := lV)))) rfl) ?_
  refine rN ?_
  refine CW.ret ?_
  obtain rfl := sI h
  exact rT
theorem t_spec_CountModuleMaps (x0 : SPresentation) (x1 : SModule) (x2 : SModule) (r : Int × Int) (h : f_spec_CountModuleMaps x0 x1 x2 = some r) : FnC Try.prog 24 [qPresentation x0,qModule x1,qModule x2] [I r.1,I r.2] [] := by
 refine fB Try.func24 (fun St W w0 v => ?_)
 refine sR ?_
 refine a_box ?_
 refine a_box ?_
 refine a_box ?_
 refine a_as ?_
 refine a_as ?_
 refine rN ?_
 refine CW.seq ?_
 refine sR ?_
 refine a_ldp ?_
 refine a_ldp ?_
 refine a_ldp ?_
 obtain ⟨r1,hr1,h⟩ := bd h
 refine cA Try.call31 (t_spec_l21Code _ _ _ _ hr1) ?_
 refine a_as ?_
 refine rN ?_
 refine sR ?_
 refine a_mv ?_
 refine a_neq ?_
 refine rN ?_
 refine cn h (fun hc h => ?_) (fun hc h => ?_)
 ·refine sR ?_
  refine a_mv ?_
  refine a_as ?_
  refine a_as ?_
  refine rN ?_
  refine CW.ret ?_
  refine rA ?_
  obtain rfl := sI h
  exact rT
 ·refine CW.skip ?_
  refine nA ?_
  refine sR ?_
  refine oP (x_bs0 elt_23 rfl) ?_
  refine a_as ?_
  refine RW.ghost (Ghost.tr 9 24 _ rfl rfl (clean_of trivial) rfl) ?_
  refine rN ?_
  refine CW.seq ?_
  refine sR ?_
  refine a_as ?_
  refine rN ?_
  refine CW.block ?_
  obtain ⟨r34,hr34,h⟩ := bd h
  refine CW.lp (s := ([],0)) (l5_spec_CountModuleMaps x1 x2) (fun s161 : (List (List Int)) × Int => envL [(4,T.ptr (qModule x1)),(5,T.ptr (qModule x2)),(9,L 1 lV s161.1),(10,I s161.2)]) (fun (r34 : (List (List Int))) e E => e = .exit 0 ∧ Ghost ⟨St,W,w0,Try.f24.ntmps⟩ E (envL [(4,T.ptr (qModule x1)),(5,T.ptr (qModule x2)),(9,L 1 lV r34)])) (.has ⟨rfl,rfl,rfl,rfl,trivial⟩) (fun s161 x h => ?_) hr34 (fun e E hq => ?_)
  ·refine CW.seq ?_
   refine sR ?_
   refine a_mv ?_
   refine a_fa ?_
   refine a_ld ?_
   refine a_lss ?_
   refine rN ?_
   refine cn h (fun hc h => ?_) (fun hc h => ?_)
   ·refine CW.skip ?_
    refine nA ?_
    refine CW.seq ?_
    refine CW.block ?_
    refine sR ?_
    refine a_as ?_
    refine rN ?_
    refine CW.block ?_
    obtain ⟨r32,hr32,h⟩ := bd h
    refine CW.lp (s := (s161.1,0)) (l4_spec_CountModuleMaps x1 x2 s161) (fun s214 : (List (List Int)) × Int => envL [(4,T.ptr (qModule x1)),(5,T.ptr (qModule x2)),(9,L 1 lV s214.1),(10,I s161.2),(11,I s214.2)]) (fun (r32 : (List (List Int))) e E => e = .exit 2 ∧ Ghost ⟨St,W,w0,Try.f24.ntmps⟩ E (envL [(4,T.ptr (qModule x1)),(5,T.ptr (qModule x2)),(9,L 1 lV r32),(10,I s161.2)])) (.has ⟨rfl,rfl,rfl,rfl,rfl,trivial⟩) (fun s214 x h => ?_) hr32 (fun e E hq => ?_)
    ·refine CW.seq ?_
     refine sR ?_
     refine a_mv ?_
     refine a_fa ?_
     refine a_ld ?_
     refine a_lss ?_
     refine rN ?_
     refine cn h (fun hc h => ?_) (fun hc h => ?_)
     ·refine CW.skip ?_
      refine nA ?_
      refine CW.seq ?_
      refine CW.block ?_
      refine sR ?_
      refine oP (x_bs0 elt_22 rfl) ?_
      refine a_as ?_
      refine RW.ghost (Ghost.tr 12 37 _ rfl rfl (clean_of trivial) rfl) ?_
      refine rN ?_
      refine CW.seq ?_
      refine sR ?_
      refine a_as ?_
      refine rN ?_
      refine CW.block ?_
      obtain ⟨r29,hr29,h⟩ := bd h
      refine CW.lp (s := ([],0)) (l3_spec_CountModuleMaps x1 x2 s161 s214) (fun s231 : (List Int) × Int => envL [(4,T.ptr (qModule x1)),(5,T.ptr (qModule x2)),(9,L 1 lV s214.1),(10,I s161.2),(11,I s214.2),(12,L 1 I s231.1),(13,I s231.2)]) (fun (r29 : (List Int)) e E => e = .exit 4 ∧ Ghost ⟨St,W,w0,Try.f24.ntmps⟩ E (envL [(4,T.ptr (qModule x1)),(5,T.ptr (qModule x2)),(9,L 1 lV s214.1),(10,I s161.2),(11,I s214.2),(12,L 1 I r29)])) (.has ⟨rfl,rfl,rfl,rfl,rfl,rfl,rfl,trivial⟩) (fun s231 x h => ?_) hr29 (fun e E hq => ?_)
      ·refine CW.seq ?_
       refine sR ?_
       refine a_mv ?_
       refine a_fa ?_
       refine a_ld ?_
       refine a_lenr ?_
       refine a_lss ?_
       refine rN ?_
       refine cn h (fun hc h => ?_) (fun hc h => ?_)
       ·refine CW.skip ?_
        refine nA ?_
        refine CW.seq ?_
        refine CW.block ?_
        refine sR ?_
        refine a_as ?_
        refine rN ?_
        refine CW.block ?_
        obtain ⟨r27,hr27,h⟩ := bd h
        refine CW.lp (s := (s231.1,0)) (l2_spec_CountModuleMaps x1 x2 s161 s214 s231) (fun s236 : (List Int) × Int => envL [(4,T.ptr (qModule x1)),(5,T.ptr (qModule x2)),(9,L 1 lV s214.1),(10,I s161.2),(11,I s214.2),(12,L 1 I s236.1),(13,I s231.2),(14,I s236.2)]) (fun (r27 : (List Int)) e E => e = .exit 6 ∧ Ghost ⟨St,W,w0,Try.f24.ntmps⟩ E (envL [(4,T.ptr (qModule x1)),(5,T.ptr (qModule x2)),(9,L 1 lV s214.1),(10,I s161.2),(11,I s214.2),(12,L 1 I r27),(13,I s231.2)])) (.has ⟨rfl,rfl,rfl,rfl,rfl,rfl,rfl,rfl,trivial⟩) (fun s236 x h => ?_) hr27 (fun e E hq => ?_)
        ·refine CW.seq ?_
         refine sR ?_
         refine a_mv ?_
         refine a_fa ?_
         refine a_ld ?_
         refine a_lss ?_
         refine rN ?_
         refine cn h (fun hc h => ?_) (fun hc h => ?_)
         ·refine CW.skip ?_
          refine nA ?_
          refine CW.seq ?_
          refine CW.block ?_
          refine sR ?_
          refine a_as ?_
          refine rN ?_
          refine CW.block ?_
          obtain ⟨r25,hr25,h⟩ := bd h
          refine CW.lp (s := (s236.1,0)) (l1_spec_CountModuleMaps x1 x2 s161 s214 s231 s236) (fun s237 : (List Int) × Int => envL [(4,T.ptr (qModule x1)),(5,T.ptr (qModule x2)),(9,L 1 lV s214.1),(10,I s161.2),(11,I s214.2),(12,L 1 I s237.1),(13,I s231.2),(14,I s236.2),(15,I s237.2)]) (fun (r25 : (List Int)) e E => e = .exit 8 ∧ Ghost ⟨St,W,w0,Try.f24.ntmps⟩ E (envL [(4,T.ptr (qModule x1)),(5,T.ptr (qModule x2)),(9,L 1 lV s214.1),(10,I s161.2),(11,I s214.2),(12,L 1 I r25),(13,I s231.2),(14,I s236.2)])) (.has ⟨rfl,rfl,rfl,rfl,rfl,rfl,rfl,rfl,rfl,trivial⟩) (fun s237 x h => ?_) hr25 (fun e E hq => ?_)
          ·refine CW.seq ?_
           refine sR ?_
           refine a_mv ?_
           refine a_fa ?_
           refine a_ld ?_
           refine a_lss ?_
           refine rN ?_
           refine cn h (fun hc h => ?_) (fun hc h => ?_)
           ·refine CW.skip ?_
            refine nA ?_
            refine CW.seq ?_
            refine CW.block ?_
            refine sR ?_
            refine a_as ?_
            refine rN ?_
            refine CW.seq ?_
            refine sR ?_
            refine a_mv ?_
            refine a_mv ?_
            refine a_eql ?_
            refine rN ?_
            refine cn h (fun hc h => ?_) (fun hc h => ?_)
            ·refine CW.region ?_
             refine a_fa ?_
             refine a_ld ?_
             refine a_mv ?_
             obtain ⟨v2,hv2,h⟩ := bd h
             refine a_ixr ?_
             refine a_ldr ?_
             refine a_mv ?_
             obtain ⟨v3,hv3,h⟩ := bd h
             refine a_ixr ?_
             refine a_ldr ?_
             refine a_mv ?_
             obtain ⟨v4,hv4,h⟩ := bd h
             refine a_ixr ?_
             refine a_ldr ?_
             refine a_as ?_
             refine rN ?_
             refine CW.seq ?_
             refine sR ?_
             refine a_mv ?_
             refine a_mv ?_
             refine a_eql ?_
             refine rN ?_
             refine cn h (fun hc h => ?_) (fun hc h => ?_)
             ·refine CW.region ?_
              refine a_mv ?_
              refine a_fa ?_
              refine a_ld ?_
              refine a_mv ?_
              obtain ⟨v5,hv5,h⟩ := bd h
              refine a_ixr ?_
              refine a_ldr ?_
              refine a_mv ?_
              obtain ⟨v6,hv6,h⟩ := bd h
              refine a_ixr ?_
              refine a_ldr ?_
              refine a_mv ?_
              obtain ⟨v7,hv7,h⟩ := bd h
              refine a_ixr ?_
              refine a_ldr ?_
              obtain ⟨v8,hv8,h⟩ := bd h
              refine a_sub ?_
              refine a_as ?_
              refine rN ?_
              refine CW.to [(4,T.ptr (qModule x1)),(5,T.ptr (qModule x2)),(9,L 1 lV s214.1),(10,I s161.2),(11,I s214.2),(12,L 1 I s237.1),(13,I s231.2),(14,I s236.2),(15,I s237.2),(16,I v8)] ⟨rfl,rfl,rfl,rfl,rfl,rfl,rfl,rfl,rfl,rfl,trivial⟩ ?_
              refine CW.region ?_
              refine a_mv ?_
              refine a_mv ?_
              refine a_fa ?_
              refine a_ld ?_
              obtain ⟨r9,hr9,h⟩ := bd h
              refine cA Try.call62 (t_spec_l01Mod _ _ _ hr9) ?_
              refine oP (x_bs elt_22 [.tmp 91] [.slot 91 (I r9)] [r9] I ⟨.slot _ _,trivial⟩ (pkS rfl (clean_of (Enc.clean (f := I) _)) rfl pkN) rfl rfl) ?_
              refine RW.ghost (Ghost.tr 87 12 _ rfl rfl (clean_of (cleanL (Enc.clean (f := I)))) rfl) ?_
              obtain ⟨v10,hv10,h⟩ := bd h
              refine oP (x_appc (f := I) elt_22 (fun _ => rfl) hv10 rfl (locB rfl rfl) rfl) ?_
              refine a_as ?_
              refine RW.ghost (Ghost.tr 12 93 _ rfl rfl (clean_of (cleanL (Enc.clean (f := I)))) rfl) ?_
              refine RW.nil ?_
              refine nB ?_
              refine nA ?_
              refine CW.region ?_
              refine a_mv ?_
              obtain ⟨v11,hv11,h⟩ := bd h
              refine a_add ?_
              refine a_as ?_
              refine RW.nil ?_
              exact eN h
             ·refine CW.skip ?_
              refine nA ?_
              refine CW.region ?_
              refine a_mv ?_
              refine a_mv ?_
              refine a_fa ?_
              refine a_ld ?_
              obtain ⟨r12,hr12,h⟩ := bd h
              refine cA Try.call62 (t_spec_l01Mod _ _ _ hr12) ?_
              refine oP (x_bs elt_22 [.tmp 91] [.slot 91 (I r12)] [r12] I ⟨.slot _ _,trivial⟩ (pkS rfl (clean_of (Enc.clean (f := I) _)) rfl pkN) rfl rfl) ?_
              refine RW.ghost (Ghost.tr 87 12 _ rfl rfl (clean_of (cleanL (Enc.clean (f := I)))) rfl) ?_
              obtain ⟨v13,hv13,h⟩ := bd h
              refine oP (x_appc (f := I) elt_22 (fun _ => rfl) hv13 rfl (locB rfl rfl) rfl) ?_
              refine a_as ?_
              refine RW.ghost (Ghost.tr 12 93 _ rfl rfl (clean_of (cleanL (Enc.clean (f := I)))) rfl) ?_
              refine RW.nil ?_
              refine nB ?_
              refine nA ?_
              refine CW.to [(4,T.ptr (qModule x1)),(5,T.ptr (qModule x2)),(9,L 1 lV s214.1),(10,I s161.2),(11,I s214.2),(12,L 1 I v13),(13,I s231.2),(14,I s236.2),(15,I s237.2)] ⟨rfl,rfl,rfl,rfl,rfl,rfl,rfl,rfl,rfl,trivial⟩ ?_
              refine CW.region ?_
              refine a_mv ?_
              obtain ⟨v14,hv14,h⟩ := bd h
              refine a_add ?_
              refine a_as ?_
              refine RW.nil ?_
              exact eN h
            ·refine CW.skip ?_
             refine nA ?_
             refine CW.seq ?_
             refine sR ?_
             refine a_mv ?_
             refine a_mv ?_
             refine a_eql ?_
             refine rN ?_
             refine cn h (fun hc h => ?_) (fun hc h => ?_)
             ·refine CW.region ?_
              refine a_mv ?_
              refine a_fa ?_
              refine a_ld ?_
              refine a_mv ?_
              obtain ⟨v15,hv15,h⟩ := bd h
              refine a_ixr ?_
              refine a_ldr ?_
              refine a_mv ?_
              obtain ⟨v16,hv16,h⟩ := bd h
              refine a_ixr ?_
              refine a_ldr ?_
              refine a_mv ?_
              obtain ⟨v17,hv17,h⟩ := bd h
              refine a_ixr ?_
              refine a_ldr ?_
              obtain ⟨v18,hv18,h⟩ := bd h
              refine a_sub ?_
              refine a_as ?_
              refine rN ?_
              refine CW.to [(4,T.ptr (qModule x1)),(5,T.ptr (qModule x2)),(9,L 1 lV s214.1),(10,I s161.2),(11,I s214.2),(12,L 1 I s237.1),(13,I s231.2),(14,I s236.2),(15,I s237.2),(16,I v18)] ⟨rfl,rfl,rfl,rfl,rfl,rfl,rfl,rfl,rfl,rfl,trivial⟩ ?_
              refine CW.region ?_
              refine a_mv ?_
              refine a_mv ?_
              refine a_fa ?_
              refine a_ld ?_
              obtain ⟨r19,hr19,h⟩ := bd h
              refine cA Try.call62 (t_spec_l01Mod _ _ _ hr19) ?_
              refine oP (x_bs elt_22 [.tmp 91] [.slot 91 (I r19)] [r19] I ⟨.slot _ _,trivial⟩ (pkS rfl (clean_of (Enc.clean (f := I) _)) rfl pkN) rfl rfl) ?_
              refine RW.ghost (Ghost.tr 87 12 _ rfl rfl (clean_of (cleanL (Enc.clean (f := I)))) rfl) ?_
              obtain ⟨v20,hv20,h⟩ := bd h
              refine oP (x_appc (f := I) elt_22 (fun _ => rfl) hv20 rfl (locB rfl rfl) rfl) ?_
              refine a_as ?_
              refine RW.ghost (Ghost.tr 12 93 _ rfl rfl (clean_of (cleanL (Enc.clean (f := I)))) rfl) ?_
              refine RW.nil ?_
              refine nB ?_
              refine nA ?_
              refine CW.region ?_
              refine a_mv ?_
              obtain ⟨v21,hv21,h⟩ := bd h
              refine a_add ?_
              refine a_as ?_
              refine RW.nil ?_
              exact eN h
             ·refine CW.skip ?_
              refine nA ?_
              refine CW.region ?_
              refine a_mv ?_
              refine a_mv ?_
              refine a_fa ?_
              refine a_ld ?_
              obtain ⟨r22,hr22,h⟩ := bd h
              refine cA Try.call62 (t_spec_l01Mod _ _ _ hr22) ?_
              refine oP (x_bs elt_22 [.tmp 91] [.slot 91 (I r22)] [r22] I ⟨.slot _ _,trivial⟩ (pkS rfl (clean_of (Enc.clean (f := I) _)) rfl pkN) rfl rfl) ?_
              refine RW.ghost (Ghost.tr 87 12 _ rfl rfl (clean_of (cleanL (Enc.clean (f := I)))) rfl) ?_
              obtain ⟨v23,hv23,h⟩ := bd h
              refine oP (x_appc (f := I) elt_22 (fun _ => rfl) hv23 rfl (locB rfl rfl) rfl) ?_
              refine a_as ?_
              refine RW.ghost (Ghost.tr 12 93 _ rfl rfl (clean_of (cleanL (Enc.clean (f := I)))) rfl) ?_
              refine RW.nil ?_
              refine nB ?_
              refine nA ?_
              refine CW.region ?_
              refine a_mv ?_
              obtain ⟨v24,hv24,h⟩ := bd h
              refine a_add ?_
              refine a_as ?_
              refine RW.nil ?_
              exact eN h
           ·refine CW.exit ?_
            refine xA ?_
            exact eX h
          ·obtain ⟨rfl,hg⟩ := hq
           refine xB ?_
           refine nB ?_
           refine nA ?_
           refine CW.ghost hg ?_
           refine CW.region ?_
           refine a_mv ?_
           obtain ⟨v26,hv26,h⟩ := bd h
           refine a_add ?_
           refine a_as ?_
           refine RW.nil ?_
           exact eN h
         ·refine CW.exit ?_
          refine xA ?_
          exact eX h
        ·obtain ⟨rfl,hg⟩ := hq
         refine xB ?_
         refine nB ?_
         refine nA ?_
         refine CW.ghost hg ?_
         refine CW.region ?_
         refine a_mv ?_
         obtain ⟨v28,hv28,h⟩ := bd h
         refine a_add ?_
         refine a_as ?_
         refine RW.nil ?_
         exact eN h
       ·refine CW.exit ?_
        refine xA ?_
        exact eX h
      ·obtain ⟨rfl,hg⟩ := hq
       refine xB ?_
       refine nA ?_
       refine CW.ghost hg ?_
       refine CW.region ?_
       refine a_mv ?_
       refine a_mv ?_
       refine RW.ghost (Ghost.tr 95 12 _ rfl rfl (clean_of (cleanL (Enc.clean (f := I)))) rfl) ?_
       refine oP (x_bs elt_23 [.tmp 95] [.slot 95 (L 1 I r29)] [r29] lV ⟨.slot _ _,trivial⟩ (pkS rfl (clean_of (cleanL (Enc.clean (f := I)))) rfl pkN) rfl rfl) ?_
       refine RW.ghost (Ghost.tr 94 9 _ rfl rfl (clean_of (cleanL (Enc.clean (f := lV)))) rfl) ?_
       obtain ⟨v30,hv30,h⟩ := bd h
       refine oP (x_appm (f := lV) elt_23 hv30 rfl rfl rfl) ?_
       refine a_as ?_
       refine RW.ghost (Ghost.tr 9 97 _ rfl rfl (clean_of (cleanL (Enc.clean (f := lV)))) rfl) ?_
       refine RW.nil ?_
       refine nB ?_
       refine nA ?_
       refine CW.region ?_
       refine a_mv ?_
       obtain ⟨v31,hv31,h⟩ := bd h
       refine a_add ?_
       refine a_as ?_
       refine RW.nil ?_
       exact eN h
     ·refine CW.exit ?_
      refine xA ?_
      exact eX h
    ·obtain ⟨rfl,hg⟩ := hq
     refine xB ?_
     refine nB ?_
     refine nA ?_
     refine CW.ghost hg ?_
     refine CW.region ?_
     refine a_mv ?_
     obtain ⟨v33,hv33,h⟩ := bd h
     refine a_add ?_
     refine a_as ?_
     refine RW.nil ?_
     exact eN h
   ·refine CW.exit ?_
    refine xA ?_
    exact eX h
  ·obtain ⟨rfl,hg⟩ := hq
   refine xB ?_
   refine nA ?_
   refine CW.ghost hg ?_
   refine sR ?_
   refine a_fa ?_
   refine a_ld ?_
   refine a_mv ?_
   refine a_fa ?_
   refine a_ld ?_
   refine a_fa ?_
   refine a_ld ?_
   obtain ⟨v35,hv35,h⟩ := bd h
   refine a_mul ?_
   refine a_fa ?_
   refine a_ld ?_
   refine a_lenr ?_
   obtain ⟨v36,hv36,h⟩ := bd h
   refine a_mul ?_
   obtain ⟨r37,hr37,h⟩ := bd h
   refine cA Try.call63 (t_spec_l02Null _ _ _ _ hr37) ?_
   refine a_len ?_
   refine a_as ?_
   refine a_as ?_
   refine rN ?_
   refine CW.ret ?_
   obtain rfl := sI h
   exact rT
end Go.Wk

namespace Go.Wk
open Go Go.Proofs Go.Ab
set_option maxRecDepth 100000
theorem t_impl_CountModuleMaps (x0 : SPresentation) (x1 : SModule) (x2 : SModule) (r : Int × Int) (h : f_impl_CountModuleMaps x0 x1 x2 = some r) : FnC Try.prog 25 [qPresentation x0,qModule x1,qModule x2] [I r.1,I r.2] [] := by
 refine fB Try.func25 (fun St W w0 v => ?_)
 refine sR ?_
 refine a_box ?_
 refine a_box ?_
 refine a_box ?_
 refine a_as ?_
 refine a_as ?_
 refine rN ?_
 refine CW.seq ?_
 refine sR ?_
 obtain ⟨r1,hr1,h⟩ := bd h
 refine oP (x_call (xs := [.tmp 3,.tmp 4,.tmp 5]) Try.call36 (t_impl_modulesCode _ _ _ _ hr1) ⟨(agC _ rfl (cloP rfl) rfl),⟨(agC _ rfl (cloP rfl) rfl),⟨(agC _ rfl (cloP rfl) rfl),trivial⟩⟩⟩ (resC (f := I) inferInstance resN) rfl) ?_
 refine a_as ?_
 refine rN ?_
 refine sR ?_
 refine a_mv ?_
 refine a_neq ?_
 refine rN ?_
 refine cn h (fun hc h => ?_) (fun hc h => ?_)
 ·refine sR ?_
  refine a_mv ?_
  refine a_as ?_
  refine a_as ?_
  refine rN ?_
  refine CW.ret ?_
  refine rA ?_
  obtain rfl := sI h
  exact rT
 ·refine CW.skip ?_
  refine nA ?_
  refine sR ?_
  refine oP (x_nil 1 rfl) ?_
  refine rN ?_
  refine CW.seq ?_
  refine sR ?_
  refine a_fa ?_
  refine a_ld ?_
  refine a_mv ?_
  refine rN ?_
  refine CW.block ?_
  refine CW.ghost (Ghost.frzG 4 _ (t' := T.ro ((Pt eSModule) x1)) rfl (fzP rfl)) ?_
  refine CW.ghost (Ghost.frzG 5 _ (t' := T.ro ((Pt eSModule) x2)) rfl (fzP rfl)) ?_
  obtain ⟨r26,hr26,h⟩ := bd h
  refine CW.lp (s := ([],0)) (l5_impl_CountModuleMaps x0 x1 x2) (fun s65 : (List (List Int)) × Int => envL [(3,T.ptr (qPresentation x0)),(4,T.ro ((Pt eSModule) x1)),(5,T.ro ((Pt eSModule) x2)),(9,L 1 lV s65.1),(24,I x1.Dim),(25,I s65.2)]) (fun (r26 : (List (List Int))) e E => e = .exit 0 ∧ Ghost ⟨St,W,w0,Try.f25.ntmps⟩ E (envL [(4,T.ro ((Pt eSModule) x1)),(9,L 1 lV r26)])) (.has ⟨rfl,rfl,rfl,rfl,rfl,rfl,trivial⟩) (fun s65 x h => ?_) hr26 (fun e E hq => ?_)
  ·refine sR ?_
   refine a_lss ?_
   refine rN ?_
   refine CW.seq ?_
   refine cn h (fun hc h => ?_) (fun hc h => ?_)
   ·refine CW.skip ?_
    refine nA ?_
    refine CW.seq ?_
    refine CW.block ?_
    refine sR ?_
    refine a_mv ?_
    refine a_as ?_
    refine rN ?_
    refine sR ?_
    refine a_far ?_
    refine a_ldr ?_
    refine a_mv ?_
    refine rN ?_
    refine CW.block ?_
    obtain ⟨r24,hr24,h⟩ := bd h
    refine CW.lp (s := (s65.1,0)) (l4_impl_CountModuleMaps x0 x1 x2 s65) (fun s86 : (List (List Int)) × Int => envL [(3,T.ptr (qPresentation x0)),(4,T.ro ((Pt eSModule) x1)),(5,T.ro ((Pt eSModule) x2)),(9,L 1 lV s86.1),(10,I s65.2),(24,I x1.Dim),(25,I s65.2),(29,I x2.Dim),(30,I s86.2)]) (fun (r24 : (List (List Int))) e E => e = .exit 2 ∧ Ghost ⟨St,W,w0,Try.f25.ntmps⟩ E (envL [(3,T.ptr (qPresentation x0)),(4,T.ro ((Pt eSModule) x1)),(5,T.ro ((Pt eSModule) x2)),(9,L 1 lV r24),(24,I x1.Dim),(25,I s65.2)])) (.has ⟨rfl,rfl,rfl,rfl,rfl,rfl,rfl,rfl,rfl,trivial⟩) (fun s86 x h => ?_) hr24 (fun e E hq => ?_)
    ·refine sR ?_
     refine a_lss ?_
     refine rN ?_
     refine CW.seq ?_
     refine cn h (fun hc h => ?_) (fun hc h => ?_)
     ·refine CW.skip ?_
      refine nA ?_
      refine CW.seq ?_
      refine CW.block ?_
      refine sR ?_
      refine a_mv ?_
      refine a_as ?_
      refine rN ?_
      refine sR ?_
      refine a_far ?_
      refine a_ldr ?_
      refine a_far ?_
      refine a_ldr ?_
      refine oP (x_build bld_76 [(0,.tmp 34),(1,.tmp 36)] [(0,.slot 34 (I x1.Prime)),(1,.slot 36 (I x2.Dim))] [.slot 34 (I x1.Prime),.slot 36 (I x2.Dim),.zero (L 1 lV [])] (pkS rfl (clean_of (Enc.clean (f := I) _)) rfl (pkS rfl (clean_of (Enc.clean (f := I) _)) rfl (pkZ rfl pkN))) (bqC (.slot _ _) (bqC (.slot _ _) bqN)) rfl) ?_
      refine a_alloc ?_
      refine oP (x_stp inf_76 rfl (locB rfl rfl) rfl rfl rfl rfl (clean_of (cleanA ⟨(Enc.clean (f := I) _),(Enc.clean (f := I) _),trivial,trivial⟩)) rfl) ?_
      refine rN ?_
      refine CW.seq ?_
      refine sR ?_
      refine a_far ?_
      refine a_ldr ?_
      refine a_mv ?_
      refine rN ?_
      refine CW.block ?_
      obtain ⟨r8,hr8,h⟩ := bd h
      refine CW.lp (s := ([],0)) (l1_impl_CountModuleMaps x1 x2 s65 s86) (fun s87 : (List (List Int)) × Int => envL [(3,T.ptr (qPresentation x0)),(4,T.ro ((Pt eSModule) x1)),(5,T.ro ((Pt eSModule) x2)),(9,L 1 lV s86.1),(10,I s65.2),(11,I s86.2),(12,T.ptr (T.agg [I x1.Prime,I x2.Dim,L 1 lV s87.1])),(24,I x1.Dim),(25,I s65.2),(29,I x2.Dim),(30,I s86.2),(39,I x1.Dim),(40,I s87.2)]) (fun (r8 : (List (List Int))) e E => e = .exit 4 ∧ Ghost ⟨St,W,w0,Try.f25.ntmps⟩ E (envL [(3,T.ptr (qPresentation x0)),(4,T.ro ((Pt eSModule) x1)),(5,T.ro ((Pt eSModule) x2)),(9,L 1 lV s86.1),(10,I s65.2),(12,T.ptr (T.agg [I x1.Prime,I x2.Dim,L 1 lV r8])),(24,I x1.Dim),(25,I s65.2),(29,I x2.Dim),(30,I s86.2)])) (.has ⟨rfl,rfl,rfl,rfl,rfl,rfl,rfl,rfl,rfl,rfl,rfl,rfl,rfl,trivial⟩) (fun s87 x h => ?_) hr8 (fun e E hq => ?_)
      ·refine sR ?_
       refine a_lss ?_
       refine rN ?_
       refine CW.seq ?_
       refine cn h (fun hc h => ?_) (fun hc h => ?_)
       ·refine CW.skip ?_
        refine nA ?_
        refine CW.seq ?_
        refine CW.block ?_
        refine sR ?_
        refine a_mv ?_
        refine a_as ?_
        refine rN ?_
        refine CW.seq ?_
        obtain ⟨m2,hm2,h⟩ := bd h
        obtain ⟨v3,hv3,h⟩ := bd h
        refine CW.dk ?_
        refine d_fa [(12,_)] ?_
        refine d_ld [(43,_),(12,_)] ?_
        refine d_far [(5,_)] ?_
        refine d_ldr [(45,_)] ?_
        refine dG [(46,_)] [([(47,some (L 1 I (List.replicate m2 (0 : Int))))],[(47,0)])] ⟨rfl,trivial⟩ (fun E h => IxOk.opE (x_makeL (f := I) (z := 0) elt_22 (rfl) hm2 h.1 h.1 rfl) rfl) ?_
        refine dG [(47,_)] [([(48,some (L 1 lV [List.replicate m2 (0 : Int)])),(47,some (T.same 48 [0]))],[(48,0),(47,1)])] ⟨rfl,trivial⟩ (fun E h => IxOk.opE (x_bs elt_23 [.tmp 47] [.slot 47 (L 1 I (List.replicate m2 (0 : Int)))] [List.replicate m2 (0 : Int)] lV ⟨.slot _ _,trivial⟩ (pkS h.1 (clean_of (cleanL (Enc.clean (f := I)))) rfl pkN) rfl rfl) rfl) ?_
        refine dG [(44,T.same 12 [2,0]),(12,T.ptr (T.agg [I x1.Prime,I x2.Dim,L 1 lV s87.1])),(48,L 1 lV [List.replicate m2 (0 : Int)])] [([(44,some (L 1 lV s87.1)),(12,some (T.ptr (T.agg [I x1.Prime,I x2.Dim,T.any])))],[(44,1),(12,3)]),([(49,some (L 1 lV v3)),(44,some T.any),(48,some T.any)],[(49,0),(44,1),(48,1)])] ⟨rfl,rfl,rfl,trivial⟩ (fun E h => IxOk.gh (Ghost.trq 44 12 [2,0] h.1 h.2.1 rfl (clean_of (cleanL (Enc.clean (f := lV)))) rfl) <| IxOk.opE (x_appm (f := lV) elt_23 hv3 rfl (keepE h.2.2.1) rfl) rfl) ?_
        refine d_fa [(12,_)] ?_
        refine dG [(50,_),(12,_),(49,_)] [([(12,some (T.ptr (T.agg [I x1.Prime,I x2.Dim,L 1 lV v3]))),(49,some (T.same 12 [2,0]))],[(12,2),(49,1)])] ⟨rfl,rfl,rfl,trivial⟩ (fun E h => IxOk.opE (x_st inf_23 rfl h.1 h.2.1 rfl rfl h.2.2.1 (clean_of (cleanL (Enc.clean (f := lV)))) rfl) rfl) ?_
        refine dNA mixedP ?_
        refine nA ?_
        refine sR ?_
        refine a_mv ?_
        refine a_mv ?_
        refine a_eql ?_
        refine rN ?_
        refine cn h (fun hc h => ?_) (fun hc h => ?_)
        ·refine CW.region ?_
         refine a_fa ?_
         refine a_ld ?_
         refine a_mv ?_
         obtain ⟨v4,hv4,h⟩ := bd h
         refine a_ix ?_
         refine a_ld ?_
         refine a_mv ?_
         obtain ⟨v5,hv5,h⟩ := bd h
         refine a_ix ?_
         refine oP (x_stcT inf_2 rfl rfl rfl (getp (geta rfl (getc hv4 (getc hv5 rfl)))) (setp (seta rfl (setc hv4 (setc hv5 rfl)))) rfl rfl) ?_
         refine RW.nil ?_
         refine nB ?_
         refine nA ?_
         refine CW.region ?_
         obtain ⟨v6,hv6,h⟩ := bd h
         refine a_add ?_
         refine a_mv ?_
         refine RW.nil ?_
         exact eN h
        ·refine CW.skip ?_
         refine nB ?_
         refine nA ?_
         refine CW.region ?_
         obtain ⟨v7,hv7,h⟩ := bd h
         refine a_add ?_
         refine a_mv ?_
         refine RW.nil ?_
         exact eN h
       ·refine CW.exit ?_
        refine xA ?_
        exact eX h
      ·obtain ⟨rfl,hg⟩ := hq
       refine xB ?_
       refine nA ?_
       refine CW.ghost hg ?_
       refine sR ?_
       refine oP (x_nil 1 rfl) ?_
       refine rN ?_
       refine CW.seq ?_
       refine sR ?_
       refine a_fa ?_
       refine a_ld ?_
       refine a_lenr ?_
       refine a_mv ?_
       refine rN ?_
       refine CW.block ?_
       obtain ⟨r21,hr21,h⟩ := bd h
       refine CW.lp (s := ([],0)) (l3_impl_CountModuleMaps x0 x1 x2 r8) (fun s93 : (List Int) × Int => envL [(3,T.ptr (qPresentation x0)),(4,T.ro ((Pt eSModule) x1)),(5,T.ro ((Pt eSModule) x2)),(9,L 1 lV s86.1),(10,I s65.2),(12,T.ptr (T.agg [I x1.Prime,I x2.Dim,L 1 lV r8])),(14,L 1 I s93.1),(24,I x1.Dim),(25,I s65.2),(29,I x2.Dim),(30,I s86.2),(64,I (x0.Orders.length : Int)),(65,I s93.2)]) (fun (r21 : (List Int)) e E => e = .exit 6 ∧ Ghost ⟨St,W,w0,Try.f25.ntmps⟩ E (envL [(3,T.ptr (qPresentation x0)),(4,T.ro ((Pt eSModule) x1)),(5,T.ro ((Pt eSModule) x2)),(9,L 1 lV s86.1),(10,I s65.2),(14,L 1 I r21),(24,I x1.Dim),(25,I s65.2),(29,I x2.Dim),(30,I s86.2)])) (.has ⟨rfl,rfl,rfl,rfl,rfl,rfl,rfl,rfl,rfl,rfl,rfl,rfl,rfl,trivial⟩) (fun s93 x h => ?_) hr21 (fun e E hq => ?_)
       ·refine sR ?_
        refine a_lss ?_
        refine rN ?_
        refine CW.seq ?_
        refine cn h (fun hc h => ?_) (fun hc h => ?_)
        ·refine CW.skip ?_
         refine nA ?_
         refine CW.seq ?_
         refine CW.block ?_
         refine sR ?_
         refine a_mv ?_
         refine a_as ?_
         refine rN ?_
         refine CW.seq ?_
         obtain ⟨r9,hr9,h⟩ := bd h
         obtain ⟨r10,hr10,h⟩ := bd h
         obtain ⟨r11,hr11,h⟩ := bd h
         obtain ⟨r12,hr12,h⟩ := bd h
         refine CW.dk ?_
         refine d_mv [(15,_)] ?_
         refine dG [(4,_),(68,_)] [([(69,some (qMatrix r9))],[(69,0)])] ⟨rfl,rfl,trivial⟩ (fun E h => IxOk.opE (x_callF (xs := [.tmp 4,.tmp 68]) Try.call60 (t_impl_actionAt _ _ _ hr9) (afC h.1 rfl (afC h.2.1 rfl afN)) rfl ⟨(cleanA ⟨(Enc.clean (f := I) _),(Enc.clean (f := I) _),trivial,trivial⟩),trivial⟩ rfl rfl) rfl) ?_
         refine d_ldp [(12,_)] ?_
         refine dG [(69,_),(70,_),(12,_)] [([(71,some (eSMatrix r10))],[(71,0)])] ⟨rfl,rfl,rfl,trivial⟩ (fun E h => IxOk.opE (x_call (xs := [.tmp 69,.tmp 70]) Try.call64 (t_impl_product _ _ _ hr10) ⟨(agC _ h.1 rfl rfl),⟨(agC _ h.2.1 (cloA (cloC rfl (cloC rfl (cloC (cloS h.2.2.1 rfl inferInstance) cloN)))) rfl),trivial⟩⟩ (resC (f := eSMatrix) inferInstance resN) rfl) rfl) ?_
         refine d_ldp [(12,_)] ?_
         refine d_mv [(15,_)] ?_
         refine dG [(5,_),(73,_)] [([(74,some (qMatrix r11))],[(74,0)])] ⟨rfl,rfl,trivial⟩ (fun E h => IxOk.opE (x_callF (xs := [.tmp 5,.tmp 73]) Try.call60 (t_impl_actionAt _ _ _ hr11) (afC h.1 rfl (afC h.2.1 rfl afN)) rfl ⟨(cleanA ⟨(Enc.clean (f := I) _),(Enc.clean (f := I) _),trivial,trivial⟩),trivial⟩ rfl rfl) rfl) ?_
         refine dG [(72,_),(12,_),(74,_)] [([(75,some (eSMatrix r12))],[(75,0)])] ⟨rfl,rfl,rfl,trivial⟩ (fun E h => IxOk.opE (x_call (xs := [.tmp 72,.tmp 74]) Try.call64 (t_impl_product _ _ _ hr12) ⟨(agC _ h.1 (cloA (cloC rfl (cloC rfl (cloC (cloS h.2.1 rfl inferInstance) cloN)))) rfl),⟨(agC _ h.2.2.1 rfl rfl),trivial⟩⟩ (resC (f := eSMatrix) inferInstance resN) rfl) rfl) ?_
         refine d_alloc [] ?_
         refine d_alloc [] ?_
         refine dG [(16,_),(71,_)] [([(16,some (T.ptr (eSMatrix r10))),(71,some (T.agg [I r10.Prime,I r10.Columns,T.same 16 [2,0]]))],[(16,1),(71,1)])] ⟨rfl,rfl,trivial⟩ (fun E h => IxOk.opE (x_stp inf_76 rfl (locB h.1 rfl) h.1 rfl rfl h.2.1 (clean_of (cleanA ⟨(Enc.clean (f := I) _),(Enc.clean (f := I) _),(cleanL (Enc.clean (f := lV))),trivial⟩)) rfl) rfl) ?_
         refine dG [(17,_),(75,_)] [([(17,some (T.ptr (eSMatrix r12))),(75,some (T.agg [I r12.Prime,I r12.Columns,T.same 17 [2,0]]))],[(17,1),(75,1)])] ⟨rfl,rfl,trivial⟩ (fun E h => IxOk.opE (x_stp inf_76 rfl (locB h.1 rfl) h.1 rfl rfl h.2.1 (clean_of (cleanA ⟨(Enc.clean (f := I) _),(Enc.clean (f := I) _),(cleanL (Enc.clean (f := lV))),trivial⟩)) rfl) rfl) ?_
         refine dNA mixedP ?_
         refine nA ?_
         refine sR ?_
         refine a_fa ?_
         refine a_ld ?_
         refine a_len ?_
         refine a_mv ?_
         refine rN ?_
         refine CW.block ?_
         obtain ⟨r19,hr19,h⟩ := bd h
         refine CW.lp (s := (s93.1,r10.Rows,0)) (l2_impl_CountModuleMaps x1 r10 r12) (fun s94 : (List Int) × (List (List Int)) × Int => envL [(3,T.ptr (qPresentation x0)),(4,T.ro ((Pt eSModule) x1)),(5,T.ro ((Pt eSModule) x2)),(9,L 1 lV s86.1),(10,I s65.2),(12,T.ptr (T.agg [I x1.Prime,I x2.Dim,L 1 lV r8])),(14,L 1 I s94.1),(16,T.ptr (T.agg [I r10.Prime,I r10.Columns,L 1 lV s94.2.1])),(17,T.ptr (eSMatrix r12)),(24,I x1.Dim),(25,I s65.2),(29,I x2.Dim),(30,I s86.2),(64,I (x0.Orders.length : Int)),(65,I s93.2),(78,I (r10.Rows.length : Int)),(79,I s94.2.2)]) (fun (r19 : (List Int)) e E => e = .exit 8 ∧ Ghost ⟨St,W,w0,Try.f25.ntmps⟩ E (envL [(3,T.ptr (qPresentation x0)),(4,T.ro ((Pt eSModule) x1)),(5,T.ro ((Pt eSModule) x2)),(9,L 1 lV s86.1),(10,I s65.2),(12,T.ptr (T.agg [I x1.Prime,I x2.Dim,L 1 lV r8])),(14,L 1 I r19),(24,I x1.Dim),(25,I s65.2),(29,I x2.Dim),(30,I s86.2),(64,I (x0.Orders.length : Int)),(65,I s93.2)])) (.has ⟨rfl,rfl,rfl,rfl,rfl,rfl,rfl,rfl,rfl,rfl,rfl,rfl,rfl,rfl,rfl,rfl,rfl,trivial⟩) (fun s94 x h => ?_) hr19 (fun e E hq => ?_)
         ·refine sR ?_
          refine a_lss ?_
          refine rN ?_
          refine CW.seq ?_
          refine cn h (fun hc h => ?_) (fun hc h => ?_)
          ·refine CW.skip ?_
           refine nA ?_
           refine CW.seq ?_
           refine CW.block ?_
           refine sR ?_
           refine a_mv ?_
           refine a_as ?_
           refine rN ?_
           refine CW.seq ?_
           obtain ⟨v13,hv13,h⟩ := bd h
           obtain ⟨v14,hv14,h⟩ := bd h
           obtain ⟨r15,hr15,h⟩ := bd h
           refine CW.dk ?_
           refine d_fa [(16,_)] ?_
           refine d_ld [(82,_),(16,_)] ?_
           refine d_mv [(18,_)] ?_
           refine d_ix [(83,_),(16,_),(84,_)] ?_
           refine d_ld [(85,_),(16,_)] ?_
           refine d_fa [(17,_)] ?_
           refine d_ld [(87,_),(17,_)] ?_
           refine d_mv [(18,_)] ?_
           refine d_ix [(88,_),(17,_),(89,_)] ?_
           refine d_ld [(90,_),(17,_)] ?_
           refine d_far [(4,_)] ?_
           refine d_ldr [(92,_)] ?_
           refine dG [(86,_),(16,_),(91,_),(17,_),(93,_)] [([(86,some (L 1 I v13)),(16,some ((T.ptr (T.agg [I r10.Prime,I r10.Columns,L 1 lV s94.2.1])).set [0,2,s94.2.2.toNat] T.any))],[(86,1),(16,4)]),([(94,some (T.tup [])),(86,some (L 1 I r15))],[(94,0),(86,1)]),([(16,some (T.ptr (T.agg [I r10.Prime,I r10.Columns,L 1 lV (s94.2.1.set s94.2.2.toNat r15)]))),(86,some (T.same 16 [s94.2.2.toNat,2,0]))],[(16,4),(86,1)])] ⟨rfl,rfl,rfl,rfl,rfl,trivial⟩ (fun E h => IxOk.opE (x_callM (xs := [.tmp 86,.tmp 91,.const _,.tmp 93]) 0 86 16 [s94.2.2.toNat,2,0] Try.call65 (t_impl_addMultiple _ _ _ _ _ hr15) h.1 h.2.1 (getp (geta rfl (getc hv13 rfl))) (clean_of (cleanL (Enc.clean (f := I)))) (clean_of (cleanL (Enc.clean (f := I)))) (Enc.rofree (f := L 1 I) _) (Enc.rofree (f := L 1 I) _) ⟨(agLd rfl (clean_of (cleanL (Enc.clean (f := I)))) (Enc.rofree (f := L 1 I) _)),⟨(agM _ (keepL h.2.2.1) (cloS (keepLE h.2.2.2.1) (getp (geta rfl (getc hv14 rfl))) inferInstance) (argClS (keepLE h.2.2.2.1) (getp (geta rfl (getc hv14 rfl))) rfl rfl)),⟨(agM _ rfl rfl rfl),⟨(agM _ (keepL h.2.2.2.2.1) rfl rfl),trivial⟩⟩⟩⟩ resN (setp (seta rfl (setc hv13 rfl))) rfl rfl rfl) rfl) ?_
           refine dNA mixedP ?_
           refine nA ?_
           refine CW.region ?_
           refine a_mv ?_
           refine a_fa ?_
           refine a_ld ?_
           refine a_mv ?_
           obtain ⟨v16,hv16,h⟩ := bd h
           refine a_ix ?_
           refine a_ld ?_
           refine RW.ghost (Ghost.tr 95 14 _ rfl rfl (clean_of (cleanL (Enc.clean (f := I)))) rfl) ?_
           obtain ⟨v17,hv17,h⟩ := bd h
           refine oP (x_appc (f := I) elt_22 (fun _ => rfl) hv17 rfl (locA rfl rfl (getp (geta rfl (getc hv16 rfl))) rfl) rfl) ?_
           refine a_as ?_
           refine RW.ghost (Ghost.tr 14 101 _ rfl rfl (clean_of (cleanL (Enc.clean (f := I)))) rfl) ?_
           refine RW.nil ?_
           refine nB ?_
           refine nA ?_
           refine CW.to [(3,T.ptr (qPresentation x0)),(4,T.ro ((Pt eSModule) x1)),(5,T.ro ((Pt eSModule) x2)),(9,L 1 lV s86.1),(10,I s65.2),(12,T.ptr (T.agg [I x1.Prime,I x2.Dim,L 1 lV r8])),(14,L 1 I v17),(16,T.ptr (T.agg [I r10.Prime,I r10.Columns,L 1 lV (s94.2.1.set s94.2.2.toNat r15)])),(17,T.ptr (eSMatrix r12)),(24,I x1.Dim),(25,I s65.2),(29,I x2.Dim),(30,I s86.2),(64,I (x0.Orders.length : Int)),(65,I s93.2),(78,I (r10.Rows.length : Int)),(79,I s94.2.2)] ⟨rfl,rfl,rfl,rfl,rfl,rfl,rfl,rfl,rfl,rfl,rfl,rfl,rfl,rfl,rfl,rfl,rfl,trivial⟩ ?_
           refine CW.region ?_
           obtain ⟨v18,hv18,h⟩ := bd h
           refine a_add ?_
           refine a_mv ?_
           refine RW.nil ?_
           exact eN h
          ·refine CW.exit ?_
           refine xA ?_
           exact eX h
         ·obtain ⟨rfl,hg⟩ := hq
          refine xB ?_
          refine nB ?_
          refine nA ?_
          refine CW.ghost hg ?_
          refine CW.region ?_
          obtain ⟨v20,hv20,h⟩ := bd h
          refine a_add ?_
          refine a_mv ?_
          refine RW.nil ?_
          exact eN h
        ·refine CW.exit ?_
         refine xA ?_
         exact eX h
       ·obtain ⟨rfl,hg⟩ := hq
        refine xB ?_
        refine nA ?_
        refine CW.ghost hg ?_
        refine CW.region ?_
        refine a_mv ?_
        refine a_mv ?_
        refine RW.ghost (Ghost.tr 105 14 _ rfl rfl (clean_of (cleanL (Enc.clean (f := I)))) rfl) ?_
        refine oP (x_bs elt_23 [.tmp 105] [.slot 105 (L 1 I r21)] [r21] lV ⟨.slot _ _,trivial⟩ (pkS rfl (clean_of (cleanL (Enc.clean (f := I)))) rfl pkN) rfl rfl) ?_
        refine RW.ghost (Ghost.tr 104 9 _ rfl rfl (clean_of (cleanL (Enc.clean (f := lV)))) rfl) ?_
        obtain ⟨v22,hv22,h⟩ := bd h
        refine oP (x_appm (f := lV) elt_23 hv22 rfl rfl rfl) ?_
        refine a_as ?_
        refine RW.ghost (Ghost.tr 9 107 _ rfl rfl (clean_of (cleanL (Enc.clean (f := lV)))) rfl) ?_
        refine RW.nil ?_
        refine nB ?_
        refine nA ?_
        refine CW.region ?_
        obtain ⟨v23,hv23,h⟩ := bd h
        refine a_add ?_
        refine a_mv ?_
        refine RW.nil ?_
        exact eN h
     ·refine CW.exit ?_
      refine xA ?_
      exact eX h
    ·obtain ⟨rfl,hg⟩ := hq
     refine xB ?_
     refine nB ?_
     refine nA ?_
     refine CW.ghost hg ?_
     refine CW.region ?_
     obtain ⟨v25,hv25,h⟩ := bd h
     refine a_add ?_
     refine a_mv ?_
     refine RW.nil ?_
     exact eN h
   ·refine CW.exit ?_
    refine xA ?_
    exact eX h
  ·obtain ⟨rfl,hg⟩ := hq
   refine xB ?_
   refine nA ?_
   refine CW.ghost hg ?_
   refine sR ?_
   refine a_mv ?_
   refine a_len ?_
   refine a_far ?_
   refine a_ldr ?_
   refine a_mv ?_
   obtain ⟨r27,hr27,h⟩ := bd h
   refine cA Try.call66 (t_impl_reduceRows _ _ _ hr27) ?_
   refine a_len ?_
   obtain ⟨v28,hv28,h⟩ := bd h
   refine a_sub ?_
   refine a_as ?_
   refine a_as ?_
   refine rN ?_
   refine CW.ret ?_
   obtain rfl := sI h
   exact rT
theorem t_laws_FnExactCountModuleMaps (x0 : SPresentation) (x1 : SModule) (x2 : SModule) (r : Bool) (h : f_laws_FnExactCountModuleMaps x0 x1 x2 = some r) : FnC Try.prog 6 [qPresentation x0,qModule x1,qModule x2] [B r] [] := by
 refine fB Try.func6 (fun St W w0 v => ?_)
 refine sR ?_
 refine a_box ?_
 refine a_box ?_
 refine a_box ?_
 refine a_as ?_
 refine rN ?_
 refine sR ?_
 refine a_as ?_
 refine rN ?_
 refine sR ?_
 refine a_ldp ?_
 refine a_mv ?_
 obtain ⟨r1,hr1,h⟩ := bd h
 refine cA Try.call8 (t_laws_szPresentation _ _ _ hr1) ?_
 refine a_as ?_
 refine rN ?_
 refine CW.seq ?_
 refine sR ?_
 refine a_mv ?_
 refine a_lss ?_
 refine rN ?_
 refine cn h (fun hc h => ?_) (fun hc h => ?_)
 ·refine sR ?_
  refine a_as ?_
  refine rN ?_
  refine CW.ret ?_
  refine rA ?_
  obtain rfl := sI h
  exact rT
 ·refine CW.skip ?_
  refine nA ?_
  refine sR ?_
  refine a_ldp ?_
  refine a_mv ?_
  obtain ⟨r2,hr2,h⟩ := bd h
  refine cA Try.call9 (t_laws_szModule _ _ _ hr2) ?_
  refine a_as ?_
  refine rN ?_
  refine CW.seq ?_
  refine sR ?_
  refine a_mv ?_
  refine a_lss ?_
  refine rN ?_
  refine cn h (fun hc h => ?_) (fun hc h => ?_)
  ·refine sR ?_
   refine a_as ?_
   refine rN ?_
   refine CW.ret ?_
   refine rA ?_
   obtain rfl := sI h
   exact rT
  ·refine CW.skip ?_
   refine nA ?_
   refine sR ?_
   refine a_ldp ?_
   refine a_mv ?_
   obtain ⟨r3,hr3,h⟩ := bd h
   refine cA Try.call9 (t_laws_szModule _ _ _ hr3) ?_
   refine a_as ?_
   refine rN ?_
   refine CW.seq ?_
   refine sR ?_
   refine a_mv ?_
   refine a_lss ?_
   refine rN ?_
   refine cn h (fun hc h => ?_) (fun hc h => ?_)
   ·refine sR ?_
    refine a_as ?_
    refine rN ?_
    refine CW.ret ?_
    refine rA ?_
    obtain rfl := sI h
    exact rT
   ·refine CW.skip ?_
    refine nA ?_
    refine CW.seq ?_
    obtain ⟨r4,hr4,h⟩ := bd h
    obtain ⟨r5,hr5,h⟩ := bd h
    obtain ⟨r6,hr6,h⟩ := bd h
    obtain ⟨r7,hr7,h⟩ := bd h
    refine CW.dk ?_
    refine d_ldp [(3,_)] ?_
    refine dG [(31,_)] [([(32,some (eSPresentation r4))],[(32,0)])] ⟨rfl,trivial⟩ (fun E h => IxOk.opE (x_call (xs := [.tmp 31]) Try.call11 (t_laws_toPresentation _ _ hr4) ⟨(agC _ h.1 rfl rfl),trivial⟩ (resC (f := eSPresentation) inferInstance resN) rfl) rfl) ?_
    refine d_ldp [(4,_)] ?_
    refine dG [(33,_)] [([(34,some (eSModule r5))],[(34,0)])] ⟨rfl,trivial⟩ (fun E h => IxOk.opE (x_call (xs := [.tmp 33]) Try.call12 (t_laws_toModule _ _ hr5) ⟨(agC _ h.1 rfl rfl),trivial⟩ (resC (f := eSModule) inferInstance resN) rfl) rfl) ?_
    refine d_ldp [(5,_)] ?_
    refine dG [(35,_)] [([(36,some (eSModule r6))],[(36,0)])] ⟨rfl,trivial⟩ (fun E h => IxOk.opE (x_call (xs := [.tmp 35]) Try.call12 (t_laws_toModule _ _ hr6) ⟨(agC _ h.1 rfl rfl),trivial⟩ (resC (f := eSModule) inferInstance resN) rfl) rfl) ?_
    refine dG [(32,_),(34,_),(36,_)] [([(37,some (T.tup [I r7.1,I r7.2]))],[(37,0)])] ⟨rfl,rfl,rfl,trivial⟩ (fun E h => IxOk.opE (x_call (xs := [.tmp 32,.tmp 34,.tmp 36]) Try.call24 (t_spec_CountModuleMaps _ _ _ _ hr7) ⟨(agC _ h.1 (cloA (cloC (cloO inferInstance) (cloC (cloO inferInstance) (cloC (cloO inferInstance) cloN)))) rfl),⟨(agC _ h.2.1 (cloA (cloC rfl (cloC rfl (cloC (cloO inferInstance) cloN)))) rfl),⟨(agC _ h.2.2.1 (cloA (cloC rfl (cloC rfl (cloC (cloO inferInstance) cloN)))) rfl),trivial⟩⟩⟩ (resC (f := I) inferInstance (resC (f := I) inferInstance resN)) rfl) rfl) ?_
    refine d_mvT [(37,_)] ?_
    refine d_ext [(30,_)] ?_
    refine d_ext [(30,_)] ?_
    refine d_as [(38,_)] ?_
    refine d_as [(39,_)] ?_
    refine dNA mixedP ?_
    refine nA ?_
    refine CW.seq ?_
    refine CW.to [(3,T.ptr (qPresentation x0)),(4,T.ptr (qModule x1)),(5,T.ptr (qModule x2)),(8,I r7.1),(9,I r7.2)] ⟨rfl,rfl,rfl,rfl,rfl,trivial⟩ ?_
    refine CW.region ?_
    refine a_ldp ?_
    obtain ⟨r8,hr8,h⟩ := bd h
    refine oP (x_call (xs := [.tmp 40]) Try.call11 (t_laws_toPresentation _ _ hr8) ⟨(agC _ rfl rfl rfl),trivial⟩ (resC (f := eSPresentation) inferInstance resN) rfl) ?_
    refine a_alloc ?_
    refine oP (x_stp inf_34 rfl (locB rfl rfl) rfl rfl rfl rfl (clean_of (cleanA ⟨(cleanL (Enc.clean (f := I))),(cleanL (Enc.clean (f := lV))),(cleanL (Enc.clean (f := lM))),trivial⟩)) rfl) ?_
    refine rN ?_
    refine sR ?_
    refine a_ldp ?_
    obtain ⟨r9,hr9,h⟩ := bd h
    refine oP (x_call (xs := [.tmp 42]) Try.call12 (t_laws_toModule _ _ hr9) ⟨(agC _ rfl rfl rfl),trivial⟩ (resC (f := eSModule) inferInstance resN) rfl) ?_
    refine a_alloc ?_
    refine oP (x_stp inf_31 rfl (locB rfl rfl) rfl rfl rfl rfl (clean_of (cleanA ⟨(Enc.clean (f := I) _),(Enc.clean (f := I) _),(cleanL (Enc.clean (f := lM))),trivial⟩)) rfl) ?_
    refine rN ?_
    refine sR ?_
    refine a_ldp ?_
    obtain ⟨r10,hr10,h⟩ := bd h
    refine oP (x_call (xs := [.tmp 44]) Try.call12 (t_laws_toModule _ _ hr10) ⟨(agC _ rfl rfl rfl),trivial⟩ (resC (f := eSModule) inferInstance resN) rfl) ?_
    refine a_alloc ?_
    refine oP (x_stp inf_31 rfl (locB rfl rfl) rfl rfl rfl rfl (clean_of (cleanA ⟨(Enc.clean (f := I) _),(Enc.clean (f := I) _),(cleanL (Enc.clean (f := lM))),trivial⟩)) rfl) ?_
    refine rN ?_
    refine sR ?_
    refine a_ldp ?_
    refine a_ldp ?_
    refine a_ldp ?_
    obtain ⟨r11,hr11,h⟩ := bd h
    refine oP (x_call (xs := [.tmp 47,.tmp 48,.tmp 49]) Try.call25 (t_impl_CountModuleMaps _ _ _ _ hr11) ⟨(agC _ rfl (cloA (cloC (cloS rfl rfl inferInstance) (cloC (cloS rfl rfl inferInstance) (cloC (cloS rfl rfl inferInstance) cloN)))) rfl),⟨(agC _ rfl (cloA (cloC rfl (cloC rfl (cloC (cloS rfl rfl inferInstance) cloN)))) rfl),⟨(agC _ rfl (cloA (cloC rfl (cloC rfl (cloC (cloS rfl rfl inferInstance) cloN)))) rfl),trivial⟩⟩⟩ (resC (f := I) inferInstance (resC (f := I) inferInstance resN)) rfl) ?_
    refine a_mvT ?_
    refine a_ext ?_
    refine a_ext ?_
    refine a_as ?_
    refine a_as ?_
    refine rN ?_
    refine CW.seq ?_
    refine sR ?_
    refine a_mv ?_
    refine a_mv ?_
    refine a_neq ?_
    refine a_mv ?_
    refine RW.cases 56 _ rfl (fun hc => ?_) (fun hc => ?_)
    ·have h := cT hc h
     refine sk2 ?_
     refine sk2 ?_
     refine sk2 ?_
     refine a_pick ?_
     refine rN ?_
     refine CW.condT rfl ?_
     refine CW.seq ?_
     refine CW.to [] trivial ?_
     refine CW.region ?_
     refine a_as ?_
     refine rN ?_
     refine CW.ret ?_
     refine rA ?_
     obtain rfl := sI h
     exact rT
    ·have h := cF hc h
     refine g_mv ?_
     refine g_mv ?_
     refine g_neq ?_
     refine a_pick ?_
     refine rN ?_
     refine cn h (fun hc h => ?_) (fun hc h => ?_)
     ·refine CW.seq ?_
      refine CW.to [] trivial ?_
      refine CW.region ?_
      refine a_as ?_
      refine rN ?_
      refine CW.ret ?_
      refine rA ?_
      obtain rfl := sI h
      exact rT
     ·refine CW.skip ?_
      refine nA ?_
      refine CW.seq ?_
      refine CW.seq ?_
      refine CW.to [(3,T.ptr (qPresentation x0)),(4,T.ptr (qModule x1)),(5,T.ptr (qModule x2)),(10,T.ptr (eSPresentation r8)),(11,T.ptr (eSModule r9)),(12,T.ptr (eSModule r10))] ⟨rfl,rfl,rfl,rfl,rfl,rfl,trivial⟩ ?_
      obtain ⟨r12,hr12,h⟩ := bd h
      obtain ⟨r13,hr13,h⟩ := bd h
      refine CW.dk ?_
      refine d_ldp [(10,_)] ?_
      refine d_ldp [(3,_)] ?_
      refine dG [(62,_)] [([(63,some (eSPresentation r12))],[(63,0)])] ⟨rfl,trivial⟩ (fun E h => IxOk.opE (x_call (xs := [.tmp 62]) Try.call11 (t_laws_toPresentation _ _ hr12) ⟨(agC _ h.1 rfl rfl),trivial⟩ (resC (f := eSPresentation) inferInstance resN) rfl) rfl) ?_
      refine dG [(61,_),(10,_),(63,_)] [([(64,some (B r13))],[(64,0)])] ⟨rfl,rfl,rfl,trivial⟩ (fun E h => IxOk.opE (x_call (xs := [.tmp 61,.tmp 63]) Try.call15 (t_laws_eqPresentation _ _ _ hr13) ⟨(agC _ h.1 (cloA (cloC (cloS h.2.1 rfl inferInstance) (cloC (cloS h.2.1 rfl inferInstance) (cloC (cloS h.2.1 rfl inferInstance) cloN)))) rfl),⟨(agC _ h.2.2.1 (cloA (cloC (cloO inferInstance) (cloC (cloO inferInstance) (cloC (cloO inferInstance) cloN)))) rfl),trivial⟩⟩ (resC (f := B) inferInstance resN) rfl) rfl) ?_
      refine d_not [(64,_)] ?_
      refine dNA mixedP ?_
      refine nA ?_
      refine cn h (fun hc h => ?_) (fun hc h => ?_)
      ·refine sR ?_
       refine a_as ?_
       refine rN ?_
       refine CW.ret ?_
       refine rA ?_
       obtain rfl := sI h
       exact rT
      ·refine CW.skip ?_
       refine nA ?_
       refine CW.seq ?_
       refine CW.seq ?_
       obtain ⟨r14,hr14,h⟩ := bd h
       obtain ⟨r15,hr15,h⟩ := bd h
       refine CW.dk ?_
       refine d_ldp [(11,_)] ?_
       refine d_ldp [(4,_)] ?_
       refine dG [(67,_)] [([(68,some (eSModule r14))],[(68,0)])] ⟨rfl,trivial⟩ (fun E h => IxOk.opE (x_call (xs := [.tmp 67]) Try.call12 (t_laws_toModule _ _ hr14) ⟨(agC _ h.1 rfl rfl),trivial⟩ (resC (f := eSModule) inferInstance resN) rfl) rfl) ?_
       refine dG [(66,_),(11,_),(68,_)] [([(69,some (B r15))],[(69,0)])] ⟨rfl,rfl,rfl,trivial⟩ (fun E h => IxOk.opE (x_call (xs := [.tmp 66,.tmp 68]) Try.call14 (t_laws_eqModule _ _ _ hr15) ⟨(agC _ h.1 (cloA (cloC rfl (cloC rfl (cloC (cloS h.2.1 rfl inferInstance) cloN)))) rfl),⟨(agC _ h.2.2.1 (cloA (cloC rfl (cloC rfl (cloC (cloO inferInstance) cloN)))) rfl),trivial⟩⟩ (resC (f := B) inferInstance resN) rfl) rfl) ?_
       refine d_not [(69,_)] ?_
       refine dNA mixedP ?_
       refine nA ?_
       refine cn h (fun hc h => ?_) (fun hc h => ?_)
       ·refine sR ?_
        refine a_as ?_
        refine rN ?_
        refine CW.ret ?_
        refine rA ?_
        obtain rfl := sI h
        exact rT
       ·refine CW.skip ?_
        refine nA ?_
        refine CW.seq ?_
        refine CW.seq ?_
        obtain ⟨r16,hr16,h⟩ := bd h
        obtain ⟨r17,hr17,h⟩ := bd h
        refine CW.dk ?_
        refine d_ldp [(12,_)] ?_
        refine d_ldp [(5,_)] ?_
        refine dG [(72,_)] [([(73,some (eSModule r16))],[(73,0)])] ⟨rfl,trivial⟩ (fun E h => IxOk.opE (x_call (xs := [.tmp 72]) Try.call12 (t_laws_toModule _ _ hr16) ⟨(agC _ h.1 rfl rfl),trivial⟩ (resC (f := eSModule) inferInstance resN) rfl) rfl) ?_
        refine dG [(71,_),(12,_),(73,_)] [([(74,some (B r17))],[(74,0)])] ⟨rfl,rfl,rfl,trivial⟩ (fun E h => IxOk.opE (x_call (xs := [.tmp 71,.tmp 73]) Try.call14 (t_laws_eqModule _ _ _ hr17) ⟨(agC _ h.1 (cloA (cloC rfl (cloC rfl (cloC (cloS h.2.1 rfl inferInstance) cloN)))) rfl),⟨(agC _ h.2.2.1 (cloA (cloC rfl (cloC rfl (cloC (cloO inferInstance) cloN)))) rfl),trivial⟩⟩ (resC (f := B) inferInstance resN) rfl) rfl) ?_
        refine d_not [(74,_)] ?_
        refine dNA mixedP ?_
        refine nA ?_
        refine cn h (fun hc h => ?_) (fun hc h => ?_)
        ·refine sR ?_
         refine a_as ?_
         refine rN ?_
         refine CW.ret ?_
         refine rA ?_
         obtain rfl := sI h
         exact rT
        ·refine CW.skip ?_
         refine nA ?_
         refine sR ?_
         refine a_as ?_
         refine rN ?_
         refine CW.ret ?_
         obtain rfl := sI h
         exact rT
end Go.Wk
