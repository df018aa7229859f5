/- The program and the reference return the same spaces of fixed vectors, for all arguments (FnExactFixedVectors). This file is a part of the proof. -/
import Derived.Test.YtjbinegfmombcaaGreatWA
namespace Go.Wk
open Go Go.Proofs Go.Ab
set_option maxRecDepth 100000
theorem t_impl_addMultiple (x0 : List Int) (x1 : List Int) (x2 : Int) (x3 : Int) (r : (List Int)) (h : f_impl_addMultiple x0 x1 x2 x3 = some r) : FnC Tryz.prog 103 [L 1 I x0,T.ro (lV x1),I x2,I x3] [] [(0,lV r)] := by
 refine fB Tryz.func103 (fun St W w0 v => ?_)
 refine sR ?_
 refine a_mv ?_
 refine a_len ?_
 refine a_mv ?_
 refine rN ?_
 refine CW.block ?_
 obtain ⟨r8,hr8,h⟩ := bd h
 refine CW.lp (s := (x0,0)) (l1_impl_addMultiple x0 x1 x2 x3) (fun s1 : (List Int) × Int => envL [(0,L 1 I s1.1),(1,T.ro (lV x1)),(2,I x2),(3,I x3),(10,I (x0.length : Int)),(11,I s1.2)]) (fun (r8 : (List Int)) e E => e = .exit 0 ∧ Ghost ⟨St,W,w0,Tryz.f103.ntmps⟩ E (envL [(0,L 1 I r8)])) (.has ⟨rfl,rfl,rfl,rfl,rfl,rfl,trivial⟩) (fun s1 x h => ?_) hr8 (fun e E hq => ?_)
 ·refine sR ?_
  refine a_lss ?_
  refine rN ?_
  refine CW.seq ?_
  refine cn h (fun hc h => ?_) (fun hc h => ?_)
  ·refine CW.skip ?_
   refine nA ?_
   refine CW.seq ?_
   refine CW.block ?_
   refine sR ?_
   refine a_mv ?_
   refine a_as ?_
   refine rN ?_
   obtain ⟨v1,hv1,h⟩ := bd h
   obtain ⟨v2,hv2,h⟩ := bd h
   obtain ⟨v3,hv3,h⟩ := bd h
   obtain ⟨v4,hv4,h⟩ := bd h
   obtain ⟨r5,hr5,h⟩ := bd h
   obtain ⟨v6,hv6,h⟩ := bd h
   refine CW.dk ?_
   refine d_mv [(0,_)] ?_
   refine d_mv [(8,_)] ?_
   refine d_mv [(0,_)] ?_
   refine d_mv [(8,_)] ?_
   refine dG [(16,_),(0,_),(17,_)] [([(18,some (T.addr 0 [s1.2.toNat]))],[(18,0)])] ⟨rfl,rfl,rfl,trivial⟩ (fun E h => IxOk.opE (x_ix (f := I) row_22 hv1 (locA h.1 h.2.1 rfl rfl) h.2.2.1 rfl) rfl) ?_
   refine dG [(18,_),(0,_)] [([(19,some (I v1))],[(19,0)])] ⟨rfl,rfl,trivial⟩ (fun E h => IxOk.opE (x_ld (var_2.h _ rfl rfl) h.1 h.2.1 (getc hv1 rfl) rfl) rfl) ?_
   refine d_mv [(2,_)] ?_
   refine d_mv [(1,_)] ?_
   refine d_mv [(8,_)] ?_
   refine d_ixr [(21,_),(22,_)] ?_
   refine d_ldr [(23,_)] ?_
   refine d_mul [(20,_),(24,_)] ?_
   refine d_add [(19,_),(25,_)] ?_ (h := fun _ h => (x_add hv4 h.1 h.2.1 rfl))
   refine d_mv [(3,_)] ?_
   refine dC [(26,_),(27,_)] Tryz.call127 (t_impl_residue _ _ _ hr5) ?_
   refine dG [(14,_),(0,_),(15,_)] [([(29,some (T.addr 0 [s1.2.toNat]))],[(29,0)])] ⟨rfl,rfl,rfl,trivial⟩ (fun E h => IxOk.opE (x_ix (f := I) row_22 hv6 (locA h.1 h.2.1 rfl rfl) h.2.2.1 rfl) rfl) ?_
   refine dG [(29,_),(0,_),(28,_)] [([(0,some (L 1 I (s1.1.set s1.2.toNat r5)))],[(0,1)])] ⟨rfl,rfl,rfl,trivial⟩ (fun E h => IxOk.opE (x_st inf_2 rfl h.1 h.2.1 (getc hv6 rfl) (setc hv6 rfl) h.2.2.1 (clean_of (Enc.clean (f := I) _)) rfl) rfl) ?_
   refine dNA mixedP ?_
   refine nB ?_
   refine nA ?_
   refine CW.region ?_
   obtain ⟨v7,hv7,h⟩ := bd h
   refine a_add ?_
   refine a_mv ?_
   refine RW.nil ?_
   exact eN h
  ·refine CW.exit ?_
   refine xA ?_
   exact eX h
 ·obtain ⟨rfl,hg⟩ := hq
  refine xB ?_
  obtain rfl := sI h
  exact rTg hg rT
theorem t_impl_vectorTimes (x0 : List Int) (x1 : SMatrix) (r : (List Int)) (h : f_impl_vectorTimes x0 x1 = some r) : FnC Tryz.prog 102 [T.ro (lV x0),qMatrix x1] [lV r] [] := by
 refine fB Tryz.func102 (fun St W w0 v => ?_)
 refine sR ?_
 refine a_box ?_
 refine oP (x_nil 1 rfl) ?_
 refine rN ?_
 refine sR ?_
 refine a_fa ?_
 refine a_ld ?_
 obtain ⟨m1,hm1,h⟩ := bd h
 refine oP (x_makeL (f := I) (z := 0) elt_22 (rfl) hm1 rfl rfl rfl) ?_
 refine a_as ?_
 refine RW.ghost (Ghost.tr 5 10 _ rfl rfl (clean_of (cleanL (Enc.clean (f := I)))) rfl) ?_
 refine rN ?_
 refine CW.seq ?_
 refine sR ?_
 refine a_mv ?_
 refine a_lenr ?_
 refine a_mv ?_
 refine rN ?_
 refine CW.block ?_
 obtain ⟨r6,hr6,h⟩ := bd h
 refine CW.lp (s := (List.replicate m1 (0 : Int),0)) (l1_impl_vectorTimes x0 x1) (fun s1 : (List Int) × Int => envL [(3,T.ptr (qMatrix x1)),(5,L 1 I s1.1),(11,T.ro (lV x0)),(12,I (x0.length : Int)),(13,I s1.2)]) (fun (r6 : (List Int)) e E => e = .exit 0 ∧ Ghost ⟨St,W,w0,Tryz.f102.ntmps⟩ E (envL [(5,L 1 I r6)])) (.has ⟨rfl,rfl,rfl,rfl,rfl,trivial⟩) (fun s1 x h => ?_) hr6 (fun e E hq => ?_)
 ·refine sR ?_
  refine a_lss ?_
  refine rN ?_
  refine CW.seq ?_
  refine cn h (fun hc h => ?_) (fun hc h => ?_)
  ·refine CW.skip ?_
   refine nA ?_
   refine CW.seq ?_
   refine CW.block ?_
   refine sR ?_
   refine a_mv ?_
   obtain ⟨v2,hv2,h⟩ := bd h
   refine a_ixr ?_
   refine a_ldr ?_
   refine a_as ?_
   refine a_as ?_
   refine rN ?_
   obtain ⟨v3,hv3,h⟩ := bd h
   obtain ⟨r4,hr4,h⟩ := bd h
   refine CW.dk ?_
   refine d_mv [(5,_)] ?_
   refine d_fa [(3,_)] ?_
   refine d_ld [(19,_),(3,_)] ?_
   refine d_mv [(6,_)] ?_
   refine d_ixr [(20,_),(21,_)] ?_
   refine d_ldr [(22,_)] ?_
   refine d_mv [(7,_)] ?_
   refine d_fa [(3,_)] ?_
   refine d_ld [(25,_),(3,_)] ?_
   refine dG [(18,_),(5,_),(23,_),(24,_),(26,_)] [([(18,some (L 1 I s1.1)),(5,some (T.same 18 []))],[(18,1),(5,1)]),([(27,some (T.tup [])),(18,some (L 1 I r4))],[(27,0),(18,1)]),([(5,some (L 1 I r4)),(18,some (T.same 5 []))],[(5,1),(18,1)])] ⟨rfl,rfl,rfl,rfl,rfl,trivial⟩ (fun E h => IxOk.opE (x_callM (xs := [.tmp 18,.tmp 23,.tmp 24,.tmp 26]) 0 18 5 [] Tryz.call103 (t_impl_addMultiple _ _ _ _ _ hr4) h.1 h.2.1 rfl (clean_of (cleanL (Enc.clean (f := I)))) (clean_of (cleanL (Enc.clean (f := I)))) (Enc.rofree (f := L 1 I) _) (Enc.rofree (f := L 1 I) _) ⟨(agLd rfl (clean_of (cleanL (Enc.clean (f := I)))) (Enc.rofree (f := L 1 I) _)),⟨(agM _ (keepL h.2.2.1) rfl rfl),⟨(agM _ (keepL h.2.2.2.1) rfl rfl),⟨(agM _ (keepL h.2.2.2.2.1) rfl rfl),trivial⟩⟩⟩⟩ resN rfl rfl rfl rfl) rfl) ?_
   refine dNA mixedP ?_
   refine nB ?_
   refine nA ?_
   refine CW.region ?_
   obtain ⟨v5,hv5,h⟩ := bd h
   refine a_add ?_
   refine a_mv ?_
   refine RW.nil ?_
   exact eN h
  ·refine CW.exit ?_
   refine xA ?_
   exact eX h
 ·obtain ⟨rfl,hg⟩ := hq
  refine xB ?_
  refine nA ?_
  refine CW.ghost hg ?_
  refine sR ?_
  refine a_mv ?_
  refine a_as ?_
  refine RW.ghost (Ghost.tr 4 5 _ rfl rfl (clean_of (cleanL (Enc.clean (f := I)))) rfl) ?_
  refine rN ?_
  refine CW.ret ?_
  obtain rfl := sI h
  exact rT
theorem t_impl_product (x0 : SMatrix) (x1 : SMatrix) (r : SMatrix) (h : f_impl_product x0 x1 = some r) : FnC Tryz.prog 83 [qMatrix x0,qMatrix x1] [eSMatrix r] [] := by
 refine fB Tryz.func83 (fun St W w0 v => ?_)
 refine sR ?_
 refine a_box ?_
 refine a_box ?_
 refine a_alloc ?_
 refine rN ?_
 refine sR ?_
 refine a_fa ?_
 refine a_ld ?_
 refine a_fa ?_
 refine a_ld ?_
 refine oP (x_build bld_55 [(0,.tmp 9),(1,.tmp 11)] [(0,.slot 9 (I x0.Prime)),(1,.slot 11 (I x1.Columns))] [.slot 9 (I x0.Prime),.slot 11 (I x1.Columns),.zero (L 1 lV [])] (pkS rfl (clean_of (Enc.clean (f := I) _)) rfl (pkS rfl (clean_of (Enc.clean (f := I) _)) rfl (pkZ rfl pkN))) (bqC (.slot _ _) (bqC (.slot _ _) bqN)) rfl) ?_
 refine a_alloc ?_
 refine oP (x_stp inf_55 rfl (locB rfl rfl) rfl rfl rfl rfl (clean_of (cleanA ⟨(Enc.clean (f := I) _),(Enc.clean (f := I) _),trivial,trivial⟩)) rfl) ?_
 refine rN ?_
 refine CW.seq ?_
 refine sR ?_
 refine a_fa ?_
 refine a_ld ?_
 refine a_lenr ?_
 refine a_mv ?_
 refine rN ?_
 refine CW.block ?_
 obtain ⟨r5,hr5,h⟩ := bd h
 refine CW.lp (s := ([],0)) (l1_impl_product x0 x1) (fun s1 : (List (List Int)) × Int => envL [(3,T.ptr (qMatrix x1)),(4,T.ptr (T.agg [I 0,I 0,L 1 lV []])),(5,T.ptr (T.agg [I x0.Prime,I x1.Columns,L 1 lV s1.1])),(14,T.ro (lM x0.Rows)),(15,I (x0.Rows.length : Int)),(16,I s1.2)]) (fun (r5 : (List (List Int))) e E => e = .exit 0 ∧ Ghost ⟨St,W,w0,Tryz.f83.ntmps⟩ E (envL [(4,T.ptr (T.agg [I 0,I 0,L 1 lV []])),(5,T.ptr (T.agg [I x0.Prime,I x1.Columns,L 1 lV r5]))])) (.has ⟨rfl,rfl,rfl,rfl,rfl,rfl,trivial⟩) (fun s1 x h => ?_) hr5 (fun e E hq => ?_)
 ·refine sR ?_
  refine a_lss ?_
  refine rN ?_
  refine CW.seq ?_
  refine cn h (fun hc h => ?_) (fun hc h => ?_)
  ·refine CW.skip ?_
   refine nA ?_
   refine CW.seq ?_
   refine CW.block ?_
   refine sR ?_
   obtain ⟨v1,hv1,h⟩ := bd h
   refine a_ixr ?_
   refine a_ldr ?_
   refine a_as ?_
   refine rN ?_
   obtain ⟨r2,hr2,h⟩ := bd h
   obtain ⟨v3,hv3,h⟩ := bd h
   refine CW.dk ?_
   refine d_fa [(5,_)] ?_
   refine d_ld [(20,_),(5,_)] ?_
   refine d_mv [(7,_)] ?_
   refine d_ldp [(3,_)] ?_
   refine dC [(22,_),(23,_)] Tryz.call102 (t_impl_vectorTimes _ _ _ hr2) ?_
   refine dG [(24,_)] [([(25,some (L 1 lV [r2])),(24,some (T.same 25 [0]))],[(25,0),(24,1)])] ⟨rfl,trivial⟩ (fun E h => IxOk.opE (x_bs elt_23 [.tmp 24] [.slot 24 (L 1 I r2)] [r2] lV ⟨.slot _ _,trivial⟩ (pkS h.1 (clean_of (cleanL (Enc.clean (f := I)))) rfl pkN) rfl rfl) rfl) ?_
   refine dG [(21,T.same 5 [2,0]),(5,T.ptr (T.agg [I x0.Prime,I x1.Columns,L 1 lV s1.1])),(25,L 1 lV [r2])] [([(21,some (L 1 lV s1.1)),(5,some (T.ptr (T.agg [I x0.Prime,I x1.Columns,T.any])))],[(21,1),(5,3)]),([(26,some (L 1 lV v3)),(21,some T.any),(25,some T.any)],[(26,0),(21,1),(25,1)])] ⟨rfl,rfl,rfl,trivial⟩ (fun E h => IxOk.gh (Ghost.trq 21 5 [2,0] h.1 h.2.1 rfl (clean_of (cleanL (Enc.clean (f := lV)))) rfl) <| IxOk.opE (x_appm (f := lV) elt_23 hv3 rfl (keepE h.2.2.1) rfl) rfl) ?_
   refine d_fa [(5,_)] ?_
   refine dG [(27,_),(5,_),(26,_)] [([(5,some (T.ptr (T.agg [I x0.Prime,I x1.Columns,L 1 lV v3]))),(26,some (T.same 5 [2,0]))],[(5,2),(26,1)])] ⟨rfl,rfl,rfl,trivial⟩ (fun E h => IxOk.opE (x_st inf_23 rfl h.1 h.2.1 rfl rfl h.2.2.1 (clean_of (cleanL (Enc.clean (f := lV)))) rfl) rfl) ?_
   refine dNA mixedP ?_
   refine nB ?_
   refine nA ?_
   refine CW.region ?_
   obtain ⟨v4,hv4,h⟩ := bd h
   refine a_add ?_
   refine a_mv ?_
   refine RW.nil ?_
   exact eN h
  ·refine CW.exit ?_
   refine xA ?_
   exact eX h
 ·obtain ⟨rfl,hg⟩ := hq
  refine xB ?_
  refine nA ?_
  refine CW.ghost hg ?_
  refine sR ?_
  refine a_ldp ?_
  refine RW.ghost (Ghost.trf 29 [2] 5 [2,0] _ _ rfl rfl rfl rfl rfl (clean_of (cleanL (Enc.clean (f := lV)))) rfl) ?_
  refine oP (x_stp inf_55 rfl (locB rfl rfl) rfl rfl rfl rfl (clean_of (cleanA ⟨(Enc.clean (f := I) _),(Enc.clean (f := I) _),(cleanL (Enc.clean (f := lV))),trivial⟩)) rfl) ?_
  refine rN ?_
  refine CW.ret ?_
  obtain rfl := sI h
  exact ⟨_,Ghost.refl,⟨.inl rfl,[(4,[0],T.agg [I x0.Prime,I x1.Columns,L 1 lV r5])],⟨⟨rfl,rfl,rfl,(var_55.h _ rfl rfl).h⟩,trivial⟩,rfl,(by simp),(by simp),trivial⟩⟩
theorem t_impl_actionOf (x0 : SModule) (x1 : List Int) (r : SMatrix) (h : f_impl_actionOf x0 x1 = some r) : FnC Tryz.prog 97 [T.ro ((Pt eSModule) x0),T.ro (lV x1)] [eSMatrix r] [] := by
 refine fB Tryz.func97 (fun St W w0 v => ?_)
 refine sR ?_
 refine a_alloc ?_
 refine rN ?_
 refine CW.seq ?_
 obtain ⟨r1,hr1,h⟩ := bd h
 refine CW.dk ?_
 refine d_mv [(0,_)] ?_
 refine d_nilc [(8,_)] ?_
 refine d_far [(9,_)] ?_
 refine d_ldr [(10,_)] ?_
 refine d_mv [(0,_)] ?_
 refine d_nilc [(12,_)] ?_
 refine d_far [(13,_)] ?_
 refine d_ldr [(14,_)] ?_
 refine dC [(11,_),(15,_)] Tryz.call145 (t_impl_identityOf _ _ _ hr1) ?_
 refine d_alloc [] ?_
 refine dG [(5,_),(16,_)] [([(5,some (T.ptr (eSMatrix r1))),(16,some (T.agg [I r1.Prime,I r1.Columns,T.same 5 [2,0]]))],[(5,1),(16,1)])] ⟨rfl,rfl,trivial⟩ (fun E h => IxOk.opE (x_stp inf_55 rfl (locB h.1 rfl) h.1 rfl rfl h.2.1 (clean_of (cleanA ⟨(Enc.clean (f := I) _),(Enc.clean (f := I) _),(cleanL (Enc.clean (f := lV))),trivial⟩)) rfl) rfl) ?_
 refine dNA mixedP ?_
 refine nA ?_
 refine CW.seq ?_
 refine sR ?_
 refine a_mv ?_
 refine a_lenr ?_
 refine a_mv ?_
 refine rN ?_
 refine CW.block ?_
 obtain ⟨r7,hr7,h⟩ := bd h
 refine CW.lp (s := (r1.Prime,r1.Columns,r1.Rows,0)) (l1_impl_actionOf x0 x1) (fun s1 : Int × Int × (List (List Int)) × Int => envL [(0,T.ro ((Pt eSModule) x0)),(4,T.ptr (T.agg [I 0,I 0,L 1 lV []])),(5,T.ptr (T.agg [I s1.1,I s1.2.1,L 1 lV s1.2.2.1])),(17,T.ro (lV x1)),(18,I (x1.length : Int)),(19,I s1.2.2.2)]) (fun (r7 : (Int × Int × (List (List Int)))) e E => e = .exit 0 ∧ Ghost ⟨St,W,w0,Tryz.f97.ntmps⟩ E (envL [(4,T.ptr (T.agg [I 0,I 0,L 1 lV []])),(5,T.ptr (T.agg [I r7.1,I r7.2.1,L 1 lV r7.2.2]))])) (.has ⟨rfl,rfl,rfl,rfl,rfl,rfl,trivial⟩) (fun s1 x h => ?_) hr7 (fun e E hq => ?_)
 ·refine sR ?_
  refine a_lss ?_
  refine rN ?_
  refine CW.seq ?_
  refine cn h (fun hc h => ?_) (fun hc h => ?_)
  ·refine CW.skip ?_
   refine nA ?_
   refine CW.seq ?_
   refine CW.block ?_
   refine sR ?_
   obtain ⟨v2,hv2,h⟩ := bd h
   refine a_ixr ?_
   refine a_ldr ?_
   refine a_as ?_
   refine rN ?_
   obtain ⟨v3,hv3,h⟩ := bd h
   obtain ⟨r4,hr4,h⟩ := bd h
   obtain ⟨r5,hr5,h⟩ := bd h
   refine CW.dk ?_
   refine d_ldp [(5,_)] ?_
   refine d_mv [(0,_)] ?_
   refine d_mv [(7,_)] ?_
   refine d_sub [(25,_)] ?_
   refine dG [(24,_),(26,_)] [([(27,some (qMatrix r4))],[(27,0)])] ⟨rfl,rfl,trivial⟩ (fun E h => IxOk.opE (x_callF (xs := [.tmp 24,.tmp 26]) Tryz.call84 (t_impl_actionAt _ _ _ hr4) (afC h.1 rfl (afC h.2.1 rfl afN)) rfl ⟨(cleanA ⟨(Enc.clean (f := I) _),(Enc.clean (f := I) _),trivial,trivial⟩),trivial⟩ rfl rfl) rfl) ?_
   refine dG [(23,_),(5,_),(27,_)] [([(28,some (eSMatrix r5))],[(28,0)])] ⟨rfl,rfl,rfl,trivial⟩ (fun E h => IxOk.opE (x_call (xs := [.tmp 23,.tmp 27]) Tryz.call83 (t_impl_product _ _ _ hr5) ⟨(agC _ h.1 (cloA (cloC rfl (cloC rfl (cloC (cloS h.2.1 rfl inferInstance) cloN)))) rfl),⟨(agC _ h.2.2.1 rfl rfl),trivial⟩⟩ (resC (f := eSMatrix) inferInstance resN) rfl) rfl) ?_
   refine dG [(5,_),(28,_)] [([(5,some (T.ptr (eSMatrix r5))),(28,some (T.agg [I r5.Prime,I r5.Columns,T.same 5 [2,0]]))],[(5,1),(28,1)])] ⟨rfl,rfl,trivial⟩ (fun E h => IxOk.opE (x_stp inf_55 rfl (locB h.1 rfl) h.1 rfl rfl h.2.1 (clean_of (cleanA ⟨(Enc.clean (f := I) _),(Enc.clean (f := I) _),(cleanL (Enc.clean (f := lV))),trivial⟩)) rfl) rfl) ?_
   refine dNA mixedP ?_
   refine nB ?_
   refine nA ?_
   refine CW.region ?_
   obtain ⟨v6,hv6,h⟩ := bd h
   refine a_add ?_
   refine a_mv ?_
   refine RW.nil ?_
   exact eN h
  ·refine CW.exit ?_
   refine xA ?_
   exact eX h
 ·obtain ⟨rfl,hg⟩ := hq
  refine xB ?_
  refine nA ?_
  refine CW.ghost hg ?_
  refine sR ?_
  refine a_ldp ?_
  refine RW.ghost (Ghost.trf 30 [2] 5 [2,0] _ _ rfl rfl rfl rfl rfl (clean_of (cleanL (Enc.clean (f := lV)))) rfl) ?_
  refine oP (x_stp inf_55 rfl (locB rfl rfl) rfl rfl rfl rfl (clean_of (cleanA ⟨(Enc.clean (f := I) _),(Enc.clean (f := I) _),(cleanL (Enc.clean (f := lV))),trivial⟩)) rfl) ?_
  refine rN ?_
  refine CW.ret ?_
  obtain rfl := sI h
  exact ⟨_,Ghost.refl,⟨.inl rfl,[(4,[0],T.agg [I r7.1,I r7.2.1,L 1 lV r7.2.2])],⟨⟨rfl,rfl,rfl,(var_55.h _ rfl rfl).h⟩,trivial⟩,rfl,(by simp),(by simp),trivial⟩⟩
theorem t_slices_EqualFunc_int64_int64_int64_int64 (x0 : List (List Int)) (x1 : List (List Int)) (r : Bool) (h : f_slices_EqualFunc_int64_int64_int64_int64 x0 x1 = some r) : FnC Tryz.prog 143 [T.ro (lM x0),T.ro (lM x1),T.lit (.func (.func 144) #[] #[])] [B r] [] := by
 refine fB Tryz.func143 (fun St W w0 v => ?_)
 refine sR ?_
 refine a_as ?_
 refine rN ?_
 refine CW.seq ?_
 refine sR ?_
 refine a_mv ?_
 refine a_lenr ?_
 refine a_mv ?_
 refine a_lenr ?_
 refine a_neq ?_
 refine rN ?_
 refine cn h (fun hc h => ?_) (fun hc h => ?_)
 ·refine sR ?_
  refine a_as ?_
  refine rN ?_
  refine CW.ret ?_
  refine rA ?_
  obtain rfl := sI h
  exact rT
 ·refine CW.skip ?_
  refine nA ?_
  refine CW.seq ?_
  refine sR ?_
  refine a_mv ?_
  refine a_lenr ?_
  refine a_mv ?_
  refine rN ?_
  refine CW.block ?_
  obtain ⟨r5,hr5,h⟩ := bd h
  refine CW.lp (s := 0) (l1_slices_EqualFunc_int64_int64_int64_int64 x0 x1) (fun s1 : Int => envL [(1,T.ro (lM x1)),(2,T.lit (.func (.func 144) #[] #[])),(15,T.ro (lM x0)),(16,I (x0.length : Int)),(17,I s1)]) (fun (x : Unit ⊕ Bool) e E => match x with | (.inl r5) => e = .exit 0 ∧ Ghost ⟨St,W,w0,Tryz.f143.ntmps⟩ E (envL []) | (.inr r5) => e = .ret ∧ RetG ⟨St,W,w0,Tryz.f143.ntmps⟩ Tryz.prog Tryz.f143.results [T.ro (lM x0),T.ro (lM x1),T.lit (.func (.func 144) #[] #[])] [B r5] [] .ret E) (.has ⟨rfl,rfl,rfl,rfl,rfl,trivial⟩) (fun s1 x h => ?_) hr5 (fun e E hq => ?_)
  ·refine sR ?_
   refine a_lss ?_
   refine rN ?_
   refine CW.seq ?_
   refine cn h (fun hc h => ?_) (fun hc h => ?_)
   ·refine CW.skip ?_
    refine nA ?_
    refine CW.seq ?_
    refine CW.block ?_
    refine sR ?_
    refine a_mv ?_
    obtain ⟨v1,hv1,h⟩ := bd h
    refine a_ixr ?_
    refine a_ldr ?_
    refine a_as ?_
    refine a_as ?_
    refine rN ?_
    refine sR ?_
    refine a_mv ?_
    refine a_mv ?_
    obtain ⟨v2,hv2,h⟩ := bd h
    refine a_ixr ?_
    refine a_ldr ?_
    refine a_as ?_
    refine rN ?_
    refine sR ?_
    refine a_mv ?_
    refine a_mv ?_
    refine a_mv ?_
    obtain ⟨r3,hr3,h⟩ := bd h
    refine oP (x_callV (xs := [.tmp 27,.tmp 28]) rfl Tryz.call144 (t_slices_Equal_int64_int64 _ _ _ hr3) ⟨(agC _ rfl rfl rfl),⟨(agC _ rfl rfl rfl),trivial⟩⟩ (resC (f := B) inferInstance resN) rfl) ?_
    refine a_not ?_
    refine rN ?_
    refine cn h (fun hc h => ?_) (fun hc h => ?_)
    ·refine sR ?_
     refine a_as ?_
     refine rN ?_
     refine CW.ret ?_
     refine rB ?_
     refine rA ?_
     exact eX h
    ·refine CW.skip ?_
     refine nB ?_
     refine nA ?_
     refine CW.region ?_
     obtain ⟨v4,hv4,h⟩ := bd h
     refine a_add ?_
     refine a_mv ?_
     refine RW.nil ?_
     exact eN h
   ·refine CW.exit ?_
    refine xA ?_
    exact eX h
  ·rcases r5 with r5 | r5
   ·obtain ⟨rfl,hg⟩ := hq
    refine xB ?_
    refine nA ?_
    refine CW.ghost hg ?_
    refine sR ?_
    refine a_as ?_
    refine rN ?_
    refine CW.ret ?_
    obtain rfl := sI h
    exact rT
   ·obtain ⟨rfl,hq⟩ := hq
    refine rB ?_
    refine rA ?_
    obtain rfl := sI h
    exact hq
theorem t_impl_sameRows (x0 : List (List Int)) (x1 : List (List Int)) (r : Bool) (h : f_impl_sameRows x0 x1 = some r) : FnC Tryz.prog 96 [T.ro (lM x0),T.ro (lM x1)] [B r] [] := by
 refine fB Tryz.func96 (fun St W w0 v => ?_)
 refine sR ?_
 refine a_as ?_
 refine rN ?_
 refine sR ?_
 refine a_mv ?_
 refine a_mv ?_
 obtain ⟨r1,hr1,h⟩ := bd h
 refine cA Tryz.call143 (t_slices_EqualFunc_int64_int64_int64_int64 _ _ _ hr1) ?_
 refine a_as ?_
 refine rN ?_
 refine CW.ret ?_
 obtain rfl := sI h
 exact rT
theorem t_impl_isModule (x0 : SPresentation) (x1 : SModule) (r : Bool) (h : f_impl_isModule x0 x1 = some r) : FnC Tryz.prog 53 [T.ro ((Pt eSPresentation) x0),T.ro ((Pt eSModule) x1)] [B r] [] := by
 refine fB Tryz.func53 (fun St W w0 v => ?_)
 refine sR ?_
 refine a_as ?_
 refine rN ?_
 refine CW.seq ?_
 refine CW.seq ?_
 obtain ⟨r1,hr1,h⟩ := bd h
 refine CW.casesB (!r1) (fun hc0 => ?_) (fun hc0 => ?_)
 ·have h := cT hc0 h
  refine CW.dk ?_
  refine d_mv [(0,_)] ?_
  refine d_nilc [(9,_)] ?_
  refine d_ldr [(10,_)] ?_
  refine dC [(11,_)] Tryz.call91 (t_impl_IsConsistent _ _ hr1) ?_
  refine dG [(12,_)] [([(13,some (B true))],[(13,0)])] ⟨rfl,trivial⟩ (fun E h => IxOk.opE (okB_eq hc0 (x_not h.1 rfl)) rfl) ?_
  refine d_mv [(13,_)] ?_
  refine dsk2 ?_
  refine dsk2 ?_
  refine dsk2 ?_
  refine dsk2 ?_
  refine dsk2 ?_
  refine dsk2 ?_
  refine d_pick [(14,_)] ?_
  refine d_mv [(21,_)] ?_
  refine dsk2 ?_
  refine dsk2 ?_
  refine dsk2 ?_
  refine dsk2 ?_
  refine dsk2 ?_
  refine dsk2 ?_
  refine d_pick [(22,_)] ?_
  refine d_mv [(29,_)] ?_
  refine dsk2 ?_
  refine dsk2 ?_
  refine dsk2 ?_
  refine dsk2 ?_
  refine dsk2 ?_
  refine dsk2 ?_
  refine dsk2 ?_
  refine dsk2 ?_
  refine dsk2 ?_
  refine dsk2 ?_
  refine dsk2 ?_
  refine d_pick [(30,_)] ?_
  refine dN ([] :: [0] :: [0,1] :: [0,1,2] :: [0,1,2,3] :: [0,1,2,3,4] :: [0,1,2,3,4,5] :: [0,1,2,3,4,5,6] :: [0,1,2,3,4,5,6,7] :: [0,1,2,3,4,5,6,7,8] :: [0,1,2,3,4,5,6,7,8,9] :: [0,1,2,3,4,5,6,7,8,9,10] :: [0,1,2,3,4,5,6,7,8,9,10,11] :: [0,1,2,3,4,5,6,7,8,9,10,11,12] :: [0,1,2,3,4,5,6,7,8,9,10,11,12,13] :: [0,1,2,3,4,5,6,7,8,9,10,11,12,13,14] :: [0,1,2,3,4,5,6,7,8,9,10,11,12,13,14,15] :: [0,1,2,3,4,5,6,7,8,9,10,11,12,13,14,15,16] :: [0,1,2,3,4,5,6,7,8,9,10,11,12,13,14,15,16,17] :: [0,1,2,3,4,5,6,7,8,9,10,11,12,13,14,15,16,17,18] :: [0,1,2,3,4,5,6,7,8,9,10,11,12,13,14,15,16,17,18,19] :: [0,1,2,3,4,5,6,7,8,9,10,11,12,13,14,15,16,17,18,19,20] :: [0,1,2,3,4,5,6,7,8,9,10,11,12,13,14,15,16,17,18,19,20,21] :: [0,1,2,3,4,5,6,7,8,9,10,11,12,13,14,15,16,17,18,19,20,21,22] :: [0,1,2,3,4,5,6,7,8,9,10,11,12,13,14,15,16,17,18,19,20,21,22,23] :: [0,1,2,3,4,5,6,7,8,9,10,11,12,13,14,15,16,17,18,19,20,21,22,23,24] :: [0,1,2,3,4,5,6,7,8,9,10,11,12,13,14,15,16,17,18,19,20,21,22,23,24,25] :: [0,1,2,3,4,5,6,7,8,9,10,11,12,13,14,15,16,17,18,19,20,21] :: [0,1,2,3,4,5,6,7,8,9,10,11,12,13,14,15,16,17,18,19,20,21,27] :: [0,1,2,3,4,5,6,7,8,9,10,11,12,13,14,15,16,17,18,19,20,21,27,28] :: [0,1,2,3,4,5,6,7,8,9,10,11,12,13,14,15,16,17,18,19,20,21,27,28,29] :: [0,1,2,3,4,5,6,7,8,9,10,11,12,13,14,15,16,17,18,19,20,21,27,28,29,30] :: [0,1,2,3,4,5,6,7,8,9,10,11,12,13,14,15,16,17,18,19,20,21,22,23,24,25,26,27,28,29,30,31] :: [0,1,2,3,4,5,6,7,8,9,10,11,12,13,14,15,16,17,18,19,20,21,22,23,24,25,26,27,28,29,30,31,32] :: []) mixedP ?_
  refine nA ?_
  refine CW.condT rfl ?_
  refine CW.seq ?_
  refine CW.to [] trivial ?_
  refine CW.region ?_
  refine a_as ?_
  refine rN ?_
  refine CW.ret ?_
  refine rA ?_
  obtain rfl := sI h
  exact rT
 ·have h := cF hc0 h
  obtain ⟨r2,hr2,h⟩ := bd h
  refine CW.casesB (!r2) (fun hc1 => ?_) (fun hc1 => ?_)
  ·have h := cT hc1 h
   refine CW.dk ?_
   refine d_mv [(0,_)] ?_
   refine d_nilc [(9,_)] ?_
   refine d_ldr [(10,_)] ?_
   refine dC [(11,_)] Tryz.call91 (t_impl_IsConsistent _ _ hr1) ?_
   refine dG [(12,_)] [([(13,some (B false))],[(13,0)])] ⟨rfl,trivial⟩ (fun E h => IxOk.opE (okB_eq hc0 (x_not h.1 rfl)) rfl) ?_
   refine d_mv [(13,_)] ?_
   refine e_mv [(1,_),(14,_)] ?_
   refine e_nilc [(15,_),(14,_)] ?_
   refine e_far [(16,_),(14,_)] ?_
   refine e_ldr [(17,_),(14,_)] ?_
   refine dG [(18,_),(14,_)] [([(19,some (B r2))],[(19,0)])] ⟨rfl,rfl,trivial⟩ (fun E h => IxOk.guardE 5 false 14 (x_call (xs := [.tmp 18]) Tryz.call92 (t_impl_IsGroupPrime _ _ hr2) ⟨(agC _ h.1 rfl rfl),trivial⟩ (resC (f := B) inferInstance resN) rfl) rfl rfl h.2.1 rfl) ?_
   refine dG [(19,_),(14,_)] [([(20,some (B true))],[(20,0)])] ⟨rfl,rfl,trivial⟩ (fun E h => IxOk.guardE 5 false 14 (okB_eq hc1 (x_not h.1 rfl)) rfl rfl h.2.1 rfl) ?_
   refine d_pick [(14,_),(20,_)] ?_
   refine d_mv [(21,_)] ?_
   refine dsk2 ?_
   refine dsk2 ?_
   refine dsk2 ?_
   refine dsk2 ?_
   refine dsk2 ?_
   refine dsk2 ?_
   refine d_pick [(22,_)] ?_
   refine d_mv [(29,_)] ?_
   refine dsk2 ?_
   refine dsk2 ?_
   refine dsk2 ?_
   refine dsk2 ?_
   refine dsk2 ?_
   refine dsk2 ?_
   refine dsk2 ?_
   refine dsk2 ?_
   refine dsk2 ?_
   refine dsk2 ?_
   refine dsk2 ?_
   refine d_pick [(30,_)] ?_
   refine dN ([] :: [0] :: [0,1] :: [0,1,2] :: [0,1,2,3] :: [0,1,2,3,4] :: [0,1,2,3,4,5] :: [0,1,2,3,4,5,6] :: [0,1,2,3,4,5,6,7] :: [0,1,2,3,4,5,6,7,8] :: [0,1,2,3,4,5,6,7,8,9] :: [0,1,2,3,4,5,6,7,8,9,10] :: [0,1,2,3,4,5,6,7,8,9,10,11] :: [0,1,2,3,4,5,6,7,8,9,10,11,12] :: [0,1,2,3,4,5,6,7,8,9,10,11,12,13] :: [0,1,2,3,4,5,6,7,8,9,10,11,12,13,14] :: [0,1,2,3,4,5,6,7,8,9,10,11,12,13,14,15] :: [0,1,2,3,4,5,6,7,8,9,10,11,12,13,14,15,16] :: [0,1,2,3,4,5,6,7,8,9,10,11,12,13,14,15,16,17] :: [0,1,2,3,4,5,6,7,8,9,10,11,12,13,14,15,16,17,18] :: [0,1,2,3,4,5,6,7,8,9,10,11,12,13,14,15,16,17,18,19] :: [0,1,2,3,4,5,6,7,8,9,10,11,12,13,14,15,16,17,18,19,20] :: [0,1,2,3,4,5,6,7,8,9,10,11,12,13,14,15,16,17,18,19,20,21] :: [0,1,2,3,4,5,6,7,8,9,10,11,12,13,14,15,16,17,18,19,20,21,22] :: [0,1,2,3,4,5,6,7,8,9,10,11,12,13,14,15,16,17,18,19,20,21,22,23] :: [0,1,2,3,4,5,6,7,8,9,10,11,12,13,14,15,16,17,18,19,20,21,22,23,24] :: [0,1,2,3,4,5,6,7,8,9,10,11,12,13,14,15,16,17,18,19,20,21,22,23,24,25] :: [0,1,2,3,4,5,6,7,8,9,10,11,12,13,14,15,16,17,18,19,20,21] :: [0,1,2,3,4,5,6,7,8,9,10,11,12,13,14,15,16,17,18,19,20,21,27] :: [0,1,2,3,4,5,6,7,8,9,10,11,12,13,14,15,16,17,18,19,20,21,27,28] :: [0,1,2,3,4,5,6,7,8,9,10,11,12,13,14,15,16,17,18,19,20,21,27,28,29] :: [0,1,2,3,4,5,6,7,8,9,10,11,12,13,14,15,16,17,18,19,20,21,27,28,29,30] :: [0,1,2,3,4,5,6,7,8,9,10,11,12,13,14,15,16,17,18,19,20,21,22,23,24,25,26,27,28,29,30,31] :: [0,1,2,3,4,5,6,7,8,9,10,11,12,13,14,15,16,17,18,19,20,21,22,23,24,25,26,27,28,29,30,31,32] :: []) mixedP ?_
   refine nA ?_
   refine CW.condT rfl ?_
   refine CW.seq ?_
   refine CW.to [] trivial ?_
   refine CW.region ?_
   refine a_as ?_
   refine rN ?_
   refine CW.ret ?_
   refine rA ?_
   obtain rfl := sI h
   exact rT
  ·have h := cF hc1 h
   obtain ⟨r3,hr3,h⟩ := bd h
   refine CW.casesB (!r3) (fun hc2 => ?_) (fun hc2 => ?_)
   ·have h := cT hc2 h
    refine CW.dk ?_
    refine d_mv [(0,_)] ?_
    refine d_nilc [(9,_)] ?_
    refine d_ldr [(10,_)] ?_
    refine dC [(11,_)] Tryz.call91 (t_impl_IsConsistent _ _ hr1) ?_
    refine dG [(12,_)] [([(13,some (B false))],[(13,0)])] ⟨rfl,trivial⟩ (fun E h => IxOk.opE (okB_eq hc0 (x_not h.1 rfl)) rfl) ?_
    refine d_mv [(13,_)] ?_
    refine e_mv [(1,_),(14,_)] ?_
    refine e_nilc [(15,_),(14,_)] ?_
    refine e_far [(16,_),(14,_)] ?_
    refine e_ldr [(17,_),(14,_)] ?_
    refine dG [(18,_),(14,_)] [([(19,some (B r2))],[(19,0)])] ⟨rfl,rfl,trivial⟩ (fun E h => IxOk.guardE 5 false 14 (x_call (xs := [.tmp 18]) Tryz.call92 (t_impl_IsGroupPrime _ _ hr2) ⟨(agC _ h.1 rfl rfl),trivial⟩ (resC (f := B) inferInstance resN) rfl) rfl rfl h.2.1 rfl) ?_
    refine dG [(19,_),(14,_)] [([(20,some (B false))],[(20,0)])] ⟨rfl,rfl,trivial⟩ (fun E h => IxOk.guardE 5 false 14 (okB_eq hc1 (x_not h.1 rfl)) rfl rfl h.2.1 rfl) ?_
    refine d_pick [(14,_),(20,_)] ?_
    refine d_mv [(21,_)] ?_
    refine e_mv [(1,_),(22,_)] ?_
    refine e_nilc [(23,_),(22,_)] ?_
    refine e_far [(24,_),(22,_)] ?_
    refine e_ldr [(25,_),(22,_)] ?_
    refine dG [(26,_),(22,_)] [([(27,some (B r3))],[(27,0)])] ⟨rfl,rfl,trivial⟩ (fun E h => IxOk.guardE 13 false 22 (x_call (xs := [.tmp 26,.const _,.const _]) Tryz.call93 (t_impl_inside _ _ _ _ hr3) ⟨(agC _ h.1 rfl rfl),⟨(agC _ rfl rfl rfl),⟨(agC _ rfl rfl rfl),trivial⟩⟩⟩ (resC (f := B) inferInstance resN) rfl) rfl rfl h.2.1 rfl) ?_
    refine dG [(27,_),(22,_)] [([(28,some (B true))],[(28,0)])] ⟨rfl,rfl,trivial⟩ (fun E h => IxOk.guardE 13 false 22 (okB_eq hc2 (x_not h.1 rfl)) rfl rfl h.2.1 rfl) ?_
    refine d_pick [(22,_),(28,_)] ?_
    refine d_mv [(29,_)] ?_
    refine dsk2 ?_
    refine dsk2 ?_
    refine dsk2 ?_
    refine dsk2 ?_
    refine dsk2 ?_
    refine dsk2 ?_
    refine dsk2 ?_
    refine dsk2 ?_
    refine dsk2 ?_
    refine dsk2 ?_
    refine dsk2 ?_
    refine d_pick [(30,_)] ?_
    refine dN ([] :: [0] :: [0,1] :: [0,1,2] :: [0,1,2,3] :: [0,1,2,3,4] :: [0,1,2,3,4,5] :: [0,1,2,3,4,5,6] :: [0,1,2,3,4,5,6,7] :: [0,1,2,3,4,5,6,7,8] :: [0,1,2,3,4,5,6,7,8,9] :: [0,1,2,3,4,5,6,7,8,9,10] :: [0,1,2,3,4,5,6,7,8,9,10,11] :: [0,1,2,3,4,5,6,7,8,9,10,11,12] :: [0,1,2,3,4,5,6,7,8,9,10,11,12,13] :: [0,1,2,3,4,5,6,7,8,9,10,11,12,13,14] :: [0,1,2,3,4,5,6,7,8,9,10,11,12,13,14,15] :: [0,1,2,3,4,5,6,7,8,9,10,11,12,13,14,15,16] :: [0,1,2,3,4,5,6,7,8,9,10,11,12,13,14,15,16,17] :: [0,1,2,3,4,5,6,7,8,9,10,11,12,13,14,15,16,17,18] :: [0,1,2,3,4,5,6,7,8,9,10,11,12,13,14,15,16,17,18,19] :: [0,1,2,3,4,5,6,7,8,9,10,11,12,13,14,15,16,17,18,19,20] :: [0,1,2,3,4,5,6,7,8,9,10,11,12,13,14,15,16,17,18,19,20,21] :: [0,1,2,3,4,5,6,7,8,9,10,11,12,13,14,15,16,17,18,19,20,21,22] :: [0,1,2,3,4,5,6,7,8,9,10,11,12,13,14,15,16,17,18,19,20,21,22,23] :: [0,1,2,3,4,5,6,7,8,9,10,11,12,13,14,15,16,17,18,19,20,21,22,23,24] :: [0,1,2,3,4,5,6,7,8,9,10,11,12,13,14,15,16,17,18,19,20,21,22,23,24,25] :: [0,1,2,3,4,5,6,7,8,9,10,11,12,13,14,15,16,17,18,19,20,21] :: [0,1,2,3,4,5,6,7,8,9,10,11,12,13,14,15,16,17,18,19,20,21,27] :: [0,1,2,3,4,5,6,7,8,9,10,11,12,13,14,15,16,17,18,19,20,21,27,28] :: [0,1,2,3,4,5,6,7,8,9,10,11,12,13,14,15,16,17,18,19,20,21,27,28,29] :: [0,1,2,3,4,5,6,7,8,9,10,11,12,13,14,15,16,17,18,19,20,21,27,28,29,30] :: [0,1,2,3,4,5,6,7,8,9,10,11,12,13,14,15,16,17,18,19,20,21,22,23,24,25,26,27,28,29,30,31] :: [0,1,2,3,4,5,6,7,8,9,10,11,12,13,14,15,16,17,18,19,20,21,22,23,24,25,26,27,28,29,30,31,32] :: []) mixedP ?_
    refine nA ?_
    refine CW.condT rfl ?_
    refine CW.seq ?_
    refine CW.to [] trivial ?_
    refine CW.region ?_
    refine a_as ?_
    refine rN ?_
    refine CW.ret ?_
    refine rA ?_
    obtain rfl := sI h
    exact rT
   ·have h := cF hc2 h
    refine CW.dk ?_
    refine d_mv [(0,_)] ?_
    refine d_nilc [(9,_)] ?_
    refine d_ldr [(10,_)] ?_
    refine dC [(11,_)] Tryz.call91 (t_impl_IsConsistent _ _ hr1) ?_
    refine dG [(12,_)] [([(13,some (B false))],[(13,0)])] ⟨rfl,trivial⟩ (fun E h => IxOk.opE (okB_eq hc0 (x_not h.1 rfl)) rfl) ?_
    refine d_mv [(13,_)] ?_
    refine e_mv [(1,_),(14,_)] ?_
    refine e_nilc [(15,_),(14,_)] ?_
    refine e_far [(16,_),(14,_)] ?_
    refine e_ldr [(17,_),(14,_)] ?_
    refine dG [(18,_),(14,_)] [([(19,some (B r2))],[(19,0)])] ⟨rfl,rfl,trivial⟩ (fun E h => IxOk.guardE 5 false 14 (x_call (xs := [.tmp 18]) Tryz.call92 (t_impl_IsGroupPrime _ _ hr2) ⟨(agC _ h.1 rfl rfl),trivial⟩ (resC (f := B) inferInstance resN) rfl) rfl rfl h.2.1 rfl) ?_
    refine dG [(19,_),(14,_)] [([(20,some (B false))],[(20,0)])] ⟨rfl,rfl,trivial⟩ (fun E h => IxOk.guardE 5 false 14 (okB_eq hc1 (x_not h.1 rfl)) rfl rfl h.2.1 rfl) ?_
    refine d_pick [(14,_),(20,_)] ?_
    refine d_mv [(21,_)] ?_
    refine e_mv [(1,_),(22,_)] ?_
    refine e_nilc [(23,_),(22,_)] ?_
    refine e_far [(24,_),(22,_)] ?_
    refine e_ldr [(25,_),(22,_)] ?_
    refine dG [(26,_),(22,_)] [([(27,some (B r3))],[(27,0)])] ⟨rfl,rfl,trivial⟩ (fun E h => IxOk.guardE 13 false 22 (x_call (xs := [.tmp 26,.const _,.const _]) Tryz.call93 (t_impl_inside _ _ _ _ hr3) ⟨(agC _ h.1 rfl rfl),⟨(agC _ rfl rfl rfl),⟨(agC _ rfl rfl rfl),trivial⟩⟩⟩ (resC (f := B) inferInstance resN) rfl) rfl rfl h.2.1 rfl) ?_
    refine dG [(27,_),(22,_)] [([(28,some (B false))],[(28,0)])] ⟨rfl,rfl,trivial⟩ (fun E h => IxOk.guardE 13 false 22 (okB_eq hc2 (x_not h.1 rfl)) rfl rfl h.2.1 rfl) ?_
    refine d_pick [(22,_),(28,_)] ?_
    refine d_mv [(29,_)] ?_
    refine e_mv [(1,_),(30,_)] ?_
    refine e_nilc [(31,_),(30,_)] ?_
    refine e_far [(32,_),(30,_)] ?_
    refine e_ldr [(33,_),(30,_)] ?_
    refine e_lenr [(34,_),(30,_)] ?_
    refine e_mv [(0,_),(30,_)] ?_
    refine e_nilc [(36,_),(30,_)] ?_
    refine e_far [(37,_),(30,_)] ?_
    refine e_ldr [(38,_),(30,_)] ?_
    refine e_lenr [(39,_),(30,_)] ?_
    refine e_neq [(35,_),(40,_),(30,_)] ?_
    refine d_pick [(30,_),(41,_)] ?_
    refine dN ([] :: [0] :: [0,1] :: [0,1,2] :: [0,1,2,3] :: [0,1,2,3,4] :: [0,1,2,3,4,5] :: [0,1,2,3,4,5,6] :: [0,1,2,3,4,5,6,7] :: [0,1,2,3,4,5,6,7,8] :: [0,1,2,3,4,5,6,7,8,9] :: [0,1,2,3,4,5,6,7,8,9,10] :: [0,1,2,3,4,5,6,7,8,9,10,11] :: [0,1,2,3,4,5,6,7,8,9,10,11,12] :: [0,1,2,3,4,5,6,7,8,9,10,11,12,13] :: [0,1,2,3,4,5,6,7,8,9,10,11,12,13,14] :: [0,1,2,3,4,5,6,7,8,9,10,11,12,13,14,15] :: [0,1,2,3,4,5,6,7,8,9,10,11,12,13,14,15,16] :: [0,1,2,3,4,5,6,7,8,9,10,11,12,13,14,15,16,17] :: [0,1,2,3,4,5,6,7,8,9,10,11,12,13,14,15,16,17,18] :: [0,1,2,3,4,5,6,7,8,9,10,11,12,13,14,15,16,17,18,19] :: [0,1,2,3,4,5,6,7,8,9,10,11,12,13,14,15,16,17,18,19,20] :: [0,1,2,3,4,5,6,7,8,9,10,11,12,13,14,15,16,17,18,19,20,21] :: [0,1,2,3,4,5,6,7,8,9,10,11,12,13,14,15,16,17,18,19,20,21,22] :: [0,1,2,3,4,5,6,7,8,9,10,11,12,13,14,15,16,17,18,19,20,21,22,23] :: [0,1,2,3,4,5,6,7,8,9,10,11,12,13,14,15,16,17,18,19,20,21,22,23,24] :: [0,1,2,3,4,5,6,7,8,9,10,11,12,13,14,15,16,17,18,19,20,21,22,23,24,25] :: [0,1,2,3,4,5,6,7,8,9,10,11,12,13,14,15,16,17,18,19,20,21] :: [0,1,2,3,4,5,6,7,8,9,10,11,12,13,14,15,16,17,18,19,20,21,27] :: [0,1,2,3,4,5,6,7,8,9,10,11,12,13,14,15,16,17,18,19,20,21,27,28] :: [0,1,2,3,4,5,6,7,8,9,10,11,12,13,14,15,16,17,18,19,20,21,27,28,29] :: [0,1,2,3,4,5,6,7,8,9,10,11,12,13,14,15,16,17,18,19,20,21,27,28,29,30] :: [0,1,2,3,4,5,6,7,8,9,10,11,12,13,14,15,16,17,18,19,20,21,22,23,24,25,26,27,28,29,30,31] :: [0,1,2,3,4,5,6,7,8,9,10,11,12,13,14,15,16,17,18,19,20,21,22,23,24,25,26,27,28,29,30,31,32] :: []) mixedP ?_
    refine nA ?_
    refine cn h (fun hc h => ?_) (fun hc h => ?_)
    ·refine CW.seq ?_
     refine CW.to [] trivial ?_
     refine CW.region ?_
     refine a_as ?_
     refine rN ?_
     refine CW.ret ?_
     refine rA ?_
     obtain rfl := sI h
     exact rT
    ·refine CW.skip ?_
     refine nA ?_
     refine CW.seq ?_
     refine CW.seq ?_
     refine CW.to [(0,T.ro ((Pt eSPresentation) x0)),(1,T.ro ((Pt eSModule) x1))] ⟨rfl,rfl,trivial⟩ ?_
     refine CW.region ?_
     refine a_mv ?_
     refine a_nilc ?_
     refine a_far ?_
     refine a_ldr ?_
     refine a_lenr ?_
     refine a_mv ?_
     refine rN ?_
     refine CW.block ?_
     obtain ⟨r8,hr8,h⟩ := bd h
     refine CW.lp (s := 0) (l1_impl_isModule x1) (fun s1 : Int => envL [(0,T.ro ((Pt eSPresentation) x0)),(1,T.ro ((Pt eSModule) x1)),(46,T.ro (lC x1.Actions)),(47,I (x1.Actions.length : Int)),(48,I s1)]) (fun (x : Unit ⊕ Bool) e E => match x with | (.inl r8) => e = .exit 0 ∧ Ghost ⟨St,W,w0,Tryz.f53.ntmps⟩ E (envL [(0,T.ro ((Pt eSPresentation) x0)),(1,T.ro ((Pt eSModule) x1))]) | (.inr r8) => e = .ret ∧ RetG ⟨St,W,w0,Tryz.f53.ntmps⟩ Tryz.prog Tryz.f53.results [T.ro ((Pt eSPresentation) x0),T.ro ((Pt eSModule) x1)] [B r8] [] .ret E) (.has ⟨rfl,rfl,rfl,rfl,rfl,trivial⟩) (fun s1 x h => ?_) hr8 (fun e E hq => ?_)
     ·refine sR ?_
      refine a_lss ?_
      refine rN ?_
      refine CW.seq ?_
      refine cn h (fun hc h => ?_) (fun hc h => ?_)
      ·refine CW.skip ?_
       refine nA ?_
       refine CW.seq ?_
       refine CW.block ?_
       refine sR ?_
       refine a_mv ?_
       obtain ⟨v4,hv4,h⟩ := bd h
       refine a_ixr ?_
       refine a_ldr ?_
       refine a_as ?_
       refine a_as ?_
       refine rN ?_
       refine sR ?_
       refine a_mv ?_
       refine a_lenr ?_
       refine a_mv ?_
       refine a_nilc ?_
       refine a_far ?_
       refine a_ldr ?_
       refine a_neq ?_
       refine a_mv ?_
       refine RW.cases 60 _ rfl (fun hc => ?_) (fun hc => ?_)
       ·have h := cT hc h
        refine sk2 ?_
        refine sk2 ?_
        refine sk2 ?_
        refine sk2 ?_
        refine sk2 ?_
        refine a_pick ?_
        refine rN ?_
        refine CW.condT rfl ?_
        refine sR ?_
        refine a_as ?_
        refine rN ?_
        refine CW.ret ?_
        refine rB ?_
        refine rA ?_
        exact eX h
       ·have h := cF hc h
        refine g_mv ?_
        refine g_mv ?_
        obtain ⟨r5,hr5,h⟩ := bd h
        refine RW.cons (IxOk.guard 7 false 60 (x_callF (xs := [.tmp 61,.tmp 62]) Tryz.call84 (t_impl_actionAt _ _ _ hr5) (afC rfl rfl (afC rfl rfl afN)) rfl ⟨(cleanA ⟨(Enc.clean (f := I) _),(Enc.clean (f := I) _),trivial,trivial⟩),trivial⟩ rfl rfl)) ?_
        obtain ⟨r6,hr6,h⟩ := bd h
        refine RW.cons (IxOk.guard 7 false 60 (x_call (xs := [.tmp 63]) Tryz.call94 (t_impl_IsMatrix _ _ hr6) ⟨(agC _ rfl rfl rfl),trivial⟩ (resC (f := B) inferInstance resN) rfl)) ?_
        refine g_not ?_
        refine a_pick ?_
        refine rN ?_
        refine cn h (fun hc h => ?_) (fun hc h => ?_)
        ·refine sR ?_
         refine a_as ?_
         refine rN ?_
         refine CW.ret ?_
         refine rB ?_
         refine rA ?_
         exact eX h
        ·refine CW.skip ?_
         refine nB ?_
         refine nA ?_
         refine CW.region ?_
         obtain ⟨v7,hv7,h⟩ := bd h
         refine a_add ?_
         refine a_mv ?_
         refine RW.nil ?_
         exact eN h
      ·refine CW.exit ?_
       refine xA ?_
       exact eX h
     ·rcases r8 with r8 | r8
      ·obtain ⟨rfl,hg⟩ := hq
       refine xB ?_
       refine nA ?_
       refine CW.ghost hg ?_
       refine CW.seq ?_
       refine sR ?_
       refine a_mv ?_
       obtain ⟨r9,hr9,h⟩ := bd h
       refine cA Tryz.call95 (t_impl_relationSides _ _ hr9) ?_
       refine RW.ghost (Ghost.frz 69 (k := 2) (f := (A2 lV)) (g := (A2 lV)) r9 rfl inferInstance) ?_
       refine a_lenr ?_
       refine a_mv ?_
       refine rN ?_
       refine CW.block ?_
       obtain ⟨r15,hr15,h⟩ := bd h
       refine CW.lp (s := 0) (l2_impl_isModule x1 r9) (fun s3 : Int => envL [(1,T.ro ((Pt eSModule) x1)),(69,T.ro ((L 2 (A2 lV)) r9)),(70,I (r9.length : Int)),(71,I s3)]) (fun (x : Unit ⊕ Bool) e E => match x with | (.inl r15) => e = .exit 2 ∧ Ghost ⟨St,W,w0,Tryz.f53.ntmps⟩ E (envL []) | (.inr r15) => e = .ret ∧ RetG ⟨St,W,w0,Tryz.f53.ntmps⟩ Tryz.prog Tryz.f53.results [T.ro ((Pt eSPresentation) x0),T.ro ((Pt eSModule) x1)] [B r15] [] .ret E) (.has ⟨rfl,rfl,rfl,rfl,trivial⟩) (fun s3 x h => ?_) hr15 (fun e E hq => ?_)
       ·refine sR ?_
        refine a_lss ?_
        refine rN ?_
        refine CW.seq ?_
        refine cn h (fun hc h => ?_) (fun hc h => ?_)
        ·refine CW.skip ?_
         refine nA ?_
         refine CW.seq ?_
         refine CW.block ?_
         refine sR ?_
         obtain ⟨v10,hv10,h⟩ := bd h
         refine a_ixr ?_
         refine a_ldr ?_
         refine a_alloc ?_
         refine oP (x_stp inf_102 rfl (locB rfl rfl) rfl rfl rfl rfl (clean_of (cleanA ⟨trivial,trivial,trivial⟩)) rfl) ?_
         refine rN ?_
         refine CW.seq ?_
         obtain ⟨r11,hr11,h⟩ := bd h
         obtain ⟨r12,hr12,h⟩ := bd h
         obtain ⟨r13,hr13,h⟩ := bd h
         refine CW.dk ?_
         refine d_mv [(1,_)] ?_
         refine dG [(8,_)] [([(76,some (T.addr 8 [0,0]))],[(76,0)])] ⟨rfl,trivial⟩ (fun E h => IxOk.opE (x_ixA 0 arr_102 (locB h.1 rfl) rfl rfl rfl) rfl) ?_
         refine d_ld [(76,_),(8,_)] ?_
         refine dC [(75,_),(77,_)] Tryz.call97 (t_impl_actionOf _ _ _ hr11) ?_
         refine dG [(78,_)] [([(79,some (T.same 78 [2]))],[(79,0)])] ⟨rfl,trivial⟩ (fun E h => IxOk.opE (x_fld fld_55_2 (fldv_55_2 rfl rfl) h.1 rfl rfl rfl) rfl) ?_
         refine d_mv [(1,_)] ?_
         refine dG [(8,_)] [([(81,some (T.addr 8 [1,0]))],[(81,0)])] ⟨rfl,trivial⟩ (fun E h => IxOk.opE (x_ixA 1 arr_102 (locB h.1 rfl) rfl rfl rfl) rfl) ?_
         refine d_ld [(81,_),(8,_)] ?_
         refine dC [(80,_),(82,_)] Tryz.call97 (t_impl_actionOf _ _ _ hr12) ?_
         refine dG [(83,_)] [([(84,some (T.same 83 [2]))],[(84,0)])] ⟨rfl,trivial⟩ (fun E h => IxOk.opE (x_fld fld_55_2 (fldv_55_2 rfl rfl) h.1 rfl rfl rfl) rfl) ?_
         refine dC [(79,_),(78,_),(84,_),(83,_)] Tryz.call96 (t_impl_sameRows _ _ _ hr13) ?_
         refine d_not [(85,_)] ?_
         refine dNA mixedP ?_
         refine nA ?_
         refine cn h (fun hc h => ?_) (fun hc h => ?_)
         ·refine sR ?_
          refine a_as ?_
          refine rN ?_
          refine CW.ret ?_
          refine rB ?_
          refine rA ?_
          exact eX h
         ·refine CW.skip ?_
          refine nB ?_
          refine nA ?_
          refine CW.region ?_
          obtain ⟨v14,hv14,h⟩ := bd h
          refine a_add ?_
          refine a_mv ?_
          refine RW.nil ?_
          exact eN h
        ·refine CW.exit ?_
         refine xA ?_
         exact eX h
       ·rcases r15 with r15 | r15
        ·obtain ⟨rfl,hg⟩ := hq
         refine xB ?_
         refine nA ?_
         refine CW.ghost hg ?_
         refine sR ?_
         refine a_as ?_
         refine rN ?_
         refine CW.ret ?_
         obtain rfl := sI h
         exact rT
        ·obtain ⟨rfl,hq⟩ := hq
         refine rB ?_
         refine rA ?_
         obtain rfl := sI h
         exact hq
      ·obtain ⟨rfl,hq⟩ := hq
       refine rB ?_
       refine rA ?_
       obtain rfl := sI h
       exact hq
theorem t_laws_eqInt64S (x0 : List Int) (x1 : List Int) (r : Bool) (h : f_laws_eqInt64S x0 x1 = some r) : FnC Tryz.prog 19 [T.ro (lV x0),T.ro (lV x1)] [B r] [] := by
 refine fB Tryz.func19 (fun St W w0 v => ?_)
 refine sR ?_
 refine a_as ?_
 refine rN ?_
 refine CW.seq ?_
 refine sR ?_
 refine a_mv ?_
 refine a_lenr ?_
 refine a_mv ?_
 refine a_lenr ?_
 refine a_neq ?_
 refine rN ?_
 refine cn h (fun hc h => ?_) (fun hc h => ?_)
 ·refine sR ?_
  refine a_as ?_
  refine rN ?_
  refine CW.ret ?_
  refine rA ?_
  obtain rfl := sI h
  exact rT
 ·refine CW.skip ?_
  refine nA ?_
  refine CW.seq ?_
  refine sR ?_
  refine a_as ?_
  refine rN ?_
  refine CW.block ?_
  obtain ⟨r4,hr4,h⟩ := bd h
  refine CW.lp (s := 0) (l1_laws_eqInt64S x0 x1) (fun s1 : Int => envL [(0,T.ro (lV x0)),(1,T.ro (lV x1)),(5,I s1)]) (fun (x : Unit ⊕ Bool) e E => match x with | (.inl r4) => e = .exit 0 ∧ Ghost ⟨St,W,w0,Tryz.f19.ntmps⟩ E (envL []) | (.inr r4) => e = .ret ∧ RetG ⟨St,W,w0,Tryz.f19.ntmps⟩ Tryz.prog Tryz.f19.results [T.ro (lV x0),T.ro (lV x1)] [B r4] [] .ret E) (.has ⟨rfl,rfl,rfl,trivial⟩) (fun s1 x h => ?_) hr4 (fun e E hq => ?_)
  ·refine CW.seq ?_
   refine sR ?_
   refine a_mv ?_
   refine a_mv ?_
   refine a_lenr ?_
   refine a_lss ?_
   refine rN ?_
   refine cn h (fun hc h => ?_) (fun hc h => ?_)
   ·refine CW.skip ?_
    refine nA ?_
    refine CW.seq ?_
    refine CW.block ?_
    refine CW.seq ?_
    obtain ⟨v1,hv1,h⟩ := bd h
    obtain ⟨v2,hv2,h⟩ := bd h
    refine CW.dk ?_
    refine d_mv [(0,_)] ?_
    refine d_mv [(5,_)] ?_
    refine d_ixr [(17,_),(18,_)] ?_
    refine d_ldr [(19,_)] ?_
    refine d_mv [(1,_)] ?_
    refine d_mv [(5,_)] ?_
    refine d_ixr [(21,_),(22,_)] ?_
    refine d_ldr [(23,_)] ?_
    refine d_neq [(20,_),(24,_)] ?_
    refine dNA mixedP ?_
    refine nA ?_
    refine cn h (fun hc h => ?_) (fun hc h => ?_)
    ·refine sR ?_
     refine a_as ?_
     refine rN ?_
     refine CW.ret ?_
     refine rB ?_
     refine rA ?_
     exact eX h
    ·refine CW.skip ?_
     refine nB ?_
     refine nA ?_
     refine CW.region ?_
     refine a_mv ?_
     obtain ⟨v3,hv3,h⟩ := bd h
     refine a_add ?_
     refine a_as ?_
     refine RW.nil ?_
     exact eN h
   ·refine CW.exit ?_
    refine xA ?_
    exact eX h
  ·rcases r4 with r4 | r4
   ·obtain ⟨rfl,hg⟩ := hq
    refine xB ?_
    refine nA ?_
    refine CW.ghost hg ?_
    refine sR ?_
    refine a_as ?_
    refine rN ?_
    refine CW.ret ?_
    obtain rfl := sI h
    exact rT
   ·obtain ⟨rfl,hq⟩ := hq
    refine rB ?_
    refine rA ?_
    obtain rfl := sI h
    exact hq
theorem t_laws_eqInt64SS (x0 : List (List Int)) (x1 : List (List Int)) (r : Bool) (h : f_laws_eqInt64SS x0 x1 = some r) : FnC Tryz.prog 22 [T.ro (lM x0),T.ro (lM x1)] [B r] [] := by
 refine fB Tryz.func22 (fun St W w0 v => ?_)
 refine sR ?_
 refine a_as ?_
 refine rN ?_
 refine CW.seq ?_
 refine sR ?_
 refine a_mv ?_
 refine a_lenr ?_
 refine a_mv ?_
 refine a_lenr ?_
 refine a_neq ?_
 refine rN ?_
 refine cn h (fun hc h => ?_) (fun hc h => ?_)
 ·refine sR ?_
  refine a_as ?_
  refine rN ?_
  refine CW.ret ?_
  refine rA ?_
  obtain rfl := sI h
  exact rT
 ·refine CW.skip ?_
  refine nA ?_
  refine CW.seq ?_
  refine sR ?_
  refine a_as ?_
  refine rN ?_
  refine CW.block ?_
  obtain ⟨r5,hr5,h⟩ := bd h
  refine CW.lp (s := 0) (l1_laws_eqInt64SS x0 x1) (fun s1 : Int => envL [(0,T.ro (lM x0)),(1,T.ro (lM x1)),(5,I s1)]) (fun (x : Unit ⊕ Bool) e E => match x with | (.inl r5) => e = .exit 0 ∧ Ghost ⟨St,W,w0,Tryz.f22.ntmps⟩ E (envL []) | (.inr r5) => e = .ret ∧ RetG ⟨St,W,w0,Tryz.f22.ntmps⟩ Tryz.prog Tryz.f22.results [T.ro (lM x0),T.ro (lM x1)] [B r5] [] .ret E) (.has ⟨rfl,rfl,rfl,trivial⟩) (fun s1 x h => ?_) hr5 (fun e E hq => ?_)
  ·refine CW.seq ?_
   refine sR ?_
   refine a_mv ?_
   refine a_mv ?_
   refine a_lenr ?_
   refine a_lss ?_
   refine rN ?_
   refine cn h (fun hc h => ?_) (fun hc h => ?_)
   ·refine CW.skip ?_
    refine nA ?_
    refine CW.seq ?_
    refine CW.block ?_
    refine CW.seq ?_
    obtain ⟨v1,hv1,h⟩ := bd h
    obtain ⟨v2,hv2,h⟩ := bd h
    obtain ⟨r3,hr3,h⟩ := bd h
    refine CW.dk ?_
    refine d_mv [(0,_)] ?_
    refine d_mv [(5,_)] ?_
    refine d_ixr [(17,_),(18,_)] ?_
    refine d_ldr [(19,_)] ?_
    refine d_mv [(1,_)] ?_
    refine d_mv [(5,_)] ?_
    refine d_ixr [(21,_),(22,_)] ?_
    refine d_ldr [(23,_)] ?_
    refine dC [(20,_),(24,_)] Tryz.call19 (t_laws_eqInt64S _ _ _ hr3) ?_
    refine d_not [(25,_)] ?_
    refine dNA mixedP ?_
    refine nA ?_
    refine cn h (fun hc h => ?_) (fun hc h => ?_)
    ·refine sR ?_
     refine a_as ?_
     refine rN ?_
     refine CW.ret ?_
     refine rB ?_
     refine rA ?_
     exact eX h
    ·refine CW.skip ?_
     refine nB ?_
     refine nA ?_
     refine CW.region ?_
     refine a_mv ?_
     obtain ⟨v4,hv4,h⟩ := bd h
     refine a_add ?_
     refine a_as ?_
     refine RW.nil ?_
     exact eN h
   ·refine CW.exit ?_
    refine xA ?_
    exact eX h
  ·rcases r5 with r5 | r5
   ·obtain ⟨rfl,hg⟩ := hq
    refine xB ?_
    refine nA ?_
    refine CW.ghost hg ?_
    refine sR ?_
    refine a_as ?_
    refine rN ?_
    refine CW.ret ?_
    obtain rfl := sI h
    exact rT
   ·obtain ⟨rfl,hq⟩ := hq
    refine rB ?_
    refine rA ?_
    obtain rfl := sI h
    exact hq
theorem t_laws_eqInt64SSS (x0 : List (List (List Int))) (x1 : List (List (List Int))) (r : Bool) (h : f_laws_eqInt64SSS x0 x1 = some r) : FnC Tryz.prog 59 [T.ro (lC x0),T.ro (lC x1)] [B r] [] := by
 refine fB Tryz.func59 (fun St W w0 v => ?_)
 refine sR ?_
 refine a_as ?_
 refine rN ?_
 refine CW.seq ?_
 refine sR ?_
 refine a_mv ?_
 refine a_lenr ?_
 refine a_mv ?_
 refine a_lenr ?_
 refine a_neq ?_
 refine rN ?_
 refine cn h (fun hc h => ?_) (fun hc h => ?_)
 ·refine sR ?_
  refine a_as ?_
  refine rN ?_
  refine CW.ret ?_
  refine rA ?_
  obtain rfl := sI h
  exact rT
 ·refine CW.skip ?_
  refine nA ?_
  refine CW.seq ?_
  refine sR ?_
  refine a_as ?_
  refine rN ?_
  refine CW.block ?_
  obtain ⟨r5,hr5,h⟩ := bd h
  refine CW.lp (s := 0) (l1_laws_eqInt64SSS x0 x1) (fun s1 : Int => envL [(0,T.ro (lC x0)),(1,T.ro (lC x1)),(5,I s1)]) (fun (x : Unit ⊕ Bool) e E => match x with | (.inl r5) => e = .exit 0 ∧ Ghost ⟨St,W,w0,Tryz.f59.ntmps⟩ E (envL []) | (.inr r5) => e = .ret ∧ RetG ⟨St,W,w0,Tryz.f59.ntmps⟩ Tryz.prog Tryz.f59.results [T.ro (lC x0),T.ro (lC x1)] [B r5] [] .ret E) (.has ⟨rfl,rfl,rfl,trivial⟩) (fun s1 x h => ?_) hr5 (fun e E hq => ?_)
  ·refine CW.seq ?_
   refine sR ?_
   refine a_mv ?_
   refine a_mv ?_
   refine a_lenr ?_
   refine a_lss ?_
   refine rN ?_
   refine cn h (fun hc h => ?_) (fun hc h => ?_)
   ·refine CW.skip ?_
    refine nA ?_
    refine CW.seq ?_
    refine CW.block ?_
    refine CW.seq ?_
    obtain ⟨v1,hv1,h⟩ := bd h
    obtain ⟨v2,hv2,h⟩ := bd h
    obtain ⟨r3,hr3,h⟩ := bd h
    refine CW.dk ?_
    refine d_mv [(0,_)] ?_
    refine d_mv [(5,_)] ?_
    refine d_ixr [(17,_),(18,_)] ?_
    refine d_ldr [(19,_)] ?_
    refine d_mv [(1,_)] ?_
    refine d_mv [(5,_)] ?_
    refine d_ixr [(21,_),(22,_)] ?_
    refine d_ldr [(23,_)] ?_
    refine dC [(20,_),(24,_)] Tryz.call22 (t_laws_eqInt64SS _ _ _ hr3) ?_
    refine d_not [(25,_)] ?_
    refine dNA mixedP ?_
    refine nA ?_
    refine cn h (fun hc h => ?_) (fun hc h => ?_)
    ·refine sR ?_
     refine a_as ?_
     refine rN ?_
     refine CW.ret ?_
     refine rB ?_
     refine rA ?_
     exact eX h
    ·refine CW.skip ?_
     refine nB ?_
     refine nA ?_
     refine CW.region ?_
     refine a_mv ?_
     obtain ⟨v4,hv4,h⟩ := bd h
     refine a_add ?_
     refine a_as ?_
     refine RW.nil ?_
     exact eN h
   ·refine CW.exit ?_
    refine xA ?_
    exact eX h
  ·rcases r5 with r5 | r5
   ·obtain ⟨rfl,hg⟩ := hq
    refine xB ?_
    refine nA ?_
    refine CW.ghost hg ?_
    refine sR ?_
    refine a_as ?_
    refine rN ?_
    refine CW.ret ?_
    obtain rfl := sI h
    exact rT
   ·obtain ⟨rfl,hq⟩ := hq
    refine rB ?_
    refine rA ?_
    obtain rfl := sI h
    exact hq
theorem t_laws_eqPresentation (x0 : SPresentation) (x1 : SPresentation) (r : Bool) (h : f_laws_eqPresentation x0 x1 = some r) : FnC Tryz.prog 20 [qPresentation x0,qPresentation x1] [B r] [] := by
 refine fB Tryz.func20 (fun St W w0 v => ?_)
 refine sR ?_
 refine a_box ?_
 refine a_box ?_
 refine a_as ?_
 refine rN ?_
 refine CW.seq ?_
 refine sR ?_
 refine a_fa ?_
 refine a_ld ?_
 refine a_fa ?_
 refine a_ld ?_
 obtain ⟨r1,hr1,h⟩ := bd h
 refine cA Tryz.call19 (t_laws_eqInt64S _ _ _ hr1) ?_
 refine a_not ?_
 refine rN ?_
 refine cn h (fun hc h => ?_) (fun hc h => ?_)
 ·refine sR ?_
  refine a_as ?_
  refine rN ?_
  refine CW.ret ?_
  refine rA ?_
  obtain rfl := sI h
  exact rT
 ·refine CW.skip ?_
  refine nA ?_
  refine CW.seq ?_
  refine sR ?_
  refine a_fa ?_
  refine a_ld ?_
  refine a_fa ?_
  refine a_ld ?_
  obtain ⟨r2,hr2,h⟩ := bd h
  refine cA Tryz.call22 (t_laws_eqInt64SS _ _ _ hr2) ?_
  refine a_not ?_
  refine rN ?_
  refine cn h (fun hc h => ?_) (fun hc h => ?_)
  ·refine sR ?_
   refine a_as ?_
   refine rN ?_
   refine CW.ret ?_
   refine rA ?_
   obtain rfl := sI h
   exact rT
  ·refine CW.skip ?_
   refine nA ?_
   refine CW.seq ?_
   refine sR ?_
   refine a_fa ?_
   refine a_ld ?_
   refine a_fa ?_
   refine a_ld ?_
   obtain ⟨r3,hr3,h⟩ := bd h
   refine cA Tryz.call59 (t_laws_eqInt64SSS _ _ _ hr3) ?_
   refine a_not ?_
   refine rN ?_
   refine cn h (fun hc h => ?_) (fun hc h => ?_)
   ·refine sR ?_
    refine a_as ?_
    refine rN ?_
    refine CW.ret ?_
    refine rA ?_
    obtain rfl := sI h
    exact rT
   ·refine CW.skip ?_
    refine nA ?_
    refine sR ?_
    refine a_as ?_
    refine rN ?_
    refine CW.ret ?_
    obtain rfl := sI h
    exact rT
theorem t_laws_eqModule (x0 : SModule) (x1 : SModule) (r : Bool) (h : f_laws_eqModule x0 x1 = some r) : FnC Tryz.prog 21 [qModule x0,qModule x1] [B r] [] := by
 refine fB Tryz.func21 (fun St W w0 v => ?_)
 refine sR ?_
 refine a_box ?_
 refine a_box ?_
 refine a_as ?_
 refine rN ?_
 refine CW.seq ?_
 refine sR ?_
 refine a_fa ?_
 refine a_ld ?_
 refine a_fa ?_
 refine a_ld ?_
 refine a_neq ?_
 refine rN ?_
 refine cn h (fun hc h => ?_) (fun hc h => ?_)
 ·refine sR ?_
  refine a_as ?_
  refine rN ?_
  refine CW.ret ?_
  refine rA ?_
  obtain rfl := sI h
  exact rT
 ·refine CW.skip ?_
  refine nA ?_
  refine CW.seq ?_
  refine sR ?_
  refine a_fa ?_
  refine a_ld ?_
  refine a_fa ?_
  refine a_ld ?_
  refine a_neq ?_
  refine rN ?_
  refine cn h (fun hc h => ?_) (fun hc h => ?_)
  ·refine sR ?_
   refine a_as ?_
   refine rN ?_
   refine CW.ret ?_
   refine rA ?_
   obtain rfl := sI h
   exact rT
  ·refine CW.skip ?_
   refine nA ?_
   refine CW.seq ?_
   refine sR ?_
   refine a_fa ?_
   refine a_ld ?_
   refine a_fa ?_
   refine a_ld ?_
   obtain ⟨r1,hr1,h⟩ := bd h
   refine cA Tryz.call59 (t_laws_eqInt64SSS _ _ _ hr1) ?_
   refine a_not ?_
   refine rN ?_
   refine cn h (fun hc h => ?_) (fun hc h => ?_)
   ·refine sR ?_
    refine a_as ?_
    refine rN ?_
    refine CW.ret ?_
    refine rA ?_
    obtain rfl := sI h
    exact rT
   ·refine CW.skip ?_
    refine nA ?_
    refine sR ?_
    refine a_as ?_
    refine rN ?_
    refine CW.ret ?_
    obtain rfl := sI h
    exact rT
theorem t_laws_markInt64S (x0 : List Int) (x1 : Int) (r : Int × (List Int)) (h : f_laws_markInt64S x0 x1 = some r) : FnC Tryz.prog 26 [L 1 I x0,I x1] [I r.1] [(0,lV r.2)] := by
 refine fB Tryz.func26 (fun St W w0 v => ?_)
 refine sR ?_
 refine a_as ?_
 refine rN ?_
 refine CW.seq ?_
 refine sR ?_
 refine a_as ?_
 refine rN ?_
 refine CW.block ?_
 obtain ⟨r4,hr4,h⟩ := bd h
 refine CW.lp (s := (x0,x1,0)) l1_laws_markInt64S (fun s1 : (List Int) × Int × Int => envL [(0,L 1 I s1.1),(1,I s1.2.1),(5,I s1.2.2)]) (fun (r4 : ((List Int) × Int)) e E => e = .exit 0 ∧ Ghost ⟨St,W,w0,Tryz.f26.ntmps⟩ E (envL [(0,L 1 I r4.1),(1,I r4.2)])) (.has ⟨rfl,rfl,rfl,trivial⟩) (fun s1 x h => ?_) hr4 (fun e E hq => ?_)
 ·refine CW.seq ?_
  refine sR ?_
  refine a_mv ?_
  refine a_mv ?_
  refine a_len ?_
  refine a_lss ?_
  refine rN ?_
  refine cn h (fun hc h => ?_) (fun hc h => ?_)
  ·refine CW.skip ?_
   refine nA ?_
   refine CW.seq ?_
   refine CW.block ?_
   refine sR ?_
   refine a_mv ?_
   refine a_mv ?_
   refine a_mv ?_
   obtain ⟨v1,hv1,h⟩ := bd h
   refine a_ix ?_
   refine oP (x_st inf_2 rfl rfl rfl (getc hv1 rfl) (setc hv1 rfl) rfl (clean_of (Enc.clean (f := I) _)) rfl) ?_
   refine rN ?_
   refine CW.region ?_
   refine a_mv ?_
   obtain ⟨v2,hv2,h⟩ := bd h
   refine a_add ?_
   refine a_as ?_
   refine RW.nil ?_
   refine nB ?_
   refine nA ?_
   refine CW.region ?_
   refine a_mv ?_
   obtain ⟨v3,hv3,h⟩ := bd h
   refine a_add ?_
   refine a_as ?_
   refine RW.nil ?_
   exact eN h
  ·refine CW.exit ?_
   refine xA ?_
   exact eX h
 ·obtain ⟨rfl,hg⟩ := hq
  refine xB ?_
  refine nA ?_
  refine CW.ghost hg ?_
  refine sR ?_
  refine a_mv ?_
  refine a_as ?_
  refine rN ?_
  refine CW.ret ?_
  obtain rfl := sI h
  exact rT
theorem t_laws_markInt64SS (x0 : List (List Int)) (x1 : Int) (r : Int × (List (List Int))) (h : f_laws_markInt64SS x0 x1 = some r) : FnC Tryz.prog 25 [L 1 lV x0,I x1] [I r.1] [(0,lM r.2)] := by
 refine fB Tryz.func25 (fun St W w0 v => ?_)
 refine sR ?_
 refine a_as ?_
 refine rN ?_
 refine CW.seq ?_
 refine sR ?_
 refine a_as ?_
 refine rN ?_
 refine CW.block ?_
 obtain ⟨r4,hr4,h⟩ := bd h
 refine CW.lp (s := (x0,x1,0)) l1_laws_markInt64SS (fun s1 : (List (List Int)) × Int × Int => envL [(0,L 1 lV s1.1),(1,I s1.2.1),(5,I s1.2.2)]) (fun (r4 : ((List (List Int)) × Int)) e E => e = .exit 0 ∧ Ghost ⟨St,W,w0,Tryz.f25.ntmps⟩ E (envL [(0,L 1 lV r4.1),(1,I r4.2)])) (.has ⟨rfl,rfl,rfl,trivial⟩) (fun s1 x h => ?_) hr4 (fun e E hq => ?_)
 ·refine CW.seq ?_
  refine sR ?_
  refine a_mv ?_
  refine a_mv ?_
  refine a_len ?_
  refine a_lss ?_
  refine rN ?_
  refine cn h (fun hc h => ?_) (fun hc h => ?_)
  ·refine CW.skip ?_
   refine nA ?_
   refine CW.seq ?_
   refine CW.block ?_
   refine CW.region ?_
   refine a_mv ?_
   refine a_mv ?_
   obtain ⟨v1,hv1,h⟩ := bd h
   refine a_ix ?_
   refine a_ld ?_
   refine a_mv ?_
   obtain ⟨r2,hr2,h⟩ := bd h
   refine oP (x_callM (xs := [.tmp 15,.tmp 16]) 0 15 0 [s1.2.2.toNat] Tryz.call26 (t_laws_markInt64S _ _ _ hr2) rfl rfl (getc hv1 rfl) (clean_of (cleanL (Enc.clean (f := I)))) (clean_of (cleanL (Enc.clean (f := I)))) (Enc.rofree (f := L 1 I) _) (Enc.rofree (f := L 1 I) _) ⟨(agLd rfl (clean_of (cleanL (Enc.clean (f := I)))) (Enc.rofree (f := L 1 I) _)),⟨(agM _ rfl rfl rfl),trivial⟩⟩ (resC (f := I) inferInstance resN) (setc hv1 rfl) rfl rfl rfl) ?_
   refine a_as ?_
   refine RW.nil ?_
   refine nB ?_
   refine nA ?_
   refine CW.region ?_
   refine a_mv ?_
   obtain ⟨v3,hv3,h⟩ := bd h
   refine a_add ?_
   refine a_as ?_
   refine RW.nil ?_
   exact eN h
  ·refine CW.exit ?_
   refine xA ?_
   exact eX h
 ·obtain ⟨rfl,hg⟩ := hq
  refine xB ?_
  refine nA ?_
  refine CW.ghost hg ?_
  refine sR ?_
  refine a_mv ?_
  refine a_as ?_
  refine rN ?_
  refine CW.ret ?_
  obtain rfl := sI h
  exact rT
theorem t_laws_markInt64SSS (x0 : List (List (List Int))) (x1 : Int) (r : Int × (List (List (List Int)))) (h : f_laws_markInt64SSS x0 x1 = some r) : FnC Tryz.prog 60 [L 1 lM x0,I x1] [I r.1] [(0,lC r.2)] := by
 refine fB Tryz.func60 (fun St W w0 v => ?_)
 refine sR ?_
 refine a_as ?_
 refine rN ?_
 refine CW.seq ?_
 refine sR ?_
 refine a_as ?_
 refine rN ?_
 refine CW.block ?_
 obtain ⟨r4,hr4,h⟩ := bd h
 refine CW.lp (s := (x0,x1,0)) l1_laws_markInt64SSS (fun s1 : (List (List (List Int))) × Int × Int => envL [(0,L 1 lM s1.1),(1,I s1.2.1),(5,I s1.2.2)]) (fun (r4 : ((List (List (List Int))) × Int)) e E => e = .exit 0 ∧ Ghost ⟨St,W,w0,Tryz.f60.ntmps⟩ E (envL [(0,L 1 lM r4.1),(1,I r4.2)])) (.has ⟨rfl,rfl,rfl,trivial⟩) (fun s1 x h => ?_) hr4 (fun e E hq => ?_)
 ·refine CW.seq ?_
  refine sR ?_
  refine a_mv ?_
  refine a_mv ?_
  refine a_len ?_
  refine a_lss ?_
  refine rN ?_
  refine cn h (fun hc h => ?_) (fun hc h => ?_)
  ·refine CW.skip ?_
   refine nA ?_
   refine CW.seq ?_
   refine CW.block ?_
   refine CW.region ?_
   refine a_mv ?_
   refine a_mv ?_
   obtain ⟨v1,hv1,h⟩ := bd h
   refine a_ix ?_
   refine a_ld ?_
   refine a_mv ?_
   obtain ⟨r2,hr2,h⟩ := bd h
   refine oP (x_callM (xs := [.tmp 15,.tmp 16]) 0 15 0 [s1.2.2.toNat] Tryz.call25 (t_laws_markInt64SS _ _ _ hr2) rfl rfl (getc hv1 rfl) (clean_of (cleanL (Enc.clean (f := lV)))) (clean_of (cleanL (Enc.clean (f := lV)))) (Enc.rofree (f := L 1 lV) _) (Enc.rofree (f := L 1 lV) _) ⟨(agLd rfl (clean_of (cleanL (Enc.clean (f := lV)))) (Enc.rofree (f := L 1 lV) _)),⟨(agM _ rfl rfl rfl),trivial⟩⟩ (resC (f := I) inferInstance resN) (setc hv1 rfl) rfl rfl rfl) ?_
   refine a_as ?_
   refine RW.nil ?_
   refine nB ?_
   refine nA ?_
   refine CW.region ?_
   refine a_mv ?_
   obtain ⟨v3,hv3,h⟩ := bd h
   refine a_add ?_
   refine a_as ?_
   refine RW.nil ?_
   exact eN h
  ·refine CW.exit ?_
   refine xA ?_
   exact eX h
 ·obtain ⟨rfl,hg⟩ := hq
  refine xB ?_
  refine nA ?_
  refine CW.ghost hg ?_
  refine sR ?_
  refine a_mv ?_
  refine a_as ?_
  refine rN ?_
  refine CW.ret ?_
  obtain rfl := sI h
  exact rT
theorem t_laws_markPresentation (x0 : SPresentation) (x1 : Int) (r : Int × SPresentation) (h : f_laws_markPresentation x0 x1 = some r) : FnC Tryz.prog 23 [eSPresentation x0,I x1] [I r.1] [(0,eSPresentation r.2)] := by
 refine fB Tryz.func23 (fun St W w0 v => ?_) (ht := ⟨Top.of_clean _ (Enc.clean (f := eSPresentation) _),by simp [Top,Tops],trivial⟩)
 refine sR ?_
 refine oP (x_box rfl (clean_of (cleanA ⟨(cleanL (Enc.clean (f := I))),(cleanL (Enc.clean (f := lV))),(cleanL (Enc.clean (f := lM))),trivial⟩)) rfl) ?_
 refine a_as ?_
 refine rN ?_
 refine sR ?_
 refine a_fa ?_
 refine a_ld ?_
 refine a_mv ?_
 obtain ⟨r1,hr1,h⟩ := bd h
 refine oP (x_callM (xs := [.tmp 6,.tmp 7]) 0 6 2 [0,0] Tryz.call26 (t_laws_markInt64S _ _ _ hr1) rfl rfl rfl (clean_of (cleanL (Enc.clean (f := I)))) (clean_of (cleanL (Enc.clean (f := I)))) (Enc.rofree (f := L 1 I) _) (Enc.rofree (f := L 1 I) _) ⟨(agLd rfl (clean_of (cleanL (Enc.clean (f := I)))) (Enc.rofree (f := L 1 I) _)),⟨(agM _ rfl rfl rfl),trivial⟩⟩ (resC (f := I) inferInstance resN) rfl rfl rfl rfl) ?_
 refine a_as ?_
 refine rN ?_
 refine sR ?_
 refine a_fa ?_
 refine a_ld ?_
 refine a_mv ?_
 obtain ⟨r2,hr2,h⟩ := bd h
 refine oP (x_callM (xs := [.tmp 10,.tmp 11]) 0 10 2 [1,0] Tryz.call25 (t_laws_markInt64SS _ _ _ hr2) rfl rfl rfl (clean_of (cleanL (Enc.clean (f := lV)))) (clean_of (cleanL (Enc.clean (f := lV)))) (Enc.rofree (f := L 1 lV) _) (Enc.rofree (f := L 1 lV) _) ⟨(agLd rfl (clean_of (cleanL (Enc.clean (f := lV)))) (Enc.rofree (f := L 1 lV) _)),⟨(agM _ rfl rfl rfl),trivial⟩⟩ (resC (f := I) inferInstance resN) rfl rfl rfl rfl) ?_
 refine a_as ?_
 refine rN ?_
 refine sR ?_
 refine a_fa ?_
 refine a_ld ?_
 refine a_mv ?_
 obtain ⟨r3,hr3,h⟩ := bd h
 refine oP (x_callM (xs := [.tmp 14,.tmp 15]) 0 14 2 [2,0] Tryz.call60 (t_laws_markInt64SSS _ _ _ hr3) rfl rfl rfl (clean_of (cleanL (Enc.clean (f := lM)))) (clean_of (cleanL (Enc.clean (f := lM)))) (Enc.rofree (f := L 1 lM) _) (Enc.rofree (f := L 1 lM) _) ⟨(agLd rfl (clean_of (cleanL (Enc.clean (f := lM)))) (Enc.rofree (f := L 1 lM) _)),⟨(agM _ rfl rfl rfl),trivial⟩⟩ (resC (f := I) inferInstance resN) rfl rfl rfl rfl) ?_
 refine a_as ?_
 refine RW.ghost (Ghost.trf 0 [0] 2 [0,0] _ _ rfl rfl rfl rfl rfl (clean_of (cleanL (Enc.clean (f := I)))) rfl) ?_
 refine RW.ghost (Ghost.trf 0 [1] 2 [1,0] _ _ rfl rfl rfl rfl rfl (clean_of (cleanL (Enc.clean (f := lV)))) rfl) ?_
 refine RW.ghost (Ghost.trf 0 [2] 2 [2,0] _ _ rfl rfl rfl rfl rfl (clean_of (cleanL (Enc.clean (f := lM)))) rfl) ?_
 refine rN ?_
 refine sR ?_
 refine a_mv ?_
 refine a_as ?_
 refine rN ?_
 refine CW.ret ?_
 obtain rfl := sI h
 exact rT
theorem t_laws_markModule (x0 : SModule) (x1 : Int) (r : Int × SModule) (h : f_laws_markModule x0 x1 = some r) : FnC Tryz.prog 24 [eSModule x0,I x1] [I r.1] [(0,eSModule r.2)] := by
 refine fB Tryz.func24 (fun St W w0 v => ?_) (ht := ⟨Top.of_clean _ (Enc.clean (f := eSModule) _),by simp [Top,Tops],trivial⟩)
 refine sR ?_
 refine oP (x_box rfl (clean_of (cleanA ⟨(Enc.clean (f := I) _),(Enc.clean (f := I) _),(cleanL (Enc.clean (f := lM))),trivial⟩)) rfl) ?_
 refine a_as ?_
 refine rN ?_
 refine sR ?_
 refine a_fa ?_
 refine a_ld ?_
 refine a_mv ?_
 obtain ⟨r1,hr1,h⟩ := bd h
 refine oP (x_callM (xs := [.tmp 6,.tmp 7]) 0 6 2 [2,0] Tryz.call60 (t_laws_markInt64SSS _ _ _ hr1) rfl rfl rfl (clean_of (cleanL (Enc.clean (f := lM)))) (clean_of (cleanL (Enc.clean (f := lM)))) (Enc.rofree (f := L 1 lM) _) (Enc.rofree (f := L 1 lM) _) ⟨(agLd rfl (clean_of (cleanL (Enc.clean (f := lM)))) (Enc.rofree (f := L 1 lM) _)),⟨(agM _ rfl rfl rfl),trivial⟩⟩ (resC (f := I) inferInstance resN) rfl rfl rfl rfl) ?_
 refine a_as ?_
 refine RW.ghost (Ghost.trf 0 [2] 2 [2,0] _ _ rfl rfl rfl rfl rfl (clean_of (cleanL (Enc.clean (f := lM)))) rfl) ?_
 refine rN ?_
 refine sR ?_
 refine a_mv ?_
 refine a_as ?_
 refine rN ?_
 refine CW.ret ?_
 obtain rfl := sI h
 exact rT
theorem t_laws_heldInt64S (x0 : List Int) (x1 : Int) (r : Int) (h : f_laws_heldInt64S x0 x1 = some r) : FnC Tryz.prog 27 [T.ro (lV x0),I x1] [I r] [] := by
 refine fB Tryz.func27 (fun St W w0 v => ?_)
 refine sR ?_
 refine a_as ?_
 refine rN ?_
 refine CW.seq ?_
 refine sR ?_
 refine a_as ?_
 refine rN ?_
 refine CW.block ?_
 obtain ⟨r4,hr4,h⟩ := bd h
 refine CW.lp (s := (x1,0)) (l1_laws_heldInt64S x0) (fun s1 : Int × Int => envL [(0,T.ro (lV x0)),(1,I s1.1),(5,I s1.2)]) (fun (x : Int ⊕ Int) e E => match x with | (.inl r4) => e = .exit 0 ∧ Ghost ⟨St,W,w0,Tryz.f27.ntmps⟩ E (envL [(1,I r4)]) | (.inr r4) => e = .ret ∧ RetG ⟨St,W,w0,Tryz.f27.ntmps⟩ Tryz.prog Tryz.f27.results [T.ro (lV x0),I x1] [I r4] [] .ret E) (.has ⟨rfl,rfl,rfl,trivial⟩) (fun s1 x h => ?_) hr4 (fun e E hq => ?_)
 ·refine CW.seq ?_
  refine sR ?_
  refine a_mv ?_
  refine a_mv ?_
  refine a_lenr ?_
  refine a_lss ?_
  refine rN ?_
  refine cn h (fun hc h => ?_) (fun hc h => ?_)
  ·refine CW.skip ?_
   refine nA ?_
   refine CW.seq ?_
   refine CW.block ?_
   refine CW.seq ?_
   refine sR ?_
   refine a_mv ?_
   refine a_mv ?_
   obtain ⟨v1,hv1,h⟩ := bd h
   refine a_ixr ?_
   refine a_ldr ?_
   refine a_mv ?_
   refine a_neq ?_
   refine rN ?_
   refine cn h (fun hc h => ?_) (fun hc h => ?_)
   ·refine sR ?_
    refine a_as ?_
    refine rN ?_
    refine CW.ret ?_
    refine rA ?_
    refine rB ?_
    refine rA ?_
    exact eX h
   ·refine CW.skip ?_
    refine nA ?_
    refine CW.region ?_
    refine a_mv ?_
    obtain ⟨v2,hv2,h⟩ := bd h
    refine a_add ?_
    refine a_as ?_
    refine RW.nil ?_
    refine nB ?_
    refine nA ?_
    refine CW.region ?_
    refine a_mv ?_
    obtain ⟨v3,hv3,h⟩ := bd h
    refine a_add ?_
    refine a_as ?_
    refine RW.nil ?_
    exact eN h
  ·refine CW.exit ?_
   refine xA ?_
   exact eX h
 ·rcases r4 with r4 | r4
  ·obtain ⟨rfl,hg⟩ := hq
   refine xB ?_
   refine nA ?_
   refine CW.ghost hg ?_
   refine sR ?_
   refine a_mv ?_
   refine a_as ?_
   refine rN ?_
   refine CW.ret ?_
   obtain rfl := sI h
   exact rT
  ·obtain ⟨rfl,hq⟩ := hq
   refine rB ?_
   refine rA ?_
   obtain rfl := sI h
   exact hq
end Go.Wk

namespace Go.Wk
open Go Go.Proofs Go.Ab
set_option maxRecDepth 100000
theorem t_spec_l02Lead (x0 : List Int) (r : Int) (h : f_spec_l02Lead x0 = some r) : FnC Tryz.prog 114 [T.ro (lV x0)] [I r] [] := by
 refine fB Tryz.func114 (fun St W w0 v => ?_)
 refine sR ?_
 refine a_as ?_
 refine rN ?_
 refine CW.seq ?_
 refine sR ?_
 refine a_as ?_
 refine rN ?_
 refine CW.block ?_
 obtain ⟨r3,hr3,h⟩ := bd h
 refine CW.lp (s := 0) (l1_spec_l02Lead x0) (fun s1 : Int => envL [(0,T.ro (lV x0)),(3,I s1)]) (fun (x : Unit ⊕ Int) e E => match x with | (.inl r3) => e = .exit 0 ∧ Ghost ⟨St,W,w0,Tryz.f114.ntmps⟩ E (envL [(0,T.ro (lV x0))]) | (.inr r3) => e = .ret ∧ RetG ⟨St,W,w0,Tryz.f114.ntmps⟩ Tryz.prog Tryz.f114.results [T.ro (lV x0)] [I r3] [] .ret E) (.has ⟨rfl,rfl,trivial⟩) (fun s1 x h => ?_) hr3 (fun e E hq => ?_)
 ·refine CW.seq ?_
  refine sR ?_
  refine a_mv ?_
  refine a_mv ?_
  refine a_lenr ?_
  refine a_lss ?_
  refine rN ?_
  refine cn h (fun hc h => ?_) (fun hc h => ?_)
  ·refine CW.skip ?_
   refine nA ?_
   refine CW.seq ?_
   refine CW.block ?_
   refine sR ?_
   refine a_mv ?_
   refine a_mv ?_
   obtain ⟨v1,hv1,h⟩ := bd h
   refine a_ixr ?_
   refine a_ldr ?_
   refine a_neq ?_
   refine rN ?_
   refine cn h (fun hc h => ?_) (fun hc h => ?_)
   ·refine sR ?_
    refine a_mv ?_
    refine a_as ?_
    refine rN ?_
    refine CW.ret ?_
    refine rB ?_
    refine rA ?_
    exact eX h
   ·refine CW.skip ?_
    refine nB ?_
    refine nA ?_
    refine CW.region ?_
    refine a_mv ?_
    obtain ⟨v2,hv2,h⟩ := bd h
    refine a_add ?_
    refine a_as ?_
    refine RW.nil ?_
    exact eN h
  ·refine CW.exit ?_
   refine xA ?_
   exact eX h
 ·rcases r3 with r3 | r3
  ·obtain ⟨rfl,hg⟩ := hq
   refine xB ?_
   refine nA ?_
   refine CW.ghost hg ?_
   refine sR ?_
   refine a_mv ?_
   refine a_lenr ?_
   refine a_as ?_
   refine rN ?_
   refine CW.ret ?_
   obtain rfl := sI h
   exact rT
  ·obtain ⟨rfl,hq⟩ := hq
   refine rB ?_
   refine rA ?_
   obtain rfl := sI h
   exact hq
theorem t_spec_l02Clear (x0 : Int) (x1 : List (List Int)) (x2 : List Int) (r : (List Int)) (h : f_spec_l02Clear x0 x1 x2 = some r) : FnC Tryz.prog 113 [I x0,T.ro (lM x1),T.ro (lV x2)] [lV r] [] := by
 refine fB Tryz.func113 (fun St W w0 v => ?_)
 refine sR ?_
 refine oP (x_nil 1 rfl) ?_
 refine rN ?_
 refine sR ?_
 refine a_mv ?_
 obtain ⟨r1,hr1,h⟩ := bd h
 refine cA Tryz.call154 (t_spec_l01Own _ _ hr1) ?_
 refine a_as ?_
 refine RW.ghost (Ghost.tr 7 11 _ rfl rfl (clean_of (cleanL (Enc.clean (f := I)))) rfl) ?_
 refine rN ?_
 refine CW.seq ?_
 refine sR ?_
 refine a_as ?_
 refine rN ?_
 refine CW.block ?_
 obtain ⟨r12,hr12,h⟩ := bd h
 refine CW.lp (s := (r1,0)) (l1_spec_l02Clear x0 x1) (fun s1 : (List Int) × Int => envL [(0,I x0),(1,T.ro (lM x1)),(7,L 1 I s1.1),(8,I s1.2)]) (fun (r12 : (List Int)) e E => e = .exit 0 ∧ Ghost ⟨St,W,w0,Tryz.f113.ntmps⟩ E (envL [(7,L 1 I r12)])) (.has ⟨rfl,rfl,rfl,rfl,trivial⟩) (fun s1 x h => ?_) hr12 (fun e E hq => ?_)
 ·refine CW.seq ?_
  refine sR ?_
  refine a_mv ?_
  refine a_mv ?_
  refine a_lenr ?_
  refine a_lss ?_
  refine rN ?_
  refine cn h (fun hc h => ?_) (fun hc h => ?_)
  ·refine CW.skip ?_
   refine nA ?_
   refine CW.seq ?_
   refine CW.block ?_
   refine sR ?_
   refine a_mv ?_
   refine a_mv ?_
   obtain ⟨v2,hv2,h⟩ := bd h
   refine oP (x_ixr (f := lV) row_23 hv2 (locB rfl rfl) rfl rfl) ?_
   refine a_ldr ?_
   obtain ⟨r3,hr3,h⟩ := bd h
   refine cA Tryz.call114 (t_spec_l02Lead _ _ hr3) ?_
   refine a_as ?_
   refine rN ?_
   refine sR ?_
   refine a_mv ?_
   refine a_mv ?_
   refine a_len ?_
   refine a_lss ?_
   refine a_mv ?_
   refine RW.cases 27 _ rfl (fun hc => ?_) (fun hc => ?_)
   ·have h := cT hc h
    refine g_mv ?_
    refine g_mv ?_
    obtain ⟨v4,hv4,h⟩ := bd h
    refine RW.cons (IxOk.guard 4 true 27 (x_ix (f := I) row_22 hv4 (locA rfl rfl rfl rfl) rfl rfl)) ?_
    refine RW.cons (IxOk.guard 4 true 27 (x_ld (var_2.h _ rfl rfl) rfl rfl (getc hv4 rfl) rfl)) ?_
    refine g_neq ?_
    refine a_pick ?_
    refine rN ?_
    refine cn h (fun hc h => ?_) (fun hc h => ?_)
    ·obtain ⟨v5,hv5,h⟩ := bd h
     obtain ⟨v6,hv6,h⟩ := bd h
     obtain ⟨v7,hv7,h⟩ := bd h
     obtain ⟨r8,hr8,h⟩ := bd h
     refine CW.dk ?_
     refine d_mv [(0,_)] ?_
     refine d_mv [(7,_)] ?_
     refine d_mv [(0,_)] ?_
     refine d_mv [(7,_)] ?_
     refine d_mv [(9,_)] ?_
     refine dG [(37,_),(7,_),(38,_)] [([(39,some (T.addr 7 [r3.toNat]))],[(39,0)])] ⟨rfl,rfl,rfl,trivial⟩ (fun E h => IxOk.opE (x_ix (f := I) row_22 hv5 (locA h.1 h.2.1 rfl rfl) h.2.2.1 rfl) rfl) ?_
     refine dG [(39,_),(7,_)] [([(40,some (I v5))],[(40,0)])] ⟨rfl,rfl,trivial⟩ (fun E h => IxOk.opE (x_ld (var_2.h _ rfl rfl) h.1 h.2.1 (getc hv5 rfl) rfl) rfl) ?_
     refine d_sub [(36,_),(40,_)] ?_
     refine d_mv [(1,_)] ?_
     refine d_mv [(8,_)] ?_
     refine dG [(42,_),(43,_)] [([(44,some (T.ro ((Pt lV) v7)))],[(44,0)])] ⟨rfl,rfl,trivial⟩ (fun E h => IxOk.opE (x_ixr (f := lV) row_23 hv7 (locB h.1 rfl) h.2.1 rfl) rfl) ?_
     refine d_ldr [(44,_)] ?_
     refine dC [(34,_),(35,_),(7,_),(41,_),(45,_)] Tryz.call117 (t_spec_l02Add _ _ _ _ _ hr8) ?_
     refine d_as [(46,_)] ?_
     refine dNA mixedP ?_
     refine nB ?_
     refine nA ?_
     refine CW.to [(0,I x0),(1,T.ro (lM x1)),(7,T.same 46 []),(8,I s1.2),(46,L 1 I r8)] ⟨rfl,rfl,rfl,rfl,rfl,trivial⟩ ?_
     refine CW.region ?_
     refine a_mv ?_
     obtain ⟨v9,hv9,h⟩ := bd h
     refine a_add ?_
     refine a_as ?_
     refine RW.ghost (Ghost.tr 7 46 _ rfl rfl (clean_of (cleanL (Enc.clean (f := I)))) rfl) ?_
     refine RW.nil ?_
     exact eN h
    ·refine CW.skip ?_
     refine nB ?_
     refine nA ?_
     refine CW.region ?_
     refine a_mv ?_
     obtain ⟨v10,hv10,h⟩ := bd h
     refine a_add ?_
     refine a_as ?_
     refine RW.nil ?_
     exact eN h
   ·have h := cF hc h
    refine sk2 ?_
    refine sk2 ?_
    refine sk2 ?_
    refine sk2 ?_
    refine sk2 ?_
    refine a_pick ?_
    refine rN ?_
    refine CW.condF rfl ?_
    refine CW.skip ?_
    refine nB ?_
    refine nA ?_
    refine CW.region ?_
    refine a_mv ?_
    obtain ⟨v11,hv11,h⟩ := bd h
    refine a_add ?_
    refine a_as ?_
    refine RW.nil ?_
    exact eN h
  ·refine CW.exit ?_
   refine xA ?_
   exact eX h
 ·obtain ⟨rfl,hg⟩ := hq
  refine xB ?_
  refine nA ?_
  refine CW.ghost hg ?_
  refine sR ?_
  refine a_mv ?_
  refine a_as ?_
  refine RW.ghost (Ghost.tr 6 7 _ rfl rfl (clean_of (cleanL (Enc.clean (f := I)))) rfl) ?_
  refine rN ?_
  refine CW.ret ?_
  obtain rfl := sI h
  exact rT
theorem t_spec_l01Inv (x0 : Int) (x1 : Int) (r : Int) (h : f_spec_l01Inv x0 x1 = some r) : FnC Tryz.prog 116 [I x0,I x1] [I r] [] := by
 refine fB Tryz.func116 (fun St W w0 v => ?_)
 refine sR ?_
 refine a_as ?_
 refine rN ?_
 refine CW.seq ?_
 refine sR ?_
 refine a_as ?_
 refine rN ?_
 refine CW.block ?_
 obtain ⟨r5,hr5,h⟩ := bd h
 refine CW.lp (s := 1) (l1_spec_l01Inv x0 x1) (fun s1 : Int => envL [(0,I x0),(1,I x1),(5,I s1)]) (fun (x : Unit ⊕ Int) e E => match x with | (.inl r5) => e = .exit 0 ∧ Ghost ⟨St,W,w0,Tryz.f116.ntmps⟩ E (envL []) | (.inr r5) => e = .ret ∧ RetG ⟨St,W,w0,Tryz.f116.ntmps⟩ Tryz.prog Tryz.f116.results [I x0,I x1] [I r5] [] .ret E) (.has ⟨rfl,rfl,rfl,trivial⟩) (fun s1 x h => ?_) hr5 (fun e E hq => ?_)
 ·refine CW.seq ?_
  refine sR ?_
  refine a_mv ?_
  refine a_mv ?_
  refine a_lss ?_
  refine rN ?_
  refine cn h (fun hc h => ?_) (fun hc h => ?_)
  ·refine CW.skip ?_
   refine nA ?_
   refine CW.seq ?_
   refine CW.block ?_
   refine sR ?_
   refine a_mv ?_
   refine a_mv ?_
   obtain ⟨r1,hr1,h⟩ := bd h
   refine cA Tryz.call125 (t_spec_l01Mod _ _ _ hr1) ?_
   refine a_mv ?_
   obtain ⟨v2,hv2,h⟩ := bd h
   refine a_mul ?_
   refine a_mv ?_
   obtain ⟨v3,hv3,h⟩ := bd h
   refine a_rem ?_
   refine a_eql ?_
   refine rN ?_
   refine cn h (fun hc h => ?_) (fun hc h => ?_)
   ·refine sR ?_
    refine a_mv ?_
    refine a_as ?_
    refine rN ?_
    refine CW.ret ?_
    refine rB ?_
    refine rA ?_
    exact eX h
   ·refine CW.skip ?_
    refine nB ?_
    refine nA ?_
    refine CW.region ?_
    refine a_mv ?_
    obtain ⟨v4,hv4,h⟩ := bd h
    refine a_add ?_
    refine a_as ?_
    refine RW.nil ?_
    exact eN h
  ·refine CW.exit ?_
   refine xA ?_
   exact eX h
 ·rcases r5 with r5 | r5
  ·obtain ⟨rfl,hg⟩ := hq
   refine xB ?_
   refine nA ?_
   refine CW.ghost hg ?_
   refine sR ?_
   refine a_as ?_
   refine rN ?_
   refine CW.ret ?_
   obtain rfl := sI h
   exact rT
  ·obtain ⟨rfl,hq⟩ := hq
   refine rB ?_
   refine rA ?_
   obtain rfl := sI h
   exact hq
theorem t_spec_l02Scale (x0 : Int) (x1 : Int) (x2 : List Int) (r : (List Int)) (h : f_spec_l02Scale x0 x1 x2 = some r) : FnC Tryz.prog 115 [I x0,I x1,T.ro (lV x2)] [lV r] [] := by
 refine fB Tryz.func115 (fun St W w0 v => ?_)
 refine sR ?_
 refine oP (x_nil 1 rfl) ?_
 refine rN ?_
 refine sR ?_
 refine a_mv ?_
 refine a_mv ?_
 refine a_lenr ?_
 obtain ⟨m1,hm1,h⟩ := bd h
 refine oP (x_makeL (f := I) (z := 0) elt_22 (rfl) hm1 rfl rfl rfl) ?_
 refine a_mv ?_
 refine a_mv ?_
 obtain ⟨r2,hr2,h⟩ := bd h
 refine cA Tryz.call117 (t_spec_l02Add _ _ _ _ _ hr2) ?_
 refine a_as ?_
 refine RW.ghost (Ghost.tr 6 13 _ rfl rfl (clean_of (cleanL (Enc.clean (f := I)))) rfl) ?_
 refine rN ?_
 refine CW.ret ?_
 obtain rfl := sI h
 exact rT
theorem t_spec_l02Reduce (x0 : Int) (x1 : List (List Int)) (r : (List (List Int))) (h : f_spec_l02Reduce x0 x1 = some r) : FnC Tryz.prog 69 [I x0,T.ro (lM x1)] [(L 1 (Ro lV)) r] [] := by
 refine fB Tryz.func69 (fun St W w0 v => ?_)
 refine sR ?_
 refine oP (x_nil 1 rfl) ?_
 refine rN ?_
 refine sR ?_
 refine oP (x_bs0 elt_23 rfl) ?_
 refine a_as ?_
 refine RW.ghost (Ghost.tr 5 12 _ rfl rfl (clean_of trivial) rfl) ?_
 refine rN ?_
 refine CW.seq ?_
 refine sR ?_
 refine a_as ?_
 refine rN ?_
 refine CW.block ?_
 obtain ⟨r36,hr36,h⟩ := bd h
 refine CW.lp (s := ([],0)) (l2_spec_l02Reduce x0 x1) (fun s5 : (List (List Int)) × Int => envL [(0,I x0),(1,T.ro (lM x1)),(5,L 1 (Ro lV) s5.1),(6,I s5.2)]) (fun (r36 : (List (List Int))) e E => e = .exit 0 ∧ Ghost ⟨St,W,w0,Tryz.f69.ntmps⟩ E (envL [(5,L 1 (Ro lV) r36)])) (.has ⟨rfl,rfl,rfl,rfl,trivial⟩) (fun s5 x h => ?_) hr36 (fun e E hq => ?_)
 ·refine CW.seq ?_
  refine sR ?_
  refine a_mv ?_
  refine a_mv ?_
  refine a_lenr ?_
  refine a_lss ?_
  refine rN ?_
  refine cn h (fun hc h => ?_) (fun hc h => ?_)
  ·refine CW.skip ?_
   refine nA ?_
   refine CW.seq ?_
   refine CW.block ?_
   refine sR ?_
   refine a_mv ?_
   refine a_mv ?_
   refine a_mv ?_
   refine a_mv ?_
   obtain ⟨v1,hv1,h⟩ := bd h
   refine a_ixr ?_
   refine a_ldr ?_
   obtain ⟨r2,hr2,h⟩ := bd h
   refine cA Tryz.call113 (t_spec_l02Clear _ _ _ _ hr2) ?_
   refine a_as ?_
   refine RW.ghost (Ghost.tr 7 25 _ rfl rfl (clean_of (cleanL (Enc.clean (f := I)))) rfl) ?_
   refine rN ?_
   refine sR ?_
   refine a_mv ?_
   obtain ⟨r3,hr3,h⟩ := bd h
   refine cA Tryz.call114 (t_spec_l02Lead _ _ hr3) ?_
   refine a_as ?_
   refine rN ?_
   refine CW.seq ?_
   refine sR ?_
   refine a_mv ?_
   refine a_mv ?_
   refine a_len ?_
   refine a_eql ?_
   refine rN ?_
   refine cn h (fun hc h => ?_) (fun hc h => ?_)
   ·refine CW.exit ?_
    refine xA ?_
    refine xB ?_
    refine nA ?_
    refine CW.region ?_
    refine a_mv ?_
    obtain ⟨v4,hv4,h⟩ := bd h
    refine a_add ?_
    refine a_as ?_
    refine RW.nil ?_
    exact eN h
   ·refine CW.skip ?_
    refine nA ?_
    refine sR ?_
    refine a_mv ?_
    refine a_mv ?_
    refine a_mv ?_
    obtain ⟨v5,hv5,h⟩ := bd h
    refine a_ix ?_
    refine a_ld ?_
    refine a_mv ?_
    obtain ⟨r6,hr6,h⟩ := bd h
    refine cA Tryz.call116 (t_spec_l01Inv _ _ _ hr6) ?_
    refine a_mv ?_
    obtain ⟨r7,hr7,h⟩ := bd h
    refine cA Tryz.call115 (t_spec_l02Scale _ _ _ _ hr7) ?_
    refine RW.ghost (Ghost.frz 40 (k := 1) (f := I) (g := I) r7 rfl inferInstance) ?_
    refine a_as ?_
    refine rN ?_
    refine CW.seq ?_
    refine CW.to [(0,I x0),(1,T.ro (lM x1)),(5,L 1 (Ro lV) s5.1),(6,I s5.2),(7,T.ro (lV r7)),(8,I r3)] ⟨rfl,rfl,rfl,rfl,rfl,rfl,trivial⟩ ?_
    refine CW.region ?_
    refine oP (x_bs0 elt_23 rfl) ?_
    refine a_as ?_
    refine a_as ?_
    refine RW.ghost (Ghost.tr 9 41 _ rfl rfl (clean_of trivial) rfl) ?_
    refine rN ?_
    refine CW.seq ?_
    refine sR ?_
    refine a_as ?_
    refine rN ?_
    refine CW.block ?_
    obtain ⟨r32,hr32,h⟩ := bd h
    refine CW.lp (s := ([],false,0)) (l1_spec_l02Reduce x0 s5 r3 r7) (fun s6 : (List (List Int)) × Bool × Int => envL [(0,I x0),(1,T.ro (lM x1)),(5,L 1 (Ro lV) s5.1),(6,I s5.2),(7,T.ro (lV r7)),(8,I r3),(9,L 1 (Ro lV) s6.1),(10,B s6.2.1),(11,I s6.2.2)]) (fun (r32 : ((List (List Int)) × Bool)) e E => e = .exit 2 ∧ Ghost ⟨St,W,w0,Tryz.f69.ntmps⟩ E (envL [(0,I x0),(1,T.ro (lM x1)),(6,I s5.2),(7,T.ro (lV r7)),(9,L 1 (Ro lV) r32.1),(10,B r32.2)])) (.has ⟨rfl,rfl,rfl,rfl,rfl,rfl,rfl,rfl,rfl,trivial⟩) (fun s6 x h => ?_) hr32 (fun e E hq => ?_)
    ·refine CW.seq ?_
     refine sR ?_
     refine a_mv ?_
     refine a_mv ?_
     refine a_len ?_
     refine a_lss ?_
     refine rN ?_
     refine cn h (fun hc h => ?_) (fun hc h => ?_)
     ·refine CW.skip ?_
      refine nA ?_
      refine CW.seq ?_
      refine CW.block ?_
      refine CW.seq ?_
      refine sR ?_
      refine a_mv ?_
      refine a_not ?_
      refine a_mv ?_
      refine RW.cases 50 _ rfl (fun hc => ?_) (fun hc => ?_)
      ·have h := cT hc h
       refine g_mv ?_
       refine g_mv ?_
       obtain ⟨v8,hv8,h⟩ := bd h
       refine RW.cons (IxOk.guard 2 true 50 (x_ix (f := (Ro lV)) row_23 hv8 (locA rfl rfl rfl rfl) rfl rfl)) ?_
       refine RW.cons (IxOk.guard 2 true 50 (x_ld (var_22.h _ rfl rfl) rfl rfl (getc hv8 rfl) rfl)) ?_
       obtain ⟨r9,hr9,h⟩ := bd h
       refine RW.cons (IxOk.guard 2 true 50 (x_call (xs := [.tmp 54]) Tryz.call114 (t_spec_l02Lead _ _ hr9) ⟨(agC _ rfl rfl rfl),trivial⟩ (resC (f := I) inferInstance resN) rfl)) ?_
       refine g_mv ?_
       refine g_gtr ?_
       refine a_pick ?_
       refine rN ?_
       refine cn h (fun hc h => ?_) (fun hc h => ?_)
       ·refine sR ?_
        refine a_mv ?_
        refine a_mv ?_
        refine oP (x_bs elt_23 [.tmp 60] [.slot 60 (T.ro (lV r7))] [r7] (Ro lV) ⟨.slot _ _,trivial⟩ (pkS rfl (clean_of trivial) rfl pkN) rfl rfl) ?_
        refine RW.ghost (Ghost.tr 59 9 _ rfl rfl (clean_of (cleanL (fun _ => trivial))) rfl) ?_
        obtain ⟨v10,hv10,h⟩ := bd h
        refine oP (x_appc (f := (Ro lV)) elt_23 (fun _ => rfl) hv10 rfl (locB rfl rfl) rfl) ?_
        refine a_as ?_
        refine RW.ghost (Ghost.tr 9 62 _ rfl rfl (clean_of (cleanL (fun _ => trivial))) rfl) ?_
        refine rN ?_
        refine CW.region ?_
        refine a_as ?_
        refine rN ?_
        obtain ⟨v11,hv11,h⟩ := bd h
        obtain ⟨v12,hv12,h⟩ := bd h
        obtain ⟨v13,hv13,h⟩ := bd h
        obtain ⟨v14,hv14,h⟩ := bd h
        obtain ⟨r15,hr15,h⟩ := bd h
        obtain ⟨v16,hv16,h⟩ := bd h
        refine CW.dk ?_
        refine d_mv [(9,_)] ?_
        refine d_mv [(0,_)] ?_
        refine d_mv [(5,_)] ?_
        refine d_mv [(11,_)] ?_
        refine dG [(65,_),(5,_),(66,_)] [([(67,some (T.addr 5 [s6.2.2.toNat]))],[(67,0)])] ⟨rfl,rfl,rfl,trivial⟩ (fun E h => IxOk.opE (x_ix (f := (Ro lV)) row_23 hv11 (locA h.1 h.2.1 rfl rfl) h.2.2.1 rfl) rfl) ?_
        refine dG [(67,_),(5,_)] [([(68,some (T.ro (lV v11)))],[(68,0)])] ⟨rfl,rfl,trivial⟩ (fun E h => IxOk.opE (x_ld (var_22.h _ rfl rfl) h.1 h.2.1 (getc hv11 rfl) rfl) rfl) ?_
        refine d_mv [(0,_)] ?_
        refine d_mv [(5,_)] ?_
        refine d_mv [(11,_)] ?_
        refine dG [(70,_),(5,_),(71,_)] [([(72,some (T.addr 5 [s6.2.2.toNat]))],[(72,0)])] ⟨rfl,rfl,rfl,trivial⟩ (fun E h => IxOk.opE (x_ix (f := (Ro lV)) row_23 hv12 (locA h.1 h.2.1 rfl rfl) h.2.2.1 rfl) rfl) ?_
        refine dG [(72,_),(5,_)] [([(73,some (T.ro (lV v12)))],[(73,0)])] ⟨rfl,rfl,trivial⟩ (fun E h => IxOk.opE (x_ld (var_22.h _ rfl rfl) h.1 h.2.1 (getc hv12 rfl) rfl) rfl) ?_
        refine d_mv [(8,_)] ?_
        refine d_ixr [(73,_),(74,_)] ?_
        refine d_ldr [(75,_)] ?_
        refine d_sub [(69,_),(76,_)] ?_
        refine d_mv [(7,_)] ?_
        refine dC [(64,_),(68,_),(77,_),(78,_)] Tryz.call117 (t_spec_l02Add _ _ _ _ _ hr15) ?_
        refine dG [(79,L 1 I r15)] [([(79,some (T.ro (lV r15)))],[(79,1)]),([(80,some (L 1 (Ro lV) [r15]))],[(80,0)])] ⟨rfl,trivial⟩ (fun E h => IxOk.gh (Ghost.frz 79 (k := 1) (f := I) (g := I) r15 h.1 inferInstance) <| IxOk.opE (x_bs elt_23 [.tmp 79] [.slot 79 (T.ro (lV r15))] [r15] (Ro lV) ⟨.slot _ _,trivial⟩ (pkS rfl (clean_of trivial) rfl pkN) rfl rfl) rfl) ?_
        refine dG [(63,T.same 9 []),(9,L 1 (Ro lV) v10),(80,L 1 (Ro lV) [r15])] [([(63,some (L 1 (Ro lV) v10)),(9,some (T.same 63 []))],[(63,1),(9,1)]),([(81,some (L 1 (Ro lV) v16)),(63,some T.any)],[(81,0),(63,1)])] ⟨rfl,rfl,rfl,trivial⟩ (fun E h => IxOk.gh (Ghost.tr 63 9 _ h.1 h.2.1 (clean_of (cleanL (fun _ => trivial))) rfl) <| IxOk.opE (x_appc (f := (Ro lV)) elt_23 (fun _ => rfl) hv16 rfl (locB (keepE h.2.2.1) rfl) rfl) rfl) ?_
        refine d_as [(81,_)] ?_
        refine dNA mixedP ?_
        refine nB ?_
        refine nA ?_
        refine CW.to [(0,I x0),(1,T.ro (lM x1)),(5,L 1 (Ro lV) s5.1),(6,I s5.2),(7,T.ro (lV r7)),(8,I r3),(9,T.same 81 []),(10,B true),(11,I s6.2.2),(81,L 1 (Ro lV) v16)] ⟨rfl,rfl,rfl,rfl,rfl,rfl,rfl,rfl,rfl,rfl,trivial⟩ ?_
        refine CW.region ?_
        refine a_mv ?_
        obtain ⟨v17,hv17,h⟩ := bd h
        refine a_add ?_
        refine a_as ?_
        refine RW.ghost (Ghost.tr 9 81 _ rfl rfl (clean_of (cleanL (fun _ => trivial))) rfl) ?_
        refine RW.nil ?_
        exact eN h
       ·refine CW.skip ?_
        refine nA ?_
        obtain ⟨v18,hv18,h⟩ := bd h
        obtain ⟨v19,hv19,h⟩ := bd h
        obtain ⟨v20,hv20,h⟩ := bd h
        obtain ⟨v21,hv21,h⟩ := bd h
        obtain ⟨r22,hr22,h⟩ := bd h
        obtain ⟨v23,hv23,h⟩ := bd h
        refine CW.dk ?_
        refine d_mv [(9,_)] ?_
        refine d_mv [(0,_)] ?_
        refine d_mv [(5,_)] ?_
        refine d_mv [(11,_)] ?_
        refine dG [(65,_),(5,_),(66,_)] [([(67,some (T.addr 5 [s6.2.2.toNat]))],[(67,0)])] ⟨rfl,rfl,rfl,trivial⟩ (fun E h => IxOk.opE (x_ix (f := (Ro lV)) row_23 hv18 (locA h.1 h.2.1 rfl rfl) h.2.2.1 rfl) rfl) ?_
        refine dG [(67,_),(5,_)] [([(68,some (T.ro (lV v18)))],[(68,0)])] ⟨rfl,rfl,trivial⟩ (fun E h => IxOk.opE (x_ld (var_22.h _ rfl rfl) h.1 h.2.1 (getc hv18 rfl) rfl) rfl) ?_
        refine d_mv [(0,_)] ?_
        refine d_mv [(5,_)] ?_
        refine d_mv [(11,_)] ?_
        refine dG [(70,_),(5,_),(71,_)] [([(72,some (T.addr 5 [s6.2.2.toNat]))],[(72,0)])] ⟨rfl,rfl,rfl,trivial⟩ (fun E h => IxOk.opE (x_ix (f := (Ro lV)) row_23 hv19 (locA h.1 h.2.1 rfl rfl) h.2.2.1 rfl) rfl) ?_
        refine dG [(72,_),(5,_)] [([(73,some (T.ro (lV v19)))],[(73,0)])] ⟨rfl,rfl,trivial⟩ (fun E h => IxOk.opE (x_ld (var_22.h _ rfl rfl) h.1 h.2.1 (getc hv19 rfl) rfl) rfl) ?_
        refine d_mv [(8,_)] ?_
        refine d_ixr [(73,_),(74,_)] ?_
        refine d_ldr [(75,_)] ?_
        refine d_sub [(69,_),(76,_)] ?_
        refine d_mv [(7,_)] ?_
        refine dC [(64,_),(68,_),(77,_),(78,_)] Tryz.call117 (t_spec_l02Add _ _ _ _ _ hr22) ?_
        refine dG [(79,L 1 I r22)] [([(79,some (T.ro (lV r22)))],[(79,1)]),([(80,some (L 1 (Ro lV) [r22]))],[(80,0)])] ⟨rfl,trivial⟩ (fun E h => IxOk.gh (Ghost.frz 79 (k := 1) (f := I) (g := I) r22 h.1 inferInstance) <| IxOk.opE (x_bs elt_23 [.tmp 79] [.slot 79 (T.ro (lV r22))] [r22] (Ro lV) ⟨.slot _ _,trivial⟩ (pkS rfl (clean_of trivial) rfl pkN) rfl rfl) rfl) ?_
        refine dG [(63,T.same 9 []),(9,L 1 (Ro lV) s6.1),(80,L 1 (Ro lV) [r22])] [([(63,some (L 1 (Ro lV) s6.1)),(9,some (T.same 63 []))],[(63,1),(9,1)]),([(81,some (L 1 (Ro lV) v23)),(63,some T.any)],[(81,0),(63,1)])] ⟨rfl,rfl,rfl,trivial⟩ (fun E h => IxOk.gh (Ghost.tr 63 9 _ h.1 h.2.1 (clean_of (cleanL (fun _ => trivial))) rfl) <| IxOk.opE (x_appc (f := (Ro lV)) elt_23 (fun _ => rfl) hv23 rfl (locB (keepE h.2.2.1) rfl) rfl) rfl) ?_
        refine d_as [(81,_)] ?_
        refine dNA mixedP ?_
        refine nB ?_
        refine nA ?_
        refine CW.to [(0,I x0),(1,T.ro (lM x1)),(5,L 1 (Ro lV) s5.1),(6,I s5.2),(7,T.ro (lV r7)),(8,I r3),(9,T.same 81 []),(10,B s6.2.1),(11,I s6.2.2),(81,L 1 (Ro lV) v23)] ⟨rfl,rfl,rfl,rfl,rfl,rfl,rfl,rfl,rfl,rfl,trivial⟩ ?_
        refine CW.region ?_
        refine a_mv ?_
        obtain ⟨v24,hv24,h⟩ := bd h
        refine a_add ?_
        refine a_as ?_
        refine RW.ghost (Ghost.tr 9 81 _ rfl rfl (clean_of (cleanL (fun _ => trivial))) rfl) ?_
        refine RW.nil ?_
        exact eN h
      ·have h := cF hc h
       refine sk2 ?_
       refine sk2 ?_
       refine sk2 ?_
       refine sk2 ?_
       refine sk2 ?_
       refine sk2 ?_
       refine sk2 ?_
       refine a_pick ?_
       refine rN ?_
       refine CW.condF rfl ?_
       refine CW.skip ?_
       refine nA ?_
       obtain ⟨v25,hv25,h⟩ := bd h
       obtain ⟨v26,hv26,h⟩ := bd h
       obtain ⟨v27,hv27,h⟩ := bd h
       obtain ⟨v28,hv28,h⟩ := bd h
       obtain ⟨r29,hr29,h⟩ := bd h
       obtain ⟨v30,hv30,h⟩ := bd h
       refine CW.dk ?_
       refine d_mv [(9,_)] ?_
       refine d_mv [(0,_)] ?_
       refine d_mv [(5,_)] ?_
       refine d_mv [(11,_)] ?_
       refine dG [(65,_),(5,_),(66,_)] [([(67,some (T.addr 5 [s6.2.2.toNat]))],[(67,0)])] ⟨rfl,rfl,rfl,trivial⟩ (fun E h => IxOk.opE (x_ix (f := (Ro lV)) row_23 hv25 (locA h.1 h.2.1 rfl rfl) h.2.2.1 rfl) rfl) ?_
       refine dG [(67,_),(5,_)] [([(68,some (T.ro (lV v25)))],[(68,0)])] ⟨rfl,rfl,trivial⟩ (fun E h => IxOk.opE (x_ld (var_22.h _ rfl rfl) h.1 h.2.1 (getc hv25 rfl) rfl) rfl) ?_
       refine d_mv [(0,_)] ?_
       refine d_mv [(5,_)] ?_
       refine d_mv [(11,_)] ?_
       refine dG [(70,_),(5,_),(71,_)] [([(72,some (T.addr 5 [s6.2.2.toNat]))],[(72,0)])] ⟨rfl,rfl,rfl,trivial⟩ (fun E h => IxOk.opE (x_ix (f := (Ro lV)) row_23 hv26 (locA h.1 h.2.1 rfl rfl) h.2.2.1 rfl) rfl) ?_
       refine dG [(72,_),(5,_)] [([(73,some (T.ro (lV v26)))],[(73,0)])] ⟨rfl,rfl,trivial⟩ (fun E h => IxOk.opE (x_ld (var_22.h _ rfl rfl) h.1 h.2.1 (getc hv26 rfl) rfl) rfl) ?_
       refine d_mv [(8,_)] ?_
       refine d_ixr [(73,_),(74,_)] ?_
       refine d_ldr [(75,_)] ?_
       refine d_sub [(69,_),(76,_)] ?_
       refine d_mv [(7,_)] ?_
       refine dC [(64,_),(68,_),(77,_),(78,_)] Tryz.call117 (t_spec_l02Add _ _ _ _ _ hr29) ?_
       refine dG [(79,L 1 I r29)] [([(79,some (T.ro (lV r29)))],[(79,1)]),([(80,some (L 1 (Ro lV) [r29]))],[(80,0)])] ⟨rfl,trivial⟩ (fun E h => IxOk.gh (Ghost.frz 79 (k := 1) (f := I) (g := I) r29 h.1 inferInstance) <| IxOk.opE (x_bs elt_23 [.tmp 79] [.slot 79 (T.ro (lV r29))] [r29] (Ro lV) ⟨.slot _ _,trivial⟩ (pkS rfl (clean_of trivial) rfl pkN) rfl rfl) rfl) ?_
       refine dG [(63,T.same 9 []),(9,L 1 (Ro lV) s6.1),(80,L 1 (Ro lV) [r29])] [([(63,some (L 1 (Ro lV) s6.1)),(9,some (T.same 63 []))],[(63,1),(9,1)]),([(81,some (L 1 (Ro lV) v30)),(63,some T.any)],[(81,0),(63,1)])] ⟨rfl,rfl,rfl,trivial⟩ (fun E h => IxOk.gh (Ghost.tr 63 9 _ h.1 h.2.1 (clean_of (cleanL (fun _ => trivial))) rfl) <| IxOk.opE (x_appc (f := (Ro lV)) elt_23 (fun _ => rfl) hv30 rfl (locB (keepE h.2.2.1) rfl) rfl) rfl) ?_
       refine d_as [(81,_)] ?_
       refine dNA mixedP ?_
       refine nB ?_
       refine nA ?_
       refine CW.to [(0,I x0),(1,T.ro (lM x1)),(5,L 1 (Ro lV) s5.1),(6,I s5.2),(7,T.ro (lV r7)),(8,I r3),(9,T.same 81 []),(10,B s6.2.1),(11,I s6.2.2),(81,L 1 (Ro lV) v30)] ⟨rfl,rfl,rfl,rfl,rfl,rfl,rfl,rfl,rfl,rfl,trivial⟩ ?_
       refine CW.region ?_
       refine a_mv ?_
       obtain ⟨v31,hv31,h⟩ := bd h
       refine a_add ?_
       refine a_as ?_
       refine RW.ghost (Ghost.tr 9 81 _ rfl rfl (clean_of (cleanL (fun _ => trivial))) rfl) ?_
       refine RW.nil ?_
       exact eN h
     ·refine CW.exit ?_
      refine xA ?_
      exact eX h
    ·obtain ⟨rfl,hg⟩ := hq
     refine xB ?_
     refine nA ?_
     refine CW.ghost hg ?_
     refine CW.seq ?_
     refine sR ?_
     refine a_mv ?_
     refine a_not ?_
     refine rN ?_
     refine cn h (fun hc h => ?_) (fun hc h => ?_)
     ·refine CW.region ?_
      refine a_mv ?_
      refine a_mv ?_
      refine oP (x_bs elt_23 [.tmp 85] [.slot 85 (T.ro (lV r7))] [r7] (Ro lV) ⟨.slot _ _,trivial⟩ (pkS rfl (clean_of trivial) rfl pkN) rfl rfl) ?_
      refine RW.ghost (Ghost.tr 84 9 _ rfl rfl (clean_of (cleanL (fun _ => trivial))) rfl) ?_
      obtain ⟨v33,hv33,h⟩ := bd h
      refine oP (x_appc (f := (Ro lV)) elt_23 (fun _ => rfl) hv33 rfl (locB rfl rfl) rfl) ?_
      refine a_as ?_
      refine RW.ghost (Ghost.tr 9 87 _ rfl rfl (clean_of (cleanL (fun _ => trivial))) rfl) ?_
      refine rN ?_
      refine CW.region ?_
      refine a_mv ?_
      refine a_as ?_
      refine RW.ghost (Ghost.tr 5 9 _ rfl rfl (clean_of (cleanL (fun _ => trivial))) rfl) ?_
      refine RW.nil ?_
      refine nB ?_
      refine nA ?_
      refine CW.region ?_
      refine a_mv ?_
      obtain ⟨v34,hv34,h⟩ := bd h
      refine a_add ?_
      refine a_as ?_
      refine RW.nil ?_
      exact eN h
     ·refine CW.skip ?_
      refine nA ?_
      refine CW.region ?_
      refine a_mv ?_
      refine a_as ?_
      refine RW.ghost (Ghost.tr 5 9 _ rfl rfl (clean_of (cleanL (fun _ => trivial))) rfl) ?_
      refine RW.nil ?_
      refine nB ?_
      refine nA ?_
      refine CW.region ?_
      refine a_mv ?_
      obtain ⟨v35,hv35,h⟩ := bd h
      refine a_add ?_
      refine a_as ?_
      refine RW.nil ?_
      exact eN h
  ·refine CW.exit ?_
   refine xA ?_
   exact eX h
 ·obtain ⟨rfl,hg⟩ := hq
  refine xB ?_
  refine nA ?_
  refine CW.ghost hg ?_
  refine sR ?_
  refine a_mv ?_
  refine a_as ?_
  refine RW.ghost (Ghost.tr 4 5 _ rfl rfl (clean_of (cleanL (fun _ => trivial))) rfl) ?_
  refine rN ?_
  refine CW.ret ?_
  obtain rfl := sI h
  exact rT
theorem t_spec_l01Own2 (x0 : List (List Int)) (r : (List (List Int))) (h : f_spec_l01Own2 x0 = some r) : FnC Tryz.prog 124 [T.ro (lM x0)] [lM r] [] := by
 refine fB Tryz.func124 (fun St W w0 v => ?_)
 refine sR ?_
 refine oP (x_nil 1 rfl) ?_
 refine rN ?_
 refine sR ?_
 refine oP (x_bs0 elt_23 rfl) ?_
 refine a_as ?_
 refine RW.ghost (Ghost.tr 3 5 _ rfl rfl (clean_of trivial) rfl) ?_
 refine rN ?_
 refine CW.seq ?_
 refine sR ?_
 refine a_as ?_
 refine rN ?_
 refine CW.block ?_
 obtain ⟨r5,hr5,h⟩ := bd h
 refine CW.lp (s := ([],0)) (l1_spec_l01Own2 x0) (fun s1 : (List (List Int)) × Int => envL [(0,T.ro (lM x0)),(3,L 1 lV s1.1),(4,I s1.2)]) (fun (r5 : (List (List Int))) e E => e = .exit 0 ∧ Ghost ⟨St,W,w0,Tryz.f124.ntmps⟩ E (envL [(3,L 1 lV r5)])) (.has ⟨rfl,rfl,rfl,trivial⟩) (fun s1 x h => ?_) hr5 (fun e E hq => ?_)
 ·refine CW.seq ?_
  refine sR ?_
  refine a_mv ?_
  refine a_mv ?_
  refine a_lenr ?_
  refine a_lss ?_
  refine rN ?_
  refine cn h (fun hc h => ?_) (fun hc h => ?_)
  ·refine CW.skip ?_
   refine nA ?_
   refine CW.seq ?_
   refine CW.block ?_
   refine CW.region ?_
   refine a_mv ?_
   refine a_mv ?_
   refine a_mv ?_
   obtain ⟨v1,hv1,h⟩ := bd h
   refine a_ixr ?_
   refine a_ldr ?_
   obtain ⟨r2,hr2,h⟩ := bd h
   refine cA Tryz.call154 (t_spec_l01Own _ _ hr2) ?_
   refine oP (x_bs elt_23 [.tmp 17] [.slot 17 (L 1 I r2)] [r2] lV ⟨.slot _ _,trivial⟩ (pkS rfl (clean_of (cleanL (Enc.clean (f := I)))) rfl pkN) rfl rfl) ?_
   refine RW.ghost (Ghost.tr 12 3 _ rfl rfl (clean_of (cleanL (Enc.clean (f := lV)))) rfl) ?_
   obtain ⟨v3,hv3,h⟩ := bd h
   refine oP (x_appm (f := lV) elt_23 hv3 rfl rfl rfl) ?_
   refine a_as ?_
   refine RW.ghost (Ghost.tr 3 19 _ rfl rfl (clean_of (cleanL (Enc.clean (f := lV)))) rfl) ?_
   refine RW.nil ?_
   refine nB ?_
   refine nA ?_
   refine CW.region ?_
   refine a_mv ?_
   obtain ⟨v4,hv4,h⟩ := bd h
   refine a_add ?_
   refine a_as ?_
   refine RW.nil ?_
   exact eN h
  ·refine CW.exit ?_
   refine xA ?_
   exact eX h
 ·obtain ⟨rfl,hg⟩ := hq
  refine xB ?_
  refine nA ?_
  refine CW.ghost hg ?_
  refine sR ?_
  refine a_mv ?_
  refine a_as ?_
  refine RW.ghost (Ghost.tr 2 3 _ rfl rfl (clean_of (cleanL (Enc.clean (f := lV)))) rfl) ?_
  refine rN ?_
  refine CW.ret ?_
  obtain rfl := sI h
  exact rT
theorem t_impl_copyRows (x0 : List (List Int)) (r : (List (List Int))) (h : f_impl_copyRows x0 = some r) : FnC Tryz.prog 82 [T.ro (lM x0)] [lM r] [] := by
 refine fB Tryz.func82 (fun St W w0 v => ?_)
 refine sR ?_
 refine oP (x_nil 1 rfl) ?_
 refine rN ?_
 refine sR ?_
 refine oP (x_nil 1 rfl) ?_
 refine rN ?_
 refine CW.seq ?_
 refine sR ?_
 refine a_mv ?_
 refine a_lenr ?_
 refine a_mv ?_
 refine rN ?_
 refine CW.block ?_
 obtain ⟨r5,hr5,h⟩ := bd h
 refine CW.lp (s := ([],0)) (l1_impl_copyRows x0) (fun s1 : (List (List Int)) × Int => envL [(3,L 1 lV s1.1),(6,T.ro (lM x0)),(7,I (x0.length : Int)),(8,I s1.2)]) (fun (r5 : (List (List Int))) e E => e = .exit 0 ∧ Ghost ⟨St,W,w0,Tryz.f82.ntmps⟩ E (envL [(3,L 1 lV r5)])) (.has ⟨rfl,rfl,rfl,rfl,trivial⟩) (fun s1 x h => ?_) hr5 (fun e E hq => ?_)
 ·refine sR ?_
  refine a_lss ?_
  refine rN ?_
  refine CW.seq ?_
  refine cn h (fun hc h => ?_) (fun hc h => ?_)
  ·refine CW.skip ?_
   refine nA ?_
   refine CW.seq ?_
   refine CW.block ?_
   refine sR ?_
   obtain ⟨v1,hv1,h⟩ := bd h
   refine a_ixr ?_
   refine a_ldr ?_
   refine a_as ?_
   refine rN ?_
   refine CW.region ?_
   refine a_mv ?_
   refine a_mv ?_
   obtain ⟨r2,hr2,h⟩ := bd h
   refine cA Tryz.call131 (t_slices_Clone_int64_int64 _ _ hr2) ?_
   refine oP (x_bs elt_23 [.tmp 14] [.slot 14 (L 1 I r2)] [r2] lV ⟨.slot _ _,trivial⟩ (pkS rfl (clean_of (cleanL (Enc.clean (f := I)))) rfl pkN) rfl rfl) ?_
   refine RW.ghost (Ghost.tr 12 3 _ rfl rfl (clean_of (cleanL (Enc.clean (f := lV)))) rfl) ?_
   obtain ⟨v3,hv3,h⟩ := bd h
   refine oP (x_appm (f := lV) elt_23 hv3 rfl rfl rfl) ?_
   refine a_as ?_
   refine RW.ghost (Ghost.tr 3 16 _ rfl rfl (clean_of (cleanL (Enc.clean (f := lV)))) rfl) ?_
   refine RW.nil ?_
   refine nB ?_
   refine nA ?_
   refine CW.region ?_
   obtain ⟨v4,hv4,h⟩ := bd h
   refine a_add ?_
   refine a_mv ?_
   refine RW.nil ?_
   exact eN h
  ·refine CW.exit ?_
   refine xA ?_
   exact eX h
 ·obtain ⟨rfl,hg⟩ := hq
  refine xB ?_
  refine nA ?_
  refine CW.ghost hg ?_
  refine sR ?_
  refine a_mv ?_
  refine a_as ?_
  refine RW.ghost (Ghost.tr 2 3 _ rfl rfl (clean_of (cleanL (Enc.clean (f := lV)))) rfl) ?_
  refine rN ?_
  refine CW.ret ?_
  obtain rfl := sI h
  exact rT
theorem t_impl_inverseMod (x0 : Int) (x1 : Int) (r : Int × Bool) (h : f_impl_inverseMod x0 x1 = some r) : FnC Tryz.prog 121 [I x0,I x1] [I r.1,B r.2] [] := by
 refine fB Tryz.func121 (fun St W w0 v => ?_)
 refine sR ?_
 refine a_as ?_
 refine a_as ?_
 refine rN ?_
 refine sR ?_
 refine a_mv ?_
 refine a_mv ?_
 refine a_as ?_
 refine a_as ?_
 refine a_as ?_
 refine a_as ?_
 refine rN ?_
 refine CW.seq ?_
 refine CW.block ?_
 obtain ⟨r6,hr6,h⟩ := bd h
 refine CW.lp (s := (x1,x0,0,1)) l1_impl_inverseMod (fun s1 : Int × Int × Int × Int => envL [(1,I x1),(6,I s1.1),(7,I s1.2.1),(8,I s1.2.2.1),(9,I s1.2.2.2)]) (fun (r6 : (Int × Int)) e E => e = .exit 0 ∧ Ghost ⟨St,W,w0,Tryz.f121.ntmps⟩ E (envL [(1,I x1),(6,I r6.1),(8,I r6.2)])) (.has ⟨rfl,rfl,rfl,rfl,rfl,trivial⟩) (fun s1 x h => ?_) hr6 (fun e E hq => ?_)
 ·refine CW.seq ?_
  refine sR ?_
  refine a_mv ?_
  refine a_neq ?_
  refine rN ?_
  refine cn h (fun hc h => ?_) (fun hc h => ?_)
  ·refine CW.skip ?_
   refine nA ?_
   refine CW.block ?_
   refine sR ?_
   refine a_mv ?_
   refine a_mv ?_
   obtain ⟨v1,hv1,h⟩ := bd h
   refine a_quo ?_
   refine a_as ?_
   refine rN ?_
   refine sR ?_
   refine a_mv ?_
   refine a_mv ?_
   refine a_mv ?_
   refine a_mv ?_
   obtain ⟨v2,hv2,h⟩ := bd h
   refine a_mul ?_
   obtain ⟨v3,hv3,h⟩ := bd h
   refine a_sub ?_
   refine a_as ?_
   refine a_as ?_
   refine rN ?_
   refine CW.region ?_
   refine a_mv ?_
   refine a_mv ?_
   refine a_mv ?_
   refine a_mv ?_
   obtain ⟨v4,hv4,h⟩ := bd h
   refine a_mul ?_
   obtain ⟨v5,hv5,h⟩ := bd h
   refine a_sub ?_
   refine a_as ?_
   refine a_as ?_
   refine RW.nil ?_
   refine nB ?_
   exact eN h
  ·refine CW.exit ?_
   refine xA ?_
   exact eX h
 ·obtain ⟨rfl,hg⟩ := hq
  refine xB ?_
  refine nA ?_
  refine CW.ghost hg ?_
  refine sR ?_
  refine a_mv ?_
  refine a_mv ?_
  obtain ⟨r7,hr7,h⟩ := bd h
  refine cA Tryz.call127 (t_impl_residue _ _ _ hr7) ?_
  refine a_mv ?_
  refine a_eql ?_
  refine a_as ?_
  refine a_as ?_
  refine rN ?_
  refine CW.ret ?_
  obtain rfl := sI h
  exact rT
theorem t_impl_reduceRows (x0 : Int) (x1 : List (List Int)) (r : (List (List Int))) (h : f_impl_reduceRows x0 x1 = some r) : FnC Tryz.prog 71 [I x0,T.ro (lM x1)] [lM r] [] := by
 refine fB Tryz.func71 (fun St W w0 v => ?_)
 refine sR ?_
 refine oP (x_nil 1 rfl) ?_
 refine rN ?_
 refine sR ?_
 refine a_mv ?_
 obtain ⟨r1,hr1,h⟩ := bd h
 refine cA Tryz.call82 (t_impl_copyRows _ _ hr1) ?_
 refine a_as ?_
 refine RW.ghost (Ghost.tr 1 13 _ rfl rfl (clean_of (cleanL (Enc.clean (f := lV)))) rfl) ?_
 refine rN ?_
 refine sR ?_
 refine a_as ?_
 refine rN ?_
 refine CW.seq ?_
 refine sR ?_
 refine a_as ?_
 refine rN ?_
 refine CW.block ?_
 obtain ⟨r33,hr33,h⟩ := bd h
 refine CW.lp (s := (r1,0,0)) (l4_impl_reduceRows x0) (fun s13 : (List (List Int)) × Int × Int => envL [(0,I x0),(1,L 1 lV s13.1),(5,I s13.2.1),(6,I s13.2.2)]) (fun (r33 : ((List (List Int)) × Int)) e E => e = .exit 0 ∧ Ghost ⟨St,W,w0,Tryz.f71.ntmps⟩ E (envL [(1,L 1 lV r33.1),(5,I r33.2)])) (.has ⟨rfl,rfl,rfl,rfl,trivial⟩) (fun s13 x h => ?_) hr33 (fun e E hq => ?_)
 ·refine CW.seq ?_
  refine sR ?_
  refine a_mv ?_
  refine a_len ?_
  refine a_gtr ?_
  refine a_mv ?_
  refine RW.cases 17 _ rfl (fun hc => ?_) (fun hc => ?_)
  ·have h := cT hc h
   refine g_mv ?_
   refine g_mv ?_
   obtain ⟨v2,hv2,h⟩ := bd h
   refine g_ix ?_
   refine g_ld ?_
   refine g_len ?_
   refine g_lss ?_
   refine a_pick ?_
   refine a_mv ?_
   refine RW.cases 25 _ rfl (fun hc => ?_) (fun hc => ?_)
   ·have h := cT hc h
    refine g_mv ?_
    refine g_mv ?_
    refine g_len ?_
    refine g_lss ?_
    refine a_pick ?_
    refine rN ?_
    refine cn h (fun hc h => ?_) (fun hc h => ?_)
    ·refine CW.skip ?_
     refine nA ?_
     refine CW.seq ?_
     refine CW.block ?_
     refine sR ?_
     refine a_mv ?_
     refine a_as ?_
     refine rN ?_
     refine CW.seq ?_
     refine CW.block ?_
     obtain ⟨r6,hr6,h⟩ := bd h
     refine CW.lp (s := s13.2.1) (l1_impl_reduceRows s13) (fun s14 : Int => envL [(0,I x0),(1,L 1 lV s13.1),(5,I s13.2.1),(6,I s13.2.2),(7,I s14)]) (fun (r6 : Int) e E => e = .exit 2 ∧ Ghost ⟨St,W,w0,Tryz.f71.ntmps⟩ E (envL [(0,I x0),(1,L 1 lV s13.1),(5,I s13.2.1),(6,I s13.2.2),(7,I r6)])) (.has ⟨rfl,rfl,rfl,rfl,rfl,trivial⟩) (fun s14 x h => ?_) hr6 (fun e E hq => ?_)
     ·refine CW.seq ?_
      refine sR ?_
      refine a_mv ?_
      refine a_mv ?_
      refine a_len ?_
      refine a_lss ?_
      refine a_mv ?_
      refine RW.cases 38 _ rfl (fun hc => ?_) (fun hc => ?_)
      ·have h := cT hc h
       refine g_mv ?_
       refine g_mv ?_
       obtain ⟨v3,hv3,h⟩ := bd h
       refine g_ix ?_
       refine g_ld ?_
       refine g_mv ?_
       obtain ⟨v4,hv4,h⟩ := bd h
       refine g_ix ?_
       refine g_ld ?_
       refine g_eql ?_
       refine a_pick ?_
       refine rN ?_
       refine cn h (fun hc h => ?_) (fun hc h => ?_)
       ·refine CW.skip ?_
        refine nA ?_
        refine CW.block ?_
        refine CW.region ?_
        refine a_mv ?_
        obtain ⟨v5,hv5,h⟩ := bd h
        refine a_add ?_
        refine a_as ?_
        refine RW.nil ?_
        refine nB ?_
        exact eN h
       ·refine CW.exit ?_
        refine xA ?_
        exact eX h
      ·have h := cF hc h
       refine sk2 ?_
       refine sk2 ?_
       refine sk2 ?_
       refine sk2 ?_
       refine sk2 ?_
       refine sk2 ?_
       refine sk2 ?_
       refine sk2 ?_
       refine a_pick ?_
       refine rN ?_
       refine CW.condF rfl ?_
       refine CW.exit ?_
       refine xA ?_
       exact eX h
     ·obtain ⟨rfl,hg⟩ := hq
      refine xB ?_
      refine nA ?_
      refine CW.ghost hg ?_
      refine CW.seq ?_
      refine sR ?_
      refine a_mv ?_
      refine a_mv ?_
      refine a_len ?_
      refine a_eql ?_
      refine rN ?_
      refine cn h (fun hc h => ?_) (fun hc h => ?_)
      ·refine CW.exit ?_
       refine xA ?_
       refine xB ?_
       refine nA ?_
       refine CW.region ?_
       refine a_mv ?_
       obtain ⟨v7,hv7,h⟩ := bd h
       refine a_add ?_
       refine a_as ?_
       refine RW.nil ?_
       exact eN h
      ·refine CW.skip ?_
       refine nA ?_
       refine CW.seq ?_
       obtain ⟨v8,hv8,h⟩ := bd h
       obtain ⟨v9,hv9,h⟩ := bd h
       refine CW.midA [(0,I x0),(1,L 1 lV (swapL s13.1 s13.2.1 r6 v8 v9)),(5,I s13.2.1),(6,I s13.2.2)] ?_ ?_
       ·refine CW.casesB (r6 == s13.2.1) (fun hc => ?_) (fun hc => ?_)
        ·have hij : (r6 : Int) = s13.2.1 := by simpa using hc
         refine CW.dkS [1] ?_
         refine d_mvS 1 ?_
         refine d_mv [(5,_)] ?_
         refine d_mvS 1 ?_
         refine d_mv [(7,_)] ?_
         refine d_mvS 1 ?_
         refine d_mv [(7,_)] ?_
         refine d_ix [(58,_),(1,_),(59,_)] ?_
         refine d_ld [(60,_),(1,_)] ?_
         refine d_mvS 1 ?_
         refine d_mv [(5,_)] ?_
         refine d_ix [(62,_),(1,_),(63,_)] ?_
         refine d_ld [(64,_),(1,_)] ?_
         refine d_ix [(54,_),(1,_),(55,_)] ?_
         refine sw1e (V := 65) inf_22 rfl hv8 hij ?_
         refine dG [(56,_),(1,_),(57,_)] [([(67,some (T.addr 1 [(r6 : Int).toNat]))],[(67,0)])] ⟨rfl,rfl,rfl,trivial⟩ (fun E h => IxOk.opE (y_ixG (locA h.1 h.2.1 rfl rfl) h.2.2.1 (ixLen hv8 (by simp)) rfl) rfl) ?_
         refine sw2e (U := 61) inf_22 rfl hv8 hv9 hij ?_
         refine dNA mixedP ?_
         exact ⟨rfl,.has ⟨rfl,rfl,rfl,rfl,trivial⟩⟩
        ·have hn := toNat_ne hv8 hv9 hc
         refine CW.dkS [1] ?_
         refine d_mvS 1 ?_
         refine d_mv [(5,_)] ?_
         refine d_mvS 1 ?_
         refine d_mv [(7,_)] ?_
         refine d_mvS 1 ?_
         refine d_mv [(7,_)] ?_
         refine d_ix [(58,_),(1,_),(59,_)] ?_
         refine d_ld [(60,_),(1,_)] ?_
         refine d_mvS 1 ?_
         refine d_mv [(5,_)] ?_
         refine d_ix [(62,_),(1,_),(63,_)] ?_
         refine d_ld [(64,_),(1,_)] ?_
         refine d_ix [(54,_),(1,_),(55,_)] ?_
         refine sw1n (V := 65) inf_22 rfl hv8 hv9 hn ?_
         refine dG [(56,_),(1,_),(57,_)] [([(67,some (T.addr 1 [(r6 : Int).toNat]))],[(67,0)])] ⟨rfl,rfl,rfl,trivial⟩ (fun E h => IxOk.opE (y_ixG (locA h.1 h.2.1 rfl rfl) h.2.2.1 (ixLen hv8 (by simp)) rfl) rfl) ?_
         refine sw2n inf_22 rfl hv8 hv9 hn ?_
         refine dNA mixedP ?_
         exact ⟨rfl,.has ⟨rfl,rfl,rfl,rfl,trivial⟩⟩
       ·refine sR ?_
        refine a_mv ?_
        refine a_mv ?_
        obtain ⟨v10,hv10,h⟩ := bd h
        refine oP (x_ix (f := lV) row_23 hv10 (locA rfl rfl rfl rfl) rfl rfl) ?_
        refine oP (x_ld (var_22.h _ rfl rfl) rfl rfl (getc hv10 rfl) rfl) ?_
        refine a_mv ?_
        obtain ⟨v11,hv11,h⟩ := bd h
        refine oP (x_ix (f := I) row_22 hv11 (locA rfl rfl (getc hv10 rfl) rfl) rfl rfl) ?_
        refine oP (x_ld (var_2.h _ rfl rfl) rfl rfl (getc hv10 (getc hv11 rfl)) rfl) ?_
        refine a_mv ?_
        obtain ⟨r12,hr12,h⟩ := bd h
        refine cA Tryz.call121 (t_impl_inverseMod _ _ _ hr12) ?_
        refine a_mvT ?_
        refine a_ext ?_
        refine a_ext ?_
        refine a_as ?_
        refine a_as ?_
        refine rN ?_
        refine CW.seq ?_
        refine sR ?_
        refine a_mv ?_
        refine a_mv ?_
        obtain ⟨v13,hv13,h⟩ := bd h
        refine oP (x_ix (f := lV) row_23 hv13 (locA rfl rfl rfl rfl) rfl rfl) ?_
        refine oP (x_ld (var_22.h _ rfl rfl) rfl rfl (getc hv13 rfl) rfl) ?_
        refine oP (x_len Tryz.underlying22 (locA rfl rfl (getc hv13 rfl) rfl) rfl) ?_
        refine a_mv ?_
        refine rN ?_
        refine CW.block ?_
        obtain ⟨r21,hr21,h⟩ := bd h
        refine CW.lp (s := (swapL s13.1 s13.2.1 r6 v8 v9,0)) (l2_impl_reduceRows x0 s13 r12 v13) (fun s16 : (List (List Int)) × Int => envL [(0,I x0),(1,L 1 lV s16.1),(5,I s13.2.1),(6,I s13.2.2),(8,I r12.1),(84,I (v13.length : Int)),(85,I s16.2)]) (fun (r21 : (List (List Int))) e E => e = .exit 4 ∧ Ghost ⟨St,W,w0,Tryz.f71.ntmps⟩ E (envL [(0,I x0),(1,L 1 lV r21),(5,I s13.2.1),(6,I s13.2.2)])) (.has ⟨rfl,rfl,rfl,rfl,rfl,rfl,rfl,trivial⟩) (fun s16 x h => ?_) hr21 (fun e E hq => ?_)
        ·refine sR ?_
         refine a_lss ?_
         refine rN ?_
         refine CW.seq ?_
         refine cn h (fun hc h => ?_) (fun hc h => ?_)
         ·refine CW.skip ?_
          refine nA ?_
          refine CW.seq ?_
          refine CW.block ?_
          refine sR ?_
          refine a_mv ?_
          refine a_as ?_
          refine rN ?_
          obtain ⟨v14,hv14,h⟩ := bd h
          obtain ⟨v15,hv15,h⟩ := bd h
          obtain ⟨v16,hv16,h⟩ := bd h
          obtain ⟨v17,hv17,h⟩ := bd h
          obtain ⟨v18,hv18,h⟩ := bd h
          obtain ⟨v19,hv19,h⟩ := bd h
          refine CW.dk ?_
          refine d_mv [(1,_)] ?_
          refine d_mv [(5,_)] ?_
          refine dG [(88,_),(1,_),(89,_)] [([(90,some (T.addr 1 [s13.2.1.toNat]))],[(90,0)])] ⟨rfl,rfl,rfl,trivial⟩ (fun E h => IxOk.opE (x_ix (f := lV) row_23 hv14 (locA h.1 h.2.1 rfl rfl) h.2.2.1 rfl) rfl) ?_
          refine dG [(90,_),(1,_)] [([(91,some (T.same 1 [s13.2.1.toNat]))],[(91,0)])] ⟨rfl,rfl,trivial⟩ (fun E h => IxOk.opE (x_ld (var_22.h _ rfl rfl) h.1 h.2.1 (getc hv14 rfl) rfl) rfl) ?_
          refine d_mv [(10,_)] ?_
          refine d_mv [(1,_)] ?_
          refine d_mv [(5,_)] ?_
          refine dG [(93,_),(1,_),(94,_)] [([(95,some (T.addr 1 [s13.2.1.toNat]))],[(95,0)])] ⟨rfl,rfl,rfl,trivial⟩ (fun E h => IxOk.opE (x_ix (f := lV) row_23 hv15 (locA h.1 h.2.1 rfl rfl) h.2.2.1 rfl) rfl) ?_
          refine dG [(95,_),(1,_)] [([(96,some (T.same 1 [s13.2.1.toNat]))],[(96,0)])] ⟨rfl,rfl,trivial⟩ (fun E h => IxOk.opE (x_ld (var_22.h _ rfl rfl) h.1 h.2.1 (getc hv15 rfl) rfl) rfl) ?_
          refine d_mv [(10,_)] ?_
          refine dG [(96,_),(1,_),(97,_)] [([(98,some (T.addr 1 [s16.2.toNat,s13.2.1.toNat]))],[(98,0)])] ⟨rfl,rfl,rfl,trivial⟩ (fun E h => IxOk.opE (x_ix (f := I) row_22 hv16 (locA h.1 h.2.1 (getc hv15 rfl) rfl) h.2.2.1 rfl) rfl) ?_
          refine dG [(98,_),(1,_)] [([(99,some (I v16))],[(99,0)])] ⟨rfl,rfl,trivial⟩ (fun E h => IxOk.opE (x_ld (var_2.h _ rfl rfl) h.1 h.2.1 (getc hv15 (getc hv16 rfl)) rfl) rfl) ?_
          refine d_mv [(8,_)] ?_
          refine d_mul [(99,_),(100,_)] ?_
          refine d_mv [(0,_)] ?_
          refine d_rem [(101,_),(102,_)] ?_
          refine dG [(91,_),(1,_),(92,_)] [([(104,some (T.addr 1 [s16.2.toNat,s13.2.1.toNat]))],[(104,0)])] ⟨rfl,rfl,rfl,trivial⟩ (fun E h => IxOk.opE (x_ix (f := I) row_22 hv19 (locA h.1 h.2.1 (getc hv14 rfl) rfl) h.2.2.1 rfl) rfl) ?_
          refine dG [(104,_),(1,_),(103,_)] [([(1,some (L 1 lV (s16.1.set s13.2.1.toNat (v14.set s16.2.toNat v18))))],[(1,2)])] ⟨rfl,rfl,rfl,trivial⟩ (fun E h => IxOk.opE (x_st inf_2 rfl h.1 h.2.1 (getc hv14 (getc hv19 rfl)) (setc hv14 (setc hv19 rfl)) h.2.2.1 (clean_of (Enc.clean (f := I) _)) rfl) rfl) ?_
          refine dNA mixedP ?_
          refine nB ?_
          refine nA ?_
          refine CW.region ?_
          obtain ⟨v20,hv20,h⟩ := bd h
          refine a_add ?_
          refine a_mv ?_
          refine RW.nil ?_
          exact eN h
         ·refine CW.exit ?_
          refine xA ?_
          exact eX h
        ·obtain ⟨rfl,hg⟩ := hq
         refine xB ?_
         refine nA ?_
         refine CW.ghost hg ?_
         refine CW.seq ?_
         refine sR ?_
         refine a_mv ?_
         refine a_len ?_
         refine a_mv ?_
         refine rN ?_
         refine CW.block ?_
         obtain ⟨r30,hr30,h⟩ := bd h
         refine CW.lp (s := (r21,0)) (l3_impl_reduceRows x0 s13 r21) (fun s18 : (List (List Int)) × Int => envL [(0,I x0),(1,L 1 lV s18.1),(5,I s13.2.1),(6,I s13.2.2),(107,I (r21.length : Int)),(108,I s18.2)]) (fun (r30 : (List (List Int))) e E => e = .exit 6 ∧ Ghost ⟨St,W,w0,Tryz.f71.ntmps⟩ E (envL [(0,I x0),(1,L 1 lV r30),(5,I s13.2.1),(6,I s13.2.2)])) (.has ⟨rfl,rfl,rfl,rfl,rfl,rfl,trivial⟩) (fun s18 x h => ?_) hr30 (fun e E hq => ?_)
         ·refine sR ?_
          refine a_lss ?_
          refine rN ?_
          refine CW.seq ?_
          refine cn h (fun hc h => ?_) (fun hc h => ?_)
          ·refine CW.skip ?_
           refine nA ?_
           refine CW.seq ?_
           refine CW.block ?_
           refine sR ?_
           refine a_mv ?_
           refine a_as ?_
           refine rN ?_
           refine sR ?_
           refine a_mv ?_
           refine a_mv ?_
           refine a_neq ?_
           refine rN ?_
           refine cn h (fun hc h => ?_) (fun hc h => ?_)
           ·obtain ⟨v22,hv22,h⟩ := bd h
            obtain ⟨v23,hv23,h⟩ := bd h
            obtain ⟨v24,hv24,h⟩ := bd h
            obtain ⟨v25,hv25,h⟩ := bd h
            obtain ⟨v26,hv26,h⟩ := bd h
            obtain ⟨r27,hr27,h⟩ := bd h
            refine CW.dk ?_
            refine d_mv [(1,_)] ?_
            refine d_mv [(11,_)] ?_
            refine dG [(114,_),(1,_),(115,_)] [([(116,some (T.addr 1 [s18.2.toNat]))],[(116,0)])] ⟨rfl,rfl,rfl,trivial⟩ (fun E h => IxOk.opE (x_ix (f := lV) row_23 hv22 (locA h.1 h.2.1 rfl rfl) h.2.2.1 rfl) rfl) ?_
            refine dG [(116,_),(1,_)] [([(117,some (T.same 1 [s18.2.toNat]))],[(117,0)])] ⟨rfl,rfl,trivial⟩ (fun E h => IxOk.opE (x_ld (var_22.h _ rfl rfl) h.1 h.2.1 (getc hv22 rfl) rfl) rfl) ?_
            refine d_mv [(1,_)] ?_
            refine d_mv [(5,_)] ?_
            refine dG [(118,_),(1,_),(119,_)] [([(120,some (T.addr 1 [s13.2.1.toNat]))],[(120,0)])] ⟨rfl,rfl,rfl,trivial⟩ (fun E h => IxOk.opE (x_ix (f := lV) row_23 hv23 (locA h.1 h.2.1 rfl rfl) h.2.2.1 rfl) rfl) ?_
            refine dG [(120,_),(1,_)] [([(121,some (T.same 1 [s13.2.1.toNat]))],[(121,0)])] ⟨rfl,rfl,trivial⟩ (fun E h => IxOk.opE (x_ld (var_22.h _ rfl rfl) h.1 h.2.1 (getc hv23 rfl) rfl) rfl) ?_
            refine d_mv [(1,_)] ?_
            refine d_mv [(11,_)] ?_
            refine dG [(122,_),(1,_),(123,_)] [([(124,some (T.addr 1 [s18.2.toNat]))],[(124,0)])] ⟨rfl,rfl,rfl,trivial⟩ (fun E h => IxOk.opE (x_ix (f := lV) row_23 hv24 (locA h.1 h.2.1 rfl rfl) h.2.2.1 rfl) rfl) ?_
            refine dG [(124,_),(1,_)] [([(125,some (T.same 1 [s18.2.toNat]))],[(125,0)])] ⟨rfl,rfl,trivial⟩ (fun E h => IxOk.opE (x_ld (var_22.h _ rfl rfl) h.1 h.2.1 (getc hv24 rfl) rfl) rfl) ?_
            refine d_mv [(6,_)] ?_
            refine dG [(125,_),(1,_),(126,_)] [([(127,some (T.addr 1 [s13.2.2.toNat,s18.2.toNat]))],[(127,0)])] ⟨rfl,rfl,rfl,trivial⟩ (fun E h => IxOk.opE (x_ix (f := I) row_22 hv25 (locA h.1 h.2.1 (getc hv24 rfl) rfl) h.2.2.1 rfl) rfl) ?_
            refine dG [(127,_),(1,_)] [([(128,some (I v25))],[(128,0)])] ⟨rfl,rfl,trivial⟩ (fun E h => IxOk.opE (x_ld (var_2.h _ rfl rfl) h.1 h.2.1 (getc hv24 (getc hv25 rfl)) rfl) rfl) ?_
            refine d_neg [(128,_)] ?_
            refine d_mv [(0,_)] ?_
            refine dG [(117,_),(1,_),(121,_),(129,_),(130,_)] [([(117,some (L 1 I v22)),(1,some ((L 1 lV s18.1).set [s18.2.toNat] T.any))],[(117,1),(1,2)]),([(131,some (T.tup [])),(117,some (L 1 I r27))],[(131,0),(117,1)]),([(1,some (L 1 lV (s18.1.set s18.2.toNat r27))),(117,some (T.same 1 [s18.2.toNat]))],[(1,2),(117,1)])] ⟨rfl,rfl,rfl,rfl,rfl,trivial⟩ (fun E h => IxOk.opE (x_callM (xs := [.tmp 117,.tmp 121,.tmp 129,.tmp 130]) 0 117 1 [s18.2.toNat] Tryz.call103 (t_impl_addMultiple _ _ _ _ _ hr27) h.1 h.2.1 (getc hv22 rfl) (clean_of (cleanL (Enc.clean (f := I)))) (clean_of (cleanL (Enc.clean (f := I)))) (Enc.rofree (f := L 1 I) _) (Enc.rofree (f := L 1 I) _) ⟨(agLd rfl (clean_of (cleanL (Enc.clean (f := I)))) (Enc.rofree (f := L 1 I) _)),⟨(agM _ (keepL h.2.2.1) (cloS rfl (getHole hv22 hv23 (by assumption)) inferInstance) (argClS rfl (getHole hv22 hv23 (by assumption)) rfl rfl)),⟨(agM _ (keepL h.2.2.2.1) rfl rfl),⟨(agM _ (keepL h.2.2.2.2.1) rfl rfl),trivial⟩⟩⟩⟩ resN (setc hv22 rfl) rfl rfl rfl) rfl) ?_
            refine dNA mixedP ?_
            refine nB ?_
            refine nA ?_
            refine CW.to [(0,I x0),(1,L 1 lV (s18.1.set s18.2.toNat r27)),(5,I s13.2.1),(6,I s13.2.2),(107,I (r21.length : Int)),(108,I s18.2)] ⟨rfl,rfl,rfl,rfl,rfl,rfl,trivial⟩ ?_
            refine CW.region ?_
            obtain ⟨v28,hv28,h⟩ := bd h
            refine a_add ?_
            refine a_mv ?_
            refine RW.nil ?_
            exact eN h
           ·refine CW.skip ?_
            refine nB ?_
            refine nA ?_
            refine CW.region ?_
            obtain ⟨v29,hv29,h⟩ := bd h
            refine a_add ?_
            refine a_mv ?_
            refine RW.nil ?_
            exact eN h
          ·refine CW.exit ?_
           refine xA ?_
           exact eX h
         ·obtain ⟨rfl,hg⟩ := hq
          refine xB ?_
          refine nA ?_
          refine CW.ghost hg ?_
          refine CW.region ?_
          refine a_mv ?_
          obtain ⟨v31,hv31,h⟩ := bd h
          refine oP (x_add hv31 rfl rfl rfl) ?_
          refine a_as ?_
          refine RW.nil ?_
          refine nB ?_
          refine nA ?_
          refine CW.region ?_
          refine a_mv ?_
          obtain ⟨v32,hv32,h⟩ := bd h
          refine oP (x_add hv32 rfl rfl rfl) ?_
          refine a_as ?_
          refine RW.nil ?_
          exact eN h
    ·refine CW.exit ?_
     refine xA ?_
     exact eX h
   ·have h := cF hc h
    refine sk2 ?_
    refine sk2 ?_
    refine sk2 ?_
    refine sk2 ?_
    refine a_pick ?_
    refine rN ?_
    refine CW.condF rfl ?_
    refine CW.exit ?_
    refine xA ?_
    exact eX h
  ·have h := cF hc h
   refine sk2 ?_
   refine sk2 ?_
   refine sk2 ?_
   refine sk2 ?_
   refine sk2 ?_
   refine sk2 ?_
   refine a_pick ?_
   refine a_mv ?_
   refine sk2 ?_
   refine sk2 ?_
   refine sk2 ?_
   refine sk2 ?_
   refine a_pick ?_
   refine rN ?_
   refine CW.condF rfl ?_
   refine CW.exit ?_
   refine xA ?_
   exact eX h
 ·obtain ⟨rfl,hg⟩ := hq
  refine xB ?_
  refine nA ?_
  refine CW.ghost hg ?_
  refine sR ?_
  refine a_mv ?_
  refine a_mv ?_
  refine a_mv ?_
  refine RW.ghost (Ghost.tr 135 1 _ rfl rfl (clean_of (cleanL (Enc.clean (f := lV)))) rfl) ?_
  obtain ⟨v34,hv34,h⟩ := bd h
  refine oP (x_cut (f := lV) elt_23 hv34 rfl rfl (.inr ⟨_,rfl,rfl⟩) rfl) ?_
  refine a_as ?_
  refine RW.ghost (Ghost.tr 4 138 _ rfl rfl (clean_of (cleanL (Enc.clean (f := lV)))) rfl) ?_
  refine rN ?_
  refine CW.ret ?_
  obtain rfl := sI h
  exact rT
end Go.Wk

namespace Go.Wk
open Go Go.Proofs Go.Ab
set_option maxRecDepth 100000
theorem t_laws_eqMatrix (x0 : SMatrix) (x1 : SMatrix) (r : Bool) (h : f_laws_eqMatrix x0 x1 = some r) : FnC Tryz.prog 34 [qMatrix x0,qMatrix x1] [B r] [] := by
 refine fB Tryz.func34 (fun St W w0 v => ?_)
 refine sR ?_
 refine a_box ?_
 refine a_box ?_
 refine a_as ?_
 refine rN ?_
 refine CW.seq ?_
 refine sR ?_
 refine a_fa ?_
 refine a_ld ?_
 refine a_fa ?_
 refine a_ld ?_
 refine a_neq ?_
 refine rN ?_
 refine cn h (fun hc h => ?_) (fun hc h => ?_)
 ·refine sR ?_
  refine a_as ?_
  refine rN ?_
  refine CW.ret ?_
  refine rA ?_
  obtain rfl := sI h
  exact rT
 ·refine CW.skip ?_
  refine nA ?_
  refine CW.seq ?_
  refine sR ?_
  refine a_fa ?_
  refine a_ld ?_
  refine a_fa ?_
  refine a_ld ?_
  refine a_neq ?_
  refine rN ?_
  refine cn h (fun hc h => ?_) (fun hc h => ?_)
  ·refine sR ?_
   refine a_as ?_
   refine rN ?_
   refine CW.ret ?_
   refine rA ?_
   obtain rfl := sI h
   exact rT
  ·refine CW.skip ?_
   refine nA ?_
   refine CW.seq ?_
   refine sR ?_
   refine a_fa ?_
   refine a_ld ?_
   refine a_fa ?_
   refine a_ld ?_
   obtain ⟨r1,hr1,h⟩ := bd h
   refine cA Tryz.call22 (t_laws_eqInt64SS _ _ _ hr1) ?_
   refine a_not ?_
   refine rN ?_
   refine cn h (fun hc h => ?_) (fun hc h => ?_)
   ·refine sR ?_
    refine a_as ?_
    refine rN ?_
    refine CW.ret ?_
    refine rA ?_
    obtain rfl := sI h
    exact rT
   ·refine CW.skip ?_
    refine nA ?_
    refine sR ?_
    refine a_as ?_
    refine rN ?_
    refine CW.ret ?_
    obtain rfl := sI h
    exact rT
theorem t_laws_heldInt64SS (x0 : List (List Int)) (x1 : Int) (r : Int) (h : f_laws_heldInt64SS x0 x1 = some r) : FnC Tryz.prog 37 [T.ro (lM x0),I x1] [I r] [] := by
 refine fB Tryz.func37 (fun St W w0 v => ?_)
 refine sR ?_
 refine a_as ?_
 refine rN ?_
 refine CW.seq ?_
 refine sR ?_
 refine a_as ?_
 refine rN ?_
 refine CW.block ?_
 obtain ⟨r4,hr4,h⟩ := bd h
 refine CW.lp (s := (x1,0)) (l1_laws_heldInt64SS x0) (fun s1 : Int × Int => envL [(0,T.ro (lM x0)),(1,I s1.1),(5,I s1.2)]) (fun (x : Int ⊕ Int) e E => match x with | (.inl r4) => e = .exit 0 ∧ Ghost ⟨St,W,w0,Tryz.f37.ntmps⟩ E (envL [(1,I r4)]) | (.inr r4) => e = .ret ∧ RetG ⟨St,W,w0,Tryz.f37.ntmps⟩ Tryz.prog Tryz.f37.results [T.ro (lM x0),I x1] [I r4] [] .ret E) (.has ⟨rfl,rfl,rfl,trivial⟩) (fun s1 x h => ?_) hr4 (fun e E hq => ?_)
 ·refine CW.seq ?_
  refine sR ?_
  refine a_mv ?_
  refine a_mv ?_
  refine a_lenr ?_
  refine a_lss ?_
  refine rN ?_
  refine cn h (fun hc h => ?_) (fun hc h => ?_)
  ·refine CW.skip ?_
   refine nA ?_
   refine CW.seq ?_
   refine CW.block ?_
   refine sR ?_
   refine a_mv ?_
   refine a_mv ?_
   obtain ⟨v1,hv1,h⟩ := bd h
   refine a_ixr ?_
   refine a_ldr ?_
   refine a_mv ?_
   obtain ⟨r2,hr2,h⟩ := bd h
   refine cA Tryz.call27 (t_laws_heldInt64S _ _ _ hr2) ?_
   refine a_as ?_
   refine rN ?_
   refine sR ?_
   refine a_mv ?_
   refine a_lss ?_
   refine rN ?_
   refine cn h (fun hc h => ?_) (fun hc h => ?_)
   ·refine sR ?_
    refine a_as ?_
    refine rN ?_
    refine CW.ret ?_
    refine rB ?_
    refine rA ?_
    exact eX h
   ·refine CW.skip ?_
    refine nB ?_
    refine nA ?_
    refine CW.region ?_
    refine a_mv ?_
    obtain ⟨v3,hv3,h⟩ := bd h
    refine a_add ?_
    refine a_as ?_
    refine RW.nil ?_
    exact eN h
  ·refine CW.exit ?_
   refine xA ?_
   exact eX h
 ·rcases r4 with r4 | r4
  ·obtain ⟨rfl,hg⟩ := hq
   refine xB ?_
   refine nA ?_
   refine CW.ghost hg ?_
   refine sR ?_
   refine a_mv ?_
   refine a_as ?_
   refine rN ?_
   refine CW.ret ?_
   obtain rfl := sI h
   exact rT
  ·obtain ⟨rfl,hq⟩ := hq
   refine rB ?_
   refine rA ?_
   obtain rfl := sI h
   exact hq
theorem t_spec_l21Shift (x0 : Int) (x1 : List (List Int)) (r : (List (List Int))) (h : f_spec_l21Shift x0 x1 = some r) : FnC Tryz.prog 73 [I x0,T.ro (lM x1)] [lM r] [] := by
 refine fB Tryz.func73 (fun St W w0 v => ?_)
 refine sR ?_
 refine oP (x_nil 1 rfl) ?_
 refine rN ?_
 refine sR ?_
 refine a_mv ?_
 obtain ⟨r1,hr1,h⟩ := bd h
 refine cA Tryz.call124 (t_spec_l01Own2 _ _ hr1) ?_
 refine a_as ?_
 refine RW.ghost (Ghost.tr 5 8 _ rfl rfl (clean_of (cleanL (Enc.clean (f := lV)))) rfl) ?_
 refine rN ?_
 refine CW.seq ?_
 refine sR ?_
 refine a_as ?_
 refine rN ?_
 refine CW.block ?_
 obtain ⟨r9,hr9,h⟩ := bd h
 refine CW.lp (s := (r1,0)) (l1_spec_l21Shift x0) (fun s1 : (List (List Int)) × Int => envL [(0,I x0),(5,L 1 lV s1.1),(6,I s1.2)]) (fun (r9 : (List (List Int))) e E => e = .exit 0 ∧ Ghost ⟨St,W,w0,Tryz.f73.ntmps⟩ E (envL [(5,L 1 lV r9)])) (.has ⟨rfl,rfl,rfl,trivial⟩) (fun s1 x h => ?_) hr9 (fun e E hq => ?_)
 ·refine CW.seq ?_
  refine sR ?_
  refine a_mv ?_
  refine a_mv ?_
  refine a_len ?_
  refine a_lss ?_
  refine rN ?_
  refine cn h (fun hc h => ?_) (fun hc h => ?_)
  ·refine CW.skip ?_
   refine nA ?_
   refine CW.seq ?_
   refine CW.block ?_
   obtain ⟨v2,hv2,h⟩ := bd h
   obtain ⟨v3,hv3,h⟩ := bd h
   obtain ⟨v4,hv4,h⟩ := bd h
   obtain ⟨v5,hv5,h⟩ := bd h
   obtain ⟨r6,hr6,h⟩ := bd h
   obtain ⟨v7,hv7,h⟩ := bd h
   refine CW.dk ?_
   refine d_mv [(5,_)] ?_
   refine d_mv [(6,_)] ?_
   refine dG [(15,_),(5,_),(16,_)] [([(17,some (T.addr 5 [s1.2.toNat]))],[(17,0)])] ⟨rfl,rfl,rfl,trivial⟩ (fun E h => IxOk.opE (x_ix (f := lV) row_23 hv2 (locA h.1 h.2.1 rfl rfl) h.2.2.1 rfl) rfl) ?_
   refine dG [(17,_),(5,_)] [([(18,some (T.same 5 [s1.2.toNat]))],[(18,0)])] ⟨rfl,rfl,trivial⟩ (fun E h => IxOk.opE (x_ld (var_22.h _ rfl rfl) h.1 h.2.1 (getc hv2 rfl) rfl) rfl) ?_
   refine d_mv [(6,_)] ?_
   refine d_mv [(5,_)] ?_
   refine d_mv [(6,_)] ?_
   refine dG [(20,_),(5,_),(21,_)] [([(22,some (T.addr 5 [s1.2.toNat]))],[(22,0)])] ⟨rfl,rfl,rfl,trivial⟩ (fun E h => IxOk.opE (x_ix (f := lV) row_23 hv3 (locA h.1 h.2.1 rfl rfl) h.2.2.1 rfl) rfl) ?_
   refine dG [(22,_),(5,_)] [([(23,some (T.same 5 [s1.2.toNat]))],[(23,0)])] ⟨rfl,rfl,trivial⟩ (fun E h => IxOk.opE (x_ld (var_22.h _ rfl rfl) h.1 h.2.1 (getc hv3 rfl) rfl) rfl) ?_
   refine d_mv [(6,_)] ?_
   refine dG [(23,_),(5,_),(24,_)] [([(25,some (T.addr 5 [s1.2.toNat,s1.2.toNat]))],[(25,0)])] ⟨rfl,rfl,rfl,trivial⟩ (fun E h => IxOk.opE (x_ix (f := I) row_22 hv4 (locA h.1 h.2.1 (getc hv3 rfl) rfl) h.2.2.1 rfl) rfl) ?_
   refine dG [(25,_),(5,_)] [([(26,some (I v4))],[(26,0)])] ⟨rfl,rfl,trivial⟩ (fun E h => IxOk.opE (x_ld (var_2.h _ rfl rfl) h.1 h.2.1 (getc hv3 (getc hv4 rfl)) rfl) rfl) ?_
   refine d_sub [(26,_)] ?_
   refine d_mv [(0,_)] ?_
   refine dC [(27,_),(28,_)] Tryz.call125 (t_spec_l01Mod _ _ _ hr6) ?_
   refine dG [(18,_),(5,_),(19,_)] [([(30,some (T.addr 5 [s1.2.toNat,s1.2.toNat]))],[(30,0)])] ⟨rfl,rfl,rfl,trivial⟩ (fun E h => IxOk.opE (x_ix (f := I) row_22 hv7 (locA h.1 h.2.1 (getc hv2 rfl) rfl) h.2.2.1 rfl) rfl) ?_
   refine dG [(30,_),(5,_),(29,_)] [([(5,some (L 1 lV (s1.1.set s1.2.toNat (v2.set s1.2.toNat r6))))],[(5,2)])] ⟨rfl,rfl,rfl,trivial⟩ (fun E h => IxOk.opE (x_st inf_2 rfl h.1 h.2.1 (getc hv2 (getc hv7 rfl)) (setc hv2 (setc hv7 rfl)) h.2.2.1 (clean_of (Enc.clean (f := I) _)) rfl) rfl) ?_
   refine dNA mixedP ?_
   refine nB ?_
   refine nA ?_
   refine CW.region ?_
   refine a_mv ?_
   obtain ⟨v8,hv8,h⟩ := bd h
   refine a_add ?_
   refine a_as ?_
   refine RW.nil ?_
   exact eN h
  ·refine CW.exit ?_
   refine xA ?_
   exact eX h
 ·obtain ⟨rfl,hg⟩ := hq
  refine xB ?_
  refine nA ?_
  refine CW.ghost hg ?_
  refine sR ?_
  refine a_mv ?_
  refine a_as ?_
  refine RW.ghost (Ghost.tr 4 5 _ rfl rfl (clean_of (cleanL (Enc.clean (f := lV)))) rfl) ?_
  refine rN ?_
  refine CW.ret ?_
  obtain rfl := sI h
  exact rT
theorem t_spec_l02Make (x0 : Int) (x1 : Int) (x2 : List (List Int)) (r : SMatrix) (h : f_spec_l02Make x0 x1 x2 = some r) : FnC Tryz.prog 74 [I x0,I x1,T.ro (lM x2)] [eSMatrix r] [] := by
 refine fB Tryz.func74 (fun St W w0 v => ?_)
 refine sR ?_
 refine a_alloc ?_
 refine rN ?_
 refine sR ?_
 refine a_mv ?_
 refine a_mv ?_
 refine a_mv ?_
 obtain ⟨r1,hr1,h⟩ := bd h
 refine cA Tryz.call124 (t_spec_l01Own2 _ _ hr1) ?_
 refine oP (x_build bld_55 [(0,.tmp 7),(1,.tmp 8),(2,.tmp 10)] [(0,.slot 7 (I x0)),(1,.slot 8 (I x1)),(2,.slot 10 (L 1 lV r1))] [.slot 7 (I x0),.slot 8 (I x1),.slot 10 (L 1 lV r1)] (pkS rfl (clean_of (Enc.clean (f := I) _)) rfl (pkS rfl (clean_of (Enc.clean (f := I) _)) rfl (pkS rfl (clean_of (cleanL (Enc.clean (f := lV)))) rfl pkN))) (bqC (.slot _ _) (bqC (.slot _ _) (bqC (.slot _ _) bqN))) rfl) ?_
 refine oP (x_stp inf_55 rfl (locB rfl rfl) rfl rfl rfl rfl (clean_of (cleanA ⟨(Enc.clean (f := I) _),(Enc.clean (f := I) _),(cleanL (Enc.clean (f := lV))),trivial⟩)) rfl) ?_
 refine rN ?_
 refine CW.ret ?_
 obtain rfl := sI h
 exact ⟨_,Ghost.refl,⟨.inl rfl,[(6,[0],T.agg [I x0,I x1,L 1 lV r1])],⟨⟨rfl,rfl,rfl,(var_55.h _ rfl rfl).h⟩,trivial⟩,rfl,(by simp),(by simp),trivial⟩⟩
theorem t_impl_moved (x0 : SModule) (x1 : Int) (r : (List (List Int))) (h : f_impl_moved x0 x1 = some r) : FnC Tryz.prog 76 [T.ro ((Pt eSModule) x0),I x1] [lM r] [] := by
 refine fB Tryz.func76 (fun St W w0 v => ?_)
 refine sR ?_
 refine oP (x_nil 1 rfl) ?_
 refine rN ?_
 refine sR ?_
 refine a_mv ?_
 refine a_nilc ?_
 refine a_far ?_
 refine a_ldr ?_
 refine a_mv ?_
 obtain ⟨v1,hv1,h⟩ := bd h
 refine a_ixr ?_
 refine a_ldr ?_
 obtain ⟨r2,hr2,h⟩ := bd h
 refine cA Tryz.call82 (t_impl_copyRows _ _ hr2) ?_
 refine a_as ?_
 refine RW.ghost (Ghost.tr 5 15 _ rfl rfl (clean_of (cleanL (Enc.clean (f := lV)))) rfl) ?_
 refine rN ?_
 refine CW.seq ?_
 refine sR ?_
 refine a_mv ?_
 refine a_len ?_
 refine a_mv ?_
 refine rN ?_
 refine CW.block ?_
 obtain ⟨r9,hr9,h⟩ := bd h
 refine CW.lp (s := (r2,0)) (l1_impl_moved x0 r2) (fun s1 : (List (List Int)) × Int => envL [(0,T.ro ((Pt eSModule) x0)),(5,L 1 lV s1.1),(16,T.same 5 []),(17,I (r2.length : Int)),(18,I s1.2)]) (fun (r9 : (List (List Int))) e E => e = .exit 0 ∧ Ghost ⟨St,W,w0,Tryz.f76.ntmps⟩ E (envL [(5,L 1 lV r9)])) (.has ⟨rfl,rfl,rfl,rfl,rfl,trivial⟩) (fun s1 x h => ?_) hr9 (fun e E hq => ?_)
 ·refine sR ?_
  refine a_lss ?_
  refine rN ?_
  refine CW.seq ?_
  refine cn h (fun hc h => ?_) (fun hc h => ?_)
  ·refine CW.skip ?_
   refine nA ?_
   refine CW.seq ?_
   refine CW.block ?_
   refine sR ?_
   refine a_mv ?_
   obtain ⟨v3,hv3,h⟩ := bd h
   refine a_ix ?_
   refine a_ld ?_
   refine a_as ?_
   refine a_as ?_
   refine rN ?_
   obtain ⟨v4,hv4,h⟩ := bd h
   obtain ⟨v5,hv5,h⟩ := bd h
   obtain ⟨r6,hr6,h⟩ := bd h
   obtain ⟨v7,hv7,h⟩ := bd h
   refine CW.dk ?_
   refine d_mv [(7,_)] ?_
   refine d_mv [(6,_)] ?_
   refine d_mv [(7,_)] ?_
   refine d_mv [(6,_)] ?_
   refine dG [(25,_),(5,_),(26,_)] [([(27,some (T.addr 5 [s1.2.toNat,s1.2.toNat]))],[(27,0)])] ⟨rfl,rfl,rfl,trivial⟩ (fun E h => IxOk.opE (x_ix (f := I) row_22 hv4 (locA h.1 h.2.1 (getc hv3 rfl) rfl) h.2.2.1 rfl) rfl) ?_
   refine dG [(27,_),(5,_)] [([(28,some (I v4))],[(28,0)])] ⟨rfl,rfl,trivial⟩ (fun E h => IxOk.opE (x_ld (var_2.h _ rfl rfl) h.1 h.2.1 (getc hv3 (getc hv4 rfl)) rfl) rfl) ?_
   refine d_sub [(28,_)] ?_
   refine d_mv [(0,_)] ?_
   refine d_nilc [(30,_)] ?_
   refine d_far [(31,_)] ?_
   refine d_ldr [(32,_)] ?_
   refine dC [(29,_),(33,_)] Tryz.call127 (t_impl_residue _ _ _ hr6) ?_
   refine dG [(23,_),(5,_),(24,_)] [([(35,some (T.addr 5 [s1.2.toNat,s1.2.toNat]))],[(35,0)])] ⟨rfl,rfl,rfl,trivial⟩ (fun E h => IxOk.opE (x_ix (f := I) row_22 hv7 (locA h.1 h.2.1 (getc hv3 rfl) rfl) h.2.2.1 rfl) rfl) ?_
   refine dG [(35,_),(5,_),(34,_)] [([(5,some (L 1 lV (s1.1.set s1.2.toNat (v3.set s1.2.toNat r6))))],[(5,2)])] ⟨rfl,rfl,rfl,trivial⟩ (fun E h => IxOk.opE (x_st inf_2 rfl h.1 h.2.1 (getc hv3 (getc hv7 rfl)) (setc hv3 (setc hv7 rfl)) h.2.2.1 (clean_of (Enc.clean (f := I) _)) rfl) rfl) ?_
   refine dNA mixedP ?_
   refine nB ?_
   refine nA ?_
   refine CW.region ?_
   obtain ⟨v8,hv8,h⟩ := bd h
   refine a_add ?_
   refine a_mv ?_
   refine RW.nil ?_
   exact eN h
  ·refine CW.exit ?_
   refine xA ?_
   exact eX h
 ·obtain ⟨rfl,hg⟩ := hq
  refine xB ?_
  refine nA ?_
  refine CW.ghost hg ?_
  refine sR ?_
  refine a_mv ?_
  refine a_as ?_
  refine RW.ghost (Ghost.tr 4 5 _ rfl rfl (clean_of (cleanL (Enc.clean (f := lV)))) rfl) ?_
  refine rN ?_
  refine CW.ret ?_
  obtain rfl := sI h
  exact rT
theorem t_laws_markMatrix (x0 : SMatrix) (x1 : Int) (r : Int × SMatrix) (h : f_laws_markMatrix x0 x1 = some r) : FnC Tryz.prog 40 [eSMatrix x0,I x1] [I r.1] [(0,eSMatrix r.2)] := by
 refine fB Tryz.func40 (fun St W w0 v => ?_) (ht := ⟨Top.of_clean _ (Enc.clean (f := eSMatrix) _),by simp [Top,Tops],trivial⟩)
 refine sR ?_
 refine oP (x_box rfl (clean_of (cleanA ⟨(Enc.clean (f := I) _),(Enc.clean (f := I) _),(cleanL (Enc.clean (f := lV))),trivial⟩)) rfl) ?_
 refine a_as ?_
 refine rN ?_
 refine sR ?_
 refine a_fa ?_
 refine a_ld ?_
 refine a_mv ?_
 obtain ⟨r1,hr1,h⟩ := bd h
 refine oP (x_callM (xs := [.tmp 6,.tmp 7]) 0 6 2 [2,0] Tryz.call25 (t_laws_markInt64SS _ _ _ hr1) rfl rfl rfl (clean_of (cleanL (Enc.clean (f := lV)))) (clean_of (cleanL (Enc.clean (f := lV)))) (Enc.rofree (f := L 1 lV) _) (Enc.rofree (f := L 1 lV) _) ⟨(agLd rfl (clean_of (cleanL (Enc.clean (f := lV)))) (Enc.rofree (f := L 1 lV) _)),⟨(agM _ rfl rfl rfl),trivial⟩⟩ (resC (f := I) inferInstance resN) rfl rfl rfl rfl) ?_
 refine a_as ?_
 refine RW.ghost (Ghost.trf 0 [2] 2 [2,0] _ _ rfl rfl rfl rfl rfl (clean_of (cleanL (Enc.clean (f := lV)))) rfl) ?_
 refine rN ?_
 refine sR ?_
 refine a_mv ?_
 refine a_as ?_
 refine rN ?_
 refine CW.ret ?_
 obtain rfl := sI h
 exact rT
theorem t_laws_heldMatrix (x0 : SMatrix) (x1 : Int) (r : Int) (h : f_laws_heldMatrix x0 x1 = some r) : FnC Tryz.prog 41 [qMatrix x0,I x1] [I r] [] := by
 refine fB Tryz.func41 (fun St W w0 v => ?_)
 refine sR ?_
 refine a_box ?_
 refine a_as ?_
 refine rN ?_
 refine sR ?_
 refine a_fa ?_
 refine a_ld ?_
 refine a_mv ?_
 obtain ⟨r1,hr1,h⟩ := bd h
 refine cA Tryz.call37 (t_laws_heldInt64SS _ _ _ hr1) ?_
 refine a_as ?_
 refine rN ?_
 refine CW.seq ?_
 refine sR ?_
 refine a_mv ?_
 refine a_lss ?_
 refine rN ?_
 refine cn h (fun hc h => ?_) (fun hc h => ?_)
 ·refine sR ?_
  refine a_as ?_
  refine rN ?_
  refine CW.ret ?_
  refine rA ?_
  obtain rfl := sI h
  exact rT
 ·refine CW.skip ?_
  refine nA ?_
  refine sR ?_
  refine a_mv ?_
  refine a_as ?_
  refine rN ?_
  refine CW.ret ?_
  obtain rfl := sI h
  exact rT
end Go.Wk

namespace Go.Wk
open Go Go.Proofs Go.Ab
set_option maxRecDepth 100000
theorem t_spec_l02Wide (x0 : Int) (x1 : List (List Int)) (r : (List (List Int))) (h : f_spec_l02Wide x0 x1 = some r) : FnC Tryz.prog 155 [I x0,T.ro (lM x1)] [(L 1 (Ro lV)) r] [] := by
 refine fB Tryz.func155 (fun St W w0 v => ?_)
 refine sR ?_
 refine oP (x_nil 1 rfl) ?_
 refine rN ?_
 refine sR ?_
 refine a_mv ?_
 refine a_lenr ?_
 obtain ⟨r1,hr1,h⟩ := bd h
 refine cA Tryz.call118 (t_spec_l02Unit _ _ hr1) ?_
 refine a_as ?_
 refine RW.ghost (Ghost.tr 5 10 _ rfl rfl (clean_of (cleanL (Enc.clean (f := lV)))) rfl) ?_
 refine rN ?_
 refine sR ?_
 refine oP (x_bs0 elt_23 rfl) ?_
 refine a_as ?_
 refine RW.ghost (Ghost.tr 6 11 _ rfl rfl (clean_of trivial) rfl) ?_
 refine rN ?_
 refine CW.seq ?_
 refine sR ?_
 refine a_as ?_
 refine rN ?_
 refine CW.block ?_
 obtain ⟨r8,hr8,h⟩ := bd h
 refine CW.lp (s := ([],0)) (l1_spec_l02Wide x1 r1) (fun s1 : (List (List Int)) × Int => envL [(0,I x0),(1,T.ro (lM x1)),(5,L 1 lV r1),(6,L 1 lV s1.1),(7,I s1.2)]) (fun (r8 : (List (List Int))) e E => e = .exit 0 ∧ Ghost ⟨St,W,w0,Tryz.f155.ntmps⟩ E (envL [(0,I x0),(6,L 1 lV r8)])) (.has ⟨rfl,rfl,rfl,rfl,rfl,trivial⟩) (fun s1 x h => ?_) hr8 (fun e E hq => ?_)
 ·refine CW.seq ?_
  refine sR ?_
  refine a_mv ?_
  refine a_mv ?_
  refine a_lenr ?_
  refine a_lss ?_
  refine rN ?_
  refine cn h (fun hc h => ?_) (fun hc h => ?_)
  ·refine CW.skip ?_
   refine nA ?_
   refine CW.seq ?_
   refine CW.block ?_
   obtain ⟨v2,hv2,h⟩ := bd h
   obtain ⟨r3,hr3,h⟩ := bd h
   obtain ⟨v4,hv4,h⟩ := bd h
   obtain ⟨v5,hv5,h⟩ := bd h
   obtain ⟨v6,hv6,h⟩ := bd h
   refine CW.dk ?_
   refine d_mv [(6,_)] ?_
   refine d_mv [(1,_)] ?_
   refine d_mv [(7,_)] ?_
   refine d_ixr [(19,_),(20,_)] ?_
   refine d_ldr [(21,_)] ?_
   refine dC [(22,_)] Tryz.call154 (t_spec_l01Own _ _ hr3) ?_
   refine d_mv [(5,_)] ?_
   refine d_mv [(7,_)] ?_
   refine d_ix [(24,_),(5,_),(25,_)] ?_
   refine d_ld [(26,_),(5,_)] ?_
   refine dG [(23,_),(27,_),(5,_)] [([(28,some (L 1 I v5)),(23,some T.any)],[(28,0),(23,1)])] ⟨rfl,rfl,rfl,trivial⟩ (fun E h => IxOk.opE (x_appc (f := I) elt_22 (fun _ => rfl) hv5 h.1 (locA h.2.1 h.2.2.1 (getc hv4 rfl) rfl) rfl) rfl) ?_
   refine dG [(28,_)] [([(29,some (L 1 lV [v5])),(28,some (T.same 29 [0]))],[(29,0),(28,1)])] ⟨rfl,trivial⟩ (fun E h => IxOk.opE (x_bs elt_23 [.tmp 28] [.slot 28 (L 1 I v5)] [v5] lV ⟨.slot _ _,trivial⟩ (pkS h.1 (clean_of (cleanL (Enc.clean (f := I)))) rfl pkN) rfl rfl) rfl) ?_
   refine dG [(18,T.same 6 []),(6,L 1 lV s1.1),(29,L 1 lV [v5])] [([(18,some (L 1 lV s1.1)),(6,some (T.same 18 []))],[(18,1),(6,1)]),([(30,some (L 1 lV v6)),(18,some T.any),(29,some T.any)],[(30,0),(18,1),(29,1)])] ⟨rfl,rfl,rfl,trivial⟩ (fun E h => IxOk.gh (Ghost.tr 18 6 _ h.1 h.2.1 (clean_of (cleanL (Enc.clean (f := lV)))) rfl) <| IxOk.opE (x_appm (f := lV) elt_23 hv6 rfl (keepE h.2.2.1) rfl) rfl) ?_
   refine d_as [(30,_)] ?_
   refine dNA mixedP ?_
   refine nB ?_
   refine nA ?_
   refine CW.region ?_
   refine a_mv ?_
   obtain ⟨v7,hv7,h⟩ := bd h
   refine a_add ?_
   refine a_as ?_
   refine RW.ghost (Ghost.tr 6 30 _ rfl rfl (clean_of (cleanL (Enc.clean (f := lV)))) rfl) ?_
   refine RW.nil ?_
   exact eN h
  ·refine CW.exit ?_
   refine xA ?_
   exact eX h
 ·obtain ⟨rfl,hg⟩ := hq
  refine xB ?_
  refine nA ?_
  refine CW.ghost hg ?_
  refine sR ?_
  refine a_mv ?_
  refine a_mv ?_
  refine RW.ghost (Ghost.frzG 6 _ (t' := T.ro (lM r8)) rfl (fzO inferInstance)) ?_
  refine RW.ghost (Ghost.res 32 6 [] _ rfl rfl rfl) ?_
  obtain ⟨r9,hr9,h⟩ := bd h
  refine oP (x_callF (xs := [.tmp 31,.tmp 32]) Tryz.call69 (t_spec_l02Reduce _ _ _ hr9) (afC rfl rfl (afC rfl rfl afN)) rfl ⟨(cleanL (fun _ => trivial)),trivial⟩ rfl rfl) ?_
  refine a_as ?_
  refine RW.ghost (Ghost.tr 4 33 _ rfl rfl (clean_of (cleanL (fun _ => trivial))) rfl) ?_
  refine rN ?_
  refine CW.ret ?_
  obtain rfl := sI h
  exact rT
theorem t_spec_l02Null (x0 : Int) (x1 : List (List Int)) (x2 : Int) (r : (List (List Int))) (h : f_spec_l02Null x0 x1 x2 = some r) : FnC Tryz.prog 128 [I x0,T.ro (lM x1),I x2] [lM r] [] := by
 refine fB Tryz.func128 (fun St W w0 v => ?_)
 refine sR ?_
 refine oP (x_nil 1 rfl) ?_
 refine rN ?_
 refine sR ?_
 refine a_mv ?_
 refine a_mv ?_
 obtain ⟨r1,hr1,h⟩ := bd h
 refine oP (x_callF (xs := [.tmp 10,.tmp 11]) Tryz.call155 (t_spec_l02Wide _ _ _ hr1) (afC rfl rfl (afC rfl rfl afN)) rfl ⟨(cleanL (fun _ => trivial)),trivial⟩ rfl rfl) ?_
 refine a_as ?_
 refine RW.ghost (Ghost.tr 7 12 _ rfl rfl (clean_of (cleanL (fun _ => trivial))) rfl) ?_
 refine rN ?_
 refine sR ?_
 refine oP (x_bs0 elt_23 rfl) ?_
 refine a_as ?_
 refine RW.ghost (Ghost.tr 8 13 _ rfl rfl (clean_of trivial) rfl) ?_
 refine rN ?_
 refine CW.seq ?_
 refine sR ?_
 refine a_as ?_
 refine rN ?_
 refine CW.block ?_
 obtain ⟨r10,hr10,h⟩ := bd h
 refine CW.lp (s := ([],0)) (l1_spec_l02Null x2 r1) (fun s1 : (List (List Int)) × Int => envL [(2,I x2),(7,L 1 (Ro lV) r1),(8,L 1 lV s1.1),(9,I s1.2)]) (fun (r10 : (List (List Int))) e E => e = .exit 0 ∧ Ghost ⟨St,W,w0,Tryz.f128.ntmps⟩ E (envL [(8,L 1 lV r10)])) (.has ⟨rfl,rfl,rfl,rfl,trivial⟩) (fun s1 x h => ?_) hr10 (fun e E hq => ?_)
 ·refine CW.seq ?_
  refine sR ?_
  refine a_mv ?_
  refine a_mv ?_
  refine a_len ?_
  refine a_lss ?_
  refine rN ?_
  refine cn h (fun hc h => ?_) (fun hc h => ?_)
  ·refine CW.skip ?_
   refine nA ?_
   refine CW.seq ?_
   refine CW.block ?_
   refine sR ?_
   refine a_mv ?_
   refine a_mv ?_
   obtain ⟨v2,hv2,h⟩ := bd h
   refine oP (x_ix (f := (Ro lV)) row_23 hv2 (locA rfl rfl rfl rfl) rfl rfl) ?_
   refine oP (x_ld (var_22.h _ rfl rfl) rfl rfl (getc hv2 rfl) rfl) ?_
   obtain ⟨r3,hr3,h⟩ := bd h
   refine cA Tryz.call114 (t_spec_l02Lead _ _ hr3) ?_
   refine a_mv ?_
   refine a_geq ?_
   refine rN ?_
   refine cn h (fun hc h => ?_) (fun hc h => ?_)
   ·refine CW.region ?_
    refine a_mv ?_
    refine a_mv ?_
    refine a_mv ?_
    obtain ⟨v4,hv4,h⟩ := bd h
    refine oP (x_ix (f := (Ro lV)) row_23 hv4 (locA rfl rfl rfl rfl) rfl rfl) ?_
    refine oP (x_ld (var_22.h _ rfl rfl) rfl rfl (getc hv4 rfl) rfl) ?_
    refine a_mv ?_
    obtain ⟨v5,hv5,h⟩ := bd h
    refine oP (x_slr row_22 hv5 (locB rfl rfl) (optS (sliceO_lo hv5) rfl) optN rfl) ?_
    obtain ⟨r6,hr6,h⟩ := bd h
    refine cA Tryz.call154 (t_spec_l01Own _ _ hr6) ?_
    refine oP (x_bs elt_23 [.tmp 34] [.slot 34 (L 1 I r6)] [r6] lV ⟨.slot _ _,trivial⟩ (pkS rfl (clean_of (cleanL (Enc.clean (f := I)))) rfl pkN) rfl rfl) ?_
    refine RW.ghost (Ghost.tr 27 8 _ rfl rfl (clean_of (cleanL (Enc.clean (f := lV)))) rfl) ?_
    obtain ⟨v7,hv7,h⟩ := bd h
    refine oP (x_appm (f := lV) elt_23 hv7 rfl rfl rfl) ?_
    refine a_as ?_
    refine RW.ghost (Ghost.tr 8 36 _ rfl rfl (clean_of (cleanL (Enc.clean (f := lV)))) rfl) ?_
    refine RW.nil ?_
    refine nB ?_
    refine nA ?_
    refine CW.region ?_
    refine a_mv ?_
    obtain ⟨v8,hv8,h⟩ := bd h
    refine a_add ?_
    refine a_as ?_
    refine RW.nil ?_
    exact eN h
   ·refine CW.skip ?_
    refine nB ?_
    refine nA ?_
    refine CW.region ?_
    refine a_mv ?_
    obtain ⟨v9,hv9,h⟩ := bd h
    refine a_add ?_
    refine a_as ?_
    refine RW.nil ?_
    exact eN h
  ·refine CW.exit ?_
   refine xA ?_
   exact eX h
 ·obtain ⟨rfl,hg⟩ := hq
  refine xB ?_
  refine nA ?_
  refine CW.ghost hg ?_
  refine sR ?_
  refine a_mv ?_
  refine a_as ?_
  refine RW.ghost (Ghost.tr 6 8 _ rfl rfl (clean_of (cleanL (Enc.clean (f := lV)))) rfl) ?_
  refine rN ?_
  refine CW.ret ?_
  obtain rfl := sI h
  exact rT
theorem t_spec_l21Fixed (x0 : SModule) (r : (List (List Int))) (h : f_spec_l21Fixed x0 = some r) : FnC Tryz.prog 78 [qModule x0] [lM r] [] := by
 refine fB Tryz.func78 (fun St W w0 v => ?_)
 refine sR ?_
 refine a_box ?_
 refine oP (x_nil 1 rfl) ?_
 refine rN ?_
 refine sR ?_
 refine oP (x_bs0 elt_23 rfl) ?_
 refine a_as ?_
 refine RW.ghost (Ghost.tr 3 7 _ rfl rfl (clean_of trivial) rfl) ?_
 refine rN ?_
 refine CW.seq ?_
 refine sR ?_
 refine a_as ?_
 refine rN ?_
 refine CW.block ?_
 obtain ⟨r9,hr9,h⟩ := bd h
 refine CW.lp (s := ([],0)) (l2_spec_l21Fixed x0) (fun s5 : (List (List Int)) × Int => envL [(1,T.ptr (qModule x0)),(3,L 1 lV s5.1),(4,I s5.2)]) (fun (r9 : (List (List Int))) e E => e = .exit 0 ∧ Ghost ⟨St,W,w0,Tryz.f78.ntmps⟩ E (envL [(1,T.ptr (qModule x0)),(3,L 1 lV r9)])) (.has ⟨rfl,rfl,rfl,trivial⟩) (fun s5 x h => ?_) hr9 (fun e E hq => ?_)
 ·refine CW.seq ?_
  refine sR ?_
  refine a_mv ?_
  refine a_fa ?_
  refine a_ld ?_
  refine a_lss ?_
  refine rN ?_
  refine cn h (fun hc h => ?_) (fun hc h => ?_)
  ·refine CW.skip ?_
   refine nA ?_
   refine CW.seq ?_
   refine CW.block ?_
   refine sR ?_
   refine oP (x_bs0 elt_22 rfl) ?_
   refine a_as ?_
   refine RW.ghost (Ghost.tr 5 14 _ rfl rfl (clean_of trivial) rfl) ?_
   refine rN ?_
   refine CW.seq ?_
   refine sR ?_
   refine a_as ?_
   refine rN ?_
   refine CW.block ?_
   obtain ⟨r6,hr6,h⟩ := bd h
   refine CW.lp (s := ([],0)) (l1_spec_l21Fixed x0 s5) (fun s6 : (List Int) × Int => envL [(1,T.ptr (qModule x0)),(3,L 1 lV s5.1),(4,I s5.2),(5,L 1 I s6.1),(6,I s6.2)]) (fun (r6 : (List Int)) e E => e = .exit 2 ∧ Ghost ⟨St,W,w0,Tryz.f78.ntmps⟩ E (envL [(1,T.ptr (qModule x0)),(3,L 1 lV s5.1),(4,I s5.2),(5,L 1 I r6)])) (.has ⟨rfl,rfl,rfl,rfl,rfl,trivial⟩) (fun s6 x h => ?_) hr6 (fun e E hq => ?_)
   ·refine CW.seq ?_
    refine sR ?_
    refine a_mv ?_
    refine a_fa ?_
    refine a_ld ?_
    refine a_lenr ?_
    refine a_lss ?_
    refine rN ?_
    refine cn h (fun hc h => ?_) (fun hc h => ?_)
    ·refine CW.skip ?_
     refine nA ?_
     refine CW.seq ?_
     refine CW.block ?_
     obtain ⟨v1,hv1,h⟩ := bd h
     obtain ⟨r2,hr2,h⟩ := bd h
     obtain ⟨v3,hv3,h⟩ := bd h
     obtain ⟨v4,hv4,h⟩ := bd h
     refine CW.dk ?_
     refine d_mv [(5,_)] ?_
     refine d_fa [(1,_)] ?_
     refine d_ld [(23,_),(1,_)] ?_
     refine d_fa [(1,_)] ?_
     refine d_ld [(25,_),(1,_)] ?_
     refine d_mv [(6,_)] ?_
     refine d_ixr [(26,_),(27,_)] ?_
     refine d_ldr [(28,_)] ?_
     refine dC [(24,_),(29,_)] Tryz.call73 (t_spec_l21Shift _ _ _ hr2) ?_
     refine d_mv [(4,_)] ?_
     refine d_ix [(30,_),(31,_)] ?_
     refine d_ld [(32,_),(30,_)] ?_
     refine dG [(22,T.same 5 []),(5,L 1 I s6.1),(33,T.same 30 [s5.2.toNat]),(30,L 1 lV r2)] [([(22,some (L 1 I s6.1)),(5,some (T.same 22 []))],[(22,1),(5,1)]),([(34,some (L 1 I v4)),(22,some T.any)],[(34,0),(22,1)])] ⟨rfl,rfl,rfl,rfl,trivial⟩ (fun E h => IxOk.gh (Ghost.tr 22 5 _ h.1 h.2.1 (clean_of (cleanL (Enc.clean (f := I)))) rfl) <| IxOk.opE (x_appc (f := I) elt_22 (fun _ => rfl) hv4 rfl (locA (keepE h.2.2.1) (keepE h.2.2.2.1) (getc hv3 rfl) rfl) rfl) rfl) ?_
     refine d_as [(34,_)] ?_
     refine dNA mixedP ?_
     refine nB ?_
     refine nA ?_
     refine CW.region ?_
     refine a_mv ?_
     obtain ⟨v5,hv5,h⟩ := bd h
     refine a_add ?_
     refine a_as ?_
     refine RW.ghost (Ghost.tr 5 34 _ rfl rfl (clean_of (cleanL (Enc.clean (f := I)))) rfl) ?_
     refine RW.nil ?_
     exact eN h
    ·refine CW.exit ?_
     refine xA ?_
     exact eX h
   ·obtain ⟨rfl,hg⟩ := hq
    refine xB ?_
    refine nA ?_
    refine CW.ghost hg ?_
    refine CW.region ?_
    refine a_mv ?_
    refine a_mv ?_
    refine RW.ghost (Ghost.tr 36 5 _ rfl rfl (clean_of (cleanL (Enc.clean (f := I)))) rfl) ?_
    refine oP (x_bs elt_23 [.tmp 36] [.slot 36 (L 1 I r6)] [r6] lV ⟨.slot _ _,trivial⟩ (pkS rfl (clean_of (cleanL (Enc.clean (f := I)))) rfl pkN) rfl rfl) ?_
    refine RW.ghost (Ghost.tr 35 3 _ rfl rfl (clean_of (cleanL (Enc.clean (f := lV)))) rfl) ?_
    obtain ⟨v7,hv7,h⟩ := bd h
    refine oP (x_appm (f := lV) elt_23 hv7 rfl rfl rfl) ?_
    refine a_as ?_
    refine RW.ghost (Ghost.tr 3 38 _ rfl rfl (clean_of (cleanL (Enc.clean (f := lV)))) rfl) ?_
    refine RW.nil ?_
    refine nB ?_
    refine nA ?_
    refine CW.region ?_
    refine a_mv ?_
    obtain ⟨v8,hv8,h⟩ := bd h
    refine a_add ?_
    refine a_as ?_
    refine RW.nil ?_
    exact eN h
  ·refine CW.exit ?_
   refine xA ?_
   exact eX h
 ·obtain ⟨rfl,hg⟩ := hq
  refine xB ?_
  refine nA ?_
  refine CW.ghost hg ?_
  refine sR ?_
  refine a_fa ?_
  refine a_ld ?_
  refine a_mv ?_
  refine a_fa ?_
  refine a_ld ?_
  refine a_fa ?_
  refine a_ld ?_
  refine a_lenr ?_
  obtain ⟨v10,hv10,h⟩ := bd h
  refine a_mul ?_
  obtain ⟨r11,hr11,h⟩ := bd h
  refine cA Tryz.call128 (t_spec_l02Null _ _ _ _ hr11) ?_
  refine a_as ?_
  refine RW.ghost (Ghost.tr 2 48 _ rfl rfl (clean_of (cleanL (Enc.clean (f := lV)))) rfl) ?_
  refine rN ?_
  refine CW.ret ?_
  obtain rfl := sI h
  exact rT
theorem t_spec_FixedVectors (x0 : SPresentation) (x1 : SModule) (r : SMatrix × Int) (h : f_spec_FixedVectors x0 x1 = some r) : FnC Tryz.prog 42 [qPresentation x0,qModule x1] [eSMatrix r.1,I r.2] [] := by
 refine fB Tryz.func42 (fun St W w0 v => ?_)
 refine sR ?_
 refine a_box ?_
 refine a_box ?_
 refine a_alloc ?_
 refine a_as ?_
 refine rN ?_
 refine CW.seq ?_
 refine sR ?_
 refine a_ldp ?_
 refine a_ldp ?_
 obtain ⟨r1,hr1,h⟩ := bd h
 refine cA Tryz.call48 (t_spec_IsModule _ _ _ hr1) ?_
 refine a_not ?_
 refine rN ?_
 refine cn h (fun hc h => ?_) (fun hc h => ?_)
 ·refine sR ?_
  refine oP (x_build bld_55 [] [] [.zero (I 0),.zero (I 0),.zero (L 1 lV [])] (pkZ rfl (pkZ rfl (pkZ rfl pkN))) bqN rfl) ?_
  refine oP (x_stp inf_55 rfl (locB rfl rfl) rfl rfl rfl rfl (clean_of (cleanA ⟨(Enc.clean (f := I) _),(Enc.clean (f := I) _),trivial,trivial⟩)) rfl) ?_
  refine a_as ?_
  refine rN ?_
  refine CW.ret ?_
  refine rA ?_
  obtain rfl := sI h
  exact ⟨_,Ghost.refl,⟨.inl rfl,[(4,[0],T.agg [I 0,I 0,L 1 lV []]),(5,[],I 1)],⟨⟨rfl,rfl,rfl,(var_55.h _ rfl rfl).h⟩,⟨rfl,rfl,rfl,rfl⟩,trivial⟩,rfl,(by simp),(by simp),trivial⟩⟩
 ·refine CW.skip ?_
  refine nA ?_
  refine CW.seq ?_
  obtain ⟨r2,hr2,h⟩ := bd h
  obtain ⟨r3,hr3,h⟩ := bd h
  refine CW.dk ?_
  refine d_fa [(3,_)] ?_
  refine d_ld [(11,_),(3,_)] ?_
  refine d_fa [(3,_)] ?_
  refine d_ld [(13,_),(3,_)] ?_
  refine d_ldp [(3,_)] ?_
  refine dC [(15,_)] Tryz.call78 (t_spec_l21Fixed _ _ hr2) ?_
  refine dC [(12,_),(14,_),(16,_)] Tryz.call74 (t_spec_l02Make _ _ _ _ hr3) ?_
  refine dG [(4,_),(17,_)] [([(4,some (T.ptr (eSMatrix r3))),(17,some (T.agg [I r3.Prime,I r3.Columns,T.same 4 [2,0]]))],[(4,1),(17,1)])] ⟨rfl,rfl,trivial⟩ (fun E h => IxOk.opE (x_stp inf_55 rfl (locB h.1 rfl) h.1 rfl rfl h.2.1 (clean_of (cleanA ⟨(Enc.clean (f := I) _),(Enc.clean (f := I) _),(cleanL (Enc.clean (f := lV))),trivial⟩)) rfl) rfl) ?_
  refine d_as [] ?_
  refine dNA mixedP ?_
  refine nA ?_
  refine CW.ret ?_
  obtain rfl := sI h
  exact ⟨_,Ghost.refl,⟨.inl rfl,[(4,[0],eSMatrix r3),(5,[],I 0)],⟨⟨rfl,rfl,rfl,(var_55.h _ rfl rfl).h⟩,⟨rfl,rfl,rfl,rfl⟩,trivial⟩,rfl,(by simp),(by simp),trivial⟩⟩
theorem t_impl_withIdentity (x0 : List (List Int)) (r : (List (List Int))) (h : f_impl_withIdentity x0 = some r) : FnC Tryz.prog 129 [T.ro (lM x0)] [lM r] [] := by
 refine fB Tryz.func129 (fun St W w0 v => ?_)
 refine sR ?_
 refine oP (x_nil 1 rfl) ?_
 refine rN ?_
 refine sR ?_
 refine oP (x_nil 1 rfl) ?_
 refine rN ?_
 refine CW.seq ?_
 refine sR ?_
 refine a_mv ?_
 refine a_lenr ?_
 refine a_mv ?_
 refine rN ?_
 refine CW.block ?_
 obtain ⟨r8,hr8,h⟩ := bd h
 refine CW.lp (s := ([],0)) (l1_impl_withIdentity x0) (fun s1 : (List (List Int)) × Int => envL [(0,T.ro (lM x0)),(3,L 1 lV s1.1),(7,T.ro (lM x0)),(8,I (x0.length : Int)),(9,I s1.2)]) (fun (r8 : (List (List Int))) e E => e = .exit 0 ∧ Ghost ⟨St,W,w0,Tryz.f129.ntmps⟩ E (envL [(3,L 1 lV r8)])) (.has ⟨rfl,rfl,rfl,rfl,rfl,trivial⟩) (fun s1 x h => ?_) hr8 (fun e E hq => ?_)
 ·refine sR ?_
  refine a_lss ?_
  refine rN ?_
  refine CW.seq ?_
  refine cn h (fun hc h => ?_) (fun hc h => ?_)
  ·refine CW.skip ?_
   refine nA ?_
   refine CW.seq ?_
   refine CW.block ?_
   refine sR ?_
   refine a_mv ?_
   obtain ⟨v1,hv1,h⟩ := bd h
   refine a_ixr ?_
   refine a_ldr ?_
   refine a_as ?_
   refine a_as ?_
   refine rN ?_
   refine sR ?_
   refine a_mv ?_
   refine a_lenr ?_
   refine a_mv ?_
   refine a_lenr ?_
   obtain ⟨v2,hv2,h⟩ := bd h
   refine a_add ?_
   obtain ⟨m3,hm3,h⟩ := bd h
   refine oP (x_makeL (f := I) (z := 0) elt_22 (rfl) hm3 rfl rfl rfl) ?_
   refine a_as ?_
   refine RW.ghost (Ghost.tr 6 19 _ rfl rfl (clean_of (cleanL (Enc.clean (f := I)))) rfl) ?_
   refine rN ?_
   refine sR ?_
   refine a_mv ?_
   refine a_mv ?_
   refine oP (x_copyI elt_22 rfl (fun _ => (DstOf.same rfl rfl)) (fun _ => (SrcOf.ro (locB rfl rfl))) (Nat.zero_le _) (Nat.le_refl _) rfl) ?_
   refine rN ?_
   refine sR ?_
   refine a_mv ?_
   refine a_mv ?_
   refine a_lenr ?_
   refine a_mv ?_
   obtain ⟨v4,hv4,h⟩ := bd h
   refine a_add ?_
   obtain ⟨v5,hv5,h⟩ := bd h
   refine a_ix ?_
   refine oP (x_stcT inf_2 rfl rfl rfl (getc hv5 rfl) (setc hv5 rfl) rfl rfl) ?_
   refine rN ?_
   refine CW.region ?_
   refine a_mv ?_
   refine a_mv ?_
   refine RW.ghost (Ghost.tr 30 6 _ rfl rfl (clean_of (cleanL (Enc.clean (f := I)))) rfl) ?_
   refine oP (x_bs elt_23 [.tmp 30] [.slot 30 (L 1 I ((splice (List.replicate m3 (0 : Int)) 0 (v1.take (((List.replicate m3 (0 : Int)).length) - 0))).set v4.toNat 1))] [(splice (List.replicate m3 (0 : Int)) 0 (v1.take (((List.replicate m3 (0 : Int)).length) - 0))).set v4.toNat 1] lV ⟨.slot _ _,trivial⟩ (pkS rfl (clean_of (cleanL (Enc.clean (f := I)))) rfl pkN) rfl rfl) ?_
   refine RW.ghost (Ghost.tr 29 3 _ rfl rfl (clean_of (cleanL (Enc.clean (f := lV)))) rfl) ?_
   obtain ⟨v6,hv6,h⟩ := bd h
   refine oP (x_appm (f := lV) elt_23 hv6 rfl rfl rfl) ?_
   refine a_as ?_
   refine RW.ghost (Ghost.tr 3 32 _ rfl rfl (clean_of (cleanL (Enc.clean (f := lV)))) rfl) ?_
   refine RW.nil ?_
   refine nB ?_
   refine nA ?_
   refine CW.to [(0,T.ro (lM x0)),(3,L 1 lV v6),(7,T.ro (lM x0)),(8,I (x0.length : Int)),(9,I s1.2)] ⟨rfl,rfl,rfl,rfl,rfl,trivial⟩ ?_
   refine CW.region ?_
   obtain ⟨v7,hv7,h⟩ := bd h
   refine a_add ?_
   refine a_mv ?_
   refine RW.nil ?_
   exact eN h
  ·refine CW.exit ?_
   refine xA ?_
   exact eX h
 ·obtain ⟨rfl,hg⟩ := hq
  refine xB ?_
  refine nA ?_
  refine CW.ghost hg ?_
  refine sR ?_
  refine a_mv ?_
  refine a_as ?_
  refine RW.ghost (Ghost.tr 2 3 _ rfl rfl (clean_of (cleanL (Enc.clean (f := lV)))) rfl) ?_
  refine rN ?_
  refine CW.ret ?_
  obtain rfl := sI h
  exact rT
theorem t_impl_leftKernelRows (x0 : Int) (x1 : List (List Int)) (x2 : Int) (r : (List (List Int))) (h : f_impl_leftKernelRows x0 x1 x2 = some r) : FnC Tryz.prog 79 [I x0,T.ro (lM x1),I x2] [lM r] [] := by
 refine fB Tryz.func79 (fun St W w0 v => ?_)
 refine sR ?_
 refine oP (x_nil 1 rfl) ?_
 refine rN ?_
 refine sR ?_
 refine oP (x_nil 1 rfl) ?_
 refine rN ?_
 refine CW.seq ?_
 refine sR ?_
 refine a_mv ?_
 refine a_mv ?_
 obtain ⟨r1,hr1,h⟩ := bd h
 refine cA Tryz.call129 (t_impl_withIdentity _ _ hr1) ?_
 obtain ⟨r2,hr2,h⟩ := bd h
 refine cA Tryz.call71 (t_impl_reduceRows _ _ _ hr2) ?_
 refine RW.ghost (Ghost.frz 13 (k := 1) (f := lV) (g := lV) r2 rfl inferInstance) ?_
 refine a_lenr ?_
 refine a_mv ?_
 refine rN ?_
 refine CW.block ?_
 obtain ⟨r10,hr10,h⟩ := bd h
 refine CW.lp (s := ([],0)) (l1_impl_leftKernelRows x2 r2) (fun s1 : (List (List Int)) × Int => envL [(0,I x0),(2,I x2),(7,L 1 (Ro lV) s1.1),(13,T.ro (lM r2)),(14,I (r2.length : Int)),(15,I s1.2)]) (fun (r10 : (List (List Int))) e E => e = .exit 0 ∧ Ghost ⟨St,W,w0,Tryz.f79.ntmps⟩ E (envL [(0,I x0),(7,L 1 (Ro lV) r10)])) (.has ⟨rfl,rfl,rfl,rfl,rfl,rfl,trivial⟩) (fun s1 x h => ?_) hr10 (fun e E hq => ?_)
 ·refine sR ?_
  refine a_lss ?_
  refine rN ?_
  refine CW.seq ?_
  refine cn h (fun hc h => ?_) (fun hc h => ?_)
  ·refine CW.skip ?_
   refine nA ?_
   refine CW.seq ?_
   refine CW.block ?_
   refine sR ?_
   obtain ⟨v3,hv3,h⟩ := bd h
   refine a_ixr ?_
   refine a_ldr ?_
   refine a_as ?_
   refine rN ?_
   refine sR ?_
   refine a_mv ?_
   refine a_mv ?_
   obtain ⟨v4,hv4,h⟩ := bd h
   refine oP (x_slr row_22 hv4 (locB rfl rfl) optN0 (optS (sliceO_hi hv4) rfl) rfl) ?_
   obtain ⟨r5,hr5,h⟩ := bd h
   refine cA Tryz.call99 (t_impl_isZero _ _ hr5) ?_
   refine rN ?_
   refine cn h (fun hc h => ?_) (fun hc h => ?_)
   ·refine CW.region ?_
    refine a_mv ?_
    refine a_mv ?_
    refine a_mv ?_
    obtain ⟨v6,hv6,h⟩ := bd h
    refine oP (x_slr row_22 hv6 (locB rfl rfl) (optS (sliceO_lo hv6) rfl) optN rfl) ?_
    refine oP (x_bs elt_23 [.tmp 26] [.slot 26 (T.ro (lV v6))] [v6] (Ro lV) ⟨.slot _ _,trivial⟩ (pkS rfl (clean_of trivial) rfl pkN) rfl rfl) ?_
    refine RW.ghost (Ghost.tr 23 7 _ rfl rfl (clean_of (cleanL (fun _ => trivial))) rfl) ?_
    obtain ⟨v7,hv7,h⟩ := bd h
    refine oP (x_appc (f := (Ro lV)) elt_23 (fun _ => rfl) hv7 rfl (locB rfl rfl) rfl) ?_
    refine a_as ?_
    refine RW.ghost (Ghost.tr 7 28 _ rfl rfl (clean_of (cleanL (fun _ => trivial))) rfl) ?_
    refine RW.nil ?_
    refine nB ?_
    refine nA ?_
    refine CW.region ?_
    obtain ⟨v8,hv8,h⟩ := bd h
    refine a_add ?_
    refine a_mv ?_
    refine RW.nil ?_
    exact eN h
   ·refine CW.skip ?_
    refine nB ?_
    refine nA ?_
    refine CW.region ?_
    obtain ⟨v9,hv9,h⟩ := bd h
    refine a_add ?_
    refine a_mv ?_
    refine RW.nil ?_
    exact eN h
  ·refine CW.exit ?_
   refine xA ?_
   exact eX h
 ·obtain ⟨rfl,hg⟩ := hq
  refine xB ?_
  refine nA ?_
  refine CW.ghost hg ?_
  refine sR ?_
  refine a_mv ?_
  refine a_mv ?_
  obtain ⟨r11,hr11,h⟩ := bd h
  refine cA Tryz.call71 (t_impl_reduceRows _ _ _ hr11) ?_
  refine a_as ?_
  refine RW.ghost (Ghost.tr 6 32 _ rfl rfl (clean_of (cleanL (Enc.clean (f := lV)))) rfl) ?_
  refine rN ?_
  refine CW.ret ?_
  obtain rfl := sI h
  exact rT
theorem t_impl_FixedVectors (x0 : SPresentation) (x1 : SModule) (r : SMatrix × Int) (h : f_impl_FixedVectors x0 x1 = some r) : FnC Tryz.prog 43 [qPresentation x0,qModule x1] [eSMatrix r.1,I r.2] [] := by
 refine fB Tryz.func43 (fun St W w0 v => ?_)
 refine sR ?_
 refine a_box ?_
 refine a_box ?_
 refine a_alloc ?_
 refine a_as ?_
 refine rN ?_
 refine CW.seq ?_
 refine sR ?_
 obtain ⟨r1,hr1,h⟩ := bd h
 refine oP (x_call (xs := [.tmp 2,.tmp 3]) Tryz.call53 (t_impl_isModule _ _ _ hr1) ⟨(agC _ rfl (cloP rfl) rfl),⟨(agC _ rfl (cloP rfl) rfl),trivial⟩⟩ (resC (f := B) inferInstance resN) rfl) ?_
 refine a_not ?_
 refine rN ?_
 refine cn h (fun hc h => ?_) (fun hc h => ?_)
 ·refine sR ?_
  refine oP (x_build bld_55 [] [] [.zero (I 0),.zero (I 0),.zero (L 1 lV [])] (pkZ rfl (pkZ rfl (pkZ rfl pkN))) bqN rfl) ?_
  refine oP (x_stp inf_55 rfl (locB rfl rfl) rfl rfl rfl rfl (clean_of (cleanA ⟨(Enc.clean (f := I) _),(Enc.clean (f := I) _),trivial,trivial⟩)) rfl) ?_
  refine a_as ?_
  refine rN ?_
  refine CW.ret ?_
  refine rA ?_
  obtain rfl := sI h
  exact ⟨_,Ghost.refl,⟨.inl rfl,[(4,[0],T.agg [I 0,I 0,L 1 lV []]),(5,[],I 1)],⟨⟨rfl,rfl,rfl,(var_55.h _ rfl rfl).h⟩,⟨rfl,rfl,rfl,rfl⟩,trivial⟩,rfl,(by simp),(by simp),trivial⟩⟩
 ·refine CW.skip ?_
  refine nA ?_
  refine sR ?_
  refine a_fa ?_
  refine a_ld ?_
  obtain ⟨m2,hm2,h⟩ := bd h
  refine oP (x_makeL (f := lV) (z := []) elt_23 (rfl) hm2 rfl rfl rfl) ?_
  refine a_as ?_
  refine RW.ghost (Ghost.tr 6 15 _ rfl rfl (clean_of (cleanL (Enc.clean (f := lV)))) rfl) ?_
  refine rN ?_
  refine CW.seq ?_
  refine sR ?_
  refine a_fa ?_
  refine a_ld ?_
  refine a_lenr ?_
  refine a_mv ?_
  refine rN ?_
  refine CW.block ?_
  obtain ⟨r10,hr10,h⟩ := bd h
  refine CW.lp (s := (List.replicate m2 ([] : List Int),0)) (l2_impl_FixedVectors x0 x1) (fun s5 : (List (List Int)) × Int => envL [(3,T.ptr (qModule x1)),(4,T.ptr (T.agg [I 0,I 0,L 1 lV []])),(6,L 1 lV s5.1),(18,I (x0.Orders.length : Int)),(19,I s5.2)]) (fun (r10 : (List (List Int))) e E => e = .exit 0 ∧ Ghost ⟨St,W,w0,Tryz.f43.ntmps⟩ E (envL [(3,T.ptr (qModule x1)),(4,T.ptr (T.agg [I 0,I 0,L 1 lV []])),(6,L 1 lV r10)])) (.has ⟨rfl,rfl,rfl,rfl,rfl,trivial⟩) (fun s5 x h => ?_) hr10 (fun e E hq => ?_)
  ·refine sR ?_
   refine a_lss ?_
   refine rN ?_
   refine CW.seq ?_
   refine cn h (fun hc h => ?_) (fun hc h => ?_)
   ·refine CW.skip ?_
    refine nA ?_
    refine CW.seq ?_
    refine CW.block ?_
    refine sR ?_
    refine a_mv ?_
    refine a_as ?_
    refine rN ?_
    refine sR ?_
    refine a_mv ?_
    obtain ⟨r3,hr3,h⟩ := bd h
    refine oP (x_call (xs := [.tmp 3,.tmp 22]) Tryz.call76 (t_impl_moved _ _ _ hr3) ⟨(agC _ rfl (cloP rfl) rfl),⟨(agC _ rfl rfl rfl),trivial⟩⟩ (resC (f := lM) inferInstance resN) rfl) ?_
    refine a_len ?_
    refine a_mv ?_
    refine rN ?_
    refine CW.block ?_
    obtain ⟨r8,hr8,h⟩ := bd h
    refine CW.lp (s := (s5.1,0)) (l1_impl_FixedVectors r3) (fun s6 : (List (List Int)) × Int => envL [(3,T.ptr (qModule x1)),(4,T.ptr (T.agg [I 0,I 0,L 1 lV []])),(6,L 1 lV s6.1),(18,I (x0.Orders.length : Int)),(19,I s5.2),(23,L 1 lV r3),(24,I (r3.length : Int)),(25,I s6.2)]) (fun (r8 : (List (List Int))) e E => e = .exit 2 ∧ Ghost ⟨St,W,w0,Tryz.f43.ntmps⟩ E (envL [(3,T.ptr (qModule x1)),(4,T.ptr (T.agg [I 0,I 0,L 1 lV []])),(6,L 1 lV r8),(18,I (x0.Orders.length : Int)),(19,I s5.2)])) (.has ⟨rfl,rfl,rfl,rfl,rfl,rfl,rfl,rfl,trivial⟩) (fun s6 x h => ?_) hr8 (fun e E hq => ?_)
    ·refine sR ?_
     refine a_lss ?_
     refine rN ?_
     refine CW.seq ?_
     refine cn h (fun hc h => ?_) (fun hc h => ?_)
     ·refine CW.skip ?_
      refine nA ?_
      refine CW.seq ?_
      refine CW.block ?_
      refine sR ?_
      refine a_mv ?_
      obtain ⟨v4,hv4,h⟩ := bd h
      refine a_ix ?_
      refine a_ld ?_
      refine a_as ?_
      refine a_as ?_
      refine rN ?_
      refine CW.region ?_
      refine a_mv ?_
      refine a_mv ?_
      refine a_mv ?_
      refine a_mv ?_
      obtain ⟨v5,hv5,h⟩ := bd h
      refine a_ix ?_
      refine a_ld ?_
      refine a_mv ?_
      refine RW.ghost (Ghost.trh 35 6 (f := lV) (v := v5) rfl rfl hv5 (clean_of (cleanL (Enc.clean (f := I)))) rfl) ?_
      obtain ⟨v6,hv6,h⟩ := bd h
      refine oP (x_appc (f := I) elt_22 (fun _ => rfl) hv6 rfl (locA rfl rfl (getc hv4 rfl) rfl) rfl) ?_
      refine oP (x_ixh (f := lV) (xs := s6.1) (u := T.any) row_23 hv5 (locA rfl rfl rfl rfl) rfl rfl) ?_
      refine oP (x_st inf_22 rfl rfl rfl (getH (f := lV) (xs := s6.1) hv5) (setH (f := lV) (xs := s6.1) hv5) rfl (clean_of (cleanL (Enc.clean (f := I)))) rfl) ?_
      refine RW.nil ?_
      refine nB ?_
      refine nA ?_
      refine CW.region ?_
      obtain ⟨v7,hv7,h⟩ := bd h
      refine a_add ?_
      refine a_mv ?_
      refine RW.nil ?_
      exact eN h
     ·refine CW.exit ?_
      refine xA ?_
      exact eX h
    ·obtain ⟨rfl,hg⟩ := hq
     refine xB ?_
     refine nB ?_
     refine nA ?_
     refine CW.ghost hg ?_
     refine CW.region ?_
     obtain ⟨v9,hv9,h⟩ := bd h
     refine a_add ?_
     refine a_mv ?_
     refine RW.nil ?_
     exact eN h
   ·refine CW.exit ?_
    refine xA ?_
    exact eX h
  ·obtain ⟨rfl,hg⟩ := hq
   refine xB ?_
   refine nA ?_
   refine CW.ghost hg ?_
   refine CW.seq ?_
   obtain ⟨v11,hv11,h⟩ := bd h
   obtain ⟨r12,hr12,h⟩ := bd h
   refine CW.dk ?_
   refine d_fa [(3,_)] ?_
   refine d_ld [(41,_),(3,_)] ?_
   refine d_fa [(3,_)] ?_
   refine d_ld [(43,_),(3,_)] ?_
   refine d_fa [(3,_)] ?_
   refine d_ld [(45,_),(3,_)] ?_
   refine d_mv [(6,_)] ?_
   refine d_mv [(6,_)] ?_
   refine d_ix [(48,_),(6,_)] ?_
   refine d_ld [(49,_),(6,_)] ?_
   refine d_len [(50,_),(6,_)] ?_
   refine dC [(46,_),(47,_),(6,_),(51,_)] Tryz.call79 (t_impl_leftKernelRows _ _ _ _ hr12) ?_
   refine dG [(42,_),(44,_),(52,_)] [([(53,some (T.agg [I x1.Prime,I x1.Dim,L 1 lV r12])),(52,some (T.same 53 [2]))],[(53,0),(52,1)])] ⟨rfl,rfl,rfl,trivial⟩ (fun E h => IxOk.opE (x_build bld_55 [(0,.tmp 42),(1,.tmp 44),(2,.tmp 52)] [(0,.slot 42 (I x1.Prime)),(1,.slot 44 (I x1.Dim)),(2,.slot 52 (L 1 lV r12))] [.slot 42 (I x1.Prime),.slot 44 (I x1.Dim),.slot 52 (L 1 lV r12)] (pkS h.1 (clean_of (Enc.clean (f := I) _)) rfl (pkS h.2.1 (clean_of (Enc.clean (f := I) _)) rfl (pkS h.2.2.1 (clean_of (cleanL (Enc.clean (f := lV)))) rfl pkN))) (bqC (.slot _ _) (bqC (.slot _ _) (bqC (.slot _ _) bqN))) rfl) rfl) ?_
   refine dG [(4,_),(53,_)] [([(4,some (T.ptr (T.agg [I x1.Prime,I x1.Dim,L 1 lV r12]))),(53,some (T.agg [I x1.Prime,I x1.Dim,T.same 4 [2,0]]))],[(4,1),(53,1)])] ⟨rfl,rfl,trivial⟩ (fun E h => IxOk.opE (x_stp inf_55 rfl (locB h.1 rfl) h.1 rfl rfl h.2.1 (clean_of (cleanA ⟨(Enc.clean (f := I) _),(Enc.clean (f := I) _),(cleanL (Enc.clean (f := lV))),trivial⟩)) rfl) rfl) ?_
   refine d_as [] ?_
   refine dNA mixedP ?_
   refine nA ?_
   refine CW.ret ?_
   obtain rfl := sI h
   exact ⟨_,Ghost.refl,⟨.inl rfl,[(4,[0],T.agg [I x1.Prime,I x1.Dim,L 1 lV r12]),(5,[],I 0)],⟨⟨rfl,rfl,rfl,(var_55.h _ rfl rfl).h⟩,⟨rfl,rfl,rfl,rfl⟩,trivial⟩,rfl,(by simp),(by simp),trivial⟩⟩
theorem t_laws_FnExactFixedVectors (x0 : SPresentation) (x1 : SModule) (r : Bool) (h : f_laws_FnExactFixedVectors x0 x1 = some r) : FnC Tryz.prog 8 [qPresentation x0,qModule x1] [B r] [] := by
 refine fB Tryz.func8 (fun St W w0 v => ?_)
 refine sR ?_
 refine a_box ?_
 refine a_box ?_
 refine a_as ?_
 refine rN ?_
 refine sR ?_
 refine a_as ?_
 refine rN ?_
 refine sR ?_
 refine a_ldp ?_
 refine a_mv ?_
 obtain ⟨r1,hr1,h⟩ := bd h
 refine cA Tryz.call10 (t_laws_szPresentation _ _ _ hr1) ?_
 refine a_as ?_
 refine rN ?_
 refine CW.seq ?_
 refine sR ?_
 refine a_mv ?_
 refine a_lss ?_
 refine rN ?_
 refine cn h (fun hc h => ?_) (fun hc h => ?_)
 ·refine sR ?_
  refine a_as ?_
  refine rN ?_
  refine CW.ret ?_
  refine rA ?_
  obtain rfl := sI h
  exact rT
 ·refine CW.skip ?_
  refine nA ?_
  refine sR ?_
  refine a_ldp ?_
  refine a_mv ?_
  obtain ⟨r2,hr2,h⟩ := bd h
  refine cA Tryz.call11 (t_laws_szModule _ _ _ hr2) ?_
  refine a_as ?_
  refine rN ?_
  refine CW.seq ?_
  refine sR ?_
  refine a_mv ?_
  refine a_lss ?_
  refine rN ?_
  refine cn h (fun hc h => ?_) (fun hc h => ?_)
  ·refine sR ?_
   refine a_as ?_
   refine rN ?_
   refine CW.ret ?_
   refine rA ?_
   obtain rfl := sI h
   exact rT
  ·refine CW.skip ?_
   refine nA ?_
   refine CW.seq ?_
   obtain ⟨r3,hr3,h⟩ := bd h
   obtain ⟨r4,hr4,h⟩ := bd h
   obtain ⟨r5,hr5,h⟩ := bd h
   refine CW.dk ?_
   refine d_ldp [(2,_)] ?_
   refine dG [(28,_)] [([(29,some (eSPresentation r3))],[(29,0)])] ⟨rfl,trivial⟩ (fun E h => IxOk.opE (x_call (xs := [.tmp 28]) Tryz.call14 (t_laws_toPresentation _ _ hr3) ⟨(agC _ h.1 rfl rfl),trivial⟩ (resC (f := eSPresentation) inferInstance resN) rfl) rfl) ?_
   refine d_ldp [(3,_)] ?_
   refine dG [(30,_)] [([(31,some (eSModule r4))],[(31,0)])] ⟨rfl,trivial⟩ (fun E h => IxOk.opE (x_call (xs := [.tmp 30]) Tryz.call15 (t_laws_toModule _ _ hr4) ⟨(agC _ h.1 rfl rfl),trivial⟩ (resC (f := eSModule) inferInstance resN) rfl) rfl) ?_
   refine dG [(29,_),(31,_)] [([(32,some (T.tup [eSMatrix r5.1,I r5.2]))],[(32,0)])] ⟨rfl,rfl,trivial⟩ (fun E h => IxOk.opE (x_call (xs := [.tmp 29,.tmp 31]) Tryz.call42 (t_spec_FixedVectors _ _ _ hr5) ⟨(agC _ h.1 (cloA (cloC (cloO inferInstance) (cloC (cloO inferInstance) (cloC (cloO inferInstance) cloN)))) rfl),⟨(agC _ h.2.1 (cloA (cloC rfl (cloC rfl (cloC (cloO inferInstance) cloN)))) rfl),trivial⟩⟩ (resC (f := eSMatrix) inferInstance (resC (f := I) inferInstance resN)) rfl) rfl) ?_
   refine d_mvT [(32,_)] ?_
   refine d_ext [(27,_)] ?_
   refine d_ext [(27,_)] ?_
   refine d_alloc [] ?_
   refine dG [(33,T.agg [I r5.1.Prime,I r5.1.Columns,T.same 32 [2,0]]),(32,T.tup [eSMatrix r5.1,I r5.2]),(6,T.ptr (T.agg [I 0,I 0,L 1 lV []]))] [([(33,some (eSMatrix r5.1)),(32,some (T.tup [T.agg [I r5.1.Prime,I r5.1.Columns,T.any],I r5.2]))],[(33,2),(32,3)]),([(6,some (T.ptr (eSMatrix r5.1))),(33,some (T.agg [I r5.1.Prime,I r5.1.Columns,T.same 6 [2,0]]))],[(6,1),(33,1)])] ⟨rfl,rfl,rfl,trivial⟩ (fun E h => IxOk.gh (Ghost.trf 33 [2] 32 [2,0] _ _ h.1 rfl h.2.1 rfl rfl (clean_of (cleanL (Enc.clean (f := lV)))) rfl) <| IxOk.opE (x_stp inf_55 rfl (locB (keepE h.2.2.1) rfl) (keepE h.2.2.1) rfl rfl rfl (clean_of (cleanA ⟨(Enc.clean (f := I) _),(Enc.clean (f := I) _),(cleanL (Enc.clean (f := lV))),trivial⟩)) rfl) rfl) ?_
   refine d_as [(34,_)] ?_
   refine dNA mixedP ?_
   refine nA ?_
   refine CW.seq ?_
   refine CW.to [(2,T.ptr (qPresentation x0)),(3,T.ptr (qModule x1)),(6,T.ptr (eSMatrix r5.1)),(7,I r5.2)] ⟨rfl,rfl,rfl,rfl,trivial⟩ ?_
   refine CW.region ?_
   refine a_ldp ?_
   obtain ⟨r6,hr6,h⟩ := bd h
   refine oP (x_call (xs := [.tmp 35]) Tryz.call14 (t_laws_toPresentation _ _ hr6) ⟨(agC _ rfl rfl rfl),trivial⟩ (resC (f := eSPresentation) inferInstance resN) rfl) ?_
   refine a_alloc ?_
   refine oP (x_stp inf_34 rfl (locB rfl rfl) rfl rfl rfl rfl (clean_of (cleanA ⟨(cleanL (Enc.clean (f := I))),(cleanL (Enc.clean (f := lV))),(cleanL (Enc.clean (f := lM))),trivial⟩)) rfl) ?_
   refine rN ?_
   refine sR ?_
   refine a_ldp ?_
   obtain ⟨r7,hr7,h⟩ := bd h
   refine oP (x_call (xs := [.tmp 37]) Tryz.call15 (t_laws_toModule _ _ hr7) ⟨(agC _ rfl rfl rfl),trivial⟩ (resC (f := eSModule) inferInstance resN) rfl) ?_
   refine a_alloc ?_
   refine oP (x_stp inf_36 rfl (locB rfl rfl) rfl rfl rfl rfl (clean_of (cleanA ⟨(Enc.clean (f := I) _),(Enc.clean (f := I) _),(cleanL (Enc.clean (f := lM))),trivial⟩)) rfl) ?_
   refine rN ?_
   refine sR ?_
   refine a_ldp ?_
   refine a_ldp ?_
   obtain ⟨r8,hr8,h⟩ := bd h
   refine oP (x_call (xs := [.tmp 40,.tmp 41]) Tryz.call43 (t_impl_FixedVectors _ _ _ hr8) ⟨(agC _ rfl (cloA (cloC (cloS rfl rfl inferInstance) (cloC (cloS rfl rfl inferInstance) (cloC (cloS rfl rfl inferInstance) cloN)))) rfl),⟨(agC _ rfl (cloA (cloC rfl (cloC rfl (cloC (cloS rfl rfl inferInstance) cloN)))) rfl),trivial⟩⟩ (resC (f := eSMatrix) inferInstance (resC (f := I) inferInstance resN)) rfl) ?_
   refine a_mvT ?_
   refine a_ext ?_
   refine a_ext ?_
   refine a_alloc ?_
   refine RW.ghost (Ghost.trf 43 [2] 42 [2,0] _ _ rfl rfl rfl rfl rfl (clean_of (cleanL (Enc.clean (f := lV)))) rfl) ?_
   refine oP (x_stp inf_55 rfl (locB rfl rfl) rfl rfl rfl rfl (clean_of (cleanA ⟨(Enc.clean (f := I) _),(Enc.clean (f := I) _),(cleanL (Enc.clean (f := lV))),trivial⟩)) rfl) ?_
   refine a_as ?_
   refine rN ?_
   refine CW.seq ?_
   refine sR ?_
   refine a_ldp ?_
   refine a_ldp ?_
   obtain ⟨r9,hr9,h⟩ := bd h
   refine oP (x_call (xs := [.tmp 45,.tmp 46]) Tryz.call34 (t_laws_eqMatrix _ _ _ hr9) ⟨(agC _ rfl (cloA (cloC rfl (cloC rfl (cloC (cloS rfl rfl inferInstance) cloN)))) rfl),⟨(agC _ rfl (cloA (cloC rfl (cloC rfl (cloC (cloS rfl rfl inferInstance) cloN)))) rfl),trivial⟩⟩ (resC (f := B) inferInstance resN) rfl) ?_
   refine a_not ?_
   refine a_mv ?_
   refine RW.cases 49 _ rfl (fun hc => ?_) (fun hc => ?_)
   ·have h := cT hc h
    refine sk2 ?_
    refine sk2 ?_
    refine sk2 ?_
    refine a_pick ?_
    refine rN ?_
    refine CW.condT rfl ?_
    refine CW.seq ?_
    refine CW.to [] trivial ?_
    refine CW.region ?_
    refine a_as ?_
    refine rN ?_
    refine CW.ret ?_
    refine rA ?_
    obtain rfl := sI h
    exact rT
   ·have h := cF hc h
    refine g_mv ?_
    refine g_mv ?_
    refine g_neq ?_
    refine a_pick ?_
    refine rN ?_
    refine cn h (fun hc h => ?_) (fun hc h => ?_)
    ·refine CW.seq ?_
     refine CW.to [] trivial ?_
     refine CW.region ?_
     refine a_as ?_
     refine rN ?_
     refine CW.ret ?_
     refine rA ?_
     obtain rfl := sI h
     exact rT
    ·refine CW.skip ?_
     refine nA ?_
     refine CW.seq ?_
     refine CW.seq ?_
     refine CW.to [(2,T.ptr (qPresentation x0)),(3,T.ptr (qModule x1)),(6,T.ptr (eSMatrix r5.1)),(7,I r5.2),(8,T.ptr (eSPresentation r6)),(9,T.ptr (eSModule r7)),(10,T.ptr (eSMatrix r8.1)),(11,I r8.2)] ⟨rfl,rfl,rfl,rfl,rfl,rfl,rfl,rfl,trivial⟩ ?_
     obtain ⟨r10,hr10,h⟩ := bd h
     obtain ⟨r11,hr11,h⟩ := bd h
     refine CW.dk ?_
     refine d_ldp [(8,_)] ?_
     refine d_ldp [(2,_)] ?_
     refine dG [(55,_)] [([(56,some (eSPresentation r10))],[(56,0)])] ⟨rfl,trivial⟩ (fun E h => IxOk.opE (x_call (xs := [.tmp 55]) Tryz.call14 (t_laws_toPresentation _ _ hr10) ⟨(agC _ h.1 rfl rfl),trivial⟩ (resC (f := eSPresentation) inferInstance resN) rfl) rfl) ?_
     refine dG [(54,_),(8,_),(56,_)] [([(57,some (B r11))],[(57,0)])] ⟨rfl,rfl,rfl,trivial⟩ (fun E h => IxOk.opE (x_call (xs := [.tmp 54,.tmp 56]) Tryz.call20 (t_laws_eqPresentation _ _ _ hr11) ⟨(agC _ h.1 (cloA (cloC (cloS h.2.1 rfl inferInstance) (cloC (cloS h.2.1 rfl inferInstance) (cloC (cloS h.2.1 rfl inferInstance) cloN)))) rfl),⟨(agC _ h.2.2.1 (cloA (cloC (cloO inferInstance) (cloC (cloO inferInstance) (cloC (cloO inferInstance) cloN)))) rfl),trivial⟩⟩ (resC (f := B) inferInstance resN) rfl) rfl) ?_
     refine d_not [(57,_)] ?_
     refine dNA mixedP ?_
     refine nA ?_
     refine cn h (fun hc h => ?_) (fun hc h => ?_)
     ·refine sR ?_
      refine a_as ?_
      refine rN ?_
      refine CW.ret ?_
      refine rA ?_
      obtain rfl := sI h
      exact rT
     ·refine CW.skip ?_
      refine nA ?_
      refine CW.seq ?_
      refine CW.seq ?_
      obtain ⟨r12,hr12,h⟩ := bd h
      obtain ⟨r13,hr13,h⟩ := bd h
      refine CW.dk ?_
      refine d_ldp [(9,_)] ?_
      refine d_ldp [(3,_)] ?_
      refine dG [(60,_)] [([(61,some (eSModule r12))],[(61,0)])] ⟨rfl,trivial⟩ (fun E h => IxOk.opE (x_call (xs := [.tmp 60]) Tryz.call15 (t_laws_toModule _ _ hr12) ⟨(agC _ h.1 rfl rfl),trivial⟩ (resC (f := eSModule) inferInstance resN) rfl) rfl) ?_
      refine dG [(59,_),(9,_),(61,_)] [([(62,some (B r13))],[(62,0)])] ⟨rfl,rfl,rfl,trivial⟩ (fun E h => IxOk.opE (x_call (xs := [.tmp 59,.tmp 61]) Tryz.call21 (t_laws_eqModule _ _ _ hr13) ⟨(agC _ h.1 (cloA (cloC rfl (cloC rfl (cloC (cloS h.2.1 rfl inferInstance) cloN)))) rfl),⟨(agC _ h.2.2.1 (cloA (cloC rfl (cloC rfl (cloC (cloO inferInstance) cloN)))) rfl),trivial⟩⟩ (resC (f := B) inferInstance resN) rfl) rfl) ?_
      refine d_not [(62,_)] ?_
      refine dNA mixedP ?_
      refine nA ?_
      refine cn h (fun hc h => ?_) (fun hc h => ?_)
      ·refine sR ?_
       refine a_as ?_
       refine rN ?_
       refine CW.ret ?_
       refine rA ?_
       obtain rfl := sI h
       exact rT
      ·refine CW.skip ?_
       refine nA ?_
       refine sR ?_
       refine a_as ?_
       refine rN ?_
       refine sR ?_
       refine a_ldp ?_
       refine a_mv ?_
       obtain ⟨r14,hr14,h⟩ := bd h
       refine oP (x_callA (xs := [.tmp 64,.tmp 65]) 0 64 8 [(0,[0,0]),(1,[1,0]),(2,[2,0])] 2 Tryz.call23 (t_laws_markPresentation _ _ _ hr14) (.cons 0 [0,0] _ _ _ _ _ rfl rfl rfl rfl (clean_of (cleanL (Enc.clean (f := I)))) rfl rfl rfl (.cons 1 [1,0] _ _ _ _ _ rfl rfl rfl rfl (clean_of (cleanL (Enc.clean (f := lV)))) rfl rfl rfl (.cons 2 [2,0] _ _ _ _ _ rfl rfl rfl rfl (clean_of (cleanL (Enc.clean (f := lM)))) rfl rfl rfl (.nil _)))) rfl (Enc.clean (f := eSPresentation) _) (Enc.rofree (f := eSPresentation) _) ⟨(agLd rfl (Enc.clean (f := eSPresentation) _) (Enc.rofree (f := eSPresentation) _)),⟨(agM _ rfl rfl rfl),trivial⟩⟩ (resC (f := I) inferInstance resN) (.cons 0 [0,0] _ _ _ _ _ _ rfl rfl rfl rfl (clean_of (cleanL (Enc.clean (f := I)))) rfl rfl rfl (.cons 1 [1,0] _ _ _ _ _ _ rfl rfl rfl rfl (clean_of (cleanL (Enc.clean (f := lV)))) rfl rfl rfl (.cons 2 [2,0] _ _ _ _ _ _ rfl rfl rfl rfl (clean_of (cleanL (Enc.clean (f := lM)))) rfl rfl rfl (.nil _)))) rfl rfl rfl) ?_
       refine a_as ?_
       refine rN ?_
       refine sR ?_
       refine a_ldp ?_
       refine a_mv ?_
       obtain ⟨r15,hr15,h⟩ := bd h
       refine oP (x_callA (xs := [.tmp 67,.tmp 68]) 0 67 9 [(2,[2,0])] 2 Tryz.call24 (t_laws_markModule _ _ _ hr15) (.cons 2 [2,0] _ _ _ _ _ rfl rfl rfl rfl (clean_of (cleanL (Enc.clean (f := lM)))) rfl rfl rfl (.nil _)) rfl (Enc.clean (f := eSModule) _) (Enc.rofree (f := eSModule) _) ⟨(agLd rfl (Enc.clean (f := eSModule) _) (Enc.rofree (f := eSModule) _)),⟨(agM _ rfl rfl rfl),trivial⟩⟩ (resC (f := I) inferInstance resN) (.cons 2 [2,0] _ _ _ _ _ _ rfl rfl rfl rfl (clean_of (cleanL (Enc.clean (f := lM)))) rfl rfl rfl (.nil _)) rfl rfl rfl) ?_
       refine a_as ?_
       refine rN ?_
       refine CW.seq ?_
       refine sR ?_
       refine a_mv ?_
       refine a_lss ?_
       refine a_mv ?_
       refine RW.cases 72 _ rfl (fun hc => ?_) (fun hc => ?_)
       ·have h := cT hc h
        refine sk2 ?_
        refine sk2 ?_
        refine sk2 ?_
        refine sk2 ?_
        refine a_pick ?_
        refine a_mv ?_
        refine sk2 ?_
        refine sk2 ?_
        refine sk2 ?_
        refine a_pick ?_
        refine rN ?_
        refine CW.condT rfl ?_
        refine CW.seq ?_
        refine CW.to [] trivial ?_
        refine CW.region ?_
        refine a_as ?_
        refine rN ?_
        refine CW.ret ?_
        refine rA ?_
        obtain rfl := sI h
        exact rT
       ·have h := cF hc h
        refine g_ldp ?_
        refine g_ldp ?_
        obtain ⟨r16,hr16,h⟩ := bd h
        refine RW.cons (IxOk.guard 2 false 72 (x_call (xs := [.tmp 73,.tmp 74]) Tryz.call34 (t_laws_eqMatrix _ _ _ hr16) ⟨(agC _ rfl (cloA (cloC rfl (cloC rfl (cloC (cloS rfl rfl inferInstance) cloN)))) rfl),⟨(agC _ rfl (cloA (cloC rfl (cloC rfl (cloC (cloS rfl rfl inferInstance) cloN)))) rfl),trivial⟩⟩ (resC (f := B) inferInstance resN) rfl)) ?_
        refine g_not ?_
        refine a_pick ?_
        refine a_mv ?_
        refine RW.cases 78 _ rfl (fun hc => ?_) (fun hc => ?_)
        ·have h := cT hc h
         refine sk2 ?_
         refine sk2 ?_
         refine sk2 ?_
         refine a_pick ?_
         refine rN ?_
         refine CW.condT rfl ?_
         refine CW.seq ?_
         refine CW.to [] trivial ?_
         refine CW.region ?_
         refine a_as ?_
         refine rN ?_
         refine CW.ret ?_
         refine rA ?_
         obtain rfl := sI h
         exact rT
        ·have h := cF hc h
         refine g_mv ?_
         refine g_mv ?_
         refine g_neq ?_
         refine a_pick ?_
         refine rN ?_
         refine cn h (fun hc h => ?_) (fun hc h => ?_)
         ·refine CW.seq ?_
          refine CW.to [] trivial ?_
          refine CW.region ?_
          refine a_as ?_
          refine rN ?_
          refine CW.ret ?_
          refine rA ?_
          obtain rfl := sI h
          exact rT
         ·refine CW.skip ?_
          refine nA ?_
          refine CW.seq ?_
          refine CW.to [(2,T.ptr (qPresentation x0)),(3,T.ptr (qModule x1)),(6,T.ptr (eSMatrix r5.1)),(7,I r5.2),(10,T.ptr (eSMatrix r8.1))] ⟨rfl,rfl,rfl,rfl,rfl,trivial⟩ ?_
          refine CW.region ?_
          refine a_as ?_
          refine rN ?_
          refine sR ?_
          refine a_ldp ?_
          refine a_mv ?_
          obtain ⟨r17,hr17,h⟩ := bd h
          refine oP (x_callA (xs := [.tmp 83,.tmp 84]) 0 83 10 [(2,[2,0])] 2 Tryz.call40 (t_laws_markMatrix _ _ _ hr17) (.cons 2 [2,0] _ _ _ _ _ rfl rfl rfl rfl (clean_of (cleanL (Enc.clean (f := lV)))) rfl rfl rfl (.nil _)) rfl (Enc.clean (f := eSMatrix) _) (Enc.rofree (f := eSMatrix) _) ⟨(agLd rfl (Enc.clean (f := eSMatrix) _) (Enc.rofree (f := eSMatrix) _)),⟨(agM _ rfl rfl rfl),trivial⟩⟩ (resC (f := I) inferInstance resN) (.cons 2 [2,0] _ _ _ _ _ _ rfl rfl rfl rfl (clean_of (cleanL (Enc.clean (f := lV)))) rfl rfl rfl (.nil _)) rfl rfl rfl) ?_
          refine a_as ?_
          refine rN ?_
          refine sR ?_
          refine a_as ?_
          refine rN ?_
          refine sR ?_
          refine a_ldp ?_
          refine a_mv ?_
          obtain ⟨r18,hr18,h⟩ := bd h
          refine oP (x_call (xs := [.tmp 86,.tmp 87]) Tryz.call41 (t_laws_heldMatrix _ _ _ hr18) ⟨(agC _ rfl (cloA (cloC rfl (cloC rfl (cloC (cloS rfl rfl inferInstance) cloN)))) rfl),⟨(agC _ rfl rfl rfl),trivial⟩⟩ (resC (f := I) inferInstance resN) rfl) ?_
          refine a_as ?_
          refine rN ?_
          refine CW.seq ?_
          refine sR ?_
          refine a_mv ?_
          refine a_lss ?_
          refine rN ?_
          refine cn h (fun hc h => ?_) (fun hc h => ?_)
          ·refine sR ?_
           refine a_as ?_
           refine rN ?_
           refine CW.ret ?_
           refine rA ?_
           obtain rfl := sI h
           exact rT
          ·refine CW.skip ?_
           refine nA ?_
           refine CW.seq ?_
           refine sR ?_
           refine a_mv ?_
           refine a_mv ?_
           refine a_neq ?_
           refine rN ?_
           refine cn h (fun hc h => ?_) (fun hc h => ?_)
           ·refine sR ?_
            refine a_as ?_
            refine rN ?_
            refine CW.ret ?_
            refine rA ?_
            obtain rfl := sI h
            exact rT
           ·refine CW.skip ?_
            refine nA ?_
            refine CW.seq ?_
            obtain ⟨r19,hr19,h⟩ := bd h
            obtain ⟨r20,hr20,h⟩ := bd h
            obtain ⟨r21,hr21,h⟩ := bd h
            refine CW.dk ?_
            refine d_ldp [(2,_)] ?_
            refine dG [(95,_)] [([(96,some (eSPresentation r19))],[(96,0)])] ⟨rfl,trivial⟩ (fun E h => IxOk.opE (x_call (xs := [.tmp 95]) Tryz.call14 (t_laws_toPresentation _ _ hr19) ⟨(agC _ h.1 rfl rfl),trivial⟩ (resC (f := eSPresentation) inferInstance resN) rfl) rfl) ?_
            refine d_ldp [(3,_)] ?_
            refine dG [(97,_)] [([(98,some (eSModule r20))],[(98,0)])] ⟨rfl,trivial⟩ (fun E h => IxOk.opE (x_call (xs := [.tmp 97]) Tryz.call15 (t_laws_toModule _ _ hr20) ⟨(agC _ h.1 rfl rfl),trivial⟩ (resC (f := eSModule) inferInstance resN) rfl) rfl) ?_
            refine dG [(96,_),(98,_)] [([(99,some (T.tup [eSMatrix r21.1,I r21.2]))],[(99,0)])] ⟨rfl,rfl,trivial⟩ (fun E h => IxOk.opE (x_call (xs := [.tmp 96,.tmp 98]) Tryz.call43 (t_impl_FixedVectors _ _ _ hr21) ⟨(agC _ h.1 (cloA (cloC (cloO inferInstance) (cloC (cloO inferInstance) (cloC (cloO inferInstance) cloN)))) rfl),⟨(agC _ h.2.1 (cloA (cloC rfl (cloC rfl (cloC (cloO inferInstance) cloN)))) rfl),trivial⟩⟩ (resC (f := eSMatrix) inferInstance (resC (f := I) inferInstance resN)) rfl) rfl) ?_
            refine d_mvT [(99,_)] ?_
            refine d_ext [(94,_)] ?_
            refine d_ext [(94,_)] ?_
            refine d_alloc [] ?_
            refine dG [(100,T.agg [I r21.1.Prime,I r21.1.Columns,T.same 99 [2,0]]),(99,T.tup [eSMatrix r21.1,I r21.2]),(15,T.ptr (T.agg [I 0,I 0,L 1 lV []]))] [([(100,some (eSMatrix r21.1)),(99,some (T.tup [T.agg [I r21.1.Prime,I r21.1.Columns,T.any],I r21.2]))],[(100,2),(99,3)]),([(15,some (T.ptr (eSMatrix r21.1))),(100,some (T.agg [I r21.1.Prime,I r21.1.Columns,T.same 15 [2,0]]))],[(15,1),(100,1)])] ⟨rfl,rfl,rfl,trivial⟩ (fun E h => IxOk.gh (Ghost.trf 100 [2] 99 [2,0] _ _ h.1 rfl h.2.1 rfl rfl (clean_of (cleanL (Enc.clean (f := lV)))) rfl) <| IxOk.opE (x_stp inf_55 rfl (locB (keepE h.2.2.1) rfl) (keepE h.2.2.1) rfl rfl rfl (clean_of (cleanA ⟨(Enc.clean (f := I) _),(Enc.clean (f := I) _),(cleanL (Enc.clean (f := lV))),trivial⟩)) rfl) rfl) ?_
            refine d_as [(101,_)] ?_
            refine dNA mixedP ?_
            refine nA ?_
            refine CW.seq ?_
            refine CW.seq ?_
            refine CW.to [(6,T.ptr (eSMatrix r5.1)),(7,I r5.2),(10,T.ptr (T.agg [I r8.1.Prime,I r8.1.Columns,L 1 lV r17.2.Rows])),(13,I r17.1),(15,T.ptr (eSMatrix r21.1)),(16,I r21.2)] ⟨rfl,rfl,rfl,rfl,rfl,rfl,trivial⟩ ?_
            refine CW.region ?_
            refine a_ldp ?_
            refine a_ldp ?_
            obtain ⟨r22,hr22,h⟩ := bd h
            refine oP (x_call (xs := [.tmp 102,.tmp 103]) Tryz.call34 (t_laws_eqMatrix _ _ _ hr22) ⟨(agC _ rfl (cloA (cloC rfl (cloC rfl (cloC (cloS rfl rfl inferInstance) cloN)))) rfl),⟨(agC _ rfl (cloA (cloC rfl (cloC rfl (cloC (cloS rfl rfl inferInstance) cloN)))) rfl),trivial⟩⟩ (resC (f := B) inferInstance resN) rfl) ?_
            refine a_not ?_
            refine a_mv ?_
            refine RW.cases 106 _ rfl (fun hc => ?_) (fun hc => ?_)
            ·have h := cT hc h
             refine sk2 ?_
             refine sk2 ?_
             refine sk2 ?_
             refine a_pick ?_
             refine rN ?_
             refine CW.condT rfl ?_
             refine sR ?_
             refine a_as ?_
             refine rN ?_
             refine CW.ret ?_
             refine rA ?_
             obtain rfl := sI h
             exact rT
            ·have h := cF hc h
             refine g_mv ?_
             refine g_mv ?_
             refine g_neq ?_
             refine a_pick ?_
             refine rN ?_
             refine cn h (fun hc h => ?_) (fun hc h => ?_)
             ·refine sR ?_
              refine a_as ?_
              refine rN ?_
              refine CW.ret ?_
              refine rA ?_
              obtain rfl := sI h
              exact rT
             ·refine CW.skip ?_
              refine nA ?_
              refine sR ?_
              refine a_as ?_
              refine rN ?_
              refine sR ?_
              refine a_ldp ?_
              refine a_mv ?_
              obtain ⟨r23,hr23,h⟩ := bd h
              refine oP (x_call (xs := [.tmp 111,.tmp 112]) Tryz.call41 (t_laws_heldMatrix _ _ _ hr23) ⟨(agC _ rfl (cloA (cloC rfl (cloC rfl (cloC (cloS rfl rfl inferInstance) cloN)))) rfl),⟨(agC _ rfl rfl rfl),trivial⟩⟩ (resC (f := I) inferInstance resN) rfl) ?_
              refine a_as ?_
              refine rN ?_
              refine CW.seq ?_
              refine sR ?_
              refine a_mv ?_
              refine a_lss ?_
              refine rN ?_
              refine cn h (fun hc h => ?_) (fun hc h => ?_)
              ·refine sR ?_
               refine a_as ?_
               refine rN ?_
               refine CW.ret ?_
               refine rA ?_
               obtain rfl := sI h
               exact rT
              ·refine CW.skip ?_
               refine nA ?_
               refine CW.seq ?_
               refine sR ?_
               refine a_mv ?_
               refine a_mv ?_
               refine a_neq ?_
               refine rN ?_
               refine cn h (fun hc h => ?_) (fun hc h => ?_)
               ·refine sR ?_
                refine a_as ?_
                refine rN ?_
                refine CW.ret ?_
                refine rA ?_
                obtain rfl := sI h
                exact rT
               ·refine CW.skip ?_
                refine nA ?_
                refine sR ?_
                refine a_as ?_
                refine rN ?_
                refine CW.ret ?_
                obtain rfl := sI h
                exact rT
end Go.Wk
