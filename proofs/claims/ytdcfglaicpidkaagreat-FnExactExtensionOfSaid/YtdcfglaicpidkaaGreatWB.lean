/- The program and the reference return the same extensions by tails, for all arguments (FnExactExtensionOf). This file is a part of the proof. -/
import Derived.Test.YtdcfglaicpidkaaGreatWA
namespace Go.Wk
open Go Go.Proofs Go.Ab
set_option maxRecDepth 100000
theorem t_impl_actionOf (x0:SModule) (x1:List Int) (r:SMatrix) (h:f_impl_actionOf x0 x1 = some r):FnC Tryz.prog 63 [T.ro ((Pt eSModule) x0),T.ro (lV x1)] [eSMatrix r] []:=by
 refine fB Tryz.func63 (fun St W w0 v => ?_)
 refine sR ?_
 refine a_alloc ?_
 refine rN ?_
 refine CW.seq ?_
 obtain ⟨r1,hr1,h⟩:=bd h
 refine CW.dk ?_
 refine d_mv [(0,_)] ?_
 refine d_nilc [(8,_)] ?_
 refine d_far [(9,_)] ?_
 refine d_ldr [(10,_)] ?_
 refine d_mv [(0,_)] ?_
 refine d_nilc [(12,_)] ?_
 refine d_far [(13,_)] ?_
 refine d_ldr [(14,_)] ?_
 refine dC [(11,_),(15,_)] Tryz.call107 (t_impl_identityOf _ _ _ hr1) ?_
 refine d_alloc [] ?_
 refine dG [(5,_),(16,_)] [([(5,some (T.ptr (eSMatrix r1))),(16,some (T.agg [I r1.Prime,I r1.Columns,T.same 5 [2,0]]))],[(5,1),(16,1)])] ⟨rfl,rfl,trivial⟩ (fun E h => IxOk.opE (x_stp inf_73 rfl (locB h.1 rfl) h.1 rfl rfl h.2.1 (clean_of (cleanA ⟨(Enc.clean (f:=I) _),(Enc.clean (f:=I) _),(cleanL (Enc.clean (f:=lV))),trivial⟩)) rfl) rfl) ?_
 refine dNA mixedP ?_
 refine nA ?_
 refine CW.seq ?_
 refine sR ?_
 refine a_mv ?_
 refine a_lenr ?_
 refine a_mv ?_
 refine rN ?_
 refine CW.block ?_
 obtain ⟨r7,hr7,h⟩:=bd h
 refine CW.lp (s:=(r1.Prime,r1.Columns,r1.Rows,0)) (l1_impl_actionOf x0 x1) (fun s1:Int × Int × (List (List Int)) × Int => envL [(0,T.ro ((Pt eSModule) x0)),(4,T.ptr (T.agg [I 0,I 0,L 1 lV []])),(5,T.ptr (T.agg [I s1.1,I s1.2.1,L 1 lV s1.2.2.1])),(17,T.ro (lV x1)),(18,I (x1.length:Int)),(19,I s1.2.2.2)]) (fun (r7:(Int × Int × (List (List Int)))) e E => e = .exit 0 ∧ Ghost ⟨St,W,w0,Tryz.f63.ntmps⟩ E (envL [(4,T.ptr (T.agg [I 0,I 0,L 1 lV []])),(5,T.ptr (T.agg [I r7.1,I r7.2.1,L 1 lV r7.2.2]))])) (.has ⟨rfl,rfl,rfl,rfl,rfl,rfl,trivial⟩) (fun s1 x h => ?_) hr7 (fun e E hq => ?_)
 refine sR ?_
 refine a_lss ?_
 refine rN ?_
 refine CW.seq ?_
 refine cn h (fun hc h => ?_) (fun hc h => ?_)
 refine CW.skip ?_
 refine nA ?_
 refine CW.seq ?_
 refine CW.block ?_
 refine sR ?_
 obtain ⟨v2,hv2,h⟩:=bd h
 refine a_ixr ?_
 refine a_ldr ?_
 refine a_as ?_
 refine rN ?_
 obtain ⟨v3,hv3,h⟩:=bd h
 obtain ⟨r4,hr4,h⟩:=bd h
 obtain ⟨r5,hr5,h⟩:=bd h
 refine CW.dk ?_
 refine d_ldp [(5,_)] ?_
 refine d_mv [(0,_)] ?_
 refine d_mv [(7,_)] ?_
 refine d_sub [(25,_)] ?_
 refine dG [(24,_),(26,_)] [([(27,some (qMatrix r4))],[(27,0)])] ⟨rfl,rfl,trivial⟩ (fun E h => IxOk.opE (x_callF (xs:=[.tmp 24,.tmp 26]) Tryz.call60 (t_impl_actionAt _ _ _ hr4) (afC h.1 rfl (afC h.2.1 rfl afN)) rfl ⟨(cleanA ⟨(Enc.clean (f:=I) _),(Enc.clean (f:=I) _),trivial,trivial⟩),trivial⟩ rfl rfl) rfl) ?_
 refine dG [(23,_),(5,_),(27,_)] [([(28,some (eSMatrix r5))],[(28,0)])] ⟨rfl,rfl,rfl,trivial⟩ (fun E h => IxOk.opE (x_call (xs:=[.tmp 23,.tmp 27]) Tryz.call108 (t_impl_product _ _ _ hr5) ⟨(agC _ h.1 (cloA (cloC rfl (cloC rfl (cloC (cloS h.2.1 rfl inferInstance) cloN)))) rfl),⟨(agC _ h.2.2.1 rfl rfl),trivial⟩⟩ (resC (f:=eSMatrix) inferInstance resN) rfl) rfl) ?_
 refine dG [(5,_),(28,_)] [([(5,some (T.ptr (eSMatrix r5))),(28,some (T.agg [I r5.Prime,I r5.Columns,T.same 5 [2,0]]))],[(5,1),(28,1)])] ⟨rfl,rfl,trivial⟩ (fun E h => IxOk.opE (x_stp inf_73 rfl (locB h.1 rfl) h.1 rfl rfl h.2.1 (clean_of (cleanA ⟨(Enc.clean (f:=I) _),(Enc.clean (f:=I) _),(cleanL (Enc.clean (f:=lV))),trivial⟩)) rfl) rfl) ?_
 refine dNA mixedP ?_
 refine nB ?_
 refine nA ?_
 refine CW.region ?_
 obtain ⟨v6,hv6,h⟩:=bd h
 refine a_add ?_
 refine a_mv ?_
 refine RW.nil ?_
 exact eN h
 refine CW.exit ?_
 refine xA ?_
 exact eX h
 obtain ⟨rfl,hg⟩:=hq
 refine xB ?_
 refine nA ?_
 refine CW.ghost hg ?_
 refine sR ?_
 refine a_ldp ?_
 refine RW.ghost (Ghost.trf 30 [2] 5 [2,0] _ _ rfl rfl rfl rfl rfl (clean_of (cleanL (Enc.clean (f:=lV)))) rfl) ?_
 refine oP (x_stp inf_73 rfl (locB rfl rfl) rfl rfl rfl rfl (clean_of (cleanA ⟨(Enc.clean (f:=I) _),(Enc.clean (f:=I) _),(cleanL (Enc.clean (f:=lV))),trivial⟩)) rfl) ?_
 refine rN ?_
 refine CW.ret ?_
 obtain rfl:=sI h
 exact ⟨_,Ghost.refl,⟨.inl rfl,[(4,[0],T.agg [I r7.1,I r7.2.1,L 1 lV r7.2.2])],⟨⟨rfl,rfl,rfl,(var_73.h _ rfl rfl).h⟩,trivial⟩,rfl,(by simp),(by simp),trivial⟩⟩
theorem t_slices_EqualFunc_int64_int64_int64_int64 (x0:List (List Int)) (x1:List (List Int)) (r:Bool) (h:f_slices_EqualFunc_int64_int64_int64_int64 x0 x1 = some r):FnC Tryz.prog 105 [T.ro (lM x0),T.ro (lM x1),T.lit (.func (.func 106) #[] #[])] [B r] []:=by
 refine fB Tryz.func105 (fun St W w0 v => ?_)
 refine sR ?_
 refine a_as ?_
 refine rN ?_
 refine CW.seq ?_
 refine sR ?_
 refine a_mv ?_
 refine a_lenr ?_
 refine a_mv ?_
 refine a_lenr ?_
 refine a_neq ?_
 refine rN ?_
 refine cn h (fun hc h => ?_) (fun hc h => ?_)
 refine sR ?_
 refine a_as ?_
 refine rN ?_
 refine CW.ret ?_
 refine rA ?_
 obtain rfl:=sI h
 exact rT
 refine CW.skip ?_
 refine nA ?_
 refine CW.seq ?_
 refine sR ?_
 refine a_mv ?_
 refine a_lenr ?_
 refine a_mv ?_
 refine rN ?_
 refine CW.block ?_
 obtain ⟨r5,hr5,h⟩:=bd h
 refine CW.lp (s:=0) (l1_slices_EqualFunc_int64_int64_int64_int64 x0 x1) (fun s1:Int => envL [(1,T.ro (lM x1)),(2,T.lit (.func (.func 106) #[] #[])),(15,T.ro (lM x0)),(16,I (x0.length:Int)),(17,I s1)]) (fun (x:Unit ⊕ Bool) e E => match x with | (.inl r5) => e = .exit 0 ∧ Ghost ⟨St,W,w0,Tryz.f105.ntmps⟩ E (envL []) | (.inr r5) => e = .ret ∧ RetG ⟨St,W,w0,Tryz.f105.ntmps⟩ Tryz.prog Tryz.f105.results [T.ro (lM x0),T.ro (lM x1),T.lit (.func (.func 106) #[] #[])] [B r5] [] .ret E) (.has ⟨rfl,rfl,rfl,rfl,rfl,trivial⟩) (fun s1 x h => ?_) hr5 (fun e E hq => ?_)
 refine sR ?_
 refine a_lss ?_
 refine rN ?_
 refine CW.seq ?_
 refine cn h (fun hc h => ?_) (fun hc h => ?_)
 refine CW.skip ?_
 refine nA ?_
 refine CW.seq ?_
 refine CW.block ?_
 refine sR ?_
 refine a_mv ?_
 obtain ⟨v1,hv1,h⟩:=bd h
 refine a_ixr ?_
 refine a_ldr ?_
 refine a_as ?_
 refine a_as ?_
 refine rN ?_
 refine sR ?_
 refine a_mv ?_
 refine a_mv ?_
 obtain ⟨v2,hv2,h⟩:=bd h
 refine a_ixr ?_
 refine a_ldr ?_
 refine a_as ?_
 refine rN ?_
 refine sR ?_
 refine a_mv ?_
 refine a_mv ?_
 refine a_mv ?_
 obtain ⟨r3,hr3,h⟩:=bd h
 refine oP (x_callV (xs:=[.tmp 27,.tmp 28]) rfl Tryz.call106 (t_slices_Equal_int64_int64 _ _ _ hr3) ⟨(agC _ rfl rfl rfl),⟨(agC _ rfl rfl rfl),trivial⟩⟩ (resC (f:=B) inferInstance resN) rfl) ?_
 refine a_not ?_
 refine rN ?_
 refine cn h (fun hc h => ?_) (fun hc h => ?_)
 refine sR ?_
 refine a_as ?_
 refine rN ?_
 refine CW.ret ?_
 refine rB ?_
 refine rA ?_
 exact eX h
 refine CW.skip ?_
 refine nB ?_
 refine nA ?_
 refine CW.region ?_
 obtain ⟨v4,hv4,h⟩:=bd h
 refine a_add ?_
 refine a_mv ?_
 refine RW.nil ?_
 exact eN h
 refine CW.exit ?_
 refine xA ?_
 exact eX h
 rcases r5 with r5 | r5
 obtain ⟨rfl,hg⟩:=hq
 refine xB ?_
 refine nA ?_
 refine CW.ghost hg ?_
 refine sR ?_
 refine a_as ?_
 refine rN ?_
 refine CW.ret ?_
 obtain rfl:=sI h
 exact rT
 obtain ⟨rfl,hq⟩:=hq
 refine rB ?_
 refine rA ?_
 obtain rfl:=sI h
 exact hq
theorem t_impl_sameRows (x0:List (List Int)) (x1:List (List Int)) (r:Bool) (h:f_impl_sameRows x0 x1 = some r):FnC Tryz.prog 62 [T.ro (lM x0),T.ro (lM x1)] [B r] []:=by
 refine fB Tryz.func62 (fun St W w0 v => ?_)
 refine sR ?_
 refine a_as ?_
 refine rN ?_
 refine sR ?_
 refine a_mv ?_
 refine a_mv ?_
 obtain ⟨r1,hr1,h⟩:=bd h
 refine cA Tryz.call105 (t_slices_EqualFunc_int64_int64_int64_int64 _ _ _ hr1) ?_
 refine a_as ?_
 refine rN ?_
 refine CW.ret ?_
 obtain rfl:=sI h
 exact rT
theorem t_impl_isModule (x0:SPr) (x1:SModule) (r:Bool) (h:f_impl_isModule x0 x1 = some r):FnC Tryz.prog 35 [T.ro ((Pt eSPr) x0),T.ro ((Pt eSModule) x1)] [B r] []:=by
 refine fB Tryz.func35 (fun St W w0 v => ?_)
 refine sR ?_
 refine a_as ?_
 refine rN ?_
 refine CW.seq ?_
 refine CW.seq ?_
 obtain ⟨r1,hr1,h⟩:=bd h
 refine CW.casesB (!r1) (fun hc0 => ?_) (fun hc0 => ?_)
 have h:=cT hc0 h
 refine CW.dk ?_
 refine d_mv [(0,_)] ?_
 refine d_nilc [(9,_)] ?_
 refine d_ldr [(10,_)] ?_
 refine dC [(11,_)] Tryz.call56 (t_impl_IsConsistent _ _ hr1) ?_
 refine dG [(12,_)] [([(13,some (B true))],[(13,0)])] ⟨rfl,trivial⟩ (fun E h => IxOk.opE (okB_eq hc0 (x_not h.1 rfl)) rfl) ?_
 refine d_mv [(13,_)] ?_
 refine dsk2 ?_
 refine dsk2 ?_
 refine dsk2 ?_
 refine dsk2 ?_
 refine dsk2 ?_
 refine dsk2 ?_
 refine d_pick [(14,_)] ?_
 refine d_mv [(21,_)] ?_
 refine dsk2 ?_
 refine dsk2 ?_
 refine dsk2 ?_
 refine dsk2 ?_
 refine dsk2 ?_
 refine dsk2 ?_
 refine d_pick [(22,_)] ?_
 refine d_mv [(29,_)] ?_
 refine dsk2 ?_
 refine dsk2 ?_
 refine dsk2 ?_
 refine dsk2 ?_
 refine dsk2 ?_
 refine dsk2 ?_
 refine dsk2 ?_
 refine dsk2 ?_
 refine dsk2 ?_
 refine dsk2 ?_
 refine dsk2 ?_
 refine d_pick [(30,_)] ?_
 refine dN ([] :: [0] :: [0,1] :: [0,1,2] :: [0,1,2,3] :: [0,1,2,3,4] :: [0,1,2,3,4,5] :: [0,1,2,3,4,5,6] :: [0,1,2,3,4,5,6,7] :: [0,1,2,3,4,5,6,7,8] :: [0,1,2,3,4,5,6,7,8,9] :: [0,1,2,3,4,5,6,7,8,9,10] :: [0,1,2,3,4,5,6,7,8,9,10,11] :: [0,1,2,3,4,5,6,7,8,9,10,11,12] :: [0,1,2,3,4,5,6,7,8,9,10,11,12,13] :: [0,1,2,3,4,5,6,7,8,9,10,11,12,13,14] :: [0,1,2,3,4,5,6,7,8,9,10,11,12,13,14,15] :: [0,1,2,3,4,5,6,7,8,9,10,11,12,13,14,15,16] :: [0,1,2,3,4,5,6,7,8,9,10,11,12,13,14,15,16,17] :: [0,1,2,3,4,5,6,7,8,9,10,11,12,13,14,15,16,17,18] :: [0,1,2,3,4,5,6,7,8,9,10,11,12,13,14,15,16,17,18,19] :: [0,1,2,3,4,5,6,7,8,9,10,11,12,13,14,15,16,17,18,19,20] :: [0,1,2,3,4,5,6,7,8,9,10,11,12,13,14,15,16,17,18,19,20,21] :: [0,1,2,3,4,5,6,7,8,9,10,11,12,13,14,15,16,17,18,19,20,21,22] :: [0,1,2,3,4,5,6,7,8,9,10,11,12,13,14,15,16,17,18,19,20,21,22,23] :: [0,1,2,3,4,5,6,7,8,9,10,11,12,13,14,15,16,17,18,19,20,21,22,23,24] :: [0,1,2,3,4,5,6,7,8,9,10,11,12,13,14,15,16,17,18,19,20,21,22,23,24,25] :: [0,1,2,3,4,5,6,7,8,9,10,11,12,13,14,15,16,17,18,19,20,21] :: [0,1,2,3,4,5,6,7,8,9,10,11,12,13,14,15,16,17,18,19,20,21,27] :: [0,1,2,3,4,5,6,7,8,9,10,11,12,13,14,15,16,17,18,19,20,21,27,28] :: [0,1,2,3,4,5,6,7,8,9,10,11,12,13,14,15,16,17,18,19,20,21,27,28,29] :: [0,1,2,3,4,5,6,7,8,9,10,11,12,13,14,15,16,17,18,19,20,21,27,28,29,30] :: [0,1,2,3,4,5,6,7,8,9,10,11,12,13,14,15,16,17,18,19,20,21,22,23,24,25,26,27,28,29,30,31] :: [0,1,2,3,4,5,6,7,8,9,10,11,12,13,14,15,16,17,18,19,20,21,22,23,24,25,26,27,28,29,30,31,32] :: []) mixedP ?_
 refine nA ?_
 refine CW.condT rfl ?_
 refine CW.seq ?_
 refine CW.to [] trivial ?_
 refine CW.region ?_
 refine a_as ?_
 refine rN ?_
 refine CW.ret ?_
 refine rA ?_
 obtain rfl:=sI h
 exact rT
 have h:=cF hc0 h
 obtain ⟨r2,hr2,h⟩:=bd h
 refine CW.casesB (!r2) (fun hc1 => ?_) (fun hc1 => ?_)
 have h:=cT hc1 h
 refine CW.dk ?_
 refine d_mv [(0,_)] ?_
 refine d_nilc [(9,_)] ?_
 refine d_ldr [(10,_)] ?_
 refine dC [(11,_)] Tryz.call56 (t_impl_IsConsistent _ _ hr1) ?_
 refine dG [(12,_)] [([(13,some (B false))],[(13,0)])] ⟨rfl,trivial⟩ (fun E h => IxOk.opE (okB_eq hc0 (x_not h.1 rfl)) rfl) ?_
 refine d_mv [(13,_)] ?_
 refine e_mv [(1,_),(14,_)] ?_
 refine e_nilc [(15,_),(14,_)] ?_
 refine e_far [(16,_),(14,_)] ?_
 refine e_ldr [(17,_),(14,_)] ?_
 refine dG [(18,_),(14,_)] [([(19,some (B r2))],[(19,0)])] ⟨rfl,rfl,trivial⟩ (fun E h => IxOk.guardE 5 false 14 (x_call (xs:=[.tmp 18]) Tryz.call57 (t_impl_IsGroupPrime _ _ hr2) ⟨(agC _ h.1 rfl rfl),trivial⟩ (resC (f:=B) inferInstance resN) rfl) rfl rfl h.2.1 rfl) ?_
 refine dG [(19,_),(14,_)] [([(20,some (B true))],[(20,0)])] ⟨rfl,rfl,trivial⟩ (fun E h => IxOk.guardE 5 false 14 (okB_eq hc1 (x_not h.1 rfl)) rfl rfl h.2.1 rfl) ?_
 refine d_pick [(14,_),(20,_)] ?_
 refine d_mv [(21,_)] ?_
 refine dsk2 ?_
 refine dsk2 ?_
 refine dsk2 ?_
 refine dsk2 ?_
 refine dsk2 ?_
 refine dsk2 ?_
 refine d_pick [(22,_)] ?_
 refine d_mv [(29,_)] ?_
 refine dsk2 ?_
 refine dsk2 ?_
 refine dsk2 ?_
 refine dsk2 ?_
 refine dsk2 ?_
 refine dsk2 ?_
 refine dsk2 ?_
 refine dsk2 ?_
 refine dsk2 ?_
 refine dsk2 ?_
 refine dsk2 ?_
 refine d_pick [(30,_)] ?_
 refine dN ([] :: [0] :: [0,1] :: [0,1,2] :: [0,1,2,3] :: [0,1,2,3,4] :: [0,1,2,3,4,5] :: [0,1,2,3,4,5,6] :: [0,1,2,3,4,5,6,7] :: [0,1,2,3,4,5,6,7,8] :: [0,1,2,3,4,5,6,7,8,9] :: [0,1,2,3,4,5,6,7,8,9,10] :: [0,1,2,3,4,5,6,7,8,9,10,11] :: [0,1,2,3,4,5,6,7,8,9,10,11,12] :: [0,1,2,3,4,5,6,7,8,9,10,11,12,13] :: [0,1,2,3,4,5,6,7,8,9,10,11,12,13,14] :: [0,1,2,3,4,5,6,7,8,9,10,11,12,13,14,15] :: [0,1,2,3,4,5,6,7,8,9,10,11,12,13,14,15,16] :: [0,1,2,3,4,5,6,7,8,9,10,11,12,13,14,15,16,17] :: [0,1,2,3,4,5,6,7,8,9,10,11,12,13,14,15,16,17,18] :: [0,1,2,3,4,5,6,7,8,9,10,11,12,13,14,15,16,17,18,19] :: [0,1,2,3,4,5,6,7,8,9,10,11,12,13,14,15,16,17,18,19,20] :: [0,1,2,3,4,5,6,7,8,9,10,11,12,13,14,15,16,17,18,19,20,21] :: [0,1,2,3,4,5,6,7,8,9,10,11,12,13,14,15,16,17,18,19,20,21,22] :: [0,1,2,3,4,5,6,7,8,9,10,11,12,13,14,15,16,17,18,19,20,21,22,23] :: [0,1,2,3,4,5,6,7,8,9,10,11,12,13,14,15,16,17,18,19,20,21,22,23,24] :: [0,1,2,3,4,5,6,7,8,9,10,11,12,13,14,15,16,17,18,19,20,21,22,23,24,25] :: [0,1,2,3,4,5,6,7,8,9,10,11,12,13,14,15,16,17,18,19,20,21] :: [0,1,2,3,4,5,6,7,8,9,10,11,12,13,14,15,16,17,18,19,20,21,27] :: [0,1,2,3,4,5,6,7,8,9,10,11,12,13,14,15,16,17,18,19,20,21,27,28] :: [0,1,2,3,4,5,6,7,8,9,10,11,12,13,14,15,16,17,18,19,20,21,27,28,29] :: [0,1,2,3,4,5,6,7,8,9,10,11,12,13,14,15,16,17,18,19,20,21,27,28,29,30] :: [0,1,2,3,4,5,6,7,8,9,10,11,12,13,14,15,16,17,18,19,20,21,22,23,24,25,26,27,28,29,30,31] :: [0,1,2,3,4,5,6,7,8,9,10,11,12,13,14,15,16,17,18,19,20,21,22,23,24,25,26,27,28,29,30,31,32] :: []) mixedP ?_
 refine nA ?_
 refine CW.condT rfl ?_
 refine CW.seq ?_
 refine CW.to [] trivial ?_
 refine CW.region ?_
 refine a_as ?_
 refine rN ?_
 refine CW.ret ?_
 refine rA ?_
 obtain rfl:=sI h
 exact rT
 have h:=cF hc1 h
 obtain ⟨r3,hr3,h⟩:=bd h
 refine CW.casesB (!r3) (fun hc2 => ?_) (fun hc2 => ?_)
 have h:=cT hc2 h
 refine CW.dk ?_
 refine d_mv [(0,_)] ?_
 refine d_nilc [(9,_)] ?_
 refine d_ldr [(10,_)] ?_
 refine dC [(11,_)] Tryz.call56 (t_impl_IsConsistent _ _ hr1) ?_
 refine dG [(12,_)] [([(13,some (B false))],[(13,0)])] ⟨rfl,trivial⟩ (fun E h => IxOk.opE (okB_eq hc0 (x_not h.1 rfl)) rfl) ?_
 refine d_mv [(13,_)] ?_
 refine e_mv [(1,_),(14,_)] ?_
 refine e_nilc [(15,_),(14,_)] ?_
 refine e_far [(16,_),(14,_)] ?_
 refine e_ldr [(17,_),(14,_)] ?_
 refine dG [(18,_),(14,_)] [([(19,some (B r2))],[(19,0)])] ⟨rfl,rfl,trivial⟩ (fun E h => IxOk.guardE 5 false 14 (x_call (xs:=[.tmp 18]) Tryz.call57 (t_impl_IsGroupPrime _ _ hr2) ⟨(agC _ h.1 rfl rfl),trivial⟩ (resC (f:=B) inferInstance resN) rfl) rfl rfl h.2.1 rfl) ?_
 refine dG [(19,_),(14,_)] [([(20,some (B false))],[(20,0)])] ⟨rfl,rfl,trivial⟩ (fun E h => IxOk.guardE 5 false 14 (okB_eq hc1 (x_not h.1 rfl)) rfl rfl h.2.1 rfl) ?_
 refine d_pick [(14,_),(20,_)] ?_
 refine d_mv [(21,_)] ?_
 refine e_mv [(1,_),(22,_)] ?_
 refine e_nilc [(23,_),(22,_)] ?_
 refine e_far [(24,_),(22,_)] ?_
 refine e_ldr [(25,_),(22,_)] ?_
 refine dG [(26,_),(22,_)] [([(27,some (B r3))],[(27,0)])] ⟨rfl,rfl,trivial⟩ (fun E h => IxOk.guardE 13 false 22 (x_call (xs:=[.tmp 26,.const _,.const _]) Tryz.call58 (t_impl_inside _ _ _ _ hr3) ⟨(agC _ h.1 rfl rfl),⟨(agC _ rfl rfl rfl),⟨(agC _ rfl rfl rfl),trivial⟩⟩⟩ (resC (f:=B) inferInstance resN) rfl) rfl rfl h.2.1 rfl) ?_
 refine dG [(27,_),(22,_)] [([(28,some (B true))],[(28,0)])] ⟨rfl,rfl,trivial⟩ (fun E h => IxOk.guardE 13 false 22 (okB_eq hc2 (x_not h.1 rfl)) rfl rfl h.2.1 rfl) ?_
 refine d_pick [(22,_),(28,_)] ?_
 refine d_mv [(29,_)] ?_
 refine dsk2 ?_
 refine dsk2 ?_
 refine dsk2 ?_
 refine dsk2 ?_
 refine dsk2 ?_
 refine dsk2 ?_
 refine dsk2 ?_
 refine dsk2 ?_
 refine dsk2 ?_
 refine dsk2 ?_
 refine dsk2 ?_
 refine d_pick [(30,_)] ?_
 refine dN ([] :: [0] :: [0,1] :: [0,1,2] :: [0,1,2,3] :: [0,1,2,3,4] :: [0,1,2,3,4,5] :: [0,1,2,3,4,5,6] :: [0,1,2,3,4,5,6,7] :: [0,1,2,3,4,5,6,7,8] :: [0,1,2,3,4,5,6,7,8,9] :: [0,1,2,3,4,5,6,7,8,9,10] :: [0,1,2,3,4,5,6,7,8,9,10,11] :: [0,1,2,3,4,5,6,7,8,9,10,11,12] :: [0,1,2,3,4,5,6,7,8,9,10,11,12,13] :: [0,1,2,3,4,5,6,7,8,9,10,11,12,13,14] :: [0,1,2,3,4,5,6,7,8,9,10,11,12,13,14,15] :: [0,1,2,3,4,5,6,7,8,9,10,11,12,13,14,15,16] :: [0,1,2,3,4,5,6,7,8,9,10,11,12,13,14,15,16,17] :: [0,1,2,3,4,5,6,7,8,9,10,11,12,13,14,15,16,17,18] :: [0,1,2,3,4,5,6,7,8,9,10,11,12,13,14,15,16,17,18,19] :: [0,1,2,3,4,5,6,7,8,9,10,11,12,13,14,15,16,17,18,19,20] :: [0,1,2,3,4,5,6,7,8,9,10,11,12,13,14,15,16,17,18,19,20,21] :: [0,1,2,3,4,5,6,7,8,9,10,11,12,13,14,15,16,17,18,19,20,21,22] :: [0,1,2,3,4,5,6,7,8,9,10,11,12,13,14,15,16,17,18,19,20,21,22,23] :: [0,1,2,3,4,5,6,7,8,9,10,11,12,13,14,15,16,17,18,19,20,21,22,23,24] :: [0,1,2,3,4,5,6,7,8,9,10,11,12,13,14,15,16,17,18,19,20,21,22,23,24,25] :: [0,1,2,3,4,5,6,7,8,9,10,11,12,13,14,15,16,17,18,19,20,21] :: [0,1,2,3,4,5,6,7,8,9,10,11,12,13,14,15,16,17,18,19,20,21,27] :: [0,1,2,3,4,5,6,7,8,9,10,11,12,13,14,15,16,17,18,19,20,21,27,28] :: [0,1,2,3,4,5,6,7,8,9,10,11,12,13,14,15,16,17,18,19,20,21,27,28,29] :: [0,1,2,3,4,5,6,7,8,9,10,11,12,13,14,15,16,17,18,19,20,21,27,28,29,30] :: [0,1,2,3,4,5,6,7,8,9,10,11,12,13,14,15,16,17,18,19,20,21,22,23,24,25,26,27,28,29,30,31] :: [0,1,2,3,4,5,6,7,8,9,10,11,12,13,14,15,16,17,18,19,20,21,22,23,24,25,26,27,28,29,30,31,32] :: []) mixedP ?_
 refine nA ?_
 refine CW.condT rfl ?_
 refine CW.seq ?_
 refine CW.to [] trivial ?_
 refine CW.region ?_
 refine a_as ?_
 refine rN ?_
 refine CW.ret ?_
 refine rA ?_
 obtain rfl:=sI h
 exact rT
 have h:=cF hc2 h
 refine CW.dk ?_
 refine d_mv [(0,_)] ?_
 refine d_nilc [(9,_)] ?_
 refine d_ldr [(10,_)] ?_
 refine dC [(11,_)] Tryz.call56 (t_impl_IsConsistent _ _ hr1) ?_
 refine dG [(12,_)] [([(13,some (B false))],[(13,0)])] ⟨rfl,trivial⟩ (fun E h => IxOk.opE (okB_eq hc0 (x_not h.1 rfl)) rfl) ?_
 refine d_mv [(13,_)] ?_
 refine e_mv [(1,_),(14,_)] ?_
 refine e_nilc [(15,_),(14,_)] ?_
 refine e_far [(16,_),(14,_)] ?_
 refine e_ldr [(17,_),(14,_)] ?_
 refine dG [(18,_),(14,_)] [([(19,some (B r2))],[(19,0)])] ⟨rfl,rfl,trivial⟩ (fun E h => IxOk.guardE 5 false 14 (x_call (xs:=[.tmp 18]) Tryz.call57 (t_impl_IsGroupPrime _ _ hr2) ⟨(agC _ h.1 rfl rfl),trivial⟩ (resC (f:=B) inferInstance resN) rfl) rfl rfl h.2.1 rfl) ?_
 refine dG [(19,_),(14,_)] [([(20,some (B false))],[(20,0)])] ⟨rfl,rfl,trivial⟩ (fun E h => IxOk.guardE 5 false 14 (okB_eq hc1 (x_not h.1 rfl)) rfl rfl h.2.1 rfl) ?_
 refine d_pick [(14,_),(20,_)] ?_
 refine d_mv [(21,_)] ?_
 refine e_mv [(1,_),(22,_)] ?_
 refine e_nilc [(23,_),(22,_)] ?_
 refine e_far [(24,_),(22,_)] ?_
 refine e_ldr [(25,_),(22,_)] ?_
 refine dG [(26,_),(22,_)] [([(27,some (B r3))],[(27,0)])] ⟨rfl,rfl,trivial⟩ (fun E h => IxOk.guardE 13 false 22 (x_call (xs:=[.tmp 26,.const _,.const _]) Tryz.call58 (t_impl_inside _ _ _ _ hr3) ⟨(agC _ h.1 rfl rfl),⟨(agC _ rfl rfl rfl),⟨(agC _ rfl rfl rfl),trivial⟩⟩⟩ (resC (f:=B) inferInstance resN) rfl) rfl rfl h.2.1 rfl) ?_
 refine dG [(27,_),(22,_)] [([(28,some (B false))],[(28,0)])] ⟨rfl,rfl,trivial⟩ (fun E h => IxOk.guardE 13 false 22 (okB_eq hc2 (x_not h.1 rfl)) rfl rfl h.2.1 rfl) ?_
 refine d_pick [(22,_),(28,_)] ?_
 refine d_mv [(29,_)] ?_
 refine e_mv [(1,_),(30,_)] ?_
 refine e_nilc [(31,_),(30,_)] ?_
 refine e_far [(32,_),(30,_)] ?_
 refine e_ldr [(33,_),(30,_)] ?_
 refine e_lenr [(34,_),(30,_)] ?_
 refine e_mv [(0,_),(30,_)] ?_
 refine e_nilc [(36,_),(30,_)] ?_
 refine e_far [(37,_),(30,_)] ?_
 refine e_ldr [(38,_),(30,_)] ?_
 refine e_lenr [(39,_),(30,_)] ?_
 refine e_neq [(35,_),(40,_),(30,_)] ?_
 refine d_pick [(30,_),(41,_)] ?_
 refine dN ([] :: [0] :: [0,1] :: [0,1,2] :: [0,1,2,3] :: [0,1,2,3,4] :: [0,1,2,3,4,5] :: [0,1,2,3,4,5,6] :: [0,1,2,3,4,5,6,7] :: [0,1,2,3,4,5,6,7,8] :: [0,1,2,3,4,5,6,7,8,9] :: [0,1,2,3,4,5,6,7,8,9,10] :: [0,1,2,3,4,5,6,7,8,9,10,11] :: [0,1,2,3,4,5,6,7,8,9,10,11,12] :: [0,1,2,3,4,5,6,7,8,9,10,11,12,13] :: [0,1,2,3,4,5,6,7,8,9,10,11,12,13,14] :: [0,1,2,3,4,5,6,7,8,9,10,11,12,13,14,15] :: [0,1,2,3,4,5,6,7,8,9,10,11,12,13,14,15,16] :: [0,1,2,3,4,5,6,7,8,9,10,11,12,13,14,15,16,17] :: [0,1,2,3,4,5,6,7,8,9,10,11,12,13,14,15,16,17,18] :: [0,1,2,3,4,5,6,7,8,9,10,11,12,13,14,15,16,17,18,19] :: [0,1,2,3,4,5,6,7,8,9,10,11,12,13,14,15,16,17,18,19,20] :: [0,1,2,3,4,5,6,7,8,9,10,11,12,13,14,15,16,17,18,19,20,21] :: [0,1,2,3,4,5,6,7,8,9,10,11,12,13,14,15,16,17,18,19,20,21,22] :: [0,1,2,3,4,5,6,7,8,9,10,11,12,13,14,15,16,17,18,19,20,21,22,23] :: [0,1,2,3,4,5,6,7,8,9,10,11,12,13,14,15,16,17,18,19,20,21,22,23,24] :: [0,1,2,3,4,5,6,7,8,9,10,11,12,13,14,15,16,17,18,19,20,21,22,23,24,25] :: [0,1,2,3,4,5,6,7,8,9,10,11,12,13,14,15,16,17,18,19,20,21] :: [0,1,2,3,4,5,6,7,8,9,10,11,12,13,14,15,16,17,18,19,20,21,27] :: [0,1,2,3,4,5,6,7,8,9,10,11,12,13,14,15,16,17,18,19,20,21,27,28] :: [0,1,2,3,4,5,6,7,8,9,10,11,12,13,14,15,16,17,18,19,20,21,27,28,29] :: [0,1,2,3,4,5,6,7,8,9,10,11,12,13,14,15,16,17,18,19,20,21,27,28,29,30] :: [0,1,2,3,4,5,6,7,8,9,10,11,12,13,14,15,16,17,18,19,20,21,22,23,24,25,26,27,28,29,30,31] :: [0,1,2,3,4,5,6,7,8,9,10,11,12,13,14,15,16,17,18,19,20,21,22,23,24,25,26,27,28,29,30,31,32] :: []) mixedP ?_
 refine nA ?_
 refine cn h (fun hc h => ?_) (fun hc h => ?_)
 refine CW.seq ?_
 refine CW.to [] trivial ?_
 refine CW.region ?_
 refine a_as ?_
 refine rN ?_
 refine CW.ret ?_
 refine rA ?_
 obtain rfl:=sI h
 exact rT
 refine CW.skip ?_
 refine nA ?_
 refine CW.seq ?_
 refine CW.seq ?_
 refine CW.to [(0,T.ro ((Pt eSPr) x0)),(1,T.ro ((Pt eSModule) x1))] ⟨rfl,rfl,trivial⟩ ?_
 refine CW.region ?_
 refine a_mv ?_
 refine a_nilc ?_
 refine a_far ?_
 refine a_ldr ?_
 refine a_lenr ?_
 refine a_mv ?_
 refine rN ?_
 refine CW.block ?_
 obtain ⟨r8,hr8,h⟩:=bd h
 refine CW.lp (s:=0) (l1_impl_isModule x1) (fun s1:Int => envL [(0,T.ro ((Pt eSPr) x0)),(1,T.ro ((Pt eSModule) x1)),(46,T.ro (lC x1.Actions)),(47,I (x1.Actions.length:Int)),(48,I s1)]) (fun (x:Unit ⊕ Bool) e E => match x with | (.inl r8) => e = .exit 0 ∧ Ghost ⟨St,W,w0,Tryz.f35.ntmps⟩ E (envL [(0,T.ro ((Pt eSPr) x0)),(1,T.ro ((Pt eSModule) x1))]) | (.inr r8) => e = .ret ∧ RetG ⟨St,W,w0,Tryz.f35.ntmps⟩ Tryz.prog Tryz.f35.results [T.ro ((Pt eSPr) x0),T.ro ((Pt eSModule) x1)] [B r8] [] .ret E) (.has ⟨rfl,rfl,rfl,rfl,rfl,trivial⟩) (fun s1 x h => ?_) hr8 (fun e E hq => ?_)
 refine sR ?_
 refine a_lss ?_
 refine rN ?_
 refine CW.seq ?_
 refine cn h (fun hc h => ?_) (fun hc h => ?_)
 refine CW.skip ?_
 refine nA ?_
 refine CW.seq ?_
 refine CW.block ?_
 refine sR ?_
 refine a_mv ?_
 obtain ⟨v4,hv4,h⟩:=bd h
 refine a_ixr ?_
 refine a_ldr ?_
 refine a_as ?_
 refine a_as ?_
 refine rN ?_
 refine sR ?_
 refine a_mv ?_
 refine a_lenr ?_
 refine a_mv ?_
 refine a_nilc ?_
 refine a_far ?_
 refine a_ldr ?_
 refine a_neq ?_
 refine a_mv ?_
 refine RW.cases 60 _ rfl (fun hc => ?_) (fun hc => ?_)
 have h:=cT hc h
 refine sk2 ?_
 refine sk2 ?_
 refine sk2 ?_
 refine sk2 ?_
 refine sk2 ?_
 refine a_pick ?_
 refine rN ?_
 refine CW.condT rfl ?_
 refine sR ?_
 refine a_as ?_
 refine rN ?_
 refine CW.ret ?_
 refine rB ?_
 refine rA ?_
 exact eX h
 have h:=cF hc h
 refine g_mv ?_
 refine g_mv ?_
 obtain ⟨r5,hr5,h⟩:=bd h
 refine RW.cons (IxOk.guard 7 false 60 (x_callF (xs:=[.tmp 61,.tmp 62]) Tryz.call60 (t_impl_actionAt _ _ _ hr5) (afC rfl rfl (afC rfl rfl afN)) rfl ⟨(cleanA ⟨(Enc.clean (f:=I) _),(Enc.clean (f:=I) _),trivial,trivial⟩),trivial⟩ rfl rfl)) ?_
 obtain ⟨r6,hr6,h⟩:=bd h
 refine RW.cons (IxOk.guard 7 false 60 (x_call (xs:=[.tmp 63]) Tryz.call59 (t_impl_IsMatrix _ _ hr6) ⟨(agC _ rfl rfl rfl),trivial⟩ (resC (f:=B) inferInstance resN) rfl)) ?_
 refine g_not ?_
 refine a_pick ?_
 refine rN ?_
 refine cn h (fun hc h => ?_) (fun hc h => ?_)
 refine sR ?_
 refine a_as ?_
 refine rN ?_
 refine CW.ret ?_
 refine rB ?_
 refine rA ?_
 exact eX h
 refine CW.skip ?_
 refine nB ?_
 refine nA ?_
 refine CW.region ?_
 obtain ⟨v7,hv7,h⟩:=bd h
 refine a_add ?_
 refine a_mv ?_
 refine RW.nil ?_
 exact eN h
 refine CW.exit ?_
 refine xA ?_
 exact eX h
 rcases r8 with r8 | r8
 obtain ⟨rfl,hg⟩:=hq
 refine xB ?_
 refine nA ?_
 refine CW.ghost hg ?_
 refine CW.seq ?_
 refine sR ?_
 refine a_mv ?_
 obtain ⟨r9,hr9,h⟩:=bd h
 refine cA Tryz.call61 (t_impl_relationSides _ _ hr9) ?_
 refine RW.ghost (Ghost.frz 69 (k:=2) (f:=(A2 lV)) (g:=(A2 lV)) r9 rfl inferInstance) ?_
 refine a_lenr ?_
 refine a_mv ?_
 refine rN ?_
 refine CW.block ?_
 obtain ⟨r15,hr15,h⟩:=bd h
 refine CW.lp (s:=0) (l2_impl_isModule x1 r9) (fun s3:Int => envL [(1,T.ro ((Pt eSModule) x1)),(69,T.ro ((L 2 (A2 lV)) r9)),(70,I (r9.length:Int)),(71,I s3)]) (fun (x:Unit ⊕ Bool) e E => match x with | (.inl r15) => e = .exit 2 ∧ Ghost ⟨St,W,w0,Tryz.f35.ntmps⟩ E (envL []) | (.inr r15) => e = .ret ∧ RetG ⟨St,W,w0,Tryz.f35.ntmps⟩ Tryz.prog Tryz.f35.results [T.ro ((Pt eSPr) x0),T.ro ((Pt eSModule) x1)] [B r15] [] .ret E) (.has ⟨rfl,rfl,rfl,rfl,trivial⟩) (fun s3 x h => ?_) hr15 (fun e E hq => ?_)
 refine sR ?_
 refine a_lss ?_
 refine rN ?_
 refine CW.seq ?_
 refine cn h (fun hc h => ?_) (fun hc h => ?_)
 refine CW.skip ?_
 refine nA ?_
 refine CW.seq ?_
 refine CW.block ?_
 refine sR ?_
 obtain ⟨v10,hv10,h⟩:=bd h
 refine a_ixr ?_
 refine a_ldr ?_
 refine a_alloc ?_
 refine oP (x_stp inf_77 rfl (locB rfl rfl) rfl rfl rfl rfl (clean_of (cleanA ⟨trivial,trivial,trivial⟩)) rfl) ?_
 refine rN ?_
 refine CW.seq ?_
 obtain ⟨r11,hr11,h⟩:=bd h
 obtain ⟨r12,hr12,h⟩:=bd h
 obtain ⟨r13,hr13,h⟩:=bd h
 refine CW.dk ?_
 refine d_mv [(1,_)] ?_
 refine dG [(8,_)] [([(76,some (T.addr 8 [0,0]))],[(76,0)])] ⟨rfl,trivial⟩ (fun E h => IxOk.opE (x_ixA 0 arr_77 (locB h.1 rfl) rfl rfl rfl) rfl) ?_
 refine d_ld [(76,_),(8,_)] ?_
 refine dC [(75,_),(77,_)] Tryz.call63 (t_impl_actionOf _ _ _ hr11) ?_
 refine dG [(78,_)] [([(79,some (T.same 78 [2]))],[(79,0)])] ⟨rfl,trivial⟩ (fun E h => IxOk.opE (x_fld fld_73_2 (fldv_73_2 rfl rfl) h.1 rfl rfl rfl) rfl) ?_
 refine d_mv [(1,_)] ?_
 refine dG [(8,_)] [([(81,some (T.addr 8 [1,0]))],[(81,0)])] ⟨rfl,trivial⟩ (fun E h => IxOk.opE (x_ixA 1 arr_77 (locB h.1 rfl) rfl rfl rfl) rfl) ?_
 refine d_ld [(81,_),(8,_)] ?_
 refine dC [(80,_),(82,_)] Tryz.call63 (t_impl_actionOf _ _ _ hr12) ?_
 refine dG [(83,_)] [([(84,some (T.same 83 [2]))],[(84,0)])] ⟨rfl,trivial⟩ (fun E h => IxOk.opE (x_fld fld_73_2 (fldv_73_2 rfl rfl) h.1 rfl rfl rfl) rfl) ?_
 refine dC [(79,_),(78,_),(84,_),(83,_)] Tryz.call62 (t_impl_sameRows _ _ _ hr13) ?_
 refine d_not [(85,_)] ?_
 refine dNA mixedP ?_
 refine nA ?_
 refine cn h (fun hc h => ?_) (fun hc h => ?_)
 refine sR ?_
 refine a_as ?_
 refine rN ?_
 refine CW.ret ?_
 refine rB ?_
 refine rA ?_
 exact eX h
 refine CW.skip ?_
 refine nB ?_
 refine nA ?_
 refine CW.region ?_
 obtain ⟨v14,hv14,h⟩:=bd h
 refine a_add ?_
 refine a_mv ?_
 refine RW.nil ?_
 exact eN h
 refine CW.exit ?_
 refine xA ?_
 exact eX h
 rcases r15 with r15 | r15
 obtain ⟨rfl,hg⟩:=hq
 refine xB ?_
 refine nA ?_
 refine CW.ghost hg ?_
 refine sR ?_
 refine a_as ?_
 refine rN ?_
 refine CW.ret ?_
 obtain rfl:=sI h
 exact rT
 obtain ⟨rfl,hq⟩:=hq
 refine rB ?_
 refine rA ?_
 obtain rfl:=sI h
 exact hq
 obtain ⟨rfl,hq⟩:=hq
 refine rB ?_
 refine rA ?_
 obtain rfl:=sI h
 exact hq
theorem t_slices_Grow_int64_int64 (x1:Int) (r:(List Int)) (h:f_slices_Grow_int64_int64 x1 = some r):FnC Tryz.prog 111 [T.lit (.slice none 0 0),I x1] [lV r] []:=by
 refine fB Tryz.func111 (fun St W w0 v => ?_)
 refine sR ?_
 refine oP (x_nil 1 rfl) ?_
 refine rN ?_
 refine CW.seq ?_
 refine sR ?_
 refine a_mv ?_
 refine a_lss ?_
 refine rN ?_
 refine cn h (fun hc h => ?_) (fun hc h => ?_)
 ·refine CW.region ?_
  cases h
 ·refine CW.skip ?_
  refine nA ?_
  refine CW.seq ?_
  refine sR ?_
  refine a_mv ?_
  refine a_mv ?_
  refine oP (x_capnil Tryz.underlying22 rfl rfl) ?_
  refine a_mv ?_
  refine oP (x_lennil Tryz.underlying22 rfl rfl) ?_
  obtain ⟨v1,hv1,h⟩:=bd h
  refine a_sub ?_
  obtain ⟨v2,hv2,h⟩:=bd h
  refine a_sub ?_
  refine a_as ?_
  refine rN ?_
  refine sR ?_
  refine a_mv ?_
  refine a_gtr ?_
  refine rN ?_
  refine cn h (fun hc h => ?_) (fun hc h => ?_)
  ·refine CW.region ?_
   refine a_mv ?_
   refine a_mv ?_
   refine oP (x_capnil Tryz.underlying22 rfl rfl) ?_
   refine oP (x_slnil elt_22 rfl rfl rfl) ?_
   refine a_mv ?_
   obtain ⟨v3,hv3,h⟩:=bd h
   refine oP (x_appz (f:=I) (z:=0) elt_22 Tryz.underlying3 (rfl) hv3 rfl rfl rfl) ?_
   refine a_mv ?_
   refine oP (x_lennil Tryz.underlying22 rfl rfl) ?_
   obtain ⟨v4,hv4,h⟩:=bd h
   refine oP (x_cut (f:=I) elt_22 hv4 rfl rfl (.inl rfl) rfl) ?_
   refine a_as ?_
   refine RW.ghost (Ghost.tr 0 25 _ rfl rfl (clean_of (cleanL (Enc.clean (f:=I)))) rfl) ?_
   refine rN ?_
   refine sR ?_
   refine a_mv ?_
   refine a_as ?_
   refine RW.ghost (Ghost.tr 4 0 _ rfl rfl (clean_of (cleanL (Enc.clean (f:=I)))) rfl) ?_
   refine rN ?_
   refine CW.ret ?_
   obtain rfl:=sI h
   exact rT
  ·refine CW.skip ?_
   refine nA ?_
   refine sR ?_
   refine a_mv ?_
   refine a_as ?_
   refine rN ?_
   refine CW.ghost (Ghost.nil 4 1 rfl) ?_
   refine CW.ret ?_
   obtain rfl:=sI h
   exact rT
theorem t_slices_Concat_int64_int64 (x0:List (List Int)) (r:(List Int)) (h:f_slices_Concat_int64_int64 x0 = some r):FnC Tryz.prog 67 [T.ro (lM x0)] [lV r] []:=by
 refine fB Tryz.func67 (fun St W w0 v => ?_)
 refine sR ?_
 refine oP (x_nil 1 rfl) ?_
 refine rN ?_
 refine sR ?_
 refine a_as ?_
 refine rN ?_
 refine CW.seq ?_
 refine sR ?_
 refine a_mv ?_
 refine a_lenr ?_
 refine a_mv ?_
 refine rN ?_
 refine CW.block ?_
 obtain ⟨r4,hr4,h⟩:=bd h
 refine CW.lp (s:=(0,0)) (l1_slices_Concat_int64_int64 x0) (fun s1:Int × Int => envL [(0,T.ro (lM x0)),(3,I s1.1),(9,T.ro (lM x0)),(10,I (x0.length:Int)),(11,I s1.2)]) (fun (r4:Int) e E => e = .exit 0 ∧ Ghost ⟨St,W,w0,Tryz.f67.ntmps⟩ E (envL [(0,T.ro (lM x0)),(3,I r4)])) (.has ⟨rfl,rfl,rfl,rfl,rfl,trivial⟩) (fun s1 x h => ?_) hr4 (fun e E hq => ?_)
 ·refine sR ?_
  refine a_lss ?_
  refine rN ?_
  refine CW.seq ?_
  refine cn h (fun hc h => ?_) (fun hc h => ?_)
  ·refine CW.skip ?_
   refine nA ?_
   refine CW.seq ?_
   refine CW.block ?_
   refine sR ?_
   obtain ⟨v1,hv1,h⟩:=bd h
   refine a_ixr ?_
   refine a_ldr ?_
   refine a_as ?_
   refine rN ?_
   refine sR ?_
   refine a_mv ?_
   refine a_mv ?_
   refine a_lenr ?_
   obtain ⟨v2,hv2,h⟩:=bd h
   refine a_add ?_
   refine a_as ?_
   refine rN ?_
   refine sR ?_
   refine a_mv ?_
   refine a_lss ?_
   refine rN ?_
   refine cn h (fun hc h => ?_) (fun hc h => ?_)
   ·refine CW.region ?_
    cases h
   ·refine CW.skip ?_
    refine nB ?_
    refine nA ?_
    refine CW.region ?_
    obtain ⟨v3,hv3,h⟩:=bd h
    refine a_add ?_
    refine a_mv ?_
    refine RW.nil ?_
    exact eN h
  ·refine CW.exit ?_
   refine xA ?_
   exact eX h
 ·obtain ⟨rfl,hg⟩:=hq
  refine xB ?_
  refine nA ?_
  refine CW.ghost hg ?_
  refine sR ?_
  refine a_mv ?_
  obtain ⟨r5,hr5,h⟩:=bd h
  refine cA Tryz.call111 (t_slices_Grow_int64_int64 _ _ hr5) ?_
  refine a_as ?_
  refine RW.ghost (Ghost.tr 6 24 _ rfl rfl (clean_of (cleanL (Enc.clean (f:=I)))) rfl) ?_
  refine rN ?_
  refine CW.seq ?_
  refine sR ?_
  refine a_mv ?_
  refine a_lenr ?_
  refine a_mv ?_
  refine rN ?_
  refine CW.block ?_
  obtain ⟨r9,hr9,h⟩:=bd h
  refine CW.lp (s:=(r5,0)) (l2_slices_Concat_int64_int64 x0) (fun s3:(List Int) × Int => envL [(6,L 1 I s3.1),(25,T.ro (lM x0)),(26,I (x0.length:Int)),(27,I s3.2)]) (fun (r9:(List Int)) e E => e = .exit 2 ∧ Ghost ⟨St,W,w0,Tryz.f67.ntmps⟩ E (envL [(6,L 1 I r9)])) (.has ⟨rfl,rfl,rfl,rfl,trivial⟩) (fun s3 x h => ?_) hr9 (fun e E hq => ?_)
  ·refine sR ?_
   refine a_lss ?_
   refine rN ?_
   refine CW.seq ?_
   refine cn h (fun hc h => ?_) (fun hc h => ?_)
   ·refine CW.skip ?_
    refine nA ?_
    refine CW.seq ?_
    refine CW.block ?_
    refine sR ?_
    obtain ⟨v6,hv6,h⟩:=bd h
    refine a_ixr ?_
    refine a_ldr ?_
    refine a_as ?_
    refine rN ?_
    refine CW.region ?_
    refine a_mv ?_
    refine a_mv ?_
    refine RW.ghost (Ghost.tr 31 6 _ rfl rfl (clean_of (cleanL (Enc.clean (f:=I)))) rfl) ?_
    obtain ⟨v7,hv7,h⟩:=bd h
    refine oP (x_appr (f:=I) (g:=I) elt_22 (fun _ => rfl) (fun _ => rfl) inferInstance hv7 rfl (locB rfl rfl) rfl) ?_
    refine a_as ?_
    refine RW.ghost (Ghost.tr 6 33 _ rfl rfl (clean_of (cleanL (Enc.clean (f:=I)))) rfl) ?_
    refine RW.nil ?_
    refine nB ?_
    refine nA ?_
    refine CW.region ?_
    obtain ⟨v8,hv8,h⟩:=bd h
    refine a_add ?_
    refine a_mv ?_
    refine RW.nil ?_
    exact eN h
   ·refine CW.exit ?_
    refine xA ?_
    exact eX h
  ·obtain ⟨rfl,hg⟩:=hq
   refine xB ?_
   refine nA ?_
   refine CW.ghost hg ?_
   refine sR ?_
   refine a_mv ?_
   refine a_as ?_
   refine RW.ghost (Ghost.tr 2 6 _ rfl rfl (clean_of (cleanL (Enc.clean (f:=I)))) rfl) ?_
   refine rN ?_
   refine CW.ret ?_
   obtain rfl:=sI h
   exact rT
theorem t_laws_eqInt64S (x0:List Int) (x1:List Int) (r:Bool) (h:f_laws_eqInt64S x0 x1 = some r):FnC Tryz.prog 38 [T.ro (lV x0),T.ro (lV x1)] [B r] []:=by
 refine fB Tryz.func38 (fun St W w0 v => ?_)
 refine sR ?_
 refine a_as ?_
 refine rN ?_
 refine CW.seq ?_
 refine sR ?_
 refine a_mv ?_
 refine a_lenr ?_
 refine a_mv ?_
 refine a_lenr ?_
 refine a_neq ?_
 refine rN ?_
 refine cn h (fun hc h => ?_) (fun hc h => ?_)
 refine sR ?_
 refine a_as ?_
 refine rN ?_
 refine CW.ret ?_
 refine rA ?_
 obtain rfl:=sI h
 exact rT
 refine CW.skip ?_
 refine nA ?_
 refine CW.seq ?_
 refine sR ?_
 refine a_as ?_
 refine rN ?_
 refine CW.block ?_
 obtain ⟨r4,hr4,h⟩:=bd h
 refine CW.lp (s:=0) (l1_laws_eqInt64S x0 x1) (fun s1:Int => envL [(0,T.ro (lV x0)),(1,T.ro (lV x1)),(5,I s1)]) (fun (x:Unit ⊕ Bool) e E => match x with | (.inl r4) => e = .exit 0 ∧ Ghost ⟨St,W,w0,Tryz.f38.ntmps⟩ E (envL []) | (.inr r4) => e = .ret ∧ RetG ⟨St,W,w0,Tryz.f38.ntmps⟩ Tryz.prog Tryz.f38.results [T.ro (lV x0),T.ro (lV x1)] [B r4] [] .ret E) (.has ⟨rfl,rfl,rfl,trivial⟩) (fun s1 x h => ?_) hr4 (fun e E hq => ?_)
 refine CW.seq ?_
 refine sR ?_
 refine a_mv ?_
 refine a_mv ?_
 refine a_lenr ?_
 refine a_lss ?_
 refine rN ?_
 refine cn h (fun hc h => ?_) (fun hc h => ?_)
 refine CW.skip ?_
 refine nA ?_
 refine CW.seq ?_
 refine CW.block ?_
 refine CW.seq ?_
 obtain ⟨v1,hv1,h⟩:=bd h
 obtain ⟨v2,hv2,h⟩:=bd h
 refine CW.dk ?_
 refine d_mv [(0,_)] ?_
 refine d_mv [(5,_)] ?_
 refine d_ixr [(17,_),(18,_)] ?_
 refine d_ldr [(19,_)] ?_
 refine d_mv [(1,_)] ?_
 refine d_mv [(5,_)] ?_
 refine d_ixr [(21,_),(22,_)] ?_
 refine d_ldr [(23,_)] ?_
 refine d_neq [(20,_),(24,_)] ?_
 refine dNA mixedP ?_
 refine nA ?_
 refine cn h (fun hc h => ?_) (fun hc h => ?_)
 refine sR ?_
 refine a_as ?_
 refine rN ?_
 refine CW.ret ?_
 refine rB ?_
 refine rA ?_
 exact eX h
 refine CW.skip ?_
 refine nB ?_
 refine nA ?_
 refine CW.region ?_
 refine a_mv ?_
 obtain ⟨v3,hv3,h⟩:=bd h
 refine a_add ?_
 refine a_as ?_
 refine RW.nil ?_
 exact eN h
 refine CW.exit ?_
 refine xA ?_
 exact eX h
 rcases r4 with r4 | r4
 obtain ⟨rfl,hg⟩:=hq
 refine xB ?_
 refine nA ?_
 refine CW.ghost hg ?_
 refine sR ?_
 refine a_as ?_
 refine rN ?_
 refine CW.ret ?_
 obtain rfl:=sI h
 exact rT
 obtain ⟨rfl,hq⟩:=hq
 refine rB ?_
 refine rA ?_
 obtain rfl:=sI h
 exact hq
theorem t_laws_eqInt64SS (x0:List (List Int)) (x1:List (List Int)) (r:Bool) (h:f_laws_eqInt64SS x0 x1 = some r):FnC Tryz.prog 13 [T.ro (lM x0),T.ro (lM x1)] [B r] []:=by
 refine fB Tryz.func13 (fun St W w0 v => ?_)
 refine sR ?_
 refine a_as ?_
 refine rN ?_
 refine CW.seq ?_
 refine sR ?_
 refine a_mv ?_
 refine a_lenr ?_
 refine a_mv ?_
 refine a_lenr ?_
 refine a_neq ?_
 refine rN ?_
 refine cn h (fun hc h => ?_) (fun hc h => ?_)
 refine sR ?_
 refine a_as ?_
 refine rN ?_
 refine CW.ret ?_
 refine rA ?_
 obtain rfl:=sI h
 exact rT
 refine CW.skip ?_
 refine nA ?_
 refine CW.seq ?_
 refine sR ?_
 refine a_as ?_
 refine rN ?_
 refine CW.block ?_
 obtain ⟨r5,hr5,h⟩:=bd h
 refine CW.lp (s:=0) (l1_laws_eqInt64SS x0 x1) (fun s1:Int => envL [(0,T.ro (lM x0)),(1,T.ro (lM x1)),(5,I s1)]) (fun (x:Unit ⊕ Bool) e E => match x with | (.inl r5) => e = .exit 0 ∧ Ghost ⟨St,W,w0,Tryz.f13.ntmps⟩ E (envL []) | (.inr r5) => e = .ret ∧ RetG ⟨St,W,w0,Tryz.f13.ntmps⟩ Tryz.prog Tryz.f13.results [T.ro (lM x0),T.ro (lM x1)] [B r5] [] .ret E) (.has ⟨rfl,rfl,rfl,trivial⟩) (fun s1 x h => ?_) hr5 (fun e E hq => ?_)
 refine CW.seq ?_
 refine sR ?_
 refine a_mv ?_
 refine a_mv ?_
 refine a_lenr ?_
 refine a_lss ?_
 refine rN ?_
 refine cn h (fun hc h => ?_) (fun hc h => ?_)
 refine CW.skip ?_
 refine nA ?_
 refine CW.seq ?_
 refine CW.block ?_
 refine CW.seq ?_
 obtain ⟨v1,hv1,h⟩:=bd h
 obtain ⟨v2,hv2,h⟩:=bd h
 obtain ⟨r3,hr3,h⟩:=bd h
 refine CW.dk ?_
 refine d_mv [(0,_)] ?_
 refine d_mv [(5,_)] ?_
 refine d_ixr [(17,_),(18,_)] ?_
 refine d_ldr [(19,_)] ?_
 refine d_mv [(1,_)] ?_
 refine d_mv [(5,_)] ?_
 refine d_ixr [(21,_),(22,_)] ?_
 refine d_ldr [(23,_)] ?_
 refine dC [(20,_),(24,_)] Tryz.call38 (t_laws_eqInt64S _ _ _ hr3) ?_
 refine d_not [(25,_)] ?_
 refine dNA mixedP ?_
 refine nA ?_
 refine cn h (fun hc h => ?_) (fun hc h => ?_)
 refine sR ?_
 refine a_as ?_
 refine rN ?_
 refine CW.ret ?_
 refine rB ?_
 refine rA ?_
 exact eX h
 refine CW.skip ?_
 refine nB ?_
 refine nA ?_
 refine CW.region ?_
 refine a_mv ?_
 obtain ⟨v4,hv4,h⟩:=bd h
 refine a_add ?_
 refine a_as ?_
 refine RW.nil ?_
 exact eN h
 refine CW.exit ?_
 refine xA ?_
 exact eX h
 rcases r5 with r5 | r5
 obtain ⟨rfl,hg⟩:=hq
 refine xB ?_
 refine nA ?_
 refine CW.ghost hg ?_
 refine sR ?_
 refine a_as ?_
 refine rN ?_
 refine CW.ret ?_
 obtain rfl:=sI h
 exact rT
 obtain ⟨rfl,hq⟩:=hq
 refine rB ?_
 refine rA ?_
 obtain rfl:=sI h
 exact hq
theorem t_laws_eqInt64SSS (x0:List (List (List Int))) (x1:List (List (List Int))) (r:Bool) (h:f_laws_eqInt64SSS x0 x1 = some r):FnC Tryz.prog 39 [T.ro (lC x0),T.ro (lC x1)] [B r] []:=by
 refine fB Tryz.func39 (fun St W w0 v => ?_)
 refine sR ?_
 refine a_as ?_
 refine rN ?_
 refine CW.seq ?_
 refine sR ?_
 refine a_mv ?_
 refine a_lenr ?_
 refine a_mv ?_
 refine a_lenr ?_
 refine a_neq ?_
 refine rN ?_
 refine cn h (fun hc h => ?_) (fun hc h => ?_)
 refine sR ?_
 refine a_as ?_
 refine rN ?_
 refine CW.ret ?_
 refine rA ?_
 obtain rfl:=sI h
 exact rT
 refine CW.skip ?_
 refine nA ?_
 refine CW.seq ?_
 refine sR ?_
 refine a_as ?_
 refine rN ?_
 refine CW.block ?_
 obtain ⟨r5,hr5,h⟩:=bd h
 refine CW.lp (s:=0) (l1_laws_eqInt64SSS x0 x1) (fun s1:Int => envL [(0,T.ro (lC x0)),(1,T.ro (lC x1)),(5,I s1)]) (fun (x:Unit ⊕ Bool) e E => match x with | (.inl r5) => e = .exit 0 ∧ Ghost ⟨St,W,w0,Tryz.f39.ntmps⟩ E (envL []) | (.inr r5) => e = .ret ∧ RetG ⟨St,W,w0,Tryz.f39.ntmps⟩ Tryz.prog Tryz.f39.results [T.ro (lC x0),T.ro (lC x1)] [B r5] [] .ret E) (.has ⟨rfl,rfl,rfl,trivial⟩) (fun s1 x h => ?_) hr5 (fun e E hq => ?_)
 refine CW.seq ?_
 refine sR ?_
 refine a_mv ?_
 refine a_mv ?_
 refine a_lenr ?_
 refine a_lss ?_
 refine rN ?_
 refine cn h (fun hc h => ?_) (fun hc h => ?_)
 refine CW.skip ?_
 refine nA ?_
 refine CW.seq ?_
 refine CW.block ?_
 refine CW.seq ?_
 obtain ⟨v1,hv1,h⟩:=bd h
 obtain ⟨v2,hv2,h⟩:=bd h
 obtain ⟨r3,hr3,h⟩:=bd h
 refine CW.dk ?_
 refine d_mv [(0,_)] ?_
 refine d_mv [(5,_)] ?_
 refine d_ixr [(17,_),(18,_)] ?_
 refine d_ldr [(19,_)] ?_
 refine d_mv [(1,_)] ?_
 refine d_mv [(5,_)] ?_
 refine d_ixr [(21,_),(22,_)] ?_
 refine d_ldr [(23,_)] ?_
 refine dC [(20,_),(24,_)] Tryz.call13 (t_laws_eqInt64SS _ _ _ hr3) ?_
 refine d_not [(25,_)] ?_
 refine dNA mixedP ?_
 refine nA ?_
 refine cn h (fun hc h => ?_) (fun hc h => ?_)
 refine sR ?_
 refine a_as ?_
 refine rN ?_
 refine CW.ret ?_
 refine rB ?_
 refine rA ?_
 exact eX h
 refine CW.skip ?_
 refine nB ?_
 refine nA ?_
 refine CW.region ?_
 refine a_mv ?_
 obtain ⟨v4,hv4,h⟩:=bd h
 refine a_add ?_
 refine a_as ?_
 refine RW.nil ?_
 exact eN h
 refine CW.exit ?_
 refine xA ?_
 exact eX h
 rcases r5 with r5 | r5
 obtain ⟨rfl,hg⟩:=hq
 refine xB ?_
 refine nA ?_
 refine CW.ghost hg ?_
 refine sR ?_
 refine a_as ?_
 refine rN ?_
 refine CW.ret ?_
 obtain rfl:=sI h
 exact rT
 obtain ⟨rfl,hq⟩:=hq
 refine rB ?_
 refine rA ?_
 obtain rfl:=sI h
 exact hq
theorem t_laws_eqPresentation (x0:SPr) (x1:SPr) (r:Bool) (h:f_laws_eqPresentation x0 x1 = some r):FnC Tryz.prog 14 [qPr x0,qPr x1] [B r] []:=by
 refine fB Tryz.func14 (fun St W w0 v => ?_)
 refine sR ?_
 refine a_box ?_
 refine a_box ?_
 refine a_as ?_
 refine rN ?_
 refine CW.seq ?_
 refine sR ?_
 refine a_fa ?_
 refine a_ld ?_
 refine a_fa ?_
 refine a_ld ?_
 obtain ⟨r1,hr1,h⟩:=bd h
 refine cA Tryz.call38 (t_laws_eqInt64S _ _ _ hr1) ?_
 refine a_not ?_
 refine rN ?_
 refine cn h (fun hc h => ?_) (fun hc h => ?_)
 refine sR ?_
 refine a_as ?_
 refine rN ?_
 refine CW.ret ?_
 refine rA ?_
 obtain rfl:=sI h
 exact rT
 refine CW.skip ?_
 refine nA ?_
 refine CW.seq ?_
 refine sR ?_
 refine a_fa ?_
 refine a_ld ?_
 refine a_fa ?_
 refine a_ld ?_
 obtain ⟨r2,hr2,h⟩:=bd h
 refine cA Tryz.call13 (t_laws_eqInt64SS _ _ _ hr2) ?_
 refine a_not ?_
 refine rN ?_
 refine cn h (fun hc h => ?_) (fun hc h => ?_)
 refine sR ?_
 refine a_as ?_
 refine rN ?_
 refine CW.ret ?_
 refine rA ?_
 obtain rfl:=sI h
 exact rT
 refine CW.skip ?_
 refine nA ?_
 refine CW.seq ?_
 refine sR ?_
 refine a_fa ?_
 refine a_ld ?_
 refine a_fa ?_
 refine a_ld ?_
 obtain ⟨r3,hr3,h⟩:=bd h
 refine cA Tryz.call39 (t_laws_eqInt64SSS _ _ _ hr3) ?_
 refine a_not ?_
 refine rN ?_
 refine cn h (fun hc h => ?_) (fun hc h => ?_)
 refine sR ?_
 refine a_as ?_
 refine rN ?_
 refine CW.ret ?_
 refine rA ?_
 obtain rfl:=sI h
 exact rT
 refine CW.skip ?_
 refine nA ?_
 refine sR ?_
 refine a_as ?_
 refine rN ?_
 refine CW.ret ?_
 obtain rfl:=sI h
 exact rT
theorem t_laws_eqModule (x0:SModule) (x1:SModule) (r:Bool) (h:f_laws_eqModule x0 x1 = some r):FnC Tryz.prog 15 [qModule x0,qModule x1] [B r] []:=by
 refine fB Tryz.func15 (fun St W w0 v => ?_)
 refine sR ?_
 refine a_box ?_
 refine a_box ?_
 refine a_as ?_
 refine rN ?_
 refine CW.seq ?_
 refine sR ?_
 refine a_fa ?_
 refine a_ld ?_
 refine a_fa ?_
 refine a_ld ?_
 refine a_neq ?_
 refine rN ?_
 refine cn h (fun hc h => ?_) (fun hc h => ?_)
 refine sR ?_
 refine a_as ?_
 refine rN ?_
 refine CW.ret ?_
 refine rA ?_
 obtain rfl:=sI h
 exact rT
 refine CW.skip ?_
 refine nA ?_
 refine CW.seq ?_
 refine sR ?_
 refine a_fa ?_
 refine a_ld ?_
 refine a_fa ?_
 refine a_ld ?_
 refine a_neq ?_
 refine rN ?_
 refine cn h (fun hc h => ?_) (fun hc h => ?_)
 refine sR ?_
 refine a_as ?_
 refine rN ?_
 refine CW.ret ?_
 refine rA ?_
 obtain rfl:=sI h
 exact rT
 refine CW.skip ?_
 refine nA ?_
 refine CW.seq ?_
 refine sR ?_
 refine a_fa ?_
 refine a_ld ?_
 refine a_fa ?_
 refine a_ld ?_
 obtain ⟨r1,hr1,h⟩:=bd h
 refine cA Tryz.call39 (t_laws_eqInt64SSS _ _ _ hr1) ?_
 refine a_not ?_
 refine rN ?_
 refine cn h (fun hc h => ?_) (fun hc h => ?_)
 refine sR ?_
 refine a_as ?_
 refine rN ?_
 refine CW.ret ?_
 refine rA ?_
 obtain rfl:=sI h
 exact rT
 refine CW.skip ?_
 refine nA ?_
 refine sR ?_
 refine a_as ?_
 refine rN ?_
 refine CW.ret ?_
 obtain rfl:=sI h
 exact rT
end Go.Wk

namespace Go.Wk
open Go Go.Proofs Go.Ab
set_option maxRecDepth 100000
theorem t_laws_markInt64S (x0:List Int) (x1:Int) (r:Int × (List Int)) (h:f_laws_markInt64S x0 x1 = some r):FnC Tryz.prog 40 [L 1 I x0,I x1] [I r.1] [(0,lV r.2)]:=by
 refine fB Tryz.func40 (fun St W w0 v => ?_)
 refine sR ?_
 refine a_as ?_
 refine rN ?_
 refine CW.seq ?_
 refine sR ?_
 refine a_as ?_
 refine rN ?_
 refine CW.block ?_
 obtain ⟨r4,hr4,h⟩:=bd h
 refine CW.lp (s:=(x0,x1,0)) l1_laws_markInt64S (fun s1:(List Int) × Int × Int => envL [(0,L 1 I s1.1),(1,I s1.2.1),(5,I s1.2.2)]) (fun (r4:((List Int) × Int)) e E => e = .exit 0 ∧ Ghost ⟨St,W,w0,Tryz.f40.ntmps⟩ E (envL [(0,L 1 I r4.1),(1,I r4.2)])) (.has ⟨rfl,rfl,rfl,trivial⟩) (fun s1 x h => ?_) hr4 (fun e E hq => ?_)
 refine CW.seq ?_
 refine sR ?_
 refine a_mv ?_
 refine a_mv ?_
 refine a_len ?_
 refine a_lss ?_
 refine rN ?_
 refine cn h (fun hc h => ?_) (fun hc h => ?_)
 refine CW.skip ?_
 refine nA ?_
 refine CW.seq ?_
 refine CW.block ?_
 refine sR ?_
 refine a_mv ?_
 refine a_mv ?_
 refine a_mv ?_
 obtain ⟨v1,hv1,h⟩:=bd h
 refine a_ix ?_
 refine oP (x_st inf_2 rfl rfl rfl (getc hv1 rfl) (setc hv1 rfl) rfl (clean_of (Enc.clean (f:=I) _)) rfl) ?_
 refine rN ?_
 refine CW.region ?_
 refine a_mv ?_
 obtain ⟨v2,hv2,h⟩:=bd h
 refine a_add ?_
 refine a_as ?_
 refine RW.nil ?_
 refine nB ?_
 refine nA ?_
 refine CW.region ?_
 refine a_mv ?_
 obtain ⟨v3,hv3,h⟩:=bd h
 refine a_add ?_
 refine a_as ?_
 refine RW.nil ?_
 exact eN h
 refine CW.exit ?_
 refine xA ?_
 exact eX h
 obtain ⟨rfl,hg⟩:=hq
 refine xB ?_
 refine nA ?_
 refine CW.ghost hg ?_
 refine sR ?_
 refine a_mv ?_
 refine a_as ?_
 refine rN ?_
 refine CW.ret ?_
 obtain rfl:=sI h
 exact rT
theorem t_laws_markInt64SS (x0:List (List Int)) (x1:Int) (r:Int × (List (List Int))) (h:f_laws_markInt64SS x0 x1 = some r):FnC Tryz.prog 18 [L 1 lV x0,I x1] [I r.1] [(0,lM r.2)]:=by
 refine fB Tryz.func18 (fun St W w0 v => ?_)
 refine sR ?_
 refine a_as ?_
 refine rN ?_
 refine CW.seq ?_
 refine sR ?_
 refine a_as ?_
 refine rN ?_
 refine CW.block ?_
 obtain ⟨r4,hr4,h⟩:=bd h
 refine CW.lp (s:=(x0,x1,0)) l1_laws_markInt64SS (fun s1:(List (List Int)) × Int × Int => envL [(0,L 1 lV s1.1),(1,I s1.2.1),(5,I s1.2.2)]) (fun (r4:((List (List Int)) × Int)) e E => e = .exit 0 ∧ Ghost ⟨St,W,w0,Tryz.f18.ntmps⟩ E (envL [(0,L 1 lV r4.1),(1,I r4.2)])) (.has ⟨rfl,rfl,rfl,trivial⟩) (fun s1 x h => ?_) hr4 (fun e E hq => ?_)
 refine CW.seq ?_
 refine sR ?_
 refine a_mv ?_
 refine a_mv ?_
 refine a_len ?_
 refine a_lss ?_
 refine rN ?_
 refine cn h (fun hc h => ?_) (fun hc h => ?_)
 refine CW.skip ?_
 refine nA ?_
 refine CW.seq ?_
 refine CW.block ?_
 refine CW.region ?_
 refine a_mv ?_
 refine a_mv ?_
 obtain ⟨v1,hv1,h⟩:=bd h
 refine a_ix ?_
 refine a_ld ?_
 refine a_mv ?_
 obtain ⟨r2,hr2,h⟩:=bd h
 refine oP (x_callM (xs:=[.tmp 15,.tmp 16]) 0 15 0 [s1.2.2.toNat] Tryz.call40 (t_laws_markInt64S _ _ _ hr2) rfl rfl (getc hv1 rfl) (clean_of (cleanL (Enc.clean (f:=I)))) (clean_of (cleanL (Enc.clean (f:=I)))) (Enc.rofree (f:=L 1 I) _) (Enc.rofree (f:=L 1 I) _) ⟨(agLd rfl (clean_of (cleanL (Enc.clean (f:=I)))) (Enc.rofree (f:=L 1 I) _)),⟨(agM _ rfl rfl rfl),trivial⟩⟩ (resC (f:=I) inferInstance resN) (setc hv1 rfl) rfl rfl rfl) ?_
 refine a_as ?_
 refine RW.nil ?_
 refine nB ?_
 refine nA ?_
 refine CW.region ?_
 refine a_mv ?_
 obtain ⟨v3,hv3,h⟩:=bd h
 refine a_add ?_
 refine a_as ?_
 refine RW.nil ?_
 exact eN h
 refine CW.exit ?_
 refine xA ?_
 exact eX h
 obtain ⟨rfl,hg⟩:=hq
 refine xB ?_
 refine nA ?_
 refine CW.ghost hg ?_
 refine sR ?_
 refine a_mv ?_
 refine a_as ?_
 refine rN ?_
 refine CW.ret ?_
 obtain rfl:=sI h
 exact rT
theorem t_laws_markInt64SSS (x0:List (List (List Int))) (x1:Int) (r:Int × (List (List (List Int)))) (h:f_laws_markInt64SSS x0 x1 = some r):FnC Tryz.prog 41 [L 1 lM x0,I x1] [I r.1] [(0,lC r.2)]:=by
 refine fB Tryz.func41 (fun St W w0 v => ?_)
 refine sR ?_
 refine a_as ?_
 refine rN ?_
 refine CW.seq ?_
 refine sR ?_
 refine a_as ?_
 refine rN ?_
 refine CW.block ?_
 obtain ⟨r4,hr4,h⟩:=bd h
 refine CW.lp (s:=(x0,x1,0)) l1_laws_markInt64SSS (fun s1:(List (List (List Int))) × Int × Int => envL [(0,L 1 lM s1.1),(1,I s1.2.1),(5,I s1.2.2)]) (fun (r4:((List (List (List Int))) × Int)) e E => e = .exit 0 ∧ Ghost ⟨St,W,w0,Tryz.f41.ntmps⟩ E (envL [(0,L 1 lM r4.1),(1,I r4.2)])) (.has ⟨rfl,rfl,rfl,trivial⟩) (fun s1 x h => ?_) hr4 (fun e E hq => ?_)
 refine CW.seq ?_
 refine sR ?_
 refine a_mv ?_
 refine a_mv ?_
 refine a_len ?_
 refine a_lss ?_
 refine rN ?_
 refine cn h (fun hc h => ?_) (fun hc h => ?_)
 refine CW.skip ?_
 refine nA ?_
 refine CW.seq ?_
 refine CW.block ?_
 refine CW.region ?_
 refine a_mv ?_
 refine a_mv ?_
 obtain ⟨v1,hv1,h⟩:=bd h
 refine a_ix ?_
 refine a_ld ?_
 refine a_mv ?_
 obtain ⟨r2,hr2,h⟩:=bd h
 refine oP (x_callM (xs:=[.tmp 15,.tmp 16]) 0 15 0 [s1.2.2.toNat] Tryz.call18 (t_laws_markInt64SS _ _ _ hr2) rfl rfl (getc hv1 rfl) (clean_of (cleanL (Enc.clean (f:=lV)))) (clean_of (cleanL (Enc.clean (f:=lV)))) (Enc.rofree (f:=L 1 lV) _) (Enc.rofree (f:=L 1 lV) _) ⟨(agLd rfl (clean_of (cleanL (Enc.clean (f:=lV)))) (Enc.rofree (f:=L 1 lV) _)),⟨(agM _ rfl rfl rfl),trivial⟩⟩ (resC (f:=I) inferInstance resN) (setc hv1 rfl) rfl rfl rfl) ?_
 refine a_as ?_
 refine RW.nil ?_
 refine nB ?_
 refine nA ?_
 refine CW.region ?_
 refine a_mv ?_
 obtain ⟨v3,hv3,h⟩:=bd h
 refine a_add ?_
 refine a_as ?_
 refine RW.nil ?_
 exact eN h
 refine CW.exit ?_
 refine xA ?_
 exact eX h
 obtain ⟨rfl,hg⟩:=hq
 refine xB ?_
 refine nA ?_
 refine CW.ghost hg ?_
 refine sR ?_
 refine a_mv ?_
 refine a_as ?_
 refine rN ?_
 refine CW.ret ?_
 obtain rfl:=sI h
 exact rT
theorem t_laws_markPresentation (x0:SPr) (x1:Int) (r:Int × SPr) (h:f_laws_markPresentation x0 x1 = some r):FnC Tryz.prog 16 [eSPr x0,I x1] [I r.1] [(0,eSPr r.2)]:=by
 refine fB Tryz.func16 (fun St W w0 v => ?_) (ht:=⟨Top.of_clean _ (Enc.clean (f:=eSPr) _),by first | (simp only [Top];done) | (simp [Top];done) | simp [Top,Tops],trivial⟩)
 refine sR ?_
 refine oP (x_box rfl (clean_of (cleanA ⟨(cleanL (Enc.clean (f:=I))),(cleanL (Enc.clean (f:=lV))),(cleanL (Enc.clean (f:=lM))),trivial⟩)) rfl) ?_
 refine a_as ?_
 refine rN ?_
 refine sR ?_
 refine a_fa ?_
 refine a_ld ?_
 refine a_mv ?_
 obtain ⟨r1,hr1,h⟩:=bd h
 refine oP (x_callM (xs:=[.tmp 6,.tmp 7]) 0 6 2 [0,0] Tryz.call40 (t_laws_markInt64S _ _ _ hr1) rfl rfl rfl (clean_of (cleanL (Enc.clean (f:=I)))) (clean_of (cleanL (Enc.clean (f:=I)))) (Enc.rofree (f:=L 1 I) _) (Enc.rofree (f:=L 1 I) _) ⟨(agLd rfl (clean_of (cleanL (Enc.clean (f:=I)))) (Enc.rofree (f:=L 1 I) _)),⟨(agM _ rfl rfl rfl),trivial⟩⟩ (resC (f:=I) inferInstance resN) rfl rfl rfl rfl) ?_
 refine a_as ?_
 refine rN ?_
 refine sR ?_
 refine a_fa ?_
 refine a_ld ?_
 refine a_mv ?_
 obtain ⟨r2,hr2,h⟩:=bd h
 refine oP (x_callM (xs:=[.tmp 10,.tmp 11]) 0 10 2 [1,0] Tryz.call18 (t_laws_markInt64SS _ _ _ hr2) rfl rfl rfl (clean_of (cleanL (Enc.clean (f:=lV)))) (clean_of (cleanL (Enc.clean (f:=lV)))) (Enc.rofree (f:=L 1 lV) _) (Enc.rofree (f:=L 1 lV) _) ⟨(agLd rfl (clean_of (cleanL (Enc.clean (f:=lV)))) (Enc.rofree (f:=L 1 lV) _)),⟨(agM _ rfl rfl rfl),trivial⟩⟩ (resC (f:=I) inferInstance resN) rfl rfl rfl rfl) ?_
 refine a_as ?_
 refine rN ?_
 refine sR ?_
 refine a_fa ?_
 refine a_ld ?_
 refine a_mv ?_
 obtain ⟨r3,hr3,h⟩:=bd h
 refine oP (x_callM (xs:=[.tmp 14,.tmp 15]) 0 14 2 [2,0] Tryz.call41 (t_laws_markInt64SSS _ _ _ hr3) rfl rfl rfl (clean_of (cleanL (Enc.clean (f:=lM)))) (clean_of (cleanL (Enc.clean (f:=lM)))) (Enc.rofree (f:=L 1 lM) _) (Enc.rofree (f:=L 1 lM) _) ⟨(agLd rfl (clean_of (cleanL (Enc.clean (f:=lM)))) (Enc.rofree (f:=L 1 lM) _)),⟨(agM _ rfl rfl rfl),trivial⟩⟩ (resC (f:=I) inferInstance resN) rfl rfl rfl rfl) ?_
 refine a_as ?_
 refine RW.ghost (Ghost.trf 0 [0] 2 [0,0] _ _ rfl rfl rfl rfl rfl (clean_of (cleanL (Enc.clean (f:=I)))) rfl) ?_
 refine RW.ghost (Ghost.trf 0 [1] 2 [1,0] _ _ rfl rfl rfl rfl rfl (clean_of (cleanL (Enc.clean (f:=lV)))) rfl) ?_
 refine RW.ghost (Ghost.trf 0 [2] 2 [2,0] _ _ rfl rfl rfl rfl rfl (clean_of (cleanL (Enc.clean (f:=lM)))) rfl) ?_
 refine rN ?_
 refine sR ?_
 refine a_mv ?_
 refine a_as ?_
 refine rN ?_
 refine CW.ret ?_
 obtain rfl:=sI h
 exact rT
theorem t_laws_markModule (x0:SModule) (x1:Int) (r:Int × SModule) (h:f_laws_markModule x0 x1 = some r):FnC Tryz.prog 17 [eSModule x0,I x1] [I r.1] [(0,eSModule r.2)]:=by
 refine fB Tryz.func17 (fun St W w0 v => ?_) (ht:=⟨Top.of_clean _ (Enc.clean (f:=eSModule) _),by first | (simp only [Top];done) | (simp [Top];done) | simp [Top,Tops],trivial⟩)
 refine sR ?_
 refine oP (x_box rfl (clean_of (cleanA ⟨(Enc.clean (f:=I) _),(Enc.clean (f:=I) _),(cleanL (Enc.clean (f:=lM))),trivial⟩)) rfl) ?_
 refine a_as ?_
 refine rN ?_
 refine sR ?_
 refine a_fa ?_
 refine a_ld ?_
 refine a_mv ?_
 obtain ⟨r1,hr1,h⟩:=bd h
 refine oP (x_callM (xs:=[.tmp 6,.tmp 7]) 0 6 2 [2,0] Tryz.call41 (t_laws_markInt64SSS _ _ _ hr1) rfl rfl rfl (clean_of (cleanL (Enc.clean (f:=lM)))) (clean_of (cleanL (Enc.clean (f:=lM)))) (Enc.rofree (f:=L 1 lM) _) (Enc.rofree (f:=L 1 lM) _) ⟨(agLd rfl (clean_of (cleanL (Enc.clean (f:=lM)))) (Enc.rofree (f:=L 1 lM) _)),⟨(agM _ rfl rfl rfl),trivial⟩⟩ (resC (f:=I) inferInstance resN) rfl rfl rfl rfl) ?_
 refine a_as ?_
 refine RW.ghost (Ghost.trf 0 [2] 2 [2,0] _ _ rfl rfl rfl rfl rfl (clean_of (cleanL (Enc.clean (f:=lM)))) rfl) ?_
 refine rN ?_
 refine sR ?_
 refine a_mv ?_
 refine a_as ?_
 refine rN ?_
 refine CW.ret ?_
 obtain rfl:=sI h
 exact rT
theorem t_laws_heldInt64S (x0:List Int) (x1:Int) (r:Int) (h:f_laws_heldInt64S x0 x1 = some r):FnC Tryz.prog 42 [T.ro (lV x0),I x1] [I r] []:=by
 refine fB Tryz.func42 (fun St W w0 v => ?_)
 refine sR ?_
 refine a_as ?_
 refine rN ?_
 refine CW.seq ?_
 refine sR ?_
 refine a_as ?_
 refine rN ?_
 refine CW.block ?_
 obtain ⟨r4,hr4,h⟩:=bd h
 refine CW.lp (s:=(x1,0)) (l1_laws_heldInt64S x0) (fun s1:Int × Int => envL [(0,T.ro (lV x0)),(1,I s1.1),(5,I s1.2)]) (fun (x:Int ⊕ Int) e E => match x with | (.inl r4) => e = .exit 0 ∧ Ghost ⟨St,W,w0,Tryz.f42.ntmps⟩ E (envL [(1,I r4)]) | (.inr r4) => e = .ret ∧ RetG ⟨St,W,w0,Tryz.f42.ntmps⟩ Tryz.prog Tryz.f42.results [T.ro (lV x0),I x1] [I r4] [] .ret E) (.has ⟨rfl,rfl,rfl,trivial⟩) (fun s1 x h => ?_) hr4 (fun e E hq => ?_)
 refine CW.seq ?_
 refine sR ?_
 refine a_mv ?_
 refine a_mv ?_
 refine a_lenr ?_
 refine a_lss ?_
 refine rN ?_
 refine cn h (fun hc h => ?_) (fun hc h => ?_)
 refine CW.skip ?_
 refine nA ?_
 refine CW.seq ?_
 refine CW.block ?_
 refine CW.seq ?_
 refine sR ?_
 refine a_mv ?_
 refine a_mv ?_
 obtain ⟨v1,hv1,h⟩:=bd h
 refine a_ixr ?_
 refine a_ldr ?_
 refine a_mv ?_
 refine a_neq ?_
 refine rN ?_
 refine cn h (fun hc h => ?_) (fun hc h => ?_)
 refine sR ?_
 refine a_as ?_
 refine rN ?_
 refine CW.ret ?_
 refine rA ?_
 refine rB ?_
 refine rA ?_
 exact eX h
 refine CW.skip ?_
 refine nA ?_
 refine CW.region ?_
 refine a_mv ?_
 obtain ⟨v2,hv2,h⟩:=bd h
 refine a_add ?_
 refine a_as ?_
 refine RW.nil ?_
 refine nB ?_
 refine nA ?_
 refine CW.region ?_
 refine a_mv ?_
 obtain ⟨v3,hv3,h⟩:=bd h
 refine a_add ?_
 refine a_as ?_
 refine RW.nil ?_
 exact eN h
 refine CW.exit ?_
 refine xA ?_
 exact eX h
 rcases r4 with r4 | r4
 obtain ⟨rfl,hg⟩:=hq
 refine xB ?_
 refine nA ?_
 refine CW.ghost hg ?_
 refine sR ?_
 refine a_mv ?_
 refine a_as ?_
 refine rN ?_
 refine CW.ret ?_
 obtain rfl:=sI h
 exact rT
 obtain ⟨rfl,hq⟩:=hq
 refine rB ?_
 refine rA ?_
 obtain rfl:=sI h
 exact hq
theorem t_laws_heldInt64SS (x0:List (List Int)) (x1:Int) (r:Int) (h:f_laws_heldInt64SS x0 x1 = some r):FnC Tryz.prog 19 [T.ro (lM x0),I x1] [I r] []:=by
 refine fB Tryz.func19 (fun St W w0 v => ?_)
 refine sR ?_
 refine a_as ?_
 refine rN ?_
 refine CW.seq ?_
 refine sR ?_
 refine a_as ?_
 refine rN ?_
 refine CW.block ?_
 obtain ⟨r4,hr4,h⟩:=bd h
 refine CW.lp (s:=(x1,0)) (l1_laws_heldInt64SS x0) (fun s1:Int × Int => envL [(0,T.ro (lM x0)),(1,I s1.1),(5,I s1.2)]) (fun (x:Int ⊕ Int) e E => match x with | (.inl r4) => e = .exit 0 ∧ Ghost ⟨St,W,w0,Tryz.f19.ntmps⟩ E (envL [(1,I r4)]) | (.inr r4) => e = .ret ∧ RetG ⟨St,W,w0,Tryz.f19.ntmps⟩ Tryz.prog Tryz.f19.results [T.ro (lM x0),I x1] [I r4] [] .ret E) (.has ⟨rfl,rfl,rfl,trivial⟩) (fun s1 x h => ?_) hr4 (fun e E hq => ?_)
 refine CW.seq ?_
 refine sR ?_
 refine a_mv ?_
 refine a_mv ?_
 refine a_lenr ?_
 refine a_lss ?_
 refine rN ?_
 refine cn h (fun hc h => ?_) (fun hc h => ?_)
 refine CW.skip ?_
 refine nA ?_
 refine CW.seq ?_
 refine CW.block ?_
 refine sR ?_
 refine a_mv ?_
 refine a_mv ?_
 obtain ⟨v1,hv1,h⟩:=bd h
 refine a_ixr ?_
 refine a_ldr ?_
 refine a_mv ?_
 obtain ⟨r2,hr2,h⟩:=bd h
 refine cA Tryz.call42 (t_laws_heldInt64S _ _ _ hr2) ?_
 refine a_as ?_
 refine rN ?_
 refine sR ?_
 refine a_mv ?_
 refine a_lss ?_
 refine rN ?_
 refine cn h (fun hc h => ?_) (fun hc h => ?_)
 refine sR ?_
 refine a_as ?_
 refine rN ?_
 refine CW.ret ?_
 refine rB ?_
 refine rA ?_
 exact eX h
 refine CW.skip ?_
 refine nB ?_
 refine nA ?_
 refine CW.region ?_
 refine a_mv ?_
 obtain ⟨v3,hv3,h⟩:=bd h
 refine a_add ?_
 refine a_as ?_
 refine RW.nil ?_
 exact eN h
 refine CW.exit ?_
 refine xA ?_
 exact eX h
 rcases r4 with r4 | r4
 obtain ⟨rfl,hg⟩:=hq
 refine xB ?_
 refine nA ?_
 refine CW.ghost hg ?_
 refine sR ?_
 refine a_mv ?_
 refine a_as ?_
 refine rN ?_
 refine CW.ret ?_
 obtain rfl:=sI h
 exact rT
 obtain ⟨rfl,hq⟩:=hq
 refine rB ?_
 refine rA ?_
 obtain rfl:=sI h
 exact hq
theorem t_impl_relationCount (x0:SPr) (r:Int) (h:f_impl_relationCount x0 = some r):FnC Tryz.prog 84 [T.ro ((Pt eSPr) x0)] [I r] []:=by
 refine fB Tryz.func84 (fun St W w0 v => ?_)
 refine sR ?_
 refine a_as ?_
 refine rN ?_
 refine CW.seq ?_
 obtain ⟨v1,hv1,h⟩:=bd h
 obtain ⟨v2,hv2,h⟩:=bd h
 obtain ⟨v3,hv3,h⟩:=bd h
 refine CW.dk ?_
 refine d_mv [(0,_)] ?_
 refine d_nilc [(3,_)] ?_
 refine d_far [(4,_)] ?_
 refine d_ldr [(5,_)] ?_
 refine d_lenr [(6,_)] ?_
 refine d_mv [(0,_)] ?_
 refine d_nilc [(8,_)] ?_
 refine d_far [(9,_)] ?_
 refine d_ldr [(10,_)] ?_
 refine d_lenr [(11,_)] ?_
 refine d_add [(12,_)] ?_ (h:=fun _ h => (x_add hv1 h.1 rfl rfl))
 refine d_mul [(7,_),(13,_)] ?_
 refine d_quo [(14,_)] ?_
 refine d_as [(15,_)] ?_
 refine dNA mixedP ?_
 refine nA ?_
 refine CW.ret ?_
 obtain rfl:=sI h
 exact rT
end Go.Wk

namespace Go.Wk
open Go Go.Proofs Go.Ab
set_option maxRecDepth 100000
theorem t_spec_l23Count (x0:SPr) (r:Int) (h:f_spec_l23Count x0 = some r):FnC Tryz.prog 122 [qPr x0] [I r] []:=by
 refine fB Tryz.func122 (fun St W w0 v => ?_)
 refine sR ?_
 refine a_box ?_
 refine a_as ?_
 refine rN ?_
 refine sR ?_
 refine a_fa ?_
 refine a_ld ?_
 refine a_lenr ?_
 refine a_as ?_
 refine rN ?_
 refine sR ?_
 refine a_mv ?_
 refine a_mv ?_
 refine a_mv ?_
 obtain ⟨v1,hv1,h⟩:=bd h
 refine a_sub ?_
 obtain ⟨v2,hv2,h⟩:=bd h
 refine a_mul ?_
 obtain ⟨v3,hv3,h⟩:=bd h
 refine a_quo ?_
 obtain ⟨v4,hv4,h⟩:=bd h
 refine a_add ?_
 refine a_as ?_
 refine rN ?_
 refine CW.ret ?_
 obtain rfl:=sI h
 exact rT
theorem t_spec_l21Vectors (x0:SModule) (x1:List (List Int)) (r:Bool) (h:f_spec_l21Vectors x0 x1 = some r):FnC Tryz.prog 123 [qModule x0,T.ro (lM x1)] [B r] []:=by
 refine fB Tryz.func123 (fun St W w0 v => ?_)
 refine sR ?_
 refine a_box ?_
 refine a_as ?_
 refine rN ?_
 refine CW.seq ?_
 refine sR ?_
 refine a_as ?_
 refine rN ?_
 refine CW.block ?_
 obtain ⟨r4,hr4,h⟩:=bd h
 refine CW.lp (s:=0) (l1_spec_l21Vectors x0 x1) (fun s1:Int => envL [(1,T.ro (lM x1)),(2,T.ptr (qModule x0)),(5,I s1)]) (fun (x:Unit ⊕ Bool) e E => match x with | (.inl r4) => e = .exit 0 ∧ Ghost ⟨St,W,w0,Tryz.f123.ntmps⟩ E (envL []) | (.inr r4) => e = .ret ∧ RetG ⟨St,W,w0,Tryz.f123.ntmps⟩ Tryz.prog Tryz.f123.results [qModule x0,T.ro (lM x1)] [B r4] [] .ret E) (.has ⟨rfl,rfl,rfl,trivial⟩) (fun s1 x h => ?_) hr4 (fun e E hq => ?_)
 refine CW.seq ?_
 refine sR ?_
 refine a_mv ?_
 refine a_mv ?_
 refine a_lenr ?_
 refine a_lss ?_
 refine rN ?_
 refine cn h (fun hc h => ?_) (fun hc h => ?_)
 refine CW.skip ?_
 refine nA ?_
 refine CW.seq ?_
 refine CW.block ?_
 refine CW.seq ?_
 obtain ⟨v1,hv1,h⟩:=bd h
 obtain ⟨r2,hr2,h⟩:=bd h
 refine CW.dk ?_
 refine d_fa [(2,_)] ?_
 refine d_ld [(12,_),(2,_)] ?_
 refine d_fa [(2,_)] ?_
 refine d_ld [(14,_),(2,_)] ?_
 refine d_mv [(1,_)] ?_
 refine d_mv [(5,_)] ?_
 refine d_ixr [(16,_),(17,_)] ?_
 refine d_ldr [(18,_)] ?_
 refine dC [(13,_),(15,_),(19,_)] Tryz.call135 (t_spec_l02Vector _ _ _ _ hr2) ?_
 refine d_not [(20,_)] ?_
 refine dNA mixedP ?_
 refine nA ?_
 refine cn h (fun hc h => ?_) (fun hc h => ?_)
 refine sR ?_
 refine a_as ?_
 refine rN ?_
 refine CW.ret ?_
 refine rB ?_
 refine rA ?_
 exact eX h
 refine CW.skip ?_
 refine nB ?_
 refine nA ?_
 refine CW.region ?_
 refine a_mv ?_
 obtain ⟨v3,hv3,h⟩:=bd h
 refine a_add ?_
 refine a_as ?_
 refine RW.nil ?_
 exact eN h
 refine CW.exit ?_
 refine xA ?_
 exact eX h
 rcases r4 with r4 | r4
 obtain ⟨rfl,hg⟩:=hq
 refine xB ?_
 refine nA ?_
 refine CW.ghost hg ?_
 refine sR ?_
 refine a_as ?_
 refine rN ?_
 refine CW.ret ?_
 obtain rfl:=sI h
 exact rT
 obtain ⟨rfl,hq⟩:=hq
 refine rB ?_
 refine rA ?_
 obtain rfl:=sI h
 exact hq
theorem t_spec_l23Tails (x0:SPr) (x1:SModule) (x2:List (List Int)) (r:Bool) (h:f_spec_l23Tails x0 x1 x2 = some r):FnC Tryz.prog 85 [qPr x0,qModule x1,T.ro (lM x2)] [B r] []:=by
 refine fB Tryz.func85 (fun St W w0 v => ?_)
 refine sR ?_
 refine a_box ?_
 refine a_box ?_
 refine a_as ?_
 refine rN ?_
 refine sR ?_
 refine a_mv ?_
 refine a_lenr ?_
 refine a_ldp ?_
 obtain ⟨r1,hr1,h⟩:=bd h
 refine cA Tryz.call122 (t_spec_l23Count _ _ hr1) ?_
 refine a_eql ?_
 refine a_mv ?_
 refine RW.cases 12 _ rfl (fun hc => ?_) (fun hc => ?_)
 have h:=cT hc h
 refine g_ldp ?_
 refine g_mv ?_
 obtain ⟨r2,hr2,h⟩:=bd h
 refine RW.cons (IxOk.guard 5 true 12 (x_call (xs:=[.tmp 13,.tmp 14]) Tryz.call123 (t_spec_l21Vectors _ _ _ hr2) ⟨(agC _ rfl rfl rfl),⟨(agC _ rfl rfl rfl),trivial⟩⟩ (resC (f:=B) inferInstance resN) rfl)) ?_
 refine a_pick ?_
 refine a_as ?_
 refine rN ?_
 refine CW.ret ?_
 obtain rfl:=sI h
 exact rT
 have h:=cF hc h
 refine sk2 ?_
 refine sk2 ?_
 refine sk2 ?_
 refine a_pick ?_
 refine a_as ?_
 refine rN ?_
 refine CW.ret ?_
 obtain rfl:=sI h
 exact rT
theorem t_spec_l23Zero (x0:Sl23Rules) (r:Sl23Pair) (h:f_spec_l23Zero x0 = some r):FnC Tryz.prog 148 [T.agg [qPr x0.p,qModule x0.m,T.ro (lM x0.tails)]] [eSl23Pair r] []:=by
 refine fB Tryz.func148 (fun St W w0 v => ?_)
 refine sR ?_
 refine a_box ?_
 refine a_alloc ?_
 refine rN ?_
 refine sR ?_
 refine a_as ?_
 refine rN ?_
 refine CW.seq ?_
 refine sR ?_
 refine a_fa ?_
 refine a_ld ?_
 refine a_lenr ?_
 refine a_gtr ?_
 refine rN ?_
 refine cn h (fun hc h => ?_) (fun hc h => ?_)
 refine CW.region ?_
 refine a_fa ?_
 refine a_ld ?_
 obtain ⟨v1,hv1,h⟩:=bd h
 refine a_ixr ?_
 refine a_ldr ?_
 refine a_lenr ?_
 refine a_as ?_
 refine rN ?_
 refine CW.seq ?_
 obtain ⟨m2,hm2,h⟩:=bd h
 obtain ⟨m3,hm3,h⟩:=bd h
 refine CW.dk ?_
 refine d_fa [(1,_)] ?_
 refine dG [(13,_),(1,_)] [([(14,some (T.addr 1 [0,0,0]))],[(14,0)])] ⟨rfl,rfl,trivial⟩ (fun E h => IxOk.opE (x_faa fld_33_0 h.1 h.2.1 rfl rfl rfl rfl) rfl) ?_
 refine d_ld [(14,_),(1,_)] ?_
 refine d_lenr [(15,_)] ?_
 refine dG [(16,_)] [([(17,some (L 1 I (List.replicate m2 (0:Int))))],[(17,0)])] ⟨rfl,trivial⟩ (fun E h => IxOk.opE (x_makeL (f:=I) (z:=0) elt_22 (rfl) hm2 h.1 h.1 rfl) rfl) ?_
 refine d_mv [(3,_)] ?_
 refine dG [(18,_)] [([(19,some (L 1 I (List.replicate m3 (0:Int))))],[(19,0)])] ⟨rfl,trivial⟩ (fun E h => IxOk.opE (x_makeL (f:=I) (z:=0) elt_22 (rfl) hm3 h.1 h.1 rfl) rfl) ?_
 refine dG [(17,_),(19,_)] [([(20,some (T.agg [L 1 I (List.replicate m2 (0:Int)),L 1 I (List.replicate m3 (0:Int))])),(17,some (T.same 20 [0])),(19,some (T.same 20 [1]))],[(20,0),(17,1),(19,1)])] ⟨rfl,rfl,trivial⟩ (fun E h => IxOk.opE (x_build bld_150 [(0,.tmp 17),(1,.tmp 19)] [(0,.slot 17 (L 1 I (List.replicate m2 (0:Int)))),(1,.slot 19 (L 1 I (List.replicate m3 (0:Int))))] [.slot 17 (L 1 I (List.replicate m2 (0:Int))),.slot 19 (L 1 I (List.replicate m3 (0:Int)))] (pkS h.1 (clean_of (cleanL (Enc.clean (f:=I)))) rfl (pkS h.2.1 (clean_of (cleanL (Enc.clean (f:=I)))) rfl pkN)) (bqC (.slot _ _) (bqC (.slot _ _) bqN)) rfl) rfl) ?_
 refine dG [(2,_),(20,_)] [([(2,some (T.ptr (T.agg [L 1 I (List.replicate m2 (0:Int)),L 1 I (List.replicate m3 (0:Int))]))),(20,some (T.agg [T.same 2 [0,0],T.same 2 [1,0]]))],[(2,1),(20,1)])] ⟨rfl,rfl,trivial⟩ (fun E h => IxOk.opE (x_stp inf_150 rfl (locB h.1 rfl) h.1 rfl rfl h.2.1 (clean_of (cleanA ⟨(cleanL (Enc.clean (f:=I))),(cleanL (Enc.clean (f:=I))),trivial⟩)) rfl) rfl) ?_
 refine dNA mixedP ?_
 refine nA ?_
 refine CW.ret ?_
 obtain rfl:=sI h
 exact ⟨_,Ghost.refl,⟨.inl rfl,[(2,[0],T.agg [L 1 I (List.replicate m2 (0:Int)),L 1 I (List.replicate m3 (0:Int))])],⟨⟨rfl,rfl,rfl,(var_150.h _ rfl rfl).h⟩,trivial⟩,rfl,(by simp),(by simp),trivial⟩⟩
 refine CW.skip ?_
 refine nA ?_
 refine CW.seq ?_
 obtain ⟨m4,hm4,h⟩:=bd h
 obtain ⟨m5,hm5,h⟩:=bd h
 refine CW.dk ?_
 refine d_fa [(1,_)] ?_
 refine dG [(13,_),(1,_)] [([(14,some (T.addr 1 [0,0,0]))],[(14,0)])] ⟨rfl,rfl,trivial⟩ (fun E h => IxOk.opE (x_faa fld_33_0 h.1 h.2.1 rfl rfl rfl rfl) rfl) ?_
 refine d_ld [(14,_),(1,_)] ?_
 refine d_lenr [(15,_)] ?_
 refine dG [(16,_)] [([(17,some (L 1 I (List.replicate m4 (0:Int))))],[(17,0)])] ⟨rfl,trivial⟩ (fun E h => IxOk.opE (x_makeL (f:=I) (z:=0) elt_22 (rfl) hm4 h.1 h.1 rfl) rfl) ?_
 refine d_mv [(3,_)] ?_
 refine dG [(18,_)] [([(19,some (L 1 I (List.replicate m5 (0:Int))))],[(19,0)])] ⟨rfl,trivial⟩ (fun E h => IxOk.opE (x_makeL (f:=I) (z:=0) elt_22 (rfl) hm5 h.1 h.1 rfl) rfl) ?_
 refine dG [(17,_),(19,_)] [([(20,some (T.agg [L 1 I (List.replicate m4 (0:Int)),L 1 I (List.replicate m5 (0:Int))])),(17,some (T.same 20 [0])),(19,some (T.same 20 [1]))],[(20,0),(17,1),(19,1)])] ⟨rfl,rfl,trivial⟩ (fun E h => IxOk.opE (x_build bld_150 [(0,.tmp 17),(1,.tmp 19)] [(0,.slot 17 (L 1 I (List.replicate m4 (0:Int)))),(1,.slot 19 (L 1 I (List.replicate m5 (0:Int))))] [.slot 17 (L 1 I (List.replicate m4 (0:Int))),.slot 19 (L 1 I (List.replicate m5 (0:Int)))] (pkS h.1 (clean_of (cleanL (Enc.clean (f:=I)))) rfl (pkS h.2.1 (clean_of (cleanL (Enc.clean (f:=I)))) rfl pkN)) (bqC (.slot _ _) (bqC (.slot _ _) bqN)) rfl) rfl) ?_
 refine dG [(2,_),(20,_)] [([(2,some (T.ptr (T.agg [L 1 I (List.replicate m4 (0:Int)),L 1 I (List.replicate m5 (0:Int))]))),(20,some (T.agg [T.same 2 [0,0],T.same 2 [1,0]]))],[(2,1),(20,1)])] ⟨rfl,rfl,trivial⟩ (fun E h => IxOk.opE (x_stp inf_150 rfl (locB h.1 rfl) h.1 rfl rfl h.2.1 (clean_of (cleanA ⟨(cleanL (Enc.clean (f:=I))),(cleanL (Enc.clean (f:=I))),trivial⟩)) rfl) rfl) ?_
 refine dNA mixedP ?_
 refine nA ?_
 refine CW.ret ?_
 obtain rfl:=sI h
 exact ⟨_,Ghost.refl,⟨.inl rfl,[(2,[0],T.agg [L 1 I (List.replicate m4 (0:Int)),L 1 I (List.replicate m5 (0:Int))])],⟨⟨rfl,rfl,rfl,(var_150.h _ rfl rfl).h⟩,trivial⟩,rfl,(by simp),(by simp),trivial⟩⟩
theorem t_spec_l23Place (x0:Int) (x1:Int) (x2:Int) (r:Int) (h:f_spec_l23Place x0 x1 x2 = some r):FnC Tryz.prog 126 [I x0,I x1,I x2] [I r] []:=by
 refine fB Tryz.func126 (fun St W w0 v => ?_)
 refine sR ?_
 refine a_as ?_
 refine rN ?_
 refine sR ?_
 refine a_mv ?_
 refine a_mv ?_
 refine a_mv ?_
 obtain ⟨v1,hv1,h⟩:=bd h
 refine a_mul ?_
 obtain ⟨v2,hv2,h⟩:=bd h
 refine a_add ?_
 refine a_mv ?_
 refine a_mv ?_
 obtain ⟨v3,hv3,h⟩:=bd h
 refine a_add ?_
 obtain ⟨v4,hv4,h⟩:=bd h
 refine a_mul ?_
 obtain ⟨v5,hv5,h⟩:=bd h
 refine a_quo ?_
 obtain ⟨v6,hv6,h⟩:=bd h
 refine a_sub ?_
 refine a_mv ?_
 obtain ⟨v7,hv7,h⟩:=bd h
 refine a_add ?_
 refine a_mv ?_
 obtain ⟨v8,hv8,h⟩:=bd h
 refine a_sub ?_
 obtain ⟨v9,hv9,h⟩:=bd h
 refine a_sub ?_
 refine a_as ?_
 refine rN ?_
 refine CW.ret ?_
 obtain rfl:=sI h
 exact rT
theorem t_spec_l23Conj (x0:Sl23Rules) (x1:Int) (x2:Int) (r:Sl23Pair) (h:f_spec_l23Conj x0 x1 x2 = some r):FnC Tryz.prog 150 [T.agg [qPr x0.p,qModule x0.m,T.ro (lM x0.tails)],I x1,I x2] [(fun x => T.agg [(Ro lV) x.x,(Ro lV) x.v]) r] []:=by
 refine fB Tryz.func150 (fun St W w0 v => ?_)
 refine sR ?_
 refine a_box ?_
 refine a_alloc ?_
 refine rN ?_
 refine CW.seq ?_
 obtain ⟨v1,hv1,h⟩:=bd h
 obtain ⟨v2,hv2,h⟩:=bd h
 obtain ⟨v3,hv3,h⟩:=bd h
 obtain ⟨v4,hv4,h⟩:=bd h
 obtain ⟨r5,hr5,h⟩:=bd h
 obtain ⟨v6,hv6,h⟩:=bd h
 refine CW.dk ?_
 refine d_fa [(3,_)] ?_
 refine dG [(7,_),(3,_)] [([(8,some (T.addr 3 [2,0,0]))],[(8,0)])] ⟨rfl,rfl,trivial⟩ (fun E h => IxOk.opE (x_faa fld_33_2 h.1 h.2.1 rfl rfl rfl rfl) rfl) ?_
 refine d_ld [(8,_),(3,_)] ?_
 refine d_mv [(1,_)] ?_
 refine d_ixr [(9,_),(10,_)] ?_
 refine d_ldr [(11,_)] ?_
 refine d_mv [(2,_)] ?_
 refine d_mv [(1,_)] ?_
 refine d_sub [(13,_),(14,_)] ?_
 refine d_sub [(15,_)] ?_
 refine d_ixr [(12,_),(16,_)] ?_
 refine d_ldr [(17,_)] ?_
 refine d_fa [(3,_)] ?_
 refine d_ld [(19,_),(3,_)] ?_
 refine d_fa [(3,_)] ?_
 refine dG [(21,_),(3,_)] [([(22,some (T.addr 3 [0,0,0]))],[(22,0)])] ⟨rfl,rfl,trivial⟩ (fun E h => IxOk.opE (x_faa fld_33_0 h.1 h.2.1 rfl rfl rfl rfl) rfl) ?_
 refine d_ld [(22,_),(3,_)] ?_
 refine d_lenr [(23,_)] ?_
 refine d_mv [(1,_)] ?_
 refine d_mv [(2,_)] ?_
 refine dC [(24,_),(25,_),(26,_)] Tryz.call126 (t_spec_l23Place _ _ _ _ hr5) ?_
 refine d_ixr [(20,_),(27,_)] ?_
 refine d_ldr [(28,_)] ?_
 refine dG [(18,_),(29,_)] [([(30,some (T.agg [T.ro (lV v4),T.ro (lV v6)]))],[(30,0)])] ⟨rfl,rfl,trivial⟩ (fun E h => IxOk.opE (x_build bld_150 [(0,.tmp 18),(1,.tmp 29)] [(0,.slot 18 (T.ro (lV v4))),(1,.slot 29 (T.ro (lV v6)))] [.slot 18 (T.ro (lV v4)),.slot 29 (T.ro (lV v6))] (pkS h.1 (clean_of trivial) rfl (pkS h.2.1 (clean_of trivial) rfl pkN)) (bqC (.slot _ _) (bqC (.slot _ _) bqN)) rfl) rfl) ?_
 refine dG [(6,_),(30,_)] [([(6,some (T.ptr (T.agg [T.ro (lV v4),T.ro (lV v6)]))),(30,some (T.agg [T.ro (lV v4),T.ro (lV v6)]))],[(6,1),(30,1)])] ⟨rfl,rfl,trivial⟩ (fun E h => IxOk.opE (x_stp inf_150 rfl (locB h.1 rfl) h.1 rfl rfl h.2.1 (clean_of (cleanA ⟨trivial,trivial,trivial⟩)) rfl) rfl) ?_
 refine dN ([] :: [0] :: [0,1] :: [] :: [0,1,2,3] :: [0,1,2,3,4] :: [] :: [] :: [6,7] :: [6,7,8] :: [0,1,2,3,4,5,6,7,8,9] :: [0,1,2,3,4,5,6,7,8,9,10] :: [] :: [12] :: [] :: [14] :: [14,15] :: [14,15,16] :: [] :: [] :: [14,15,16,17,18,19] :: [12,13,14,15,16,17,18,19,20] :: [12,13,14,15,16,17,18,19,20,21] :: [0,1,2,3,4,5,6,7,8,9,10,11,12,13,14,15,16,17,18,19,20,21,22] :: [0,1,2,3,4,5,6,7,8,9,10,11,12,13,14,15,16,17,18,19,20,21,22,23] :: []) mixedP ?_
 refine nA ?_
 refine CW.ret ?_
 obtain rfl:=sI h
 exact ⟨_,Ghost.refl,⟨.inl rfl,[(6,[0],T.agg [T.ro (lV v4),T.ro (lV v6)])],⟨⟨rfl,rfl,rfl,(var_150.h _ rfl rfl).h⟩,trivial⟩,rfl,(by simp),(by simp),trivial⟩⟩
theorem t_spec_l23Move (x0:SModule) (x1:List Int) (x2:Int) (r:(List Int)) (h:f_spec_l23Move x0 x1 x2 = some r):FnC Tryz.prog 160 [qModule x0,T.ro (lV x1),I x2] [lV r] []:=by
 refine fB Tryz.func160 (fun St W w0 v => ?_)
 refine sR ?_
 refine a_box ?_
 refine oP (x_nil 1 rfl) ?_
 refine rN ?_
 refine sR ?_
 refine oP (x_bs0 elt_22 rfl) ?_
 refine a_as ?_
 refine RW.ghost (Ghost.tr 7 9 _ rfl rfl (clean_of trivial) rfl) ?_
 refine rN ?_
 refine CW.seq ?_
 refine sR ?_
 refine a_as ?_
 refine rN ?_
 refine CW.block ?_
 obtain ⟨r7,hr7,h⟩:=bd h
 refine CW.lp (s:=([],0)) (l1_spec_l23Move x0 x1 x2) (fun s1:(List Int) × Int => envL [(1,T.ro (lV x1)),(2,I x2),(3,T.ptr (qModule x0)),(7,L 1 I s1.1),(8,I s1.2)]) (fun (r7:(List Int)) e E => e = .exit 0 ∧ Ghost ⟨St,W,w0,Tryz.f160.ntmps⟩ E (envL [(7,L 1 I r7)])) (.has ⟨rfl,rfl,rfl,rfl,rfl,trivial⟩) (fun s1 x h => ?_) hr7 (fun e E hq => ?_)
 refine CW.seq ?_
 refine sR ?_
 refine a_mv ?_
 refine a_mv ?_
 refine a_lenr ?_
 refine a_lss ?_
 refine rN ?_
 refine cn h (fun hc h => ?_) (fun hc h => ?_)
 refine CW.skip ?_
 refine nA ?_
 refine CW.seq ?_
 refine CW.block ?_
 obtain ⟨v1,hv1,h⟩:=bd h
 obtain ⟨v2,hv2,h⟩:=bd h
 obtain ⟨v3,hv3,h⟩:=bd h
 obtain ⟨r4,hr4,h⟩:=bd h
 obtain ⟨v5,hv5,h⟩:=bd h
 refine CW.dk ?_
 refine d_mv [(7,_)] ?_
 refine d_fa [(3,_)] ?_
 refine d_ld [(19,_),(3,_)] ?_
 refine d_mv [(1,_)] ?_
 refine d_mv [(8,_)] ?_
 refine d_mv [(8,_)] ?_
 refine d_fa [(3,_)] ?_
 refine d_ld [(24,_),(3,_)] ?_
 refine dG [(23,_),(25,_)] [([(26,some (I v1))],[(26,0)])] ⟨rfl,rfl,trivial⟩ (fun E h => IxOk.opE (x_add hv1 h.1 h.2.1 rfl) rfl) ?_
 refine dG [(21,_),(22,_),(26,_)] [([(27,some (T.ro (lV v2)))],[(27,0)])] ⟨rfl,rfl,rfl,trivial⟩ (fun E h => IxOk.opE (x_slr row_22 hv2 (locB h.1 rfl) (optS (sliceO_lo hv2) h.2.1) (optS (sliceO_hi hv2) h.2.2.1) rfl) rfl) ?_
 refine d_fa [(3,_)] ?_
 refine d_ld [(28,_),(3,_)] ?_
 refine d_mv [(2,_)] ?_
 refine d_ixr [(29,_),(30,_)] ?_
 refine d_ldr [(31,_)] ?_
 refine d_fa [(3,_)] ?_
 refine d_ld [(33,_),(3,_)] ?_
 refine dC [(20,_),(27,_),(32,_),(34,_)] Tryz.call118 (t_spec_l02Times _ _ _ _ _ hr4) ?_
 refine dG [(18,T.same 7 []),(7,L 1 I s1.1),(35,L 1 I r4)] [([(18,some (L 1 I s1.1)),(7,some (T.same 18 []))],[(18,1),(7,1)]),([(36,some (L 1 I v5)),(18,some T.any)],[(36,0),(18,1)])] ⟨rfl,rfl,rfl,trivial⟩ (fun E h => IxOk.gh (Ghost.tr 18 7 _ h.1 h.2.1 (clean_of (cleanL (Enc.clean (f:=I)))) rfl) <| IxOk.opE (x_appc (f:=I) elt_22 (fun _ => rfl) hv5 rfl (locB (keepE h.2.2.1) rfl) rfl) rfl) ?_
 refine d_as [(36,_)] ?_
 refine dNA mixedP ?_
 refine nB ?_
 refine nA ?_
 refine CW.to [(1,T.ro (lV x1)),(2,I x2),(3,T.ptr (qModule x0)),(7,T.same 36 []),(8,I s1.2),(36,L 1 I v5)] ⟨rfl,rfl,rfl,rfl,rfl,rfl,trivial⟩ ?_
 refine CW.region ?_
 refine a_mv ?_
 refine a_fa ?_
 refine a_ld ?_
 obtain ⟨v6,hv6,h⟩:=bd h
 refine oP (x_add hv6 rfl rfl rfl) ?_
 refine a_as ?_
 refine RW.ghost (Ghost.tr 7 36 _ rfl rfl (clean_of (cleanL (Enc.clean (f:=I)))) rfl) ?_
 refine RW.nil ?_
 exact eN h
 refine CW.exit ?_
 refine xA ?_
 exact eX h
 obtain ⟨rfl,hg⟩:=hq
 refine xB ?_
 refine nA ?_
 refine CW.ghost hg ?_
 refine sR ?_
 refine a_mv ?_
 refine a_as ?_
 refine RW.ghost (Ghost.tr 6 7 _ rfl rfl (clean_of (cleanL (Enc.clean (f:=I)))) rfl) ?_
 refine rN ?_
 refine CW.ret ?_
 obtain rfl:=sI h
 exact rT
theorem t_spec_l23Power (x0:Sl23Rules) (x1:Int) (r:Sl23Pair) (h:f_spec_l23Power x0 x1 = some r):FnC Tryz.prog 153 [T.agg [qPr x0.p,qModule x0.m,T.ro (lM x0.tails)],I x1] [(fun x => T.agg [(Ro lV) x.x,(Ro lV) x.v]) r] []:=by
 refine fB Tryz.func153 (fun St W w0 v => ?_)
 refine sR ?_
 refine a_box ?_
 refine a_alloc ?_
 refine rN ?_
 refine CW.seq ?_
 obtain ⟨v1,hv1,h⟩:=bd h
 obtain ⟨v2,hv2,h⟩:=bd h
 refine CW.dk ?_
 refine d_fa [(2,_)] ?_
 refine dG [(5,_),(2,_)] [([(6,some (T.addr 2 [1,0,0]))],[(6,0)])] ⟨rfl,rfl,trivial⟩ (fun E h => IxOk.opE (x_faa fld_33_1 h.1 h.2.1 rfl rfl rfl rfl) rfl) ?_
 refine d_ld [(6,_),(2,_)] ?_
 refine d_mv [(1,_)] ?_
 refine d_ixr [(7,_),(8,_)] ?_
 refine d_ldr [(9,_)] ?_
 refine d_fa [(2,_)] ?_
 refine d_ld [(11,_),(2,_)] ?_
 refine d_mv [(1,_)] ?_
 refine d_ixr [(12,_),(13,_)] ?_
 refine d_ldr [(14,_)] ?_
 refine dG [(10,_),(15,_)] [([(16,some (T.agg [T.ro (lV v1),T.ro (lV v2)]))],[(16,0)])] ⟨rfl,rfl,trivial⟩ (fun E h => IxOk.opE (x_build bld_150 [(0,.tmp 10),(1,.tmp 15)] [(0,.slot 10 (T.ro (lV v1))),(1,.slot 15 (T.ro (lV v2)))] [.slot 10 (T.ro (lV v1)),.slot 15 (T.ro (lV v2))] (pkS h.1 (clean_of trivial) rfl (pkS h.2.1 (clean_of trivial) rfl pkN)) (bqC (.slot _ _) (bqC (.slot _ _) bqN)) rfl) rfl) ?_
 refine dG [(4,_),(16,_)] [([(4,some (T.ptr (T.agg [T.ro (lV v1),T.ro (lV v2)]))),(16,some (T.agg [T.ro (lV v1),T.ro (lV v2)]))],[(4,1),(16,1)])] ⟨rfl,rfl,trivial⟩ (fun E h => IxOk.opE (x_stp inf_150 rfl (locB h.1 rfl) h.1 rfl rfl h.2.1 (clean_of (cleanA ⟨trivial,trivial,trivial⟩)) rfl) rfl) ?_
 refine dNA mixedP ?_
 refine nA ?_
 refine CW.ret ?_
 obtain rfl:=sI h
 exact ⟨_,Ghost.refl,⟨.inl rfl,[(4,[0],T.agg [T.ro (lV v1),T.ro (lV v2)])],⟨⟨rfl,rfl,rfl,(var_150.h _ rfl rfl).h⟩,trivial⟩,rfl,(by simp),(by simp),trivial⟩⟩
theorem tb_spec_l23Image {g_spec_l23At:Sl23Rules → Int → Sl23Pair → Sl23Pair → Option Sl23Pair} (H_spec_l23At:∀ (x0:Sl23Rules) (x1:Int) (x2:Sl23Pair) (x3:Sl23Pair) r,g_spec_l23At x0 x1 x2 x3 = some r → FnC Tryz.prog 149 [T.agg [qPr x0.p,qModule x0.m,T.ro (lM x0.tails)],I x1,ql23Pair x2,ql23Pair x3] [eSl23Pair r] []) (x0:Sl23Rules) (x1:Int) (x2:Sl23Pair) (r:Sl23Pair) (h:b_spec_l23Image g_spec_l23At x0 x1 x2 = some r):FnC Tryz.prog 152 [T.agg [qPr x0.p,qModule x0.m,T.ro (lM x0.tails)],I x1,ql23Pair x2] [eSl23Pair r] []:=by
 refine fB Tryz.func152 (fun St W w0 v => ?_)
 refine sR ?_
 refine a_box ?_
 refine a_box ?_
 refine a_alloc ?_
 refine rN ?_
 refine sR ?_
 refine a_ldp ?_
 obtain ⟨r1,hr1,h⟩:=bd h
 refine cA Tryz.call148 (t_spec_l23Zero _ _ hr1) ?_
 refine a_alloc ?_
 refine oP (x_stp inf_150 rfl (locB rfl rfl) rfl rfl rfl rfl (clean_of (cleanA ⟨(cleanL (Enc.clean (f:=I))),(cleanL (Enc.clean (f:=I))),trivial⟩)) rfl) ?_
 refine rN ?_
 refine CW.seq ?_
 refine sR ?_
 refine a_mv ?_
 obtain ⟨v2,hv2,h⟩:=bd h
 refine a_add ?_
 refine a_as ?_
 refine rN ?_
 refine CW.block ?_
 obtain ⟨r10,hr10,h⟩:=bd h
 refine CW.lp (s:=(r1.x,r1.v,v2)) (l2_spec_l23Image g_spec_l23At x0 x1 x2) (fun s5:(List Int) × (List Int) × Int => envL [(1,I x1),(3,T.ptr (T.agg [qPr x0.p,qModule x0.m,T.ro (lM x0.tails)])),(5,T.ptr (ql23Pair x2)),(6,T.ptr (T.agg [L 1 I [],L 1 I []])),(7,T.ptr (T.agg [L 1 I s5.1,L 1 I s5.2.1])),(8,I s5.2.2)]) (fun (r10:((List Int) × (List Int))) e E => e = .exit 0 ∧ Ghost ⟨St,W,w0,Tryz.f152.ntmps⟩ E (envL [(1,I x1),(3,T.ptr (T.agg [qPr x0.p,qModule x0.m,T.ro (lM x0.tails)])),(5,T.ptr (ql23Pair x2)),(6,T.ptr (T.agg [L 1 I [],L 1 I []])),(7,T.ptr (T.agg [L 1 I r10.1,L 1 I r10.2]))])) (.has ⟨rfl,rfl,rfl,rfl,rfl,rfl,trivial⟩) (fun s5 x h => ?_) hr10 (fun e E hq => ?_)
 refine CW.seq ?_
 refine sR ?_
 refine a_mv ?_
 refine a_fa ?_
 refine a_ld ?_
 refine a_lenr ?_
 refine a_lss ?_
 refine rN ?_
 refine cn h (fun hc h => ?_) (fun hc h => ?_)
 refine CW.skip ?_
 refine nA ?_
 refine CW.seq ?_
 refine CW.block ?_
 refine sR ?_
 refine a_as ?_
 refine rN ?_
 refine CW.block ?_
 obtain ⟨r8,hr8,h⟩:=bd h
 refine CW.lp (s:=(s5.1,s5.2.1,0)) (l1_spec_l23Image g_spec_l23At x0 x1 x2 s5) (fun s6:(List Int) × (List Int) × Int => envL [(1,I x1),(3,T.ptr (T.agg [qPr x0.p,qModule x0.m,T.ro (lM x0.tails)])),(5,T.ptr (ql23Pair x2)),(6,T.ptr (T.agg [L 1 I [],L 1 I []])),(7,T.ptr (T.agg [L 1 I s6.1,L 1 I s6.2.1])),(8,I s5.2.2),(9,I s6.2.2)]) (fun (r8:((List Int) × (List Int))) e E => e = .exit 2 ∧ Ghost ⟨St,W,w0,Tryz.f152.ntmps⟩ E (envL [(1,I x1),(3,T.ptr (T.agg [qPr x0.p,qModule x0.m,T.ro (lM x0.tails)])),(5,T.ptr (ql23Pair x2)),(6,T.ptr (T.agg [L 1 I [],L 1 I []])),(7,T.ptr (T.agg [L 1 I r8.1,L 1 I r8.2])),(8,I s5.2.2)])) (.has ⟨rfl,rfl,rfl,rfl,rfl,rfl,rfl,trivial⟩) (fun s6 x h => ?_) hr8 (fun e E hq => ?_)
 refine CW.seq ?_
 refine sR ?_
 refine a_mv ?_
 refine a_fa ?_
 refine a_ld ?_
 refine a_mv ?_
 obtain ⟨v3,hv3,h⟩:=bd h
 refine a_ixr ?_
 refine a_ldr ?_
 refine a_lss ?_
 refine rN ?_
 refine cn h (fun hc h => ?_) (fun hc h => ?_)
 refine CW.skip ?_
 refine nA ?_
 refine CW.seq ?_
 refine CW.block ?_
 obtain ⟨v4,hv4,h⟩:=bd h
 obtain ⟨r5,hr5,h⟩:=bd h
 obtain ⟨r6,hr6,h⟩:=bd h
 refine CW.dk ?_
 refine d_ldp [(3,_)] ?_
 refine d_mv [(1,_)] ?_
 refine d_add [(31,_)] ?_
 refine d_ldp [(7,_)] ?_
 refine d_ldp [(3,_)] ?_
 refine d_mv [(1,_)] ?_
 refine d_mv [(8,_)] ?_
 refine dG [(34,_),(35,_),(36,_)] [([(37,some (ql23Pair r5))],[(37,0)])] ⟨rfl,rfl,rfl,trivial⟩ (fun E h => IxOk.opE (x_callF (xs:=[.tmp 34,.tmp 35,.tmp 36]) Tryz.call150 (t_spec_l23Conj _ _ _ _ hr5) (afC h.1 rfl (afC h.2.1 rfl (afC h.2.2.1 rfl afN))) rfl ⟨(cleanA ⟨trivial,trivial,trivial⟩),trivial⟩ rfl rfl) rfl) ?_
 refine dG [(30,_),(32,_),(33,_),(7,_),(37,_)] [([(38,some (eSl23Pair r6))],[(38,0)])] ⟨rfl,rfl,rfl,rfl,rfl,trivial⟩ (fun E h => IxOk.opE (x_call (xs:=[.tmp 30,.tmp 32,.tmp 33,.tmp 37]) Tryz.call149 (H_spec_l23At _ _ _ _ _ hr6) ⟨(agC _ h.1 rfl rfl),⟨(agC _ h.2.1 rfl rfl),⟨(agC _ h.2.2.1 (cloA (cloC (cloS h.2.2.2.1 rfl inferInstance) (cloC (cloS h.2.2.2.1 rfl inferInstance) cloN))) rfl),⟨(agC _ h.2.2.2.2.1 rfl rfl),trivial⟩⟩⟩⟩ (resC (f:=eSl23Pair) inferInstance resN) rfl) rfl) ?_
 refine dG [(7,_),(38,_)] [([(7,some (T.ptr (eSl23Pair r6))),(38,some (T.agg [T.same 7 [0,0],T.same 7 [1,0]]))],[(7,1),(38,1)])] ⟨rfl,rfl,trivial⟩ (fun E h => IxOk.opE (x_stp inf_150 rfl (locB h.1 rfl) h.1 rfl rfl h.2.1 (clean_of (cleanA ⟨(cleanL (Enc.clean (f:=I))),(cleanL (Enc.clean (f:=I))),trivial⟩)) rfl) rfl) ?_
 refine dNA mixedP ?_
 refine nB ?_
 refine nA ?_
 refine CW.region ?_
 refine a_mv ?_
 obtain ⟨v7,hv7,h⟩:=bd h
 refine a_add ?_
 refine a_as ?_
 refine RW.nil ?_
 exact eN h
 refine CW.exit ?_
 refine xA ?_
 exact eX h
 obtain ⟨rfl,hg⟩:=hq
 refine xB ?_
 refine nB ?_
 refine nA ?_
 refine CW.ghost hg ?_
 refine CW.region ?_
 refine a_mv ?_
 obtain ⟨v9,hv9,h⟩:=bd h
 refine a_add ?_
 refine a_as ?_
 refine RW.nil ?_
 exact eN h
 refine CW.exit ?_
 refine xA ?_
 exact eX h
 obtain ⟨rfl,hg⟩:=hq
 refine xB ?_
 refine nA ?_
 refine CW.ghost hg ?_
 refine CW.seq ?_
 obtain ⟨r11,hr11,h⟩:=bd h
 obtain ⟨r12,hr12,h⟩:=bd h
 refine CW.dk ?_
 refine d_fa [(7,_)] ?_
 refine d_ld [(39,_),(7,_)] ?_
 refine d_fa [(3,_)] ?_
 refine dG [(41,_),(3,_)] [([(42,some (T.addr 3 [0,1,0]))],[(42,0)])] ⟨rfl,rfl,trivial⟩ (fun E h => IxOk.opE (x_faa fld_35_0 h.1 h.2.1 rfl rfl rfl rfl) rfl) ?_
 refine d_ld [(42,_),(3,_)] ?_
 refine d_fa [(7,_)] ?_
 refine d_ld [(44,_),(7,_)] ?_
 refine d_fa [(3,_)] ?_
 refine d_ld [(46,_),(3,_)] ?_
 refine d_fa [(5,_)] ?_
 refine d_ld [(48,_),(5,_)] ?_
 refine d_mv [(1,_)] ?_
 refine dC [(47,_),(49,_),(50,_)] Tryz.call160 (t_spec_l23Move _ _ _ _ hr11) ?_
 refine dC [(43,_),(45,_),(7,_),(51,_)] Tryz.call78 (t_spec_l02Add _ _ _ _ _ hr12) ?_
 refine dG [(40,T.same 7 [0,0]),(7,T.ptr (T.agg [L 1 I r10.1,L 1 I r10.2])),(52,L 1 I r12)] [([(40,some (L 1 I r10.1)),(7,some (T.ptr (T.agg [T.any,L 1 I r10.2])))],[(40,1),(7,3)]),([(53,some (T.agg [L 1 I r10.1,L 1 I r12])),(40,some (T.same 53 [0])),(52,some (T.same 53 [1]))],[(53,0),(40,1),(52,1)])] ⟨rfl,rfl,rfl,trivial⟩ (fun E h => IxOk.gh (Ghost.trq 40 7 [0,0] h.1 h.2.1 rfl (clean_of (cleanL (Enc.clean (f:=I)))) rfl) <| IxOk.opE (x_build bld_150 [(0,.tmp 40),(1,.tmp 52)] [(0,.slot 40 (L 1 I r10.1)),(1,.slot 52 (L 1 I r12))] [.slot 40 (L 1 I r10.1),.slot 52 (L 1 I r12)] (pkS rfl (clean_of (cleanL (Enc.clean (f:=I)))) rfl (pkS (keepE h.2.2.1) (clean_of (cleanL (Enc.clean (f:=I)))) rfl pkN)) (bqC (.slot _ _) (bqC (.slot _ _) bqN)) rfl) rfl) ?_
 refine dG [(6,_),(53,_)] [([(6,some (T.ptr (T.agg [L 1 I r10.1,L 1 I r12]))),(53,some (T.agg [T.same 6 [0,0],T.same 6 [1,0]]))],[(6,1),(53,1)])] ⟨rfl,rfl,trivial⟩ (fun E h => IxOk.opE (x_stp inf_150 rfl (locB h.1 rfl) h.1 rfl rfl h.2.1 (clean_of (cleanA ⟨(cleanL (Enc.clean (f:=I))),(cleanL (Enc.clean (f:=I))),trivial⟩)) rfl) rfl) ?_
 refine dNA mixedP ?_
 refine nA ?_
 refine CW.ret ?_
 obtain rfl:=sI h
 exact ⟨_,Ghost.refl,⟨.inl rfl,[(6,[0],T.agg [L 1 I r10.1,L 1 I r12])],⟨⟨rfl,rfl,rfl,(var_150.h _ rfl rfl).h⟩,trivial⟩,rfl,(by simp),(by simp),trivial⟩⟩
theorem tb_spec_l23At {g_spec_l23Image:Sl23Rules → Int → Sl23Pair → Option Sl23Pair} (H_spec_l23Image:∀ (x0:Sl23Rules) (x1:Int) (x2:Sl23Pair) r,g_spec_l23Image x0 x1 x2 = some r → FnC Tryz.prog 152 [T.agg [qPr x0.p,qModule x0.m,T.ro (lM x0.tails)],I x1,ql23Pair x2] [eSl23Pair r] []) {g_spec_l23At:Sl23Rules → Int → Sl23Pair → Sl23Pair → Option Sl23Pair} (H_spec_l23At:∀ (x0:Sl23Rules) (x1:Int) (x2:Sl23Pair) (x3:Sl23Pair) r,g_spec_l23At x0 x1 x2 x3 = some r → FnC Tryz.prog 149 [T.agg [qPr x0.p,qModule x0.m,T.ro (lM x0.tails)],I x1,ql23Pair x2,ql23Pair x3] [eSl23Pair r] []) (x0:Sl23Rules) (x1:Int) (x2:Sl23Pair) (x3:Sl23Pair) (r:Sl23Pair) (h:b_spec_l23At g_spec_l23Image g_spec_l23At x0 x1 x2 x3 = some r):FnC Tryz.prog 149 [T.agg [qPr x0.p,qModule x0.m,T.ro (lM x0.tails)],I x1,ql23Pair x2,ql23Pair x3] [eSl23Pair r] []:=by
 refine fB Tryz.func149 (fun St W w0 v => ?_)
 refine sR ?_
 refine a_box ?_
 refine a_box ?_
 refine a_box ?_
 refine a_alloc ?_
 refine rN ?_
 refine CW.seq ?_
 refine sR ?_
 refine a_mv ?_
 refine a_fa ?_
 refine oP (x_faa fld_33_0 rfl rfl rfl rfl rfl rfl) ?_
 refine a_ld ?_
 refine a_lenr ?_
 refine a_geq ?_
 refine rN ?_
 refine cn h (fun hc h => ?_) (fun hc h => ?_)
 refine CW.seq ?_
 obtain ⟨m1,hm1,h⟩:=bd h
 obtain ⟨r2,hr2,h⟩:=bd h
 refine CW.dk ?_
 refine d_fa [(4,_)] ?_
 refine dG [(21,_),(4,_)] [([(22,some (T.addr 4 [0,0,0]))],[(22,0)])] ⟨rfl,rfl,trivial⟩ (fun E h => IxOk.opE (x_faa fld_33_0 h.1 h.2.1 rfl rfl rfl rfl) rfl) ?_
 refine d_ld [(22,_),(4,_)] ?_
 refine d_lenr [(23,_)] ?_
 refine dG [(24,_)] [([(25,some (L 1 I (List.replicate m1 (0:Int))))],[(25,0)])] ⟨rfl,trivial⟩ (fun E h => IxOk.opE (x_makeL (f:=I) (z:=0) elt_22 (rfl) hm1 h.1 h.1 rfl) rfl) ?_
 refine d_fa [(4,_)] ?_
 refine dG [(26,_),(4,_)] [([(27,some (T.addr 4 [0,1,0]))],[(27,0)])] ⟨rfl,rfl,trivial⟩ (fun E h => IxOk.opE (x_faa fld_35_0 h.1 h.2.1 rfl rfl rfl rfl) rfl) ?_
 refine d_ld [(27,_),(4,_)] ?_
 refine d_fa [(6,_)] ?_
 refine d_ld [(29,_),(6,_)] ?_
 refine d_fa [(7,_)] ?_
 refine d_ld [(31,_),(7,_)] ?_
 refine dC [(28,_),(30,_),(32,_)] Tryz.call78 (t_spec_l02Add _ _ _ _ _ hr2) ?_
 refine dG [(25,_),(33,_)] [([(34,some (T.agg [L 1 I (List.replicate m1 (0:Int)),L 1 I r2])),(25,some (T.same 34 [0])),(33,some (T.same 34 [1]))],[(34,0),(25,1),(33,1)])] ⟨rfl,rfl,trivial⟩ (fun E h => IxOk.opE (x_build bld_150 [(0,.tmp 25),(1,.tmp 33)] [(0,.slot 25 (L 1 I (List.replicate m1 (0:Int)))),(1,.slot 33 (L 1 I r2))] [.slot 25 (L 1 I (List.replicate m1 (0:Int))),.slot 33 (L 1 I r2)] (pkS h.1 (clean_of (cleanL (Enc.clean (f:=I)))) rfl (pkS h.2.1 (clean_of (cleanL (Enc.clean (f:=I)))) rfl pkN)) (bqC (.slot _ _) (bqC (.slot _ _) bqN)) rfl) rfl) ?_
 refine dG [(8,_),(34,_)] [([(8,some (T.ptr (T.agg [L 1 I (List.replicate m1 (0:Int)),L 1 I r2]))),(34,some (T.agg [T.same 8 [0,0],T.same 8 [1,0]]))],[(8,1),(34,1)])] ⟨rfl,rfl,trivial⟩ (fun E h => IxOk.opE (x_stp inf_150 rfl (locB h.1 rfl) h.1 rfl rfl h.2.1 (clean_of (cleanA ⟨(cleanL (Enc.clean (f:=I))),(cleanL (Enc.clean (f:=I))),trivial⟩)) rfl) rfl) ?_
 refine dNA mixedP ?_
 refine nA ?_
 refine CW.ret ?_
 refine rA ?_
 obtain rfl:=sI h
 exact ⟨_,Ghost.refl,⟨.inl rfl,[(8,[0],T.agg [L 1 I (List.replicate m1 (0:Int)),L 1 I r2])],⟨⟨rfl,rfl,rfl,(var_150.h _ rfl rfl).h⟩,trivial⟩,rfl,(by simp),(by simp),trivial⟩⟩
 refine CW.skip ?_
 refine nA ?_
 refine CW.seq ?_
 obtain ⟨r3,hr3,h⟩:=bd h
 obtain ⟨r4,hr4,h⟩:=bd h
 refine CW.dk ?_
 refine d_fa [(6,_)] ?_
 refine d_ld [(35,_),(6,_)] ?_
 refine dC [(36,_)] Tryz.call115 (t_spec_l01Own _ _ hr3) ?_
 refine d_fa [(6,_)] ?_
 refine d_ld [(38,_),(6,_)] ?_
 refine dG [(37,_),(39,_)] [([(40,some (T.agg [L 1 I r3,T.ro (lV x2.v)])),(37,some (T.same 40 [0]))],[(40,0),(37,1)])] ⟨rfl,rfl,trivial⟩ (fun E h => IxOk.opE (x_build bld_150 [(0,.tmp 37),(1,.tmp 39)] [(0,.slot 37 (L 1 I r3)),(1,.slot 39 (T.ro (lV x2.v)))] [.slot 37 (L 1 I r3),.slot 39 (T.ro (lV x2.v))] (pkS h.1 (clean_of (cleanL (Enc.clean (f:=I)))) rfl (pkS h.2.1 (clean_of trivial) rfl pkN)) (bqC (.slot _ _) (bqC (.slot _ _) bqN)) rfl) rfl) ?_
 refine d_fa [(7,_)] ?_
 refine d_ld [(41,_),(7,_)] ?_
 refine dC [(42,_)] Tryz.call115 (t_spec_l01Own _ _ hr4) ?_
 refine d_fa [(7,_)] ?_
 refine d_ld [(44,_),(7,_)] ?_
 refine dG [(43,_),(45,_)] [([(46,some (T.agg [L 1 I r4,T.ro (lV x3.v)])),(43,some (T.same 46 [0]))],[(46,0),(43,1)])] ⟨rfl,rfl,trivial⟩ (fun E h => IxOk.opE (x_build bld_150 [(0,.tmp 43),(1,.tmp 45)] [(0,.slot 43 (L 1 I r4)),(1,.slot 45 (T.ro (lV x3.v)))] [.slot 43 (L 1 I r4),.slot 45 (T.ro (lV x3.v))] (pkS h.1 (clean_of (cleanL (Enc.clean (f:=I)))) rfl (pkS h.2.1 (clean_of trivial) rfl pkN)) (bqC (.slot _ _) (bqC (.slot _ _) bqN)) rfl) rfl) ?_
 refine d_alloc [] ?_
 refine d_alloc [] ?_
 refine dG [(9,_),(40,_)] [([(9,some (T.ptr (T.agg [L 1 I r3,T.ro (lV x2.v)]))),(40,some (T.agg [T.same 9 [0,0],T.ro (lV x2.v)]))],[(9,1),(40,1)])] ⟨rfl,rfl,trivial⟩ (fun E h => IxOk.opE (x_stp inf_150 rfl (locB h.1 rfl) h.1 rfl rfl h.2.1 (clean_of (cleanA ⟨(cleanL (Enc.clean (f:=I))),trivial,trivial⟩)) rfl) rfl) ?_
 refine dG [(10,_),(46,_)] [([(10,some (T.ptr (T.agg [L 1 I r4,T.ro (lV x3.v)]))),(46,some (T.agg [T.same 10 [0,0],T.ro (lV x3.v)]))],[(10,1),(46,1)])] ⟨rfl,rfl,trivial⟩ (fun E h => IxOk.opE (x_stp inf_150 rfl (locB h.1 rfl) h.1 rfl rfl h.2.1 (clean_of (cleanA ⟨(cleanL (Enc.clean (f:=I))),trivial,trivial⟩)) rfl) rfl) ?_
 refine dNA mixedP ?_
 refine nA ?_
 refine CW.seq ?_
 refine CW.to [(1,I x1),(4,T.ptr (T.agg [qPr x0.p,qModule x0.m,T.ro (lM x0.tails)])),(6,T.ptr (ql23Pair x2)),(7,T.ptr (ql23Pair x3)),(8,T.ptr (T.agg [L 1 I [],L 1 I []])),(9,T.ptr (T.agg [L 1 I r3,T.ro (lV x2.v)])),(10,T.ptr (T.agg [L 1 I r4,T.ro (lV x3.v)]))] ⟨rfl,rfl,rfl,rfl,rfl,rfl,rfl,trivial⟩ ?_
 refine CW.region ?_
 refine a_fa ?_
 refine a_ld ?_
 refine a_mv ?_
 obtain ⟨v5,hv5,h⟩:=bd h
 refine a_ix ?_
 refine oP (x_stcT inf_2 rfl rfl rfl (getp (geta rfl (getc hv5 rfl))) (setp (seta rfl (setc hv5 rfl))) rfl rfl) ?_
 refine rN ?_
 refine sR ?_
 refine a_fa ?_
 refine a_ld ?_
 refine a_mv ?_
 obtain ⟨v6,hv6,h⟩:=bd h
 refine a_ix ?_
 refine oP (x_stcT inf_2 rfl rfl rfl (getp (geta rfl (getc hv6 rfl))) (setp (seta rfl (setc hv6 rfl))) rfl rfl) ?_
 refine rN ?_
 refine CW.seq ?_
 refine sR ?_
 refine a_as ?_
 refine rN ?_
 refine CW.block ?_
 refine CW.ghost (Ghost.frzI 1 9 _ (t':=T.agg [T.ro (lV (r3.set x1.toNat 0)),T.ro (lV x2.v)]) rfl (fzA (fzC (fzO inferInstance) (fzC rfl fzN)))) ?_
 obtain ⟨r10,hr10,h⟩:=bd h
 refine CW.lp (s:=(r3.set x1.toNat 0,x2.v,0)) (l1_spec_l23At g_spec_l23Image x0 x1 x3) (fun s1:(List Int) × (List Int) × Int => envL [(1,I x1),(4,T.ptr (T.agg [qPr x0.p,qModule x0.m,T.ro (lM x0.tails)])),(6,T.ptr (ql23Pair x2)),(7,T.ptr (ql23Pair x3)),(8,T.ptr (T.agg [L 1 I [],L 1 I []])),(9,T.ptr (T.agg [T.ro (lV s1.1),T.ro (lV s1.2.1)])),(10,T.ptr (T.agg [L 1 I (r4.set x1.toNat 0),T.ro (lV x3.v)])),(11,I s1.2.2)]) (fun (r10:((List Int) × (List Int))) e E => e = .exit 0 ∧ Ghost ⟨St,W,w0,Tryz.f149.ntmps⟩ E (envL [(1,I x1),(4,T.ptr (T.agg [qPr x0.p,qModule x0.m,T.ro (lM x0.tails)])),(6,T.ptr (ql23Pair x2)),(7,T.ptr (ql23Pair x3)),(8,T.ptr (T.agg [L 1 I [],L 1 I []])),(9,T.ptr (T.agg [T.ro (lV r10.1),T.ro (lV r10.2)])),(10,T.ptr (T.agg [L 1 I (r4.set x1.toNat 0),T.ro (lV x3.v)]))])) (.has ⟨rfl,rfl,rfl,rfl,rfl,rfl,rfl,rfl,trivial⟩) (fun s1 x h => ?_) hr10 (fun e E hq => ?_)
 refine CW.seq ?_
 refine sR ?_
 refine a_mv ?_
 refine a_fa ?_
 refine a_ld ?_
 refine a_mv ?_
 obtain ⟨v7,hv7,h⟩:=bd h
 refine a_ixr ?_
 refine a_ldr ?_
 refine a_lss ?_
 refine rN ?_
 refine cn h (fun hc h => ?_) (fun hc h => ?_)
 refine CW.skip ?_
 refine nA ?_
 refine CW.seq ?_
 refine CW.block ?_
 refine CW.region ?_
 refine a_ldp ?_
 refine a_mv ?_
 refine a_ldp ?_
 obtain ⟨r8,hr8,h⟩:=bd h
 refine cA Tryz.call152 (H_spec_l23Image _ _ _ _ hr8) ?_
 refine oP (x_stp inf_150 rfl (locB rfl rfl) rfl rfl rfl rfl (clean_of (cleanA ⟨(cleanL (Enc.clean (f:=I))),(cleanL (Enc.clean (f:=I))),trivial⟩)) rfl) ?_
 refine RW.nil ?_
 refine nB ?_
 refine nA ?_
 refine CW.region ?_
 refine a_mv ?_
 obtain ⟨v9,hv9,h⟩:=bd h
 refine a_add ?_
 refine a_as ?_
 refine RW.ghost (Ghost.frzI 1 9 _ (t':=ql23Pair r8) rfl (fzA (fzC (fzO inferInstance) (fzC (fzO inferInstance) fzN)))) ?_
 refine RW.nil ?_
 exact eN h
 refine CW.exit ?_
 refine xA ?_
 exact eX h
 obtain ⟨rfl,hg⟩:=hq
 refine xB ?_
 refine nA ?_
 refine CW.ghost hg ?_
 refine sR ?_
 refine a_ldp ?_
 refine a_mv ?_
 obtain ⟨v11,hv11,h⟩:=bd h
 refine oP (x_add hv11 rfl rfl rfl) ?_
 refine a_ldp ?_
 refine a_ldp ?_
 obtain ⟨r12,hr12,h⟩:=bd h
 refine oP (x_call (xs:=[.tmp 68,.tmp 70,.tmp 71,.tmp 72]) Tryz.call149 (H_spec_l23At _ _ _ _ _ hr12) ⟨(agC _ rfl rfl rfl),⟨(agC _ rfl rfl rfl),⟨(agC _ rfl rfl rfl),⟨(agC _ rfl (cloA (cloC (cloS rfl rfl inferInstance) (cloC rfl cloN))) rfl),trivial⟩⟩⟩⟩ (resC (f:=eSl23Pair) inferInstance resN) rfl) ?_
 refine a_alloc ?_
 refine oP (x_stp inf_150 rfl (locB rfl rfl) rfl rfl rfl rfl (clean_of (cleanA ⟨(cleanL (Enc.clean (f:=I))),(cleanL (Enc.clean (f:=I))),trivial⟩)) rfl) ?_
 refine rN ?_
 refine CW.seq ?_
 obtain ⟨v13,hv13,h⟩:=bd h
 obtain ⟨v14,hv14,h⟩:=bd h
 obtain ⟨v15,hv15,h⟩:=bd h
 refine CW.dk ?_
 refine d_fa [(6,_)] ?_
 refine d_ld [(74,_),(6,_)] ?_
 refine d_mv [(1,_)] ?_
 refine d_ixr [(75,_),(76,_)] ?_
 refine d_ldr [(77,_)] ?_
 refine d_fa [(7,_)] ?_
 refine d_ld [(79,_),(7,_)] ?_
 refine d_mv [(1,_)] ?_
 refine d_ixr [(80,_),(81,_)] ?_
 refine d_ldr [(82,_)] ?_
 refine d_add [(78,_),(83,_)] ?_
 refine d_as [(84,_)] ?_
 refine dNA mixedP ?_
 refine nA ?_
 refine CW.seq ?_
 refine sR ?_
 refine a_mv ?_
 refine a_fa ?_
 refine oP (x_faa fld_33_0 rfl rfl rfl rfl rfl rfl) ?_
 refine a_ld ?_
 refine a_mv ?_
 obtain ⟨v16,hv16,h⟩:=bd h
 refine oP (x_ixr (f:=I) row_22 hv16 (locB rfl rfl) rfl rfl) ?_
 refine a_ldr ?_
 refine a_geq ?_
 refine rN ?_
 refine cn h (fun hc h => ?_) (fun hc h => ?_)
 refine CW.seq ?_
 refine CW.to [(1,I x1),(4,T.ptr (T.agg [qPr x0.p,qModule x0.m,T.ro (lM x0.tails)])),(8,T.ptr (T.agg [L 1 I [],L 1 I []])),(12,T.ptr (eSl23Pair r12)),(13,I v15)] ⟨rfl,rfl,rfl,rfl,rfl,trivial⟩ ?_
 refine CW.region ?_
 refine a_mv ?_
 refine a_fa ?_
 refine oP (x_faa fld_33_0 rfl rfl rfl rfl rfl rfl) ?_
 refine a_ld ?_
 refine a_mv ?_
 obtain ⟨v17,hv17,h⟩:=bd h
 refine oP (x_ixr (f:=I) row_22 hv17 (locB rfl rfl) rfl rfl) ?_
 refine a_ldr ?_
 obtain ⟨v18,hv18,h⟩:=bd h
 refine a_sub ?_
 refine a_as ?_
 refine rN ?_
 obtain ⟨v19,hv19,h⟩:=bd h
 obtain ⟨r20,hr20,h⟩:=bd h
 obtain ⟨r21,hr21,h⟩:=bd h
 refine CW.dk ?_
 refine d_ldp [(4,_)] ?_
 refine d_mv [(1,_)] ?_
 refine dG [(102,_)] [([(103,some (I v19))],[(103,0)])] ⟨rfl,trivial⟩ (fun E h => IxOk.opE (x_add hv19 h.1 rfl rfl) rfl) ?_
 refine d_ldp [(4,_)] ?_
 refine d_mv [(1,_)] ?_
 refine dG [(104,_),(105,_)] [([(106,some (ql23Pair r20))],[(106,0)])] ⟨rfl,rfl,trivial⟩ (fun E h => IxOk.opE (x_callF (xs:=[.tmp 104,.tmp 105]) Tryz.call153 (t_spec_l23Power _ _ _ hr20) (afC h.1 rfl (afC h.2.1 rfl afN)) rfl ⟨(cleanA ⟨trivial,trivial,trivial⟩),trivial⟩ rfl rfl) rfl) ?_
 refine d_ldp [(12,_)] ?_
 refine dG [(101,_),(103,_),(106,_),(107,_),(12,_)] [([(108,some (eSl23Pair r21))],[(108,0)])] ⟨rfl,rfl,rfl,rfl,rfl,trivial⟩ (fun E h => IxOk.opE (x_call (xs:=[.tmp 101,.tmp 103,.tmp 106,.tmp 107]) Tryz.call149 (H_spec_l23At _ _ _ _ _ hr21) ⟨(agC _ h.1 rfl rfl),⟨(agC _ h.2.1 rfl rfl),⟨(agC _ h.2.2.1 rfl rfl),⟨(agC _ h.2.2.2.1 (cloA (cloC (cloS h.2.2.2.2.1 rfl inferInstance) (cloC (cloS h.2.2.2.2.1 rfl inferInstance) cloN))) rfl),trivial⟩⟩⟩⟩ (resC (f:=eSl23Pair) inferInstance resN) rfl) rfl) ?_
 refine dG [(12,_),(108,_)] [([(12,some (T.ptr (eSl23Pair r21))),(108,some (T.agg [T.same 12 [0,0],T.same 12 [1,0]]))],[(12,1),(108,1)])] ⟨rfl,rfl,trivial⟩ (fun E h => IxOk.opE (x_stp inf_150 rfl (locB h.1 rfl) h.1 rfl rfl h.2.1 (clean_of (cleanA ⟨(cleanL (Enc.clean (f:=I))),(cleanL (Enc.clean (f:=I))),trivial⟩)) rfl) rfl) ?_
 refine dNA mixedP ?_
 refine nA ?_
 refine sR ?_
 refine a_fa ?_
 refine a_ld ?_
 obtain ⟨r22,hr22,h⟩:=bd h
 refine cA Tryz.call115 (t_spec_l01Own _ _ hr22) ?_
 refine a_as ?_
 refine RW.ghost (Ghost.tr 14 111 _ rfl rfl (clean_of (cleanL (Enc.clean (f:=I)))) rfl) ?_
 refine rN ?_
 refine sR ?_
 refine a_mv ?_
 refine a_mv ?_
 refine a_mv ?_
 obtain ⟨v23,hv23,h⟩:=bd h
 refine a_ix ?_
 refine oP (x_st inf_2 rfl rfl rfl (getc hv23 rfl) (setc hv23 rfl) rfl (clean_of (Enc.clean (f:=I) _)) rfl) ?_
 refine rN ?_
 refine CW.seq ?_
 refine CW.to [(8,T.ptr (T.agg [L 1 I [],L 1 I []])),(12,T.ptr (eSl23Pair r21)),(14,L 1 I (r22.set x1.toNat v18))] ⟨rfl,rfl,rfl,trivial⟩ ?_
 refine CW.region ?_
 refine a_mv ?_
 refine a_fa ?_
 refine a_ld ?_
 refine RW.ghost (Ghost.tr 116 14 _ rfl rfl (clean_of (cleanL (Enc.clean (f:=I)))) rfl) ?_
 refine RW.ghost (Ghost.trq 118 12 [1,0] rfl rfl rfl (clean_of (cleanL (Enc.clean (f:=I)))) rfl) ?_
 refine oP (x_build bld_150 [(0,.tmp 116),(1,.tmp 118)] [(0,.slot 116 (L 1 I (r22.set x1.toNat v18))),(1,.slot 118 (L 1 I r21.v))] [.slot 116 (L 1 I (r22.set x1.toNat v18)),.slot 118 (L 1 I r21.v)] (pkS rfl (clean_of (cleanL (Enc.clean (f:=I)))) rfl (pkS rfl (clean_of (cleanL (Enc.clean (f:=I)))) rfl pkN)) (bqC (.slot _ _) (bqC (.slot _ _) bqN)) rfl) ?_
 refine oP (x_stp inf_150 rfl (locB rfl rfl) rfl rfl rfl rfl (clean_of (cleanA ⟨(cleanL (Enc.clean (f:=I))),(cleanL (Enc.clean (f:=I))),trivial⟩)) rfl) ?_
 refine rN ?_
 refine CW.ret ?_
 obtain rfl:=sI h
 exact ⟨_,Ghost.refl,⟨.inl rfl,[(8,[0],T.agg [L 1 I (r22.set x1.toNat v18),L 1 I r21.v])],⟨⟨rfl,rfl,rfl,(var_150.h _ rfl rfl).h⟩,trivial⟩,rfl,(by simp),(by simp),trivial⟩⟩
 refine CW.skip ?_
 refine nA ?_
 refine CW.seq ?_
 refine CW.to [(1,I x1),(8,T.ptr (T.agg [L 1 I [],L 1 I []])),(12,T.ptr (eSl23Pair r12)),(13,I v15)] ⟨rfl,rfl,rfl,rfl,trivial⟩ ?_
 refine CW.region ?_
 refine a_fa ?_
 refine a_ld ?_
 obtain ⟨r24,hr24,h⟩:=bd h
 refine cA Tryz.call115 (t_spec_l01Own _ _ hr24) ?_
 refine a_as ?_
 refine RW.ghost (Ghost.tr 14 111 _ rfl rfl (clean_of (cleanL (Enc.clean (f:=I)))) rfl) ?_
 refine rN ?_
 refine sR ?_
 refine a_mv ?_
 refine a_mv ?_
 refine a_mv ?_
 obtain ⟨v25,hv25,h⟩:=bd h
 refine a_ix ?_
 refine oP (x_st inf_2 rfl rfl rfl (getc hv25 rfl) (setc hv25 rfl) rfl (clean_of (Enc.clean (f:=I) _)) rfl) ?_
 refine rN ?_
 refine sR ?_
 refine a_mv ?_
 refine a_fa ?_
 refine a_ld ?_
 refine RW.ghost (Ghost.tr 116 14 _ rfl rfl (clean_of (cleanL (Enc.clean (f:=I)))) rfl) ?_
 refine RW.ghost (Ghost.trq 118 12 [1,0] rfl rfl rfl (clean_of (cleanL (Enc.clean (f:=I)))) rfl) ?_
 refine oP (x_build bld_150 [(0,.tmp 116),(1,.tmp 118)] [(0,.slot 116 (L 1 I (r24.set x1.toNat v15))),(1,.slot 118 (L 1 I r12.v))] [.slot 116 (L 1 I (r24.set x1.toNat v15)),.slot 118 (L 1 I r12.v)] (pkS rfl (clean_of (cleanL (Enc.clean (f:=I)))) rfl (pkS rfl (clean_of (cleanL (Enc.clean (f:=I)))) rfl pkN)) (bqC (.slot _ _) (bqC (.slot _ _) bqN)) rfl) ?_
 refine oP (x_stp inf_150 rfl (locB rfl rfl) rfl rfl rfl rfl (clean_of (cleanA ⟨(cleanL (Enc.clean (f:=I))),(cleanL (Enc.clean (f:=I))),trivial⟩)) rfl) ?_
 refine rN ?_
 refine CW.ret ?_
 obtain rfl:=sI h
 exact ⟨_,Ghost.refl,⟨.inl rfl,[(8,[0],T.agg [L 1 I (r24.set x1.toNat v15),L 1 I r12.v])],⟨⟨rfl,rfl,rfl,(var_150.h _ rfl rfl).h⟩,trivial⟩,rfl,(by simp),(by simp),trivial⟩⟩
theorem tN_spec_l23Image:∀ n,(∀ (x0:Sl23Rules) (x1:Int) (x2:Sl23Pair) r,fN_spec_l23Image n x0 x1 x2 = some r → FnC Tryz.prog 152 [T.agg [qPr x0.p,qModule x0.m,T.ro (lM x0.tails)],I x1,ql23Pair x2] [eSl23Pair r] []) ∧ (∀ (x0:Sl23Rules) (x1:Int) (x2:Sl23Pair) (x3:Sl23Pair) r,fN_spec_l23At n x0 x1 x2 x3 = some r → FnC Tryz.prog 149 [T.agg [qPr x0.p,qModule x0.m,T.ro (lM x0.tails)],I x1,ql23Pair x2,ql23Pair x3] [eSl23Pair r] []):=by
  intro n
  induction n with
  | zero => exact ⟨(fun _ _ _ r h => by simp [fN_spec_l23Image] at h),(fun _ _ _ _ r h => by simp [fN_spec_l23At] at h)⟩
  | succ n ih => exact ⟨(fun x0 x1 x2 r h => tb_spec_l23Image ih.2 x0 x1 x2 r (by simpa [fN_spec_l23Image] using h)),(fun x0 x1 x2 x3 r h => tb_spec_l23At ih.1 ih.2 x0 x1 x2 x3 r (by simpa [fN_spec_l23At] using h))⟩
theorem t_spec_l23Image (x0:Sl23Rules) (x1:Int) (x2:Sl23Pair) (r:Sl23Pair) (h:f_spec_l23Image x0 x1 x2 = some r):FnC Tryz.prog 152 [T.agg [qPr x0.p,qModule x0.m,T.ro (lM x0.tails)],I x1,ql23Pair x2] [eSl23Pair r] []:=by
 obtain ⟨n,hn⟩:=fuelO_some h
 exact (tN_spec_l23Image n).1 x0 x1 x2 r hn
theorem t_spec_l23At (x0:Sl23Rules) (x1:Int) (x2:Sl23Pair) (x3:Sl23Pair) (r:Sl23Pair) (h:f_spec_l23At x0 x1 x2 x3 = some r):FnC Tryz.prog 149 [T.agg [qPr x0.p,qModule x0.m,T.ro (lM x0.tails)],I x1,ql23Pair x2,ql23Pair x3] [eSl23Pair r] []:=by
 obtain ⟨n,hn⟩:=fuelO_some h
 exact (tN_spec_l23Image n).2 x0 x1 x2 x3 r hn
theorem t_spec_l23Gap (x0:Sl23Rules) (x1:Sl23Pair) (x2:Sl23Pair) (r:(List Int)) (h:f_spec_l23Gap x0 x1 x2 = some r):FnC Tryz.prog 151 [T.agg [qPr x0.p,qModule x0.m,T.ro (lM x0.tails)],ql23Pair x1,ql23Pair x2] [lV r] []:=by
 refine fB Tryz.func151 (fun St W w0 v => ?_)
 refine sR ?_
 refine a_box ?_
 refine a_box ?_
 refine a_box ?_
 refine oP (x_nil 1 rfl) ?_
 refine rN ?_
 refine sR ?_
 refine a_fa ?_
 refine oP (x_faa fld_35_0 rfl rfl rfl rfl rfl rfl) ?_
 refine a_ld ?_
 refine a_fa ?_
 refine a_ld ?_
 refine a_fa ?_
 refine oP (x_faa fld_35_0 rfl rfl rfl rfl rfl rfl) ?_
 refine a_ld ?_
 obtain ⟨v1,hv1,h⟩:=bd h
 refine a_sub ?_
 refine a_fa ?_
 refine a_ld ?_
 obtain ⟨r2,hr2,h⟩:=bd h
 refine cA Tryz.call78 (t_spec_l02Add _ _ _ _ _ hr2) ?_
 refine a_as ?_
 refine RW.ghost (Ghost.tr 6 18 _ rfl rfl (clean_of (cleanL (Enc.clean (f:=I)))) rfl) ?_
 refine rN ?_
 refine CW.ret ?_
 obtain rfl:=sI h
 exact rT
end Go.Wk

namespace Go.Wk
open Go Go.Proofs Go.Ab
set_option maxRecDepth 100000
theorem t_spec_l23Level (x0:Sl23Rules) (x1:Int) (r:(List (List Int))) (h:f_spec_l23Level x0 x1 = some r):FnC Tryz.prog 140 [T.agg [qPr x0.p,qModule x0.m,T.ro (lM x0.tails)],I x1] [lM r] []:=by
 refine fB Tryz.func140 (fun St W w0 v => ?_)
 refine sR ?_
 refine a_box ?_
 refine oP (x_nil 1 rfl) ?_
 refine rN ?_
 refine sR ?_
 refine a_fa ?_
 refine oP (x_faa fld_33_0 rfl rfl rfl rfl rfl rfl) ?_
 refine a_ld ?_
 refine a_lenr ?_
 refine a_as ?_
 refine rN ?_
 refine sR ?_
 refine oP (x_bs0 elt_23 rfl) ?_
 refine a_as ?_
 refine RW.ghost (Ghost.tr 6 23 _ rfl rfl (clean_of trivial) rfl) ?_
 refine rN ?_
 refine CW.seq ?_
 refine sR ?_
 refine a_mv ?_
 obtain ⟨v1,hv1,h⟩:=bd h
 refine a_add ?_
 refine a_as ?_
 refine rN ?_
 refine CW.block ?_
 obtain ⟨r27,hr27,h⟩:=bd h
 refine CW.lp (s:=([],v1)) (l3_spec_l23Level x0 x1) (fun s9:(List (List Int)) × Int => envL [(1,I x1),(2,T.ptr (T.agg [qPr x0.p,qModule x0.m,T.ro (lM x0.tails)])),(5,I (x0.p.Orders.length:Int)),(6,L 1 lV s9.1),(7,I s9.2)]) (fun (r27:(List (List Int))) e E => e = .exit 0 ∧ Ghost ⟨St,W,w0,Tryz.f140.ntmps⟩ E (envL [(1,I x1),(2,T.ptr (T.agg [qPr x0.p,qModule x0.m,T.ro (lM x0.tails)])),(5,I (x0.p.Orders.length:Int)),(6,L 1 lV r27)])) (.has ⟨rfl,rfl,rfl,rfl,rfl,trivial⟩) (fun s9 x h => ?_) hr27 (fun e E hq => ?_)
 refine CW.seq ?_
 refine sR ?_
 refine a_mv ?_
 refine a_mv ?_
 refine a_lss ?_
 refine rN ?_
 refine cn h (fun hc h => ?_) (fun hc h => ?_)
 refine CW.skip ?_
 refine nA ?_
 refine CW.seq ?_
 refine CW.block ?_
 refine sR ?_
 refine a_ldp ?_
 obtain ⟨r2,hr2,h⟩:=bd h
 refine cA Tryz.call148 (t_spec_l23Zero _ _ hr2) ?_
 refine a_alloc ?_
 refine oP (x_stp inf_150 rfl (locB rfl rfl) rfl rfl rfl rfl (clean_of (cleanA ⟨(cleanL (Enc.clean (f:=I))),(cleanL (Enc.clean (f:=I))),trivial⟩)) rfl) ?_
 refine rN ?_
 refine CW.seq ?_
 refine sR ?_
 refine a_as ?_
 refine rN ?_
 refine CW.block ?_
 obtain ⟨r8,hr8,h⟩:=bd h
 refine CW.lp (s:=(r2.x,r2.v,0)) (l1_spec_l23Level x0 x1 s9) (fun s10:(List Int) × (List Int) × Int => envL [(1,I x1),(2,T.ptr (T.agg [qPr x0.p,qModule x0.m,T.ro (lM x0.tails)])),(5,I (x0.p.Orders.length:Int)),(6,L 1 lV s9.1),(7,I s9.2),(8,T.ptr (T.agg [L 1 I s10.1,L 1 I s10.2.1])),(9,I s10.2.2)]) (fun (r8:((List Int) × (List Int))) e E => e = .exit 2 ∧ Ghost ⟨St,W,w0,Tryz.f140.ntmps⟩ E (envL [(1,I x1),(2,T.ptr (T.agg [qPr x0.p,qModule x0.m,T.ro (lM x0.tails)])),(5,I (x0.p.Orders.length:Int)),(6,L 1 lV s9.1),(7,I s9.2),(8,T.ptr (T.agg [L 1 I r8.1,L 1 I r8.2]))])) (.has ⟨rfl,rfl,rfl,rfl,rfl,rfl,rfl,trivial⟩) (fun s10 x h => ?_) hr8 (fun e E hq => ?_)
 refine CW.seq ?_
 refine sR ?_
 refine a_mv ?_
 refine a_fa ?_
 refine oP (x_faa fld_33_0 rfl rfl rfl rfl rfl rfl) ?_
 refine a_ld ?_
 refine a_mv ?_
 obtain ⟨v3,hv3,h⟩:=bd h
 refine a_ixr ?_
 refine a_ldr ?_
 refine a_lss ?_
 refine rN ?_
 refine cn h (fun hc h => ?_) (fun hc h => ?_)
 refine CW.skip ?_
 refine nA ?_
 refine CW.seq ?_
 refine CW.block ?_
 obtain ⟨v4,hv4,h⟩:=bd h
 obtain ⟨r5,hr5,h⟩:=bd h
 obtain ⟨r6,hr6,h⟩:=bd h
 refine CW.dk ?_
 refine d_ldp [(2,_)] ?_
 refine d_mv [(1,_)] ?_
 refine d_add [(44,_)] ?_
 refine d_ldp [(8,_)] ?_
 refine d_ldp [(2,_)] ?_
 refine d_mv [(1,_)] ?_
 refine d_mv [(7,_)] ?_
 refine dG [(47,_),(48,_),(49,_)] [([(50,some (ql23Pair r5))],[(50,0)])] ⟨rfl,rfl,rfl,trivial⟩ (fun E h => IxOk.opE (x_callF (xs:=[.tmp 47,.tmp 48,.tmp 49]) Tryz.call150 (t_spec_l23Conj _ _ _ _ hr5) (afC h.1 rfl (afC h.2.1 rfl (afC h.2.2.1 rfl afN))) rfl ⟨(cleanA ⟨trivial,trivial,trivial⟩),trivial⟩ rfl rfl) rfl) ?_
 refine dG [(43,_),(45,_),(46,_),(8,_),(50,_)] [([(51,some (eSl23Pair r6))],[(51,0)])] ⟨rfl,rfl,rfl,rfl,rfl,trivial⟩ (fun E h => IxOk.opE (x_call (xs:=[.tmp 43,.tmp 45,.tmp 46,.tmp 50]) Tryz.call149 (t_spec_l23At _ _ _ _ _ hr6) ⟨(agC _ h.1 rfl rfl),⟨(agC _ h.2.1 rfl rfl),⟨(agC _ h.2.2.1 (cloA (cloC (cloS h.2.2.2.1 rfl inferInstance) (cloC (cloS h.2.2.2.1 rfl inferInstance) cloN))) rfl),⟨(agC _ h.2.2.2.2.1 rfl rfl),trivial⟩⟩⟩⟩ (resC (f:=eSl23Pair) inferInstance resN) rfl) rfl) ?_
 refine dG [(8,_),(51,_)] [([(8,some (T.ptr (eSl23Pair r6))),(51,some (T.agg [T.same 8 [0,0],T.same 8 [1,0]]))],[(8,1),(51,1)])] ⟨rfl,rfl,trivial⟩ (fun E h => IxOk.opE (x_stp inf_150 rfl (locB h.1 rfl) h.1 rfl rfl h.2.1 (clean_of (cleanA ⟨(cleanL (Enc.clean (f:=I))),(cleanL (Enc.clean (f:=I))),trivial⟩)) rfl) rfl) ?_
 refine dNA mixedP ?_
 refine nB ?_
 refine nA ?_
 refine CW.region ?_
 refine a_mv ?_
 obtain ⟨v7,hv7,h⟩:=bd h
 refine a_add ?_
 refine a_as ?_
 refine RW.nil ?_
 exact eN h
 refine CW.exit ?_
 refine xA ?_
 exact eX h
 obtain ⟨rfl,hg⟩:=hq
 refine xB ?_
 refine nA ?_
 refine CW.ghost hg ?_
 refine CW.seq ?_
 obtain ⟨r9,hr9,h⟩:=bd h
 obtain ⟨r10,hr10,h⟩:=bd h
 obtain ⟨r11,hr11,h⟩:=bd h
 obtain ⟨v12,hv12,h⟩:=bd h
 refine CW.dk ?_
 refine d_mv [(6,_)] ?_
 refine d_ldp [(2,_)] ?_
 refine d_ldp [(8,_)] ?_
 refine d_ldp [(2,_)] ?_
 refine d_mv [(1,_)] ?_
 refine d_ldp [(2,_)] ?_
 refine d_mv [(7,_)] ?_
 refine dG [(57,_),(58,_)] [([(59,some (ql23Pair r9))],[(59,0)])] ⟨rfl,rfl,trivial⟩ (fun E h => IxOk.opE (x_callF (xs:=[.tmp 57,.tmp 58]) Tryz.call153 (t_spec_l23Power _ _ _ hr9) (afC h.1 rfl (afC h.2.1 rfl afN)) rfl ⟨(cleanA ⟨trivial,trivial,trivial⟩),trivial⟩ rfl rfl) rfl) ?_
 refine dC [(55,_),(56,_),(59,_)] Tryz.call152 (t_spec_l23Image _ _ _ _ hr10) ?_
 refine dG [(53,_),(54,_),(8,_),(60,_)] [([(61,some (L 1 I r11))],[(61,0)])] ⟨rfl,rfl,rfl,rfl,trivial⟩ (fun E h => IxOk.opE (x_call (xs:=[.tmp 53,.tmp 54,.tmp 60]) Tryz.call151 (t_spec_l23Gap _ _ _ _ hr11) ⟨(agC _ h.1 rfl rfl),⟨(agC _ h.2.1 (cloA (cloC (cloS h.2.2.1 rfl inferInstance) (cloC (cloS h.2.2.1 rfl inferInstance) cloN))) rfl),⟨(agC _ h.2.2.2.1 (cloA (cloC (cloO inferInstance) (cloC (cloO inferInstance) cloN))) rfl),trivial⟩⟩⟩ (resC (f:=lV) inferInstance resN) rfl) rfl) ?_
 refine dG [(61,_)] [([(62,some (L 1 lV [r11])),(61,some (T.same 62 [0]))],[(62,0),(61,1)])] ⟨rfl,trivial⟩ (fun E h => IxOk.opE (x_bs elt_23 [.tmp 61] [.slot 61 (L 1 I r11)] [r11] lV ⟨.slot _ _,trivial⟩ (pkS h.1 (clean_of (cleanL (Enc.clean (f:=I)))) rfl pkN) rfl rfl) rfl) ?_
 refine dG [(52,T.same 6 []),(6,L 1 lV s9.1),(62,L 1 lV [r11])] [([(52,some (L 1 lV s9.1)),(6,some (T.same 52 []))],[(52,1),(6,1)]),([(63,some (L 1 lV v12)),(52,some T.any),(62,some T.any)],[(63,0),(52,1),(62,1)])] ⟨rfl,rfl,rfl,trivial⟩ (fun E h => IxOk.gh (Ghost.tr 52 6 _ h.1 h.2.1 (clean_of (cleanL (Enc.clean (f:=lV)))) rfl) <| IxOk.opE (x_appm (f:=lV) elt_23 hv12 rfl (keepE h.2.2.1) rfl) rfl) ?_
 refine d_as [(63,_)] ?_
 refine dNA mixedP ?_
 refine nA ?_
 refine CW.ghost (Ghost.tr 6 63 _ rfl rfl (clean_of (cleanL (Enc.clean (f:=lV)))) rfl) ?_
 refine sR ?_
 refine a_mv ?_
 obtain ⟨v13,hv13,h⟩:=bd h
 refine a_add ?_
 refine a_as ?_
 refine rN ?_
 refine CW.block ?_
 obtain ⟨r25,hr25,h⟩:=bd h
 refine CW.lp (s:=(v12,v13)) (l2_spec_l23Level x0 x1 s9) (fun s12:(List (List Int)) × Int => envL [(1,I x1),(2,T.ptr (T.agg [qPr x0.p,qModule x0.m,T.ro (lM x0.tails)])),(5,I (x0.p.Orders.length:Int)),(6,L 1 lV s12.1),(7,I s9.2),(10,I s12.2)]) (fun (r25:(List (List Int))) e E => e = .exit 4 ∧ Ghost ⟨St,W,w0,Tryz.f140.ntmps⟩ E (envL [(1,I x1),(2,T.ptr (T.agg [qPr x0.p,qModule x0.m,T.ro (lM x0.tails)])),(5,I (x0.p.Orders.length:Int)),(6,L 1 lV r25),(7,I s9.2)])) (.has ⟨rfl,rfl,rfl,rfl,rfl,rfl,trivial⟩) (fun s12 x h => ?_) hr25 (fun e E hq => ?_)
 refine CW.seq ?_
 refine sR ?_
 refine a_mv ?_
 refine a_mv ?_
 refine a_lss ?_
 refine rN ?_
 refine cn h (fun hc h => ?_) (fun hc h => ?_)
 refine CW.skip ?_
 refine nA ?_
 refine CW.seq ?_
 refine CW.block ?_
 refine CW.seq ?_
 obtain ⟨r14,hr14,h⟩:=bd h
 obtain ⟨r15,hr15,h⟩:=bd h
 refine CW.dk ?_
 refine d_ldp [(2,_)] ?_
 refine d_mv [(1,_)] ?_
 refine d_mv [(7,_)] ?_
 refine dG [(71,_),(72,_),(73,_)] [([(74,some (ql23Pair r14))],[(74,0)])] ⟨rfl,rfl,rfl,trivial⟩ (fun E h => IxOk.opE (x_callF (xs:=[.tmp 71,.tmp 72,.tmp 73]) Tryz.call150 (t_spec_l23Conj _ _ _ _ hr14) (afC h.1 rfl (afC h.2.1 rfl (afC h.2.2.1 rfl afN))) rfl ⟨(cleanA ⟨trivial,trivial,trivial⟩),trivial⟩ rfl rfl) rfl) ?_
 refine d_ldp [(2,_)] ?_
 refine d_mv [(1,_)] ?_
 refine d_mv [(10,_)] ?_
 refine dG [(75,_),(76,_),(77,_)] [([(78,some (ql23Pair r15))],[(78,0)])] ⟨rfl,rfl,rfl,trivial⟩ (fun E h => IxOk.opE (x_callF (xs:=[.tmp 75,.tmp 76,.tmp 77]) Tryz.call150 (t_spec_l23Conj _ _ _ _ hr15) (afC h.1 rfl (afC h.2.1 rfl (afC h.2.2.1 rfl afN))) rfl ⟨(cleanA ⟨trivial,trivial,trivial⟩),trivial⟩ rfl rfl) rfl) ?_
 refine d_alloc [] ?_
 refine d_alloc [] ?_
 refine dG [(11,_),(74,_)] [([(11,some (T.ptr (ql23Pair r14))),(74,some (ql23Pair r14))],[(11,1),(74,1)])] ⟨rfl,rfl,trivial⟩ (fun E h => IxOk.opE (x_stp inf_150 rfl (locB h.1 rfl) h.1 rfl rfl h.2.1 (clean_of (cleanA ⟨trivial,trivial,trivial⟩)) rfl) rfl) ?_
 refine dG [(12,_),(78,_)] [([(12,some (T.ptr (ql23Pair r15))),(78,some (ql23Pair r15))],[(12,1),(78,1)])] ⟨rfl,rfl,trivial⟩ (fun E h => IxOk.opE (x_stp inf_150 rfl (locB h.1 rfl) h.1 rfl rfl h.2.1 (clean_of (cleanA ⟨trivial,trivial,trivial⟩)) rfl) rfl) ?_
 refine dNA mixedP ?_
 refine nA ?_
 refine CW.seq ?_
 obtain ⟨r16,hr16,h⟩:=bd h
 obtain ⟨r17,hr17,h⟩:=bd h
 refine CW.dk ?_
 refine d_ldp [(2,_)] ?_
 refine d_mv [(1,_)] ?_
 refine d_ldp [(2,_)] ?_
 refine d_mv [(7,_)] ?_
 refine d_mv [(10,_)] ?_
 refine dG [(81,_),(82,_),(83,_)] [([(84,some (ql23Pair r16))],[(84,0)])] ⟨rfl,rfl,rfl,trivial⟩ (fun E h => IxOk.opE (x_callF (xs:=[.tmp 81,.tmp 82,.tmp 83]) Tryz.call150 (t_spec_l23Conj _ _ _ _ hr16) (afC h.1 rfl (afC h.2.1 rfl (afC h.2.2.1 rfl afN))) rfl ⟨(cleanA ⟨trivial,trivial,trivial⟩),trivial⟩ rfl rfl) rfl) ?_
 refine dC [(79,_),(80,_),(84,_)] Tryz.call152 (t_spec_l23Image _ _ _ _ hr17) ?_
 refine d_alloc [] ?_
 refine dG [(13,_),(85,_)] [([(13,some (T.ptr (eSl23Pair r17))),(85,some (T.agg [T.same 13 [0,0],T.same 13 [1,0]]))],[(13,1),(85,1)])] ⟨rfl,rfl,trivial⟩ (fun E h => IxOk.opE (x_stp inf_150 rfl (locB h.1 rfl) h.1 rfl rfl h.2.1 (clean_of (cleanA ⟨(cleanL (Enc.clean (f:=I))),(cleanL (Enc.clean (f:=I))),trivial⟩)) rfl) rfl) ?_
 refine dNA mixedP ?_
 refine nA ?_
 refine CW.to [(1,I x1),(2,T.ptr (T.agg [qPr x0.p,qModule x0.m,T.ro (lM x0.tails)])),(5,I (x0.p.Orders.length:Int)),(6,L 1 lV s12.1),(7,I s9.2),(10,I s12.2),(11,T.ptr (ql23Pair r14)),(12,T.ptr (ql23Pair r15)),(13,T.ptr (eSl23Pair r17))] ⟨rfl,rfl,rfl,rfl,rfl,rfl,rfl,rfl,rfl,trivial⟩ ?_
 obtain ⟨v18,hv18,h⟩:=bd h
 obtain ⟨r19,hr19,h⟩:=bd h
 obtain ⟨v20,hv20,h⟩:=bd h
 obtain ⟨r21,hr21,h⟩:=bd h
 obtain ⟨r22,hr22,h⟩:=bd h
 obtain ⟨v23,hv23,h⟩:=bd h
 refine CW.dk ?_
 refine d_mv [(6,_)] ?_
 refine d_ldp [(2,_)] ?_
 refine d_ldp [(2,_)] ?_
 refine d_mv [(1,_)] ?_
 refine dG [(89,_)] [([(90,some (I v18))],[(90,0)])] ⟨rfl,trivial⟩ (fun E h => IxOk.opE (x_add hv18 h.1 rfl rfl) rfl) ?_
 refine d_ldp [(12,_)] ?_
 refine d_ldp [(11,_)] ?_
 refine dC [(88,_),(90,_),(91,_),(92,_)] Tryz.call149 (t_spec_l23At _ _ _ _ _ hr19) ?_
 refine d_ldp [(2,_)] ?_
 refine d_mv [(1,_)] ?_
 refine dG [(95,_)] [([(96,some (I v20))],[(96,0)])] ⟨rfl,trivial⟩ (fun E h => IxOk.opE (x_add hv20 h.1 rfl rfl) rfl) ?_
 refine d_ldp [(11,_)] ?_
 refine d_ldp [(13,_)] ?_
 refine dG [(94,_),(96,_),(97,_),(98,_),(13,_)] [([(99,some (eSl23Pair r21))],[(99,0)])] ⟨rfl,rfl,rfl,rfl,rfl,trivial⟩ (fun E h => IxOk.opE (x_call (xs:=[.tmp 94,.tmp 96,.tmp 97,.tmp 98]) Tryz.call149 (t_spec_l23At _ _ _ _ _ hr21) ⟨(agC _ h.1 rfl rfl),⟨(agC _ h.2.1 rfl rfl),⟨(agC _ h.2.2.1 rfl rfl),⟨(agC _ h.2.2.2.1 (cloA (cloC (cloS h.2.2.2.2.1 rfl inferInstance) (cloC (cloS h.2.2.2.2.1 rfl inferInstance) cloN))) rfl),trivial⟩⟩⟩⟩ (resC (f:=eSl23Pair) inferInstance resN) rfl) rfl) ?_
 refine dG [(87,_),(93,_),(99,_)] [([(100,some (L 1 I r22))],[(100,0)])] ⟨rfl,rfl,rfl,trivial⟩ (fun E h => IxOk.opE (x_call (xs:=[.tmp 87,.tmp 93,.tmp 99]) Tryz.call151 (t_spec_l23Gap _ _ _ _ hr22) ⟨(agC _ h.1 rfl rfl),⟨(agC _ h.2.1 (cloA (cloC (cloO inferInstance) (cloC (cloO inferInstance) cloN))) rfl),⟨(agC _ h.2.2.1 (cloA (cloC (cloO inferInstance) (cloC (cloO inferInstance) cloN))) rfl),trivial⟩⟩⟩ (resC (f:=lV) inferInstance resN) rfl) rfl) ?_
 refine dG [(100,_)] [([(101,some (L 1 lV [r22])),(100,some (T.same 101 [0]))],[(101,0),(100,1)])] ⟨rfl,trivial⟩ (fun E h => IxOk.opE (x_bs elt_23 [.tmp 100] [.slot 100 (L 1 I r22)] [r22] lV ⟨.slot _ _,trivial⟩ (pkS h.1 (clean_of (cleanL (Enc.clean (f:=I)))) rfl pkN) rfl rfl) rfl) ?_
 refine dG [(86,T.same 6 []),(6,L 1 lV s12.1),(101,L 1 lV [r22])] [([(86,some (L 1 lV s12.1)),(6,some (T.same 86 []))],[(86,1),(6,1)]),([(102,some (L 1 lV v23)),(86,some T.any),(101,some T.any)],[(102,0),(86,1),(101,1)])] ⟨rfl,rfl,rfl,trivial⟩ (fun E h => IxOk.gh (Ghost.tr 86 6 _ h.1 h.2.1 (clean_of (cleanL (Enc.clean (f:=lV)))) rfl) <| IxOk.opE (x_appm (f:=lV) elt_23 hv23 rfl (keepE h.2.2.1) rfl) rfl) ?_
 refine d_as [(102,_)] ?_
 refine dNA mixedP ?_
 refine nB ?_
 refine nA ?_
 refine CW.region ?_
 refine a_mv ?_
 obtain ⟨v24,hv24,h⟩:=bd h
 refine a_add ?_
 refine a_as ?_
 refine RW.ghost (Ghost.tr 6 102 _ rfl rfl (clean_of (cleanL (Enc.clean (f:=lV)))) rfl) ?_
 refine RW.nil ?_
 exact eN h
 refine CW.exit ?_
 refine xA ?_
 exact eX h
 obtain ⟨rfl,hg⟩:=hq
 refine xB ?_
 refine nB ?_
 refine nA ?_
 refine CW.ghost hg ?_
 refine CW.region ?_
 refine a_mv ?_
 obtain ⟨v26,hv26,h⟩:=bd h
 refine a_add ?_
 refine a_as ?_
 refine RW.nil ?_
 exact eN h
 refine CW.exit ?_
 refine xA ?_
 exact eX h
 obtain ⟨rfl,hg⟩:=hq
 refine xB ?_
 refine nA ?_
 refine CW.ghost hg ?_
 refine sR ?_
 refine a_ldp ?_
 refine a_mv ?_
 obtain ⟨r28,hr28,h⟩:=bd h
 refine oP (x_callF (xs:=[.tmp 103,.tmp 104]) Tryz.call153 (t_spec_l23Power _ _ _ hr28) (afC rfl rfl (afC rfl rfl afN)) rfl ⟨(cleanA ⟨trivial,trivial,trivial⟩),trivial⟩ rfl rfl) ?_
 refine a_alloc ?_
 refine oP (x_stp inf_150 rfl (locB rfl rfl) rfl rfl rfl rfl (clean_of (cleanA ⟨trivial,trivial,trivial⟩)) rfl) ?_
 refine rN ?_
 refine CW.seq ?_
 obtain ⟨r29,hr29,h⟩:=bd h
 obtain ⟨r30,hr30,h⟩:=bd h
 obtain ⟨v31,hv31,h⟩:=bd h
 refine CW.dk ?_
 refine d_mv [(6,_)] ?_
 refine d_ldp [(2,_)] ?_
 refine d_ldp [(2,_)] ?_
 refine d_mv [(1,_)] ?_
 refine d_ldp [(14,_)] ?_
 refine dC [(108,_),(109,_),(110,_)] Tryz.call152 (t_spec_l23Image _ _ _ _ hr29) ?_
 refine d_ldp [(14,_)] ?_
 refine dG [(107,_),(111,_),(112,_)] [([(113,some (L 1 I r30))],[(113,0)])] ⟨rfl,rfl,rfl,trivial⟩ (fun E h => IxOk.opE (x_call (xs:=[.tmp 107,.tmp 111,.tmp 112]) Tryz.call151 (t_spec_l23Gap _ _ _ _ hr30) ⟨(agC _ h.1 rfl rfl),⟨(agC _ h.2.1 (cloA (cloC (cloO inferInstance) (cloC (cloO inferInstance) cloN))) rfl),⟨(agC _ h.2.2.1 rfl rfl),trivial⟩⟩⟩ (resC (f:=lV) inferInstance resN) rfl) rfl) ?_
 refine dG [(113,_)] [([(114,some (L 1 lV [r30])),(113,some (T.same 114 [0]))],[(114,0),(113,1)])] ⟨rfl,trivial⟩ (fun E h => IxOk.opE (x_bs elt_23 [.tmp 113] [.slot 113 (L 1 I r30)] [r30] lV ⟨.slot _ _,trivial⟩ (pkS h.1 (clean_of (cleanL (Enc.clean (f:=I)))) rfl pkN) rfl rfl) rfl) ?_
 refine dG [(106,T.same 6 []),(6,L 1 lV r27),(114,L 1 lV [r30])] [([(106,some (L 1 lV r27)),(6,some (T.same 106 []))],[(106,1),(6,1)]),([(115,some (L 1 lV v31)),(106,some T.any),(114,some T.any)],[(115,0),(106,1),(114,1)])] ⟨rfl,rfl,rfl,trivial⟩ (fun E h => IxOk.gh (Ghost.tr 106 6 _ h.1 h.2.1 (clean_of (cleanL (Enc.clean (f:=lV)))) rfl) <| IxOk.opE (x_appm (f:=lV) elt_23 hv31 rfl (keepE h.2.2.1) rfl) rfl) ?_
 refine d_as [(115,_)] ?_
 refine dNA mixedP ?_
 refine nA ?_
 refine CW.ghost (Ghost.tr 6 115 _ rfl rfl (clean_of (cleanL (Enc.clean (f:=lV)))) rfl) ?_
 refine CW.seq ?_
 refine sR ?_
 refine a_mv ?_
 obtain ⟨v32,hv32,h⟩:=bd h
 refine a_add ?_
 refine a_as ?_
 refine rN ?_
 refine CW.block ?_
 obtain ⟨r46,hr46,h⟩:=bd h
 refine CW.lp (s:=(v31,v32)) (l5_spec_l23Level x0 x1 r28) (fun s19:(List (List Int)) × Int => envL [(1,I x1),(2,T.ptr (T.agg [qPr x0.p,qModule x0.m,T.ro (lM x0.tails)])),(5,I (x0.p.Orders.length:Int)),(6,L 1 lV s19.1),(14,T.ptr (ql23Pair r28)),(15,I s19.2)]) (fun (r46:(List (List Int))) e E => e = .exit 6 ∧ Ghost ⟨St,W,w0,Tryz.f140.ntmps⟩ E (envL [(6,L 1 lV r46)])) (.has ⟨rfl,rfl,rfl,rfl,rfl,rfl,trivial⟩) (fun s19 x h => ?_) hr46 (fun e E hq => ?_)
 refine CW.seq ?_
 refine sR ?_
 refine a_mv ?_
 refine a_mv ?_
 refine a_lss ?_
 refine rN ?_
 refine cn h (fun hc h => ?_) (fun hc h => ?_)
 refine CW.skip ?_
 refine nA ?_
 refine CW.seq ?_
 refine CW.block ?_
 refine sR ?_
 refine a_ldp ?_
 obtain ⟨r33,hr33,h⟩:=bd h
 refine cA Tryz.call148 (t_spec_l23Zero _ _ hr33) ?_
 refine a_alloc ?_
 refine oP (x_stp inf_150 rfl (locB rfl rfl) rfl rfl rfl rfl (clean_of (cleanA ⟨(cleanL (Enc.clean (f:=I))),(cleanL (Enc.clean (f:=I))),trivial⟩)) rfl) ?_
 refine rN ?_
 refine sR ?_
 refine a_fa ?_
 refine a_ld ?_
 refine a_mv ?_
 obtain ⟨v34,hv34,h⟩:=bd h
 refine a_ix ?_
 refine oP (x_stcT inf_2 rfl rfl rfl (getp (geta rfl (getc hv34 rfl))) (setp (seta rfl (setc hv34 rfl))) rfl rfl) ?_
 refine rN ?_
 refine sR ?_
 refine a_ldp ?_
 refine a_alloc ?_
 refine RW.ghost (Ghost.frzI 9 16 _ (t':=T.agg [T.ro (lV (r33.x.set s19.2.toNat 1)),T.ro (lV r33.v)]) rfl (fzA (fzC (fzO inferInstance) (fzC (fzO inferInstance) fzN)))) ?_
 refine RW.ghost (Ghost.resf 129 [0] 16 [0,0] _ _ rfl rfl rfl rfl rfl rfl) ?_
 refine RW.ghost (Ghost.resf 129 [1] 16 [1,0] _ _ rfl rfl rfl rfl rfl rfl) ?_
 refine oP (x_stp inf_150 rfl (locB rfl rfl) rfl rfl rfl rfl (clean_of (cleanA ⟨trivial,trivial,trivial⟩)) rfl) ?_
 refine rN ?_
 refine CW.seq ?_
 refine sR ?_
 refine a_as ?_
 refine rN ?_
 refine CW.block ?_
 obtain ⟨r38,hr38,h⟩:=bd h
 refine CW.lp (s:=(r33.x.set s19.2.toNat 1,r33.v,0)) (l4_spec_l23Level x0 x1) (fun s20:(List Int) × (List Int) × Int => envL [(1,I x1),(2,T.ptr (T.agg [qPr x0.p,qModule x0.m,T.ro (lM x0.tails)])),(5,I (x0.p.Orders.length:Int)),(6,L 1 lV s19.1),(14,T.ptr (ql23Pair r28)),(15,I s19.2),(16,T.ptr (T.agg [T.ro (lV (r33.x.set s19.2.toNat 1)),T.ro (lV r33.v)])),(17,T.ptr (T.agg [T.ro (lV s20.1),T.ro (lV s20.2.1)])),(18,I s20.2.2)]) (fun (r38:((List Int) × (List Int))) e E => e = .exit 8 ∧ Ghost ⟨St,W,w0,Tryz.f140.ntmps⟩ E (envL [(1,I x1),(2,T.ptr (T.agg [qPr x0.p,qModule x0.m,T.ro (lM x0.tails)])),(5,I (x0.p.Orders.length:Int)),(6,L 1 lV s19.1),(14,T.ptr (ql23Pair r28)),(15,I s19.2),(16,T.ptr (T.agg [T.ro (lV (r33.x.set s19.2.toNat 1)),T.ro (lV r33.v)])),(17,T.ptr (T.agg [T.ro (lV r38.1),T.ro (lV r38.2)]))])) (.has ⟨rfl,rfl,rfl,rfl,rfl,rfl,rfl,rfl,rfl,trivial⟩) (fun s20 x h => ?_) hr38 (fun e E hq => ?_)
 refine CW.seq ?_
 refine sR ?_
 refine a_mv ?_
 refine a_fa ?_
 refine oP (x_faa fld_33_0 rfl rfl rfl rfl rfl rfl) ?_
 refine a_ld ?_
 refine a_mv ?_
 obtain ⟨v35,hv35,h⟩:=bd h
 refine a_ixr ?_
 refine a_ldr ?_
 refine a_lss ?_
 refine rN ?_
 refine cn h (fun hc h => ?_) (fun hc h => ?_)
 refine CW.skip ?_
 refine nA ?_
 refine CW.seq ?_
 refine CW.block ?_
 refine CW.region ?_
 refine a_ldp ?_
 refine a_mv ?_
 refine a_ldp ?_
 obtain ⟨r36,hr36,h⟩:=bd h
 refine cA Tryz.call152 (t_spec_l23Image _ _ _ _ hr36) ?_
 refine oP (x_stp inf_150 rfl (locB rfl rfl) rfl rfl rfl rfl (clean_of (cleanA ⟨(cleanL (Enc.clean (f:=I))),(cleanL (Enc.clean (f:=I))),trivial⟩)) rfl) ?_
 refine RW.nil ?_
 refine nB ?_
 refine nA ?_
 refine CW.region ?_
 refine a_mv ?_
 obtain ⟨v37,hv37,h⟩:=bd h
 refine a_add ?_
 refine a_as ?_
 refine RW.ghost (Ghost.frzI 1 17 _ (t':=ql23Pair r36) rfl (fzA (fzC (fzO inferInstance) (fzC (fzO inferInstance) fzN)))) ?_
 refine RW.nil ?_
 exact eN h
 refine CW.exit ?_
 refine xA ?_
 exact eX h
 obtain ⟨rfl,hg⟩:=hq
 refine xB ?_
 refine nA ?_
 refine CW.ghost hg ?_
 obtain ⟨v39,hv39,h⟩:=bd h
 obtain ⟨r40,hr40,h⟩:=bd h
 obtain ⟨v41,hv41,h⟩:=bd h
 obtain ⟨r42,hr42,h⟩:=bd h
 obtain ⟨r43,hr43,h⟩:=bd h
 obtain ⟨v44,hv44,h⟩:=bd h
 refine CW.dk ?_
 refine d_mv [(6,_)] ?_
 refine d_ldp [(2,_)] ?_
 refine d_ldp [(2,_)] ?_
 refine d_mv [(1,_)] ?_
 refine dG [(147,_)] [([(148,some (I v39))],[(148,0)])] ⟨rfl,trivial⟩ (fun E h => IxOk.opE (x_add hv39 h.1 rfl rfl) rfl) ?_
 refine d_ldp [(14,_)] ?_
 refine d_ldp [(17,_)] ?_
 refine dC [(146,_),(148,_),(149,_),(150,_)] Tryz.call149 (t_spec_l23At _ _ _ _ _ hr40) ?_
 refine d_ldp [(2,_)] ?_
 refine d_mv [(1,_)] ?_
 refine dG [(153,_)] [([(154,some (I v41))],[(154,0)])] ⟨rfl,trivial⟩ (fun E h => IxOk.opE (x_add hv41 h.1 rfl rfl) rfl) ?_
 refine d_ldp [(16,_)] ?_
 refine d_ldp [(14,_)] ?_
 refine dC [(152,_),(154,_),(155,_),(156,_)] Tryz.call149 (t_spec_l23At _ _ _ _ _ hr42) ?_
 refine dG [(145,_),(151,_),(157,_)] [([(158,some (L 1 I r43))],[(158,0)])] ⟨rfl,rfl,rfl,trivial⟩ (fun E h => IxOk.opE (x_call (xs:=[.tmp 145,.tmp 151,.tmp 157]) Tryz.call151 (t_spec_l23Gap _ _ _ _ hr43) ⟨(agC _ h.1 rfl rfl),⟨(agC _ h.2.1 (cloA (cloC (cloO inferInstance) (cloC (cloO inferInstance) cloN))) rfl),⟨(agC _ h.2.2.1 (cloA (cloC (cloO inferInstance) (cloC (cloO inferInstance) cloN))) rfl),trivial⟩⟩⟩ (resC (f:=lV) inferInstance resN) rfl) rfl) ?_
 refine dG [(158,_)] [([(159,some (L 1 lV [r43])),(158,some (T.same 159 [0]))],[(159,0),(158,1)])] ⟨rfl,trivial⟩ (fun E h => IxOk.opE (x_bs elt_23 [.tmp 158] [.slot 158 (L 1 I r43)] [r43] lV ⟨.slot _ _,trivial⟩ (pkS h.1 (clean_of (cleanL (Enc.clean (f:=I)))) rfl pkN) rfl rfl) rfl) ?_
 refine dG [(144,T.same 6 []),(6,L 1 lV s19.1),(159,L 1 lV [r43])] [([(144,some (L 1 lV s19.1)),(6,some (T.same 144 []))],[(144,1),(6,1)]),([(160,some (L 1 lV v44)),(144,some T.any),(159,some T.any)],[(160,0),(144,1),(159,1)])] ⟨rfl,rfl,rfl,trivial⟩ (fun E h => IxOk.gh (Ghost.tr 144 6 _ h.1 h.2.1 (clean_of (cleanL (Enc.clean (f:=lV)))) rfl) <| IxOk.opE (x_appm (f:=lV) elt_23 hv44 rfl (keepE h.2.2.1) rfl) rfl) ?_
 refine d_as [(160,_)] ?_
 refine dNA mixedP ?_
 refine nB ?_
 refine nA ?_
 refine CW.region ?_
 refine a_mv ?_
 obtain ⟨v45,hv45,h⟩:=bd h
 refine a_add ?_
 refine a_as ?_
 refine RW.ghost (Ghost.tr 6 160 _ rfl rfl (clean_of (cleanL (Enc.clean (f:=lV)))) rfl) ?_
 refine RW.nil ?_
 exact eN h
 refine CW.exit ?_
 refine xA ?_
 exact eX h
 obtain ⟨rfl,hg⟩:=hq
 refine xB ?_
 refine nA ?_
 refine CW.ghost hg ?_
 refine sR ?_
 refine a_mv ?_
 refine a_as ?_
 refine RW.ghost (Ghost.tr 4 6 _ rfl rfl (clean_of (cleanL (Enc.clean (f:=lV)))) rfl) ?_
 refine rN ?_
 refine CW.ret ?_
 obtain rfl:=sI h
 exact rT
theorem t_spec_l23Gaps (x0:Sl23Rules) (r:(List (List Int))) (h:f_spec_l23Gaps x0 = some r):FnC Tryz.prog 124 [T.agg [qPr x0.p,qModule x0.m,T.ro (lM x0.tails)]] [lM r] []:=by
 refine fB Tryz.func124 (fun St W w0 v => ?_)
 refine sR ?_
 refine a_box ?_
 refine oP (x_nil 1 rfl) ?_
 refine rN ?_
 refine sR ?_
 refine oP (x_bs0 elt_23 rfl) ?_
 refine a_as ?_
 refine RW.ghost (Ghost.tr 3 5 _ rfl rfl (clean_of trivial) rfl) ?_
 refine rN ?_
 refine CW.seq ?_
 refine sR ?_
 refine a_as ?_
 refine rN ?_
 refine CW.block ?_
 obtain ⟨r4,hr4,h⟩:=bd h
 refine CW.lp (s:=([],0)) (l1_spec_l23Gaps x0) (fun s1:(List (List Int)) × Int => envL [(1,T.ptr (T.agg [qPr x0.p,qModule x0.m,T.ro (lM x0.tails)])),(3,L 1 lV s1.1),(4,I s1.2)]) (fun (r4:(List (List Int))) e E => e = .exit 0 ∧ Ghost ⟨St,W,w0,Tryz.f124.ntmps⟩ E (envL [(3,L 1 lV r4)])) (.has ⟨rfl,rfl,rfl,trivial⟩) (fun s1 x h => ?_) hr4 (fun e E hq => ?_)
 refine CW.seq ?_
 refine sR ?_
 refine a_mv ?_
 refine a_fa ?_
 refine oP (x_faa fld_33_0 rfl rfl rfl rfl rfl rfl) ?_
 refine a_ld ?_
 refine a_lenr ?_
 refine a_lss ?_
 refine rN ?_
 refine cn h (fun hc h => ?_) (fun hc h => ?_)
 refine CW.skip ?_
 refine nA ?_
 refine CW.seq ?_
 refine CW.block ?_
 refine CW.region ?_
 refine a_mv ?_
 refine a_ldp ?_
 refine a_mv ?_
 obtain ⟨r1,hr1,h⟩:=bd h
 refine cA Tryz.call140 (t_spec_l23Level _ _ _ hr1) ?_
 refine RW.ghost (Ghost.tr 14 3 _ rfl rfl (clean_of (cleanL (Enc.clean (f:=lV)))) rfl) ?_
 obtain ⟨v2,hv2,h⟩:=bd h
 refine oP (x_appm (f:=lV) elt_23 hv2 rfl rfl rfl) ?_
 refine a_as ?_
 refine RW.ghost (Ghost.tr 3 18 _ rfl rfl (clean_of (cleanL (Enc.clean (f:=lV)))) rfl) ?_
 refine RW.nil ?_
 refine nB ?_
 refine nA ?_
 refine CW.region ?_
 refine a_mv ?_
 obtain ⟨v3,hv3,h⟩:=bd h
 refine a_add ?_
 refine a_as ?_
 refine RW.nil ?_
 exact eN h
 refine CW.exit ?_
 refine xA ?_
 exact eX h
 obtain ⟨rfl,hg⟩:=hq
 refine xB ?_
 refine nA ?_
 refine CW.ghost hg ?_
 refine sR ?_
 refine a_mv ?_
 refine a_as ?_
 refine RW.ghost (Ghost.tr 2 3 _ rfl rfl (clean_of (cleanL (Enc.clean (f:=lV)))) rfl) ?_
 refine rN ?_
 refine CW.ret ?_
 obtain rfl:=sI h
 exact rT
theorem t_spec_l01Zero (x0:List Int) (r:Bool) (h:f_spec_l01Zero x0 = some r):FnC Tryz.prog 125 [T.ro (lV x0)] [B r] []:=by
 refine fB Tryz.func125 (fun St W w0 v => ?_)
 refine sR ?_
 refine a_as ?_
 refine rN ?_
 refine CW.seq ?_
 refine sR ?_
 refine a_as ?_
 refine rN ?_
 refine CW.block ?_
 obtain ⟨r3,hr3,h⟩:=bd h
 refine CW.lp (s:=0) (l1_spec_l01Zero x0) (fun s1:Int => envL [(0,T.ro (lV x0)),(3,I s1)]) (fun (x:Unit ⊕ Bool) e E => match x with | (.inl r3) => e = .exit 0 ∧ Ghost ⟨St,W,w0,Tryz.f125.ntmps⟩ E (envL []) | (.inr r3) => e = .ret ∧ RetG ⟨St,W,w0,Tryz.f125.ntmps⟩ Tryz.prog Tryz.f125.results [T.ro (lV x0)] [B r3] [] .ret E) (.has ⟨rfl,rfl,trivial⟩) (fun s1 x h => ?_) hr3 (fun e E hq => ?_)
 refine CW.seq ?_
 refine sR ?_
 refine a_mv ?_
 refine a_mv ?_
 refine a_lenr ?_
 refine a_lss ?_
 refine rN ?_
 refine cn h (fun hc h => ?_) (fun hc h => ?_)
 refine CW.skip ?_
 refine nA ?_
 refine CW.seq ?_
 refine CW.block ?_
 refine sR ?_
 refine a_mv ?_
 refine a_mv ?_
 obtain ⟨v1,hv1,h⟩:=bd h
 refine a_ixr ?_
 refine a_ldr ?_
 refine a_neq ?_
 refine rN ?_
 refine cn h (fun hc h => ?_) (fun hc h => ?_)
 refine sR ?_
 refine a_as ?_
 refine rN ?_
 refine CW.ret ?_
 refine rB ?_
 refine rA ?_
 exact eX h
 refine CW.skip ?_
 refine nB ?_
 refine nA ?_
 refine CW.region ?_
 refine a_mv ?_
 obtain ⟨v2,hv2,h⟩:=bd h
 refine a_add ?_
 refine a_as ?_
 refine RW.nil ?_
 exact eN h
 refine CW.exit ?_
 refine xA ?_
 exact eX h
 rcases r3 with r3 | r3
 obtain ⟨rfl,hg⟩:=hq
 refine xB ?_
 refine nA ?_
 refine CW.ghost hg ?_
 refine sR ?_
 refine a_as ?_
 refine rN ?_
 refine CW.ret ?_
 obtain rfl:=sI h
 exact rT
 obtain ⟨rfl,hq⟩:=hq
 refine rB ?_
 refine rA ?_
 obtain rfl:=sI h
 exact hq
theorem t_spec_l23Is (x0:SPr) (x1:SModule) (x2:List (List Int)) (r:Bool) (h:f_spec_l23Is x0 x1 x2 = some r):FnC Tryz.prog 86 [qPr x0,qModule x1,T.ro (lM x2)] [B r] []:=by
 refine fB Tryz.func86 (fun St W w0 v => ?_)
 refine sR ?_
 refine a_box ?_
 refine a_box ?_
 refine a_as ?_
 refine rN ?_
 refine sR ?_
 refine a_ldp ?_
 refine a_ldp ?_
 refine a_mv ?_
 refine oP (x_build bld_120 [(0,.tmp 9),(1,.tmp 10),(2,.tmp 11)] [(0,.slot 9 (qPr x0)),(1,.slot 10 (qModule x1)),(2,.slot 11 (T.ro (lM x2)))] [.slot 9 (qPr x0),.slot 10 (qModule x1),.slot 11 (T.ro (lM x2))] (pkS rfl (clean_of (cleanA ⟨trivial,trivial,trivial,trivial⟩)) rfl (pkS rfl (clean_of (cleanA ⟨(Enc.clean (f:=I) _),(Enc.clean (f:=I) _),trivial,trivial⟩)) rfl (pkS rfl (clean_of trivial) rfl pkN))) (bqC (.slot _ _) (bqC (.slot _ _) (bqC (.slot _ _) bqN))) rfl) ?_
 obtain ⟨r1,hr1,h⟩:=bd h
 refine cA Tryz.call124 (t_spec_l23Gaps _ _ hr1) ?_
 refine a_as ?_
 refine RW.ghost (Ghost.tr 7 13 _ rfl rfl (clean_of (cleanL (Enc.clean (f:=lV)))) rfl) ?_
 refine rN ?_
 refine CW.seq ?_
 refine sR ?_
 refine a_as ?_
 refine rN ?_
 refine CW.block ?_
 obtain ⟨r5,hr5,h⟩:=bd h
 refine CW.lp (s:=0) (l1_spec_l23Is r1) (fun s1:Int => envL [(7,L 1 lV r1),(8,I s1)]) (fun (x:Unit ⊕ Bool) e E => match x with | (.inl r5) => e = .exit 0 ∧ Ghost ⟨St,W,w0,Tryz.f86.ntmps⟩ E (envL []) | (.inr r5) => e = .ret ∧ RetG ⟨St,W,w0,Tryz.f86.ntmps⟩ Tryz.prog Tryz.f86.results [qPr x0,qModule x1,T.ro (lM x2)] [B r5] [] .ret E) (.has ⟨rfl,rfl,trivial⟩) (fun s1 x h => ?_) hr5 (fun e E hq => ?_)
 refine CW.seq ?_
 refine sR ?_
 refine a_mv ?_
 refine a_mv ?_
 refine a_len ?_
 refine a_lss ?_
 refine rN ?_
 refine cn h (fun hc h => ?_) (fun hc h => ?_)
 refine CW.skip ?_
 refine nA ?_
 refine CW.seq ?_
 refine CW.block ?_
 refine sR ?_
 refine a_mv ?_
 refine a_mv ?_
 obtain ⟨v2,hv2,h⟩:=bd h
 refine a_ix ?_
 refine a_ld ?_
 obtain ⟨r3,hr3,h⟩:=bd h
 refine cA Tryz.call125 (t_spec_l01Zero _ _ hr3) ?_
 refine a_not ?_
 refine rN ?_
 refine cn h (fun hc h => ?_) (fun hc h => ?_)
 refine sR ?_
 refine a_as ?_
 refine rN ?_
 refine CW.ret ?_
 refine rB ?_
 refine rA ?_
 exact eX h
 refine CW.skip ?_
 refine nB ?_
 refine nA ?_
 refine CW.region ?_
 refine a_mv ?_
 obtain ⟨v4,hv4,h⟩:=bd h
 refine a_add ?_
 refine a_as ?_
 refine RW.nil ?_
 exact eN h
 refine CW.exit ?_
 refine xA ?_
 exact eX h
 rcases r5 with r5 | r5
 obtain ⟨rfl,hg⟩:=hq
 refine xB ?_
 refine nA ?_
 refine CW.ghost hg ?_
 refine sR ?_
 refine a_as ?_
 refine rN ?_
 refine CW.ret ?_
 obtain rfl:=sI h
 exact rT
 obtain ⟨rfl,hq⟩:=hq
 refine rB ?_
 refine rA ?_
 obtain rfl:=sI h
 exact hq
theorem t_spec_l23Code (x0:SPr) (x1:SModule) (x2:List (List Int)) (x3:List (List Int)) (r:Int) (h:f_spec_l23Code x0 x1 x2 x3 = some r):FnC Tryz.prog 48 [qPr x0,qModule x1,T.ro (lM x2),T.ro (lM x3)] [I r] []:=by
 refine fB Tryz.func48 (fun St W w0 v => ?_)
 refine sR ?_
 refine a_box ?_
 refine a_box ?_
 refine a_as ?_
 refine rN ?_
 refine CW.seq ?_
 refine sR ?_
 refine a_ldp ?_
 refine a_ldp ?_
 obtain ⟨r1,hr1,h⟩:=bd h
 refine cA Tryz.call31 (t_spec_IsModule _ _ _ hr1) ?_
 refine a_not ?_
 refine a_mv ?_
 refine RW.cases 13 _ rfl (fun hc => ?_) (fun hc => ?_)
 have h:=cT hc h
 refine sk2 ?_
 refine sk2 ?_
 refine sk2 ?_
 refine sk2 ?_
 refine sk2 ?_
 refine a_pick ?_
 refine a_mv ?_
 refine sk2 ?_
 refine sk2 ?_
 refine sk2 ?_
 refine sk2 ?_
 refine sk2 ?_
 refine a_pick ?_
 refine rN ?_
 refine CW.condT rfl ?_
 refine sR ?_
 refine a_as ?_
 refine rN ?_
 refine CW.ret ?_
 refine rA ?_
 obtain rfl:=sI h
 exact rT
 have h:=cF hc h
 refine g_ldp ?_
 refine g_ldp ?_
 refine g_mv ?_
 obtain ⟨r2,hr2,h⟩:=bd h
 refine RW.cons (IxOk.guard 4 false 13 (x_call (xs:=[.tmp 14,.tmp 15,.tmp 16]) Tryz.call85 (t_spec_l23Tails _ _ _ _ hr2) ⟨(agC _ rfl rfl rfl),⟨(agC _ rfl rfl rfl),⟨(agC _ rfl rfl rfl),trivial⟩⟩⟩ (resC (f:=B) inferInstance resN) rfl)) ?_
 refine g_not ?_
 refine a_pick ?_
 refine a_mv ?_
 refine RW.cases 20 _ rfl (fun hc => ?_) (fun hc => ?_)
 have h:=cT hc h
 refine sk2 ?_
 refine sk2 ?_
 refine sk2 ?_
 refine sk2 ?_
 refine sk2 ?_
 refine a_pick ?_
 refine rN ?_
 refine CW.condT rfl ?_
 refine sR ?_
 refine a_as ?_
 refine rN ?_
 refine CW.ret ?_
 refine rA ?_
 obtain rfl:=sI h
 exact rT
 have h:=cF hc h
 refine g_ldp ?_
 refine g_ldp ?_
 refine g_mv ?_
 obtain ⟨r3,hr3,h⟩:=bd h
 refine RW.cons (IxOk.guard 11 false 20 (x_call (xs:=[.tmp 21,.tmp 22,.tmp 23]) Tryz.call85 (t_spec_l23Tails _ _ _ _ hr3) ⟨(agC _ rfl rfl rfl),⟨(agC _ rfl rfl rfl),⟨(agC _ rfl rfl rfl),trivial⟩⟩⟩ (resC (f:=B) inferInstance resN) rfl)) ?_
 refine g_not ?_
 refine a_pick ?_
 refine rN ?_
 refine cn h (fun hc h => ?_) (fun hc h => ?_)
 refine sR ?_
 refine a_as ?_
 refine rN ?_
 refine CW.ret ?_
 refine rA ?_
 obtain rfl:=sI h
 exact rT
 refine CW.skip ?_
 refine nA ?_
 refine CW.seq ?_
 refine sR ?_
 refine a_ldp ?_
 refine a_ldp ?_
 refine a_mv ?_
 obtain ⟨r4,hr4,h⟩:=bd h
 refine cA Tryz.call86 (t_spec_l23Is _ _ _ _ hr4) ?_
 refine a_not ?_
 refine a_mv ?_
 refine RW.cases 32 _ rfl (fun hc => ?_) (fun hc => ?_)
 have h:=cT hc h
 refine sk2 ?_
 refine sk2 ?_
 refine sk2 ?_
 refine sk2 ?_
 refine sk2 ?_
 refine a_pick ?_
 refine rN ?_
 refine CW.condT rfl ?_
 refine CW.seq ?_
 refine CW.to [] trivial ?_
 refine CW.region ?_
 refine a_as ?_
 refine rN ?_
 refine CW.ret ?_
 refine rA ?_
 obtain rfl:=sI h
 exact rT
 have h:=cF hc h
 refine g_ldp ?_
 refine g_ldp ?_
 refine g_mv ?_
 obtain ⟨r5,hr5,h⟩:=bd h
 refine RW.cons (IxOk.guard 5 false 32 (x_call (xs:=[.tmp 33,.tmp 34,.tmp 35]) Tryz.call86 (t_spec_l23Is _ _ _ _ hr5) ⟨(agC _ rfl rfl rfl),⟨(agC _ rfl rfl rfl),⟨(agC _ rfl rfl rfl),trivial⟩⟩⟩ (resC (f:=B) inferInstance resN) rfl)) ?_
 refine g_not ?_
 refine a_pick ?_
 refine rN ?_
 refine cn h (fun hc h => ?_) (fun hc h => ?_)
 refine CW.seq ?_
 refine CW.to [] trivial ?_
 refine CW.region ?_
 refine a_as ?_
 refine rN ?_
 refine CW.ret ?_
 refine rA ?_
 obtain rfl:=sI h
 exact rT
 refine CW.skip ?_
 refine nA ?_
 refine CW.seq ?_
 refine CW.to [] trivial ?_
 refine CW.region ?_
 refine a_as ?_
 refine rN ?_
 refine CW.ret ?_
 obtain rfl:=sI h
 exact rT
theorem t_spec_l24Extend (x0:SPr) (x1:SModule) (x2:List (List Int)) (r:SPr) (h:f_spec_l24Extend x0 x1 x2 = some r):FnC Tryz.prog 87 [qPr x0,qModule x1,T.ro (lM x2)] [eSPr r] []:=by
 refine fB Tryz.func87 (fun St W w0 v => ?_)
 refine sR ?_
 refine a_box ?_
 refine a_box ?_
 refine a_alloc ?_
 refine rN ?_
 refine CW.seq ?_
 refine CW.dk ?_
 refine d_fa [(3,_)] ?_
 refine d_ld [(18,_),(3,_)] ?_
 refine d_lenr [(19,_)] ?_
 refine d_fa [(4,_)] ?_
 refine d_ld [(21,_),(4,_)] ?_
 refine d_as [(20,_)] ?_
 refine d_as [(22,_)] ?_
 refine dNA mixedP ?_
 refine nA ?_
 refine sR ?_
 refine a_fa ?_
 refine a_ld ?_
 obtain ⟨r1,hr1,h⟩:=bd h
 refine cA Tryz.call115 (t_spec_l01Own _ _ hr1) ?_
 refine oP (x_bs0 elt_23 rfl) ?_
 refine oP (x_bs0 elt_24 rfl) ?_
 refine oP (x_build bld_33 [(0,.tmp 25),(1,.tmp 26),(2,.tmp 27)] [(0,.slot 25 (L 1 I r1)),(1,.slot 26 (L 1 I [])),(2,.slot 27 (L 1 I []))] [.slot 25 (L 1 I r1),.slot 26 (L 1 I []),.slot 27 (L 1 I [])] (pkS rfl (clean_of (cleanL (Enc.clean (f:=I)))) rfl (pkS rfl (clean_of trivial) rfl (pkS rfl (clean_of trivial) rfl pkN))) (bqC (.slot _ _) (bqC (.slot _ _) (bqC (.slot _ _) bqN))) rfl) ?_
 refine a_alloc ?_
 refine oP (x_stp inf_33 rfl (locB rfl rfl) rfl rfl rfl rfl (clean_of (cleanA ⟨(cleanL (Enc.clean (f:=I))),trivial,trivial,trivial⟩)) rfl) ?_
 refine rN ?_
 refine CW.seq ?_
 refine sR ?_
 refine a_as ?_
 refine rN ?_
 refine CW.block ?_
 obtain ⟨r4,hr4,h⟩:=bd h
 refine CW.lp (s:=(r1,0)) (l1_spec_l24Extend x1) (fun s1:(List Int) × Int => envL [(2,T.ro (lM x2)),(3,T.ptr (qPr x0)),(4,T.ptr (qModule x1)),(6,T.ptr (T.agg [L 1 I [],L 1 lV [],L 1 lM []])),(7,I (x0.Orders.length:Int)),(8,I x1.Dim),(9,T.ptr (T.agg [L 1 I s1.1,L 1 I [],L 1 I []])),(10,I s1.2)]) (fun (r4:(List Int)) e E => e = .exit 0 ∧ Ghost ⟨St,W,w0,Tryz.f87.ntmps⟩ E (envL [(2,T.ro (lM x2)),(3,T.ptr (qPr x0)),(4,T.ptr (qModule x1)),(6,T.ptr (T.agg [L 1 I [],L 1 lV [],L 1 lM []])),(7,I (x0.Orders.length:Int)),(8,I x1.Dim),(9,T.ptr (T.agg [L 1 I r4,L 1 I [],L 1 I []]))])) (.has ⟨rfl,rfl,rfl,rfl,rfl,rfl,rfl,rfl,trivial⟩) (fun s1 x h => ?_) hr4 (fun e E hq => ?_)
 refine CW.seq ?_
 refine sR ?_
 refine a_mv ?_
 refine a_mv ?_
 refine a_lss ?_
 refine rN ?_
 refine cn h (fun hc h => ?_) (fun hc h => ?_)
 refine CW.skip ?_
 refine nA ?_
 refine CW.seq ?_
 refine CW.block ?_
 refine CW.region ?_
 refine a_fa ?_
 refine a_ld ?_
 refine a_fa ?_
 refine a_ld ?_
 refine oP (x_bs elt_22 [.tmp 37] [.slot 37 (I x1.Prime)] [x1.Prime] I ⟨.slot _ _,trivial⟩ (pkS rfl (clean_of (Enc.clean (f:=I) _)) rfl pkN) rfl rfl) ?_
 refine RW.ghost (Ghost.trq 35 9 [0,0] rfl rfl rfl (clean_of (cleanL (Enc.clean (f:=I)))) rfl) ?_
 obtain ⟨v2,hv2,h⟩:=bd h
 refine oP (x_appc (f:=I) elt_22 (fun _ => rfl) hv2 rfl (locB rfl rfl) rfl) ?_
 refine a_fa ?_
 refine oP (x_st inf_22 rfl rfl rfl rfl rfl rfl (clean_of (cleanL (Enc.clean (f:=I)))) rfl) ?_
 refine RW.nil ?_
 refine nB ?_
 refine nA ?_
 refine CW.region ?_
 refine a_mv ?_
 obtain ⟨v3,hv3,h⟩:=bd h
 refine a_add ?_
 refine a_as ?_
 refine RW.nil ?_
 exact eN h
 refine CW.exit ?_
 refine xA ?_
 exact eX h
 obtain ⟨rfl,hg⟩:=hq
 refine xB ?_
 refine nA ?_
 refine CW.ghost hg ?_
 refine CW.seq ?_
 refine sR ?_
 refine a_as ?_
 refine rN ?_
 refine CW.block ?_
 obtain ⟨r31,hr31,h⟩:=bd h
 refine CW.lp (s:=([],[],0)) (l4_spec_l24Extend x0 x1 x2) (fun s11:(List (List Int)) × (List (List (List Int))) × Int => envL [(2,T.ro (lM x2)),(3,T.ptr (qPr x0)),(4,T.ptr (qModule x1)),(6,T.ptr (T.agg [L 1 I [],L 1 lV [],L 1 lM []])),(7,I (x0.Orders.length:Int)),(8,I x1.Dim),(9,T.ptr (T.agg [L 1 I r4,L 1 lV s11.1,L 1 lM s11.2.1])),(11,I s11.2.2)]) (fun (r31:((List (List Int)) × (List (List (List Int))))) e E => e = .exit 2 ∧ Ghost ⟨St,W,w0,Tryz.f87.ntmps⟩ E (envL [(6,T.ptr (T.agg [L 1 I [],L 1 lV [],L 1 lM []])),(7,I (x0.Orders.length:Int)),(8,I x1.Dim),(9,T.ptr (T.agg [L 1 I r4,L 1 lV r31.1,L 1 lM r31.2]))])) (.has ⟨rfl,rfl,rfl,rfl,rfl,rfl,rfl,rfl,trivial⟩) (fun s11 x h => ?_) hr31 (fun e E hq => ?_)
 refine CW.seq ?_
 refine sR ?_
 refine a_mv ?_
 refine a_mv ?_
 refine a_lss ?_
 refine rN ?_
 refine cn h (fun hc h => ?_) (fun hc h => ?_)
 refine CW.skip ?_
 refine nA ?_
 refine CW.seq ?_
 refine CW.block ?_
 refine CW.seq ?_
 obtain ⟨v5,hv5,h⟩:=bd h
 obtain ⟨r6,hr6,h⟩:=bd h
 obtain ⟨v7,hv7,h⟩:=bd h
 obtain ⟨v8,hv8,h⟩:=bd h
 obtain ⟨v9,hv9,h⟩:=bd h
 refine CW.dk ?_
 refine d_fa [(9,_)] ?_
 refine d_ld [(46,_),(9,_)] ?_
 refine d_fa [(3,_)] ?_
 refine d_ld [(48,_),(3,_)] ?_
 refine d_mv [(11,_)] ?_
 refine d_ixr [(49,_),(50,_)] ?_
 refine d_ldr [(51,_)] ?_
 refine dC [(52,_)] Tryz.call115 (t_spec_l01Own _ _ hr6) ?_
 refine d_mv [(2,_)] ?_
 refine d_mv [(11,_)] ?_
 refine d_ixr [(54,_),(55,_)] ?_
 refine d_ldr [(56,_)] ?_
 refine dG [(53,_),(57,_)] [([(58,some (L 1 I v8)),(53,some T.any)],[(58,0),(53,1)])] ⟨rfl,rfl,trivial⟩ (fun E h => IxOk.opE (x_appr (f:=I) (g:=I) elt_22 (fun _ => rfl) (fun _ => rfl) inferInstance hv8 h.1 (locB h.2.1 rfl) rfl) rfl) ?_
 refine dG [(58,_)] [([(59,some (L 1 lV [v8])),(58,some (T.same 59 [0]))],[(59,0),(58,1)])] ⟨rfl,trivial⟩ (fun E h => IxOk.opE (x_bs elt_23 [.tmp 58] [.slot 58 (L 1 I v8)] [v8] lV ⟨.slot _ _,trivial⟩ (pkS h.1 (clean_of (cleanL (Enc.clean (f:=I)))) rfl pkN) rfl rfl) rfl) ?_
 refine dG [(47,T.same 9 [1,0]),(9,T.ptr (T.agg [L 1 I r4,L 1 lV s11.1,L 1 lM s11.2.1])),(59,L 1 lV [v8])] [([(47,some (L 1 lV s11.1)),(9,some (T.ptr (T.agg [L 1 I r4,T.any,L 1 lM s11.2.1])))],[(47,1),(9,3)]),([(60,some (L 1 lV v9)),(47,some T.any),(59,some T.any)],[(60,0),(47,1),(59,1)])] ⟨rfl,rfl,rfl,trivial⟩ (fun E h => IxOk.gh (Ghost.trq 47 9 [1,0] h.1 h.2.1 rfl (clean_of (cleanL (Enc.clean (f:=lV)))) rfl) <| IxOk.opE (x_appm (f:=lV) elt_23 hv9 rfl (keepE h.2.2.1) rfl) rfl) ?_
 refine d_fa [(9,_)] ?_
 refine dG [(61,_),(9,_),(60,_)] [([(9,some (T.ptr (T.agg [L 1 I r4,L 1 lV v9,L 1 lM s11.2.1]))),(60,some (T.same 9 [1,0]))],[(9,2),(60,1)])] ⟨rfl,rfl,rfl,trivial⟩ (fun E h => IxOk.opE (x_st inf_23 rfl h.1 h.2.1 rfl rfl h.2.2.1 (clean_of (cleanL (Enc.clean (f:=lV)))) rfl) rfl) ?_
 refine dNA mixedP ?_
 refine nA ?_
 refine sR ?_
 refine oP (x_bs0 elt_23 rfl) ?_
 refine a_as ?_
 refine RW.ghost (Ghost.tr 12 62 _ rfl rfl (clean_of trivial) rfl) ?_
 refine rN ?_
 refine CW.seq ?_
 refine sR ?_
 refine a_mv ?_
 obtain ⟨v10,hv10,h⟩:=bd h
 refine a_add ?_
 refine a_as ?_
 refine rN ?_
 refine CW.block ?_
 obtain ⟨r21,hr21,h⟩:=bd h
 refine CW.lp (s:=([],v10)) (l2_spec_l24Extend x0 x2 s11) (fun s12:(List (List Int)) × Int => envL [(2,T.ro (lM x2)),(3,T.ptr (qPr x0)),(4,T.ptr (qModule x1)),(6,T.ptr (T.agg [L 1 I [],L 1 lV [],L 1 lM []])),(7,I (x0.Orders.length:Int)),(8,I x1.Dim),(9,T.ptr (T.agg [L 1 I r4,L 1 lV v9,L 1 lM s11.2.1])),(11,I s11.2.2),(12,L 1 lV s12.1),(13,I s12.2)]) (fun (r21:(List (List Int))) e E => e = .exit 4 ∧ Ghost ⟨St,W,w0,Tryz.f87.ntmps⟩ E (envL [(2,T.ro (lM x2)),(3,T.ptr (qPr x0)),(4,T.ptr (qModule x1)),(6,T.ptr (T.agg [L 1 I [],L 1 lV [],L 1 lM []])),(7,I (x0.Orders.length:Int)),(8,I x1.Dim),(9,T.ptr (T.agg [L 1 I r4,L 1 lV v9,L 1 lM s11.2.1])),(11,I s11.2.2),(12,L 1 lV r21)])) (.has ⟨rfl,rfl,rfl,rfl,rfl,rfl,rfl,rfl,rfl,rfl,trivial⟩) (fun s12 x h => ?_) hr21 (fun e E hq => ?_)
 refine CW.seq ?_
 refine sR ?_
 refine a_mv ?_
 refine a_mv ?_
 refine a_lss ?_
 refine rN ?_
 refine cn h (fun hc h => ?_) (fun hc h => ?_)
 refine CW.skip ?_
 refine nA ?_
 refine CW.seq ?_
 refine CW.block ?_
 refine CW.region ?_
 refine a_mv ?_
 refine a_fa ?_
 refine a_ld ?_
 refine a_mv ?_
 obtain ⟨v11,hv11,h⟩:=bd h
 refine a_ixr ?_
 refine a_ldr ?_
 refine a_mv ?_
 refine a_mv ?_
 obtain ⟨v12,hv12,h⟩:=bd h
 refine a_sub ?_
 obtain ⟨v13,hv13,h⟩:=bd h
 refine a_sub ?_
 obtain ⟨v14,hv14,h⟩:=bd h
 refine a_ixr ?_
 refine a_ldr ?_
 obtain ⟨r15,hr15,h⟩:=bd h
 refine cA Tryz.call115 (t_spec_l01Own _ _ hr15) ?_
 refine a_mv ?_
 refine a_mv ?_
 refine a_mv ?_
 refine a_mv ?_
 obtain ⟨r16,hr16,h⟩:=bd h
 refine cA Tryz.call126 (t_spec_l23Place _ _ _ _ hr16) ?_
 obtain ⟨v17,hv17,h⟩:=bd h
 refine a_ixr ?_
 refine a_ldr ?_
 obtain ⟨v18,hv18,h⟩:=bd h
 refine oP (x_appr (f:=I) (g:=I) elt_22 (fun _ => rfl) (fun _ => rfl) inferInstance hv18 rfl (locB rfl rfl) rfl) ?_
 refine oP (x_bs elt_23 [.tmp 90] [.slot 90 (L 1 I v18)] [v18] lV ⟨.slot _ _,trivial⟩ (pkS rfl (clean_of (cleanL (Enc.clean (f:=I)))) rfl pkN) rfl rfl) ?_
 refine RW.ghost (Ghost.tr 70 12 _ rfl rfl (clean_of (cleanL (Enc.clean (f:=lV)))) rfl) ?_
 obtain ⟨v19,hv19,h⟩:=bd h
 refine oP (x_appm (f:=lV) elt_23 hv19 rfl rfl rfl) ?_
 refine a_as ?_
 refine RW.ghost (Ghost.tr 12 92 _ rfl rfl (clean_of (cleanL (Enc.clean (f:=lV)))) rfl) ?_
 refine RW.nil ?_
 refine nB ?_
 refine nA ?_
 refine CW.to [(2,T.ro (lM x2)),(3,T.ptr (qPr x0)),(4,T.ptr (qModule x1)),(6,T.ptr (T.agg [L 1 I [],L 1 lV [],L 1 lM []])),(7,I (x0.Orders.length:Int)),(8,I x1.Dim),(9,T.ptr (T.agg [L 1 I r4,L 1 lV v9,L 1 lM s11.2.1])),(11,I s11.2.2),(12,L 1 lV v19),(13,I s12.2)] ⟨rfl,rfl,rfl,rfl,rfl,rfl,rfl,rfl,rfl,rfl,trivial⟩ ?_
 refine CW.region ?_
 refine a_mv ?_
 obtain ⟨v20,hv20,h⟩:=bd h
 refine a_add ?_
 refine a_as ?_
 refine RW.nil ?_
 exact eN h
 refine CW.exit ?_
 refine xA ?_
 exact eX h
 obtain ⟨rfl,hg⟩:=hq
 refine xB ?_
 refine nA ?_
 refine CW.ghost hg ?_
 refine CW.seq ?_
 refine sR ?_
 refine a_as ?_
 refine rN ?_
 refine CW.block ?_
 obtain ⟨r28,hr28,h⟩:=bd h
 refine CW.lp (s:=(r21,0)) (l3_spec_l24Extend x0 x1 s11) (fun s14:(List (List Int)) × Int => envL [(2,T.ro (lM x2)),(3,T.ptr (qPr x0)),(4,T.ptr (qModule x1)),(6,T.ptr (T.agg [L 1 I [],L 1 lV [],L 1 lM []])),(7,I (x0.Orders.length:Int)),(8,I x1.Dim),(9,T.ptr (T.agg [L 1 I r4,L 1 lV v9,L 1 lM s11.2.1])),(11,I s11.2.2),(12,L 1 lV s14.1),(14,I s14.2)]) (fun (r28:(List (List Int))) e E => e = .exit 6 ∧ Ghost ⟨St,W,w0,Tryz.f87.ntmps⟩ E (envL [(2,T.ro (lM x2)),(3,T.ptr (qPr x0)),(4,T.ptr (qModule x1)),(6,T.ptr (T.agg [L 1 I [],L 1 lV [],L 1 lM []])),(7,I (x0.Orders.length:Int)),(8,I x1.Dim),(9,T.ptr (T.agg [L 1 I r4,L 1 lV v9,L 1 lM s11.2.1])),(11,I s11.2.2),(12,L 1 lV r28)])) (.has ⟨rfl,rfl,rfl,rfl,rfl,rfl,rfl,rfl,rfl,rfl,trivial⟩) (fun s14 x h => ?_) hr28 (fun e E hq => ?_)
 refine CW.seq ?_
 refine sR ?_
 refine a_mv ?_
 refine a_mv ?_
 refine a_lss ?_
 refine rN ?_
 refine cn h (fun hc h => ?_) (fun hc h => ?_)
 refine CW.skip ?_
 refine nA ?_
 refine CW.seq ?_
 refine CW.block ?_
 obtain ⟨m22,hm22,h⟩:=bd h
 obtain ⟨v23,hv23,h⟩:=bd h
 obtain ⟨v24,hv24,h⟩:=bd h
 obtain ⟨v25,hv25,h⟩:=bd h
 obtain ⟨v26,hv26,h⟩:=bd h
 refine CW.dk ?_
 refine d_mv [(12,_)] ?_
 refine d_mv [(7,_)] ?_
 refine dG [(99,_)] [([(100,some (L 1 I (List.replicate m22 (0:Int))))],[(100,0)])] ⟨rfl,trivial⟩ (fun E h => IxOk.opE (x_makeL (f:=I) (z:=0) elt_22 (rfl) hm22 h.1 h.1 rfl) rfl) ?_
 refine d_fa [(4,_)] ?_
 refine d_ld [(101,_),(4,_)] ?_
 refine d_mv [(11,_)] ?_
 refine d_ixr [(102,_),(103,_)] ?_
 refine d_ldr [(104,_)] ?_
 refine d_mv [(14,_)] ?_
 refine d_ixr [(105,_),(106,_)] ?_
 refine d_ldr [(107,_)] ?_
 refine dG [(100,_),(108,_)] [([(109,some (L 1 I v25)),(100,some T.any)],[(109,0),(100,1)])] ⟨rfl,rfl,trivial⟩ (fun E h => IxOk.opE (x_appr (f:=I) (g:=I) elt_22 (fun _ => rfl) (fun _ => rfl) inferInstance hv25 h.1 (locB h.2.1 rfl) rfl) rfl) ?_
 refine dG [(109,_)] [([(110,some (L 1 lV [v25])),(109,some (T.same 110 [0]))],[(110,0),(109,1)])] ⟨rfl,trivial⟩ (fun E h => IxOk.opE (x_bs elt_23 [.tmp 109] [.slot 109 (L 1 I v25)] [v25] lV ⟨.slot _ _,trivial⟩ (pkS h.1 (clean_of (cleanL (Enc.clean (f:=I)))) rfl pkN) rfl rfl) rfl) ?_
 refine dG [(98,T.same 12 []),(12,L 1 lV s14.1),(110,L 1 lV [v25])] [([(98,some (L 1 lV s14.1)),(12,some (T.same 98 []))],[(98,1),(12,1)]),([(111,some (L 1 lV v26)),(98,some T.any),(110,some T.any)],[(111,0),(98,1),(110,1)])] ⟨rfl,rfl,rfl,trivial⟩ (fun E h => IxOk.gh (Ghost.tr 98 12 _ h.1 h.2.1 (clean_of (cleanL (Enc.clean (f:=lV)))) rfl) <| IxOk.opE (x_appm (f:=lV) elt_23 hv26 rfl (keepE h.2.2.1) rfl) rfl) ?_
 refine d_as [(111,_)] ?_
 refine dNA mixedP ?_
 refine nB ?_
 refine nA ?_
 refine CW.region ?_
 refine a_mv ?_
 obtain ⟨v27,hv27,h⟩:=bd h
 refine a_add ?_
 refine a_as ?_
 refine RW.ghost (Ghost.tr 12 111 _ rfl rfl (clean_of (cleanL (Enc.clean (f:=lV)))) rfl) ?_
 refine RW.nil ?_
 exact eN h
 refine CW.exit ?_
 refine xA ?_
 exact eX h
 obtain ⟨rfl,hg⟩:=hq
 refine xB ?_
 refine nA ?_
 refine CW.ghost hg ?_
 refine CW.region ?_
 refine a_fa ?_
 refine a_ld ?_
 refine a_mv ?_
 refine RW.ghost (Ghost.tr 114 12 _ rfl rfl (clean_of (cleanL (Enc.clean (f:=lV)))) rfl) ?_
 refine oP (x_bs elt_24 [.tmp 114] [.slot 114 (L 1 lV r28)] [r28] lM ⟨.slot _ _,trivial⟩ (pkS rfl (clean_of (cleanL (Enc.clean (f:=lV)))) rfl pkN) rfl rfl) ?_
 refine RW.ghost (Ghost.trq 113 9 [2,0] rfl rfl rfl (clean_of (cleanL (Enc.clean (f:=lM)))) rfl) ?_
 obtain ⟨v29,hv29,h⟩:=bd h
 refine oP (x_appm (f:=lM) elt_24 hv29 rfl rfl rfl) ?_
 refine a_fa ?_
 refine oP (x_st inf_24 rfl rfl rfl rfl rfl rfl (clean_of (cleanL (Enc.clean (f:=lM)))) rfl) ?_
 refine RW.nil ?_
 refine nB ?_
 refine nA ?_
 refine CW.region ?_
 refine a_mv ?_
 obtain ⟨v30,hv30,h⟩:=bd h
 refine a_add ?_
 refine a_as ?_
 refine RW.nil ?_
 exact eN h
 refine CW.exit ?_
 refine xA ?_
 exact eX h
 obtain ⟨rfl,hg⟩:=hq
 refine xB ?_
 refine nA ?_
 refine CW.ghost hg ?_
 refine CW.seq ?_
 refine sR ?_
 refine a_as ?_
 refine rN ?_
 refine CW.block ?_
 obtain ⟨r44,hr44,h⟩:=bd h
 refine CW.lp (s:=(r31.1,r31.2,0)) (l6_spec_l24Extend x0 x1) (fun s21:(List (List Int)) × (List (List (List Int))) × Int => envL [(6,T.ptr (T.agg [L 1 I [],L 1 lV [],L 1 lM []])),(7,I (x0.Orders.length:Int)),(8,I x1.Dim),(9,T.ptr (T.agg [L 1 I r4,L 1 lV s21.1,L 1 lM s21.2.1])),(15,I s21.2.2)]) (fun (r44:((List (List Int)) × (List (List (List Int))))) e E => e = .exit 8 ∧ Ghost ⟨St,W,w0,Tryz.f87.ntmps⟩ E (envL [(6,T.ptr (T.agg [L 1 I [],L 1 lV [],L 1 lM []])),(9,T.ptr (T.agg [L 1 I r4,L 1 lV r44.1,L 1 lM r44.2]))])) (.has ⟨rfl,rfl,rfl,rfl,rfl,trivial⟩) (fun s21 x h => ?_) hr44 (fun e E hq => ?_)
 refine CW.seq ?_
 refine sR ?_
 refine a_mv ?_
 refine a_mv ?_
 refine a_lss ?_
 refine rN ?_
 refine cn h (fun hc h => ?_) (fun hc h => ?_)
 refine CW.skip ?_
 refine nA ?_
 refine CW.seq ?_
 refine CW.block ?_
 refine CW.seq ?_
 obtain ⟨v32,hv32,h⟩:=bd h
 obtain ⟨m33,hm33,h⟩:=bd h
 obtain ⟨v34,hv34,h⟩:=bd h
 refine CW.dk ?_
 refine d_fa [(9,_)] ?_
 refine d_ld [(123,_),(9,_)] ?_
 refine d_mv [(7,_)] ?_
 refine d_mv [(8,_)] ?_
 refine d_add [(125,_),(126,_)] ?_
 refine dG [(127,_)] [([(128,some (L 1 I (List.replicate m33 (0:Int))))],[(128,0)])] ⟨rfl,trivial⟩ (fun E h => IxOk.opE (x_makeL (f:=I) (z:=0) elt_22 (rfl) hm33 h.1 h.1 rfl) rfl) ?_
 refine dG [(128,_)] [([(129,some (L 1 lV [List.replicate m33 (0:Int)])),(128,some (T.same 129 [0]))],[(129,0),(128,1)])] ⟨rfl,trivial⟩ (fun E h => IxOk.opE (x_bs elt_23 [.tmp 128] [.slot 128 (L 1 I (List.replicate m33 (0:Int)))] [List.replicate m33 (0:Int)] lV ⟨.slot _ _,trivial⟩ (pkS h.1 (clean_of (cleanL (Enc.clean (f:=I)))) rfl pkN) rfl rfl) rfl) ?_
 refine dG [(124,T.same 9 [1,0]),(9,T.ptr (T.agg [L 1 I r4,L 1 lV s21.1,L 1 lM s21.2.1])),(129,L 1 lV [List.replicate m33 (0:Int)])] [([(124,some (L 1 lV s21.1)),(9,some (T.ptr (T.agg [L 1 I r4,T.any,L 1 lM s21.2.1])))],[(124,1),(9,3)]),([(130,some (L 1 lV v34)),(124,some T.any),(129,some T.any)],[(130,0),(124,1),(129,1)])] ⟨rfl,rfl,rfl,trivial⟩ (fun E h => IxOk.gh (Ghost.trq 124 9 [1,0] h.1 h.2.1 rfl (clean_of (cleanL (Enc.clean (f:=lV)))) rfl) <| IxOk.opE (x_appm (f:=lV) elt_23 hv34 rfl (keepE h.2.2.1) rfl) rfl) ?_
 refine d_fa [(9,_)] ?_
 refine dG [(131,_),(9,_),(130,_)] [([(9,some (T.ptr (T.agg [L 1 I r4,L 1 lV v34,L 1 lM s21.2.1]))),(130,some (T.same 9 [1,0]))],[(9,2),(130,1)])] ⟨rfl,rfl,rfl,trivial⟩ (fun E h => IxOk.opE (x_st inf_23 rfl h.1 h.2.1 rfl rfl h.2.2.1 (clean_of (cleanL (Enc.clean (f:=lV)))) rfl) rfl) ?_
 refine dNA mixedP ?_
 refine nA ?_
 refine sR ?_
 refine oP (x_bs0 elt_23 rfl) ?_
 refine a_as ?_
 refine RW.ghost (Ghost.tr 16 132 _ rfl rfl (clean_of trivial) rfl) ?_
 refine rN ?_
 refine CW.seq ?_
 refine sR ?_
 refine a_mv ?_
 obtain ⟨v35,hv35,h⟩:=bd h
 refine a_add ?_
 refine a_as ?_
 refine rN ?_
 refine CW.block ?_
 obtain ⟨r41,hr41,h⟩:=bd h
 refine CW.lp (s:=([],v35)) (l5_spec_l24Extend x0 x1) (fun s22:(List (List Int)) × Int => envL [(6,T.ptr (T.agg [L 1 I [],L 1 lV [],L 1 lM []])),(7,I (x0.Orders.length:Int)),(8,I x1.Dim),(9,T.ptr (T.agg [L 1 I r4,L 1 lV v34,L 1 lM s21.2.1])),(15,I s21.2.2),(16,L 1 lV s22.1),(17,I s22.2)]) (fun (r41:(List (List Int))) e E => e = .exit 10 ∧ Ghost ⟨St,W,w0,Tryz.f87.ntmps⟩ E (envL [(6,T.ptr (T.agg [L 1 I [],L 1 lV [],L 1 lM []])),(7,I (x0.Orders.length:Int)),(8,I x1.Dim),(9,T.ptr (T.agg [L 1 I r4,L 1 lV v34,L 1 lM s21.2.1])),(15,I s21.2.2),(16,L 1 lV r41)])) (.has ⟨rfl,rfl,rfl,rfl,rfl,rfl,rfl,trivial⟩) (fun s22 x h => ?_) hr41 (fun e E hq => ?_)
 refine CW.seq ?_
 refine sR ?_
 refine a_mv ?_
 refine a_mv ?_
 refine a_lss ?_
 refine rN ?_
 refine cn h (fun hc h => ?_) (fun hc h => ?_)
 refine CW.skip ?_
 refine nA ?_
 refine CW.seq ?_
 refine CW.block ?_
 refine CW.region ?_
 refine a_mv ?_
 refine a_mv ?_
 refine a_mv ?_
 obtain ⟨v36,hv36,h⟩:=bd h
 refine a_add ?_
 refine a_mv ?_
 refine a_mv ?_
 obtain ⟨v37,hv37,h⟩:=bd h
 refine a_add ?_
 obtain ⟨r38,hr38,h⟩:=bd h
 refine cA Tryz.call127 (t_spec_l07Unit _ _ _ hr38) ?_
 refine oP (x_bs elt_23 [.tmp 147] [.slot 147 (L 1 I r38)] [r38] lV ⟨.slot _ _,trivial⟩ (pkS rfl (clean_of (cleanL (Enc.clean (f:=I)))) rfl pkN) rfl rfl) ?_
 refine RW.ghost (Ghost.tr 140 16 _ rfl rfl (clean_of (cleanL (Enc.clean (f:=lV)))) rfl) ?_
 obtain ⟨v39,hv39,h⟩:=bd h
 refine oP (x_appm (f:=lV) elt_23 hv39 rfl rfl rfl) ?_
 refine a_as ?_
 refine RW.ghost (Ghost.tr 16 149 _ rfl rfl (clean_of (cleanL (Enc.clean (f:=lV)))) rfl) ?_
 refine RW.nil ?_
 refine nB ?_
 refine nA ?_
 refine CW.region ?_
 refine a_mv ?_
 obtain ⟨v40,hv40,h⟩:=bd h
 refine a_add ?_
 refine a_as ?_
 refine RW.nil ?_
 exact eN h
 refine CW.exit ?_
 refine xA ?_
 exact eX h
 obtain ⟨rfl,hg⟩:=hq
 refine xB ?_
 refine nA ?_
 refine CW.ghost hg ?_
 refine CW.region ?_
 refine a_fa ?_
 refine a_ld ?_
 refine a_mv ?_
 refine RW.ghost (Ghost.tr 152 16 _ rfl rfl (clean_of (cleanL (Enc.clean (f:=lV)))) rfl) ?_
 refine oP (x_bs elt_24 [.tmp 152] [.slot 152 (L 1 lV r41)] [r41] lM ⟨.slot _ _,trivial⟩ (pkS rfl (clean_of (cleanL (Enc.clean (f:=lV)))) rfl pkN) rfl rfl) ?_
 refine RW.ghost (Ghost.trq 151 9 [2,0] rfl rfl rfl (clean_of (cleanL (Enc.clean (f:=lM)))) rfl) ?_
 obtain ⟨v42,hv42,h⟩:=bd h
 refine oP (x_appm (f:=lM) elt_24 hv42 rfl rfl rfl) ?_
 refine a_fa ?_
 refine oP (x_st inf_24 rfl rfl rfl rfl rfl rfl (clean_of (cleanL (Enc.clean (f:=lM)))) rfl) ?_
 refine RW.nil ?_
 refine nB ?_
 refine nA ?_
 refine CW.region ?_
 refine a_mv ?_
 obtain ⟨v43,hv43,h⟩:=bd h
 refine a_add ?_
 refine a_as ?_
 refine RW.nil ?_
 exact eN h
 refine CW.exit ?_
 refine xA ?_
 exact eX h
 obtain ⟨rfl,hg⟩:=hq
 refine xB ?_
 refine nA ?_
 refine CW.ghost hg ?_
 refine sR ?_
 refine a_ldp ?_
 refine RW.ghost (Ghost.trf 156 [0] 9 [0,0] _ _ rfl rfl rfl rfl rfl (clean_of (cleanL (Enc.clean (f:=I)))) rfl) ?_
 refine RW.ghost (Ghost.trf 156 [1] 9 [1,0] _ _ rfl rfl rfl rfl rfl (clean_of (cleanL (Enc.clean (f:=lV)))) rfl) ?_
 refine RW.ghost (Ghost.trf 156 [2] 9 [2,0] _ _ rfl rfl rfl rfl rfl (clean_of (cleanL (Enc.clean (f:=lM)))) rfl) ?_
 refine oP (x_stp inf_33 rfl (locB rfl rfl) rfl rfl rfl rfl (clean_of (cleanA ⟨(cleanL (Enc.clean (f:=I))),(cleanL (Enc.clean (f:=lV))),(cleanL (Enc.clean (f:=lM))),trivial⟩)) rfl) ?_
 refine rN ?_
 refine CW.ret ?_
 obtain rfl:=sI h
 exact ⟨_,Ghost.refl,⟨.inl rfl,[(6,[0],T.agg [L 1 I r4,L 1 lV r44.1,L 1 lM r44.2])],⟨⟨rfl,rfl,rfl,(var_33.h _ rfl rfl).h⟩,trivial⟩,rfl,(by simp),(by simp),trivial⟩⟩
theorem t_spec_l24Made (x0:SPr) (x1:SModule) (x2:List (List Int)) (r:SPr × Int) (h:f_spec_l24Made x0 x1 x2 = some r):FnC Tryz.prog 49 [qPr x0,qModule x1,T.ro (lM x2)] [eSPr r.1,I r.2] []:=by
 refine fB Tryz.func49 (fun St W w0 v => ?_)
 refine sR ?_
 refine a_box ?_
 refine a_box ?_
 refine a_alloc ?_
 refine a_as ?_
 refine rN ?_
 refine sR ?_
 refine a_ldp ?_
 refine a_ldp ?_
 refine a_mv ?_
 obtain ⟨r1,hr1,h⟩:=bd h
 refine cA Tryz.call87 (t_spec_l24Extend _ _ _ _ hr1) ?_
 refine a_alloc ?_
 refine oP (x_stp inf_33 rfl (locB rfl rfl) rfl rfl rfl rfl (clean_of (cleanA ⟨(cleanL (Enc.clean (f:=I))),(cleanL (Enc.clean (f:=lV))),(cleanL (Enc.clean (f:=lM))),trivial⟩)) rfl) ?_
 refine rN ?_
 refine CW.seq ?_
 refine sR ?_
 refine a_ldp ?_
 obtain ⟨r2,hr2,h⟩:=bd h
 refine oP (x_call (xs:=[.tmp 13]) Tryz.call88 (t_spec_IsPresentation _ _ hr2) ⟨(agC _ rfl (cloA (cloC (cloS rfl rfl inferInstance) (cloC (cloS rfl rfl inferInstance) (cloC (cloS rfl rfl inferInstance) cloN)))) rfl),trivial⟩ (resC (f:=B) inferInstance resN) rfl) ?_
 refine a_not ?_
 refine rN ?_
 refine cn h (fun hc h => ?_) (fun hc h => ?_)
 refine sR ?_
 refine oP (x_build bld_33 [] [] [.zero (L 1 I []),.zero (L 1 lV []),.zero (L 1 lM [])] (pkZ rfl (pkZ rfl (pkZ rfl pkN))) bqN rfl) ?_
 refine oP (x_stp inf_33 rfl (locB rfl rfl) rfl rfl rfl rfl (clean_of (cleanA ⟨trivial,trivial,trivial,trivial⟩)) rfl) ?_
 refine a_as ?_
 refine rN ?_
 refine CW.ret ?_
 refine rA ?_
 obtain rfl:=sI h
 exact ⟨_,Ghost.refl,⟨.inl rfl,[(6,[0],T.agg [L 1 I [],L 1 lV [],L 1 lM []]),(7,[],I 3)],⟨⟨rfl,rfl,rfl,(var_33.h _ rfl rfl).h⟩,⟨rfl,rfl,rfl,rfl⟩,trivial⟩,rfl,(by simp),(by simp),trivial⟩⟩
 refine CW.skip ?_
 refine nA ?_
 refine sR ?_
 refine a_ldp ?_
 refine RW.ghost (Ghost.trf 17 [0] 8 [0,0] _ _ rfl rfl rfl rfl rfl (clean_of (cleanL (Enc.clean (f:=I)))) rfl) ?_
 refine RW.ghost (Ghost.trf 17 [1] 8 [1,0] _ _ rfl rfl rfl rfl rfl (clean_of (cleanL (Enc.clean (f:=lV)))) rfl) ?_
 refine RW.ghost (Ghost.trf 17 [2] 8 [2,0] _ _ rfl rfl rfl rfl rfl (clean_of (cleanL (Enc.clean (f:=lM)))) rfl) ?_
 refine oP (x_stp inf_33 rfl (locB rfl rfl) rfl rfl rfl rfl (clean_of (cleanA ⟨(cleanL (Enc.clean (f:=I))),(cleanL (Enc.clean (f:=lV))),(cleanL (Enc.clean (f:=lM))),trivial⟩)) rfl) ?_
 refine a_as ?_
 refine rN ?_
 refine CW.ret ?_
 obtain rfl:=sI h
 exact ⟨_,Ghost.refl,⟨.inl rfl,[(6,[0],eSPr r1),(7,[],I 0)],⟨⟨rfl,rfl,rfl,(var_33.h _ rfl rfl).h⟩,⟨rfl,rfl,rfl,rfl⟩,trivial⟩,rfl,(by simp),(by simp),trivial⟩⟩
theorem t_spec_ExtensionOf (x0:SPr) (x1:SModule) (x2:List (List Int)) (r:SPr × Int) (h:f_spec_ExtensionOf x0 x1 x2 = some r):FnC Tryz.prog 25 [qPr x0,qModule x1,T.ro (lM x2)] [eSPr r.1,I r.2] []:=by
 refine fB Tryz.func25 (fun St W w0 v => ?_)
 refine sR ?_
 refine a_box ?_
 refine a_box ?_
 refine a_alloc ?_
 refine a_as ?_
 refine rN ?_
 refine CW.seq ?_
 refine sR ?_
 refine a_ldp ?_
 refine a_ldp ?_
 refine a_mv ?_
 refine a_mv ?_
 obtain ⟨r1,hr1,h⟩:=bd h
 refine cA Tryz.call48 (t_spec_l23Code _ _ _ _ _ hr1) ?_
 refine a_as ?_
 refine rN ?_
 refine sR ?_
 refine a_mv ?_
 refine a_neq ?_
 refine rN ?_
 refine cn h (fun hc h => ?_) (fun hc h => ?_)
 refine sR ?_
 refine oP (x_build bld_33 [] [] [.zero (L 1 I []),.zero (L 1 lV []),.zero (L 1 lM [])] (pkZ rfl (pkZ rfl (pkZ rfl pkN))) bqN rfl) ?_
 refine a_mv ?_
 refine oP (x_stp inf_33 rfl (locB rfl rfl) rfl rfl rfl rfl (clean_of (cleanA ⟨trivial,trivial,trivial,trivial⟩)) rfl) ?_
 refine a_as ?_
 refine rN ?_
 refine CW.ret ?_
 refine rA ?_
 obtain rfl:=sI h
 exact ⟨_,Ghost.refl,⟨.inl rfl,[(6,[0],T.agg [L 1 I [],L 1 lV [],L 1 lM []]),(7,[],I r1)],⟨⟨rfl,rfl,rfl,(var_33.h _ rfl rfl).h⟩,⟨rfl,rfl,rfl,rfl⟩,trivial⟩,rfl,(by simp),(by simp),trivial⟩⟩
 refine CW.skip ?_
 refine nA ?_
 refine sR ?_
 refine a_ldp ?_
 refine a_ldp ?_
 refine a_mv ?_
 obtain ⟨r2,hr2,h⟩:=bd h
 refine cA Tryz.call49 (t_spec_l24Made _ _ _ _ hr2) ?_
 refine a_ext ?_
 refine a_ext ?_
 refine RW.ghost (Ghost.trf 22 [0] 21 [0,0] _ _ rfl rfl rfl rfl rfl (clean_of (cleanL (Enc.clean (f:=I)))) rfl) ?_
 refine RW.ghost (Ghost.trf 22 [1] 21 [1,0] _ _ rfl rfl rfl rfl rfl (clean_of (cleanL (Enc.clean (f:=lV)))) rfl) ?_
 refine RW.ghost (Ghost.trf 22 [2] 21 [2,0] _ _ rfl rfl rfl rfl rfl (clean_of (cleanL (Enc.clean (f:=lM)))) rfl) ?_
 refine oP (x_stp inf_33 rfl (locB rfl rfl) rfl rfl rfl rfl (clean_of (cleanA ⟨(cleanL (Enc.clean (f:=I))),(cleanL (Enc.clean (f:=lV))),(cleanL (Enc.clean (f:=lM))),trivial⟩)) rfl) ?_
 refine a_as ?_
 refine rN ?_
 refine CW.ret ?_
 obtain rfl:=sI h
 exact ⟨_,Ghost.refl,⟨.inl rfl,[(6,[0],eSPr r2.1),(7,[],I r2.2)],⟨⟨rfl,rfl,rfl,(var_33.h _ rfl rfl).h⟩,⟨rfl,rfl,rfl,rfl⟩,trivial⟩,rfl,(by simp),(by simp),trivial⟩⟩
theorem t_impl_areVectors (x0:SModule) (x1:List (List Int)) (r:Bool) (h:f_impl_areVectors x0 x1 = some r):FnC Tryz.prog 130 [T.ro ((Pt eSModule) x0),T.ro (lM x1)] [B r] []:=by
 refine fB Tryz.func130 (fun St W w0 v => ?_)
 refine sR ?_
 refine a_as ?_
 refine rN ?_
 refine CW.seq ?_
 refine sR ?_
 refine a_mv ?_
 refine a_lenr ?_
 refine a_mv ?_
 refine rN ?_
 refine CW.block ?_
 obtain ⟨r4,hr4,h⟩:=bd h
 refine CW.lp (s:=0) (l1_impl_areVectors x0 x1) (fun s1:Int => envL [(0,T.ro ((Pt eSModule) x0)),(7,T.ro (lM x1)),(8,I (x1.length:Int)),(9,I s1)]) (fun (x:Unit ⊕ Bool) e E => match x with | (.inl r4) => e = .exit 0 ∧ Ghost ⟨St,W,w0,Tryz.f130.ntmps⟩ E (envL []) | (.inr r4) => e = .ret ∧ RetG ⟨St,W,w0,Tryz.f130.ntmps⟩ Tryz.prog Tryz.f130.results [T.ro ((Pt eSModule) x0),T.ro (lM x1)] [B r4] [] .ret E) (.has ⟨rfl,rfl,rfl,rfl,trivial⟩) (fun s1 x h => ?_) hr4 (fun e E hq => ?_)
 refine sR ?_
 refine a_lss ?_
 refine rN ?_
 refine CW.seq ?_
 refine cn h (fun hc h => ?_) (fun hc h => ?_)
 refine CW.skip ?_
 refine nA ?_
 refine CW.seq ?_
 refine CW.block ?_
 refine sR ?_
 obtain ⟨v1,hv1,h⟩:=bd h
 refine a_ixr ?_
 refine a_ldr ?_
 refine a_as ?_
 refine rN ?_
 refine CW.seq ?_
 obtain ⟨r2,hr2,h⟩:=bd h
 refine CW.dk ?_
 refine d_mv [(6,_)] ?_
 refine d_mv [(0,_)] ?_
 refine d_nilc [(14,_)] ?_
 refine d_far [(15,_)] ?_
 refine d_ldr [(16,_)] ?_
 refine d_mv [(0,_)] ?_
 refine d_nilc [(18,_)] ?_
 refine d_far [(19,_)] ?_
 refine d_ldr [(20,_)] ?_
 refine dC [(13,_),(17,_),(21,_)] Tryz.call102 (t_impl_isVector _ _ _ _ hr2) ?_
 refine d_not [(22,_)] ?_
 refine dNA mixedP ?_
 refine nA ?_
 refine cn h (fun hc h => ?_) (fun hc h => ?_)
 refine sR ?_
 refine a_as ?_
 refine rN ?_
 refine CW.ret ?_
 refine rB ?_
 refine rA ?_
 exact eX h
 refine CW.skip ?_
 refine nB ?_
 refine nA ?_
 refine CW.region ?_
 obtain ⟨v3,hv3,h⟩:=bd h
 refine a_add ?_
 refine a_mv ?_
 refine RW.nil ?_
 exact eN h
 refine CW.exit ?_
 refine xA ?_
 exact eX h
 rcases r4 with r4 | r4
 obtain ⟨rfl,hg⟩:=hq
 refine xB ?_
 refine nA ?_
 refine CW.ghost hg ?_
 refine sR ?_
 refine a_as ?_
 refine rN ?_
 refine CW.ret ?_
 obtain rfl:=sI h
 exact rT
 obtain ⟨rfl,hq⟩:=hq
 refine rB ?_
 refine rA ?_
 obtain rfl:=sI h
 exact hq
theorem t_impl_areTails (x0:SPr) (x1:SModule) (x2:List (List Int)) (r:Bool) (h:f_impl_areTails x0 x1 x2 = some r):FnC Tryz.prog 89 [T.ro ((Pt eSPr) x0),T.ro ((Pt eSModule) x1),T.ro (lM x2)] [B r] []:=by
 refine fB Tryz.func89 (fun St W w0 v => ?_)
 refine sR ?_
 refine a_as ?_
 refine rN ?_
 refine sR ?_
 refine a_mv ?_
 refine a_lenr ?_
 refine a_mv ?_
 obtain ⟨r1,hr1,h⟩:=bd h
 refine cA Tryz.call84 (t_impl_relationCount _ _ hr1) ?_
 refine a_eql ?_
 refine a_mv ?_
 refine RW.cases 12 _ rfl (fun hc => ?_) (fun hc => ?_)
 have h:=cT hc h
 refine g_mv ?_
 refine g_mv ?_
 obtain ⟨r2,hr2,h⟩:=bd h
 refine RW.cons (IxOk.guard 5 true 12 (x_call (xs:=[.tmp 13,.tmp 14]) Tryz.call130 (t_impl_areVectors _ _ _ hr2) ⟨(agC _ rfl rfl rfl),⟨(agC _ rfl rfl rfl),trivial⟩⟩ (resC (f:=B) inferInstance resN) rfl)) ?_
 refine a_pick ?_
 refine a_as ?_
 refine rN ?_
 refine CW.ret ?_
 obtain rfl:=sI h
 exact rT
 have h:=cF hc h
 refine sk2 ?_
 refine sk2 ?_
 refine sk2 ?_
 refine a_pick ?_
 refine a_as ?_
 refine rN ?_
 refine CW.ret ?_
 obtain rfl:=sI h
 exact rT
theorem t_impl_trivialRelations (x0:List Int) (r:SPr) (h:f_impl_trivialRelations x0 = some r):FnC Tryz.prog 131 [T.ro (lV x0)] [eSPr r] []:=by
 refine fB Tryz.func131 (fun St W w0 v => ?_)
 refine sR ?_
 refine a_alloc ?_
 refine rN ?_
 refine sR ?_
 refine a_mv ?_
 refine a_lenr ?_
 refine a_as ?_
 refine rN ?_
 refine sR ?_
 refine a_mv ?_
 obtain ⟨r1,hr1,h⟩:=bd h
 refine cA Tryz.call109 (t_slices_Clone_int64_int64 _ _ hr1) ?_
 refine oP (x_build bld_33 [(0,.tmp 11)] [(0,.slot 11 (L 1 I r1))] [.slot 11 (L 1 I r1),.zero (L 1 lV []),.zero (L 1 lM [])] (pkS rfl (clean_of (cleanL (Enc.clean (f:=I)))) rfl (pkZ rfl (pkZ rfl pkN))) (bqC (.slot _ _) bqN) rfl) ?_
 refine a_alloc ?_
 refine oP (x_stp inf_33 rfl (locB rfl rfl) rfl rfl rfl rfl (clean_of (cleanA ⟨(cleanL (Enc.clean (f:=I))),trivial,trivial,trivial⟩)) rfl) ?_
 refine rN ?_
 refine CW.seq ?_
 refine sR ?_
 refine a_mv ?_
 refine a_mv ?_
 refine rN ?_
 refine CW.block ?_
 obtain ⟨r11,hr11,h⟩:=bd h
 refine CW.lp (s:=([],[],0)) (l2_impl_trivialRelations x0) (fun s5:(List (List Int)) × (List (List (List Int))) × Int => envL [(2,T.ptr (T.agg [L 1 I [],L 1 lV [],L 1 lM []])),(3,I (x0.length:Int)),(4,T.ptr (T.agg [L 1 I r1,L 1 lV s5.1,L 1 lM s5.2.1])),(13,I (x0.length:Int)),(14,I s5.2.2)]) (fun (r11:((List (List Int)) × (List (List (List Int))))) e E => e = .exit 0 ∧ Ghost ⟨St,W,w0,Tryz.f131.ntmps⟩ E (envL [(2,T.ptr (T.agg [L 1 I [],L 1 lV [],L 1 lM []])),(4,T.ptr (T.agg [L 1 I r1,L 1 lV r11.1,L 1 lM r11.2]))])) (.has ⟨rfl,rfl,rfl,rfl,rfl,trivial⟩) (fun s5 x h => ?_) hr11 (fun e E hq => ?_)
 refine sR ?_
 refine a_lss ?_
 refine rN ?_
 refine CW.seq ?_
 refine cn h (fun hc h => ?_) (fun hc h => ?_)
 refine CW.skip ?_
 refine nA ?_
 refine CW.seq ?_
 refine CW.block ?_
 refine sR ?_
 refine a_mv ?_
 refine a_as ?_
 refine rN ?_
 refine CW.seq ?_
 obtain ⟨m2,hm2,h⟩:=bd h
 obtain ⟨v3,hv3,h⟩:=bd h
 refine CW.dk ?_
 refine d_fa [(4,_)] ?_
 refine d_ld [(17,_),(4,_)] ?_
 refine d_mv [(3,_)] ?_
 refine dG [(19,_)] [([(20,some (L 1 I (List.replicate m2 (0:Int))))],[(20,0)])] ⟨rfl,trivial⟩ (fun E h => IxOk.opE (x_makeL (f:=I) (z:=0) elt_22 (rfl) hm2 h.1 h.1 rfl) rfl) ?_
 refine dG [(20,_)] [([(21,some (L 1 lV [List.replicate m2 (0:Int)])),(20,some (T.same 21 [0]))],[(21,0),(20,1)])] ⟨rfl,trivial⟩ (fun E h => IxOk.opE (x_bs elt_23 [.tmp 20] [.slot 20 (L 1 I (List.replicate m2 (0:Int)))] [List.replicate m2 (0:Int)] lV ⟨.slot _ _,trivial⟩ (pkS h.1 (clean_of (cleanL (Enc.clean (f:=I)))) rfl pkN) rfl rfl) rfl) ?_
 refine dG [(18,T.same 4 [1,0]),(4,T.ptr (T.agg [L 1 I r1,L 1 lV s5.1,L 1 lM s5.2.1])),(21,L 1 lV [List.replicate m2 (0:Int)])] [([(18,some (L 1 lV s5.1)),(4,some (T.ptr (T.agg [L 1 I r1,T.any,L 1 lM s5.2.1])))],[(18,1),(4,3)]),([(22,some (L 1 lV v3)),(18,some T.any),(21,some T.any)],[(22,0),(18,1),(21,1)])] ⟨rfl,rfl,rfl,trivial⟩ (fun E h => IxOk.gh (Ghost.trq 18 4 [1,0] h.1 h.2.1 rfl (clean_of (cleanL (Enc.clean (f:=lV)))) rfl) <| IxOk.opE (x_appm (f:=lV) elt_23 hv3 rfl (keepE h.2.2.1) rfl) rfl) ?_
 refine d_fa [(4,_)] ?_
 refine dG [(23,_),(4,_),(22,_)] [([(4,some (T.ptr (T.agg [L 1 I r1,L 1 lV v3,L 1 lM s5.2.1]))),(22,some (T.same 4 [1,0]))],[(4,2),(22,1)])] ⟨rfl,rfl,rfl,trivial⟩ (fun E h => IxOk.opE (x_st inf_23 rfl h.1 h.2.1 rfl rfl h.2.2.1 (clean_of (cleanL (Enc.clean (f:=lV)))) rfl) rfl) ?_
 refine dNA mixedP ?_
 refine nA ?_
 refine sR ?_
 refine oP (x_nil 1 rfl) ?_
 refine rN ?_
 refine CW.seq ?_
 refine sR ?_
 refine a_mv ?_
 obtain ⟨v4,hv4,h⟩:=bd h
 refine a_add ?_
 refine a_as ?_
 refine rN ?_
 refine CW.block ?_
 obtain ⟨r8,hr8,h⟩:=bd h
 refine CW.lp (s:=([],v4)) (l1_impl_trivialRelations x0) (fun s6:(List (List Int)) × Int => envL [(2,T.ptr (T.agg [L 1 I [],L 1 lV [],L 1 lM []])),(3,I (x0.length:Int)),(4,T.ptr (T.agg [L 1 I r1,L 1 lV v3,L 1 lM s5.2.1])),(6,L 1 lV s6.1),(7,I s6.2),(13,I (x0.length:Int)),(14,I s5.2.2)]) (fun (r8:(List (List Int))) e E => e = .exit 2 ∧ Ghost ⟨St,W,w0,Tryz.f131.ntmps⟩ E (envL [(2,T.ptr (T.agg [L 1 I [],L 1 lV [],L 1 lM []])),(3,I (x0.length:Int)),(4,T.ptr (T.agg [L 1 I r1,L 1 lV v3,L 1 lM s5.2.1])),(6,L 1 lV r8),(13,I (x0.length:Int)),(14,I s5.2.2)])) (.has ⟨rfl,rfl,rfl,rfl,rfl,rfl,rfl,trivial⟩) (fun s6 x h => ?_) hr8 (fun e E hq => ?_)
 refine CW.seq ?_
 refine sR ?_
 refine a_mv ?_
 refine a_mv ?_
 refine a_lss ?_
 refine rN ?_
 refine cn h (fun hc h => ?_) (fun hc h => ?_)
 refine CW.skip ?_
 refine nA ?_
 refine CW.seq ?_
 refine CW.block ?_
 refine CW.region ?_
 refine a_mv ?_
 refine a_mv ?_
 refine a_mv ?_
 obtain ⟨r5,hr5,h⟩:=bd h
 refine cA Tryz.call70 (t_impl_unitVector _ _ _ hr5) ?_
 refine oP (x_bs elt_23 [.tmp 34] [.slot 34 (L 1 I r5)] [r5] lV ⟨.slot _ _,trivial⟩ (pkS rfl (clean_of (cleanL (Enc.clean (f:=I)))) rfl pkN) rfl rfl) ?_
 refine RW.ghost (Ghost.tr 31 6 _ rfl rfl (clean_of (cleanL (Enc.clean (f:=lV)))) rfl) ?_
 obtain ⟨v6,hv6,h⟩:=bd h
 refine oP (x_appm (f:=lV) elt_23 hv6 rfl rfl rfl) ?_
 refine a_as ?_
 refine RW.ghost (Ghost.tr 6 36 _ rfl rfl (clean_of (cleanL (Enc.clean (f:=lV)))) rfl) ?_
 refine RW.nil ?_
 refine nB ?_
 refine nA ?_
 refine CW.region ?_
 refine a_mv ?_
 obtain ⟨v7,hv7,h⟩:=bd h
 refine a_add ?_
 refine a_as ?_
 refine RW.nil ?_
 exact eN h
 refine CW.exit ?_
 refine xA ?_
 exact eX h
 obtain ⟨rfl,hg⟩:=hq
 refine xB ?_
 refine nA ?_
 refine CW.ghost hg ?_
 refine CW.region ?_
 refine a_fa ?_
 refine a_ld ?_
 refine a_mv ?_
 refine RW.ghost (Ghost.tr 39 6 _ rfl rfl (clean_of (cleanL (Enc.clean (f:=lV)))) rfl) ?_
 refine oP (x_bs elt_24 [.tmp 39] [.slot 39 (L 1 lV r8)] [r8] lM ⟨.slot _ _,trivial⟩ (pkS rfl (clean_of (cleanL (Enc.clean (f:=lV)))) rfl pkN) rfl rfl) ?_
 refine RW.ghost (Ghost.trq 38 4 [2,0] rfl rfl rfl (clean_of (cleanL (Enc.clean (f:=lM)))) rfl) ?_
 obtain ⟨v9,hv9,h⟩:=bd h
 refine oP (x_appm (f:=lM) elt_24 hv9 rfl rfl rfl) ?_
 refine a_fa ?_
 refine oP (x_st inf_24 rfl rfl rfl rfl rfl rfl (clean_of (cleanL (Enc.clean (f:=lM)))) rfl) ?_
 refine RW.nil ?_
 refine nB ?_
 refine nA ?_
 refine CW.region ?_
 obtain ⟨v10,hv10,h⟩:=bd h
 refine a_add ?_
 refine a_mv ?_
 refine RW.nil ?_
 exact eN h
 refine CW.exit ?_
 refine xA ?_
 exact eX h
 obtain ⟨rfl,hg⟩:=hq
 refine xB ?_
 refine nA ?_
 refine CW.ghost hg ?_
 refine sR ?_
 refine a_ldp ?_
 refine RW.ghost (Ghost.trf 44 [0] 4 [0,0] _ _ rfl rfl rfl rfl rfl (clean_of (cleanL (Enc.clean (f:=I)))) rfl) ?_
 refine RW.ghost (Ghost.trf 44 [1] 4 [1,0] _ _ rfl rfl rfl rfl rfl (clean_of (cleanL (Enc.clean (f:=lV)))) rfl) ?_
 refine RW.ghost (Ghost.trf 44 [2] 4 [2,0] _ _ rfl rfl rfl rfl rfl (clean_of (cleanL (Enc.clean (f:=lM)))) rfl) ?_
 refine oP (x_stp inf_33 rfl (locB rfl rfl) rfl rfl rfl rfl (clean_of (cleanA ⟨(cleanL (Enc.clean (f:=I))),(cleanL (Enc.clean (f:=lV))),(cleanL (Enc.clean (f:=lM))),trivial⟩)) rfl) ?_
 refine rN ?_
 refine CW.ret ?_
 obtain rfl:=sI h
 exact ⟨_,Ghost.refl,⟨.inl rfl,[(2,[0],T.agg [L 1 I r1,L 1 lV r11.1,L 1 lM r11.2])],⟨⟨rfl,rfl,rfl,(var_33.h _ rfl rfl).h⟩,trivial⟩,rfl,(by simp),(by simp),trivial⟩⟩
theorem t_impl_padded (x0:List Int) (x1:Int) (x2:Int) (r:(List Int)) (h:f_impl_padded x0 x1 x2 = some r):FnC Tryz.prog 132 [T.ro (lV x0),I x1,I x2] [lV r] []:=by
 refine fB Tryz.func132 (fun St W w0 v => ?_)
 refine sR ?_
 refine oP (x_nil 1 rfl) ?_
 refine rN ?_
 refine CW.seq ?_
 obtain ⟨m1,hm1,h⟩:=bd h
 obtain ⟨m2,hm2,h⟩:=bd h
 obtain ⟨r3,hr3,h⟩:=bd h
 refine CW.dk ?_
 refine d_mv [(1,_)] ?_
 refine dG [(7,_)] [([(8,some (L 1 I (List.replicate m1 (0:Int))))],[(8,0)])] ⟨rfl,trivial⟩ (fun E h => IxOk.opE (x_makeL (f:=I) (z:=0) elt_22 (rfl) hm1 h.1 h.1 rfl) rfl) ?_
 refine d_mv [(0,_)] ?_
 refine d_mv [(2,_)] ?_
 refine dG [(10,_)] [([(11,some (L 1 I (List.replicate m2 (0:Int))))],[(11,0)])] ⟨rfl,trivial⟩ (fun E h => IxOk.opE (x_makeL (f:=I) (z:=0) elt_22 (rfl) hm2 h.1 h.1 rfl) rfl) ?_
 refine dG [(8,L 1 I (List.replicate m1 (0:Int))),(11,L 1 I (List.replicate m2 (0:Int))),(9,T.ro (lV x0))] [([(8,some (T.ro (lV (List.replicate m1 (0:Int)))))],[(8,1)]),([(11,some (T.ro (lV (List.replicate m2 (0:Int)))))],[(11,1)]),([(12,some (L 1 (Ro lV) [List.replicate m1 (0:Int),x0,List.replicate m2 (0:Int)]))],[(12,0)])] ⟨rfl,rfl,rfl,trivial⟩ (fun E h => IxOk.gh (Ghost.frz 8 (k:=1) (f:=I) (g:=I) (List.replicate m1 (0:Int)) h.1 inferInstance) <| IxOk.gh (Ghost.frz 11 (k:=1) (f:=I) (g:=I) (List.replicate m2 (0:Int)) (keepE h.2.1) inferInstance) <| IxOk.opE (x_bs elt_23 [.tmp 8,.tmp 9,.tmp 11] [.slot 8 (T.ro (lV (List.replicate m1 (0:Int)))),.slot 9 (T.ro (lV x0)),.slot 11 (T.ro (lV (List.replicate m2 (0:Int))))] [List.replicate m1 (0:Int),x0,List.replicate m2 (0:Int)] (Ro lV) ⟨.slot _ _,.slot _ _,.slot _ _,trivial⟩ (pkS (keepE rfl) (clean_of trivial) rfl (pkS (keepE (keepE h.2.2.1)) (clean_of trivial) rfl (pkS rfl (clean_of trivial) rfl pkN))) rfl rfl) rfl) ?_
 refine dC [(12,_)] Tryz.call67 (t_slices_Concat_int64_int64 _ _ hr3) ?_
 refine d_as [(13,_)] ?_
 refine dNA mixedP ?_
 refine nA ?_
 refine CW.ghost (Ghost.tr 6 13 _ rfl rfl (clean_of (cleanL (Enc.clean (f:=I)))) rfl) ?_
 refine CW.ret ?_
 obtain rfl:=sI h
 exact rT
theorem t_impl_extension (x0:SPr) (x1:SModule) (x2:List (List Int)) (r:SPr) (h:f_impl_extension x0 x1 x2 = some r):FnC Tryz.prog 91 [T.ro ((Pt eSPr) x0),T.ro ((Pt eSModule) x1),T.ro (lM x2)] [eSPr r] []:=by
 refine fB Tryz.func91 (fun St W w0 v => ?_)
 refine sR ?_
 refine a_alloc ?_
 refine rN ?_
 refine CW.seq ?_
 refine CW.dk ?_
 refine d_mv [(0,_)] ?_
 refine d_nilc [(18,_)] ?_
 refine d_far [(19,_)] ?_
 refine d_ldr [(20,_)] ?_
 refine d_lenr [(21,_)] ?_
 refine d_mv [(1,_)] ?_
 refine d_nilc [(23,_)] ?_
 refine d_far [(24,_)] ?_
 refine d_ldr [(25,_)] ?_
 refine d_as [(22,_)] ?_
 refine d_as [(26,_)] ?_
 refine dNA mixedP ?_
 refine nA ?_
 refine CW.seq ?_
 obtain ⟨r1,hr1,h⟩:=bd h
 obtain ⟨r2,hr2,h⟩:=bd h
 obtain ⟨v3,hv3,h⟩:=bd h
 obtain ⟨r4,hr4,h⟩:=bd h
 refine CW.dk ?_
 refine d_mv [(0,_)] ?_
 refine d_nilc [(27,_)] ?_
 refine d_far [(28,_)] ?_
 refine d_ldr [(29,_)] ?_
 refine dC [(30,_)] Tryz.call109 (t_slices_Clone_int64_int64 _ _ hr1) ?_
 refine d_mv [(1,_)] ?_
 refine d_nilc [(32,_)] ?_
 refine d_far [(33,_)] ?_
 refine d_ldr [(34,_)] ?_
 refine dG [(35,_)] [([(36,some (L 1 I [x1.Prime]))],[(36,0)])] ⟨rfl,trivial⟩ (fun E h => IxOk.opE (x_bs elt_22 [.tmp 35] [.slot 35 (I x1.Prime)] [x1.Prime] I ⟨.slot _ _,trivial⟩ (pkS h.1 (clean_of (Enc.clean (f:=I) _)) rfl pkN) rfl rfl) rfl) ?_
 refine d_mv [(8,_)] ?_
 refine dC [(36,_),(37,_)] Tryz.call103 (t_slices_Repeat_int64_int64 _ _ _ hr2) ?_
 refine dG [(31,_),(38,_)] [([(39,some (L 1 I v3)),(31,some T.any)],[(39,0),(31,1)])] ⟨rfl,rfl,trivial⟩ (fun E h => IxOk.opE (x_appc (f:=I) elt_22 (fun _ => rfl) hv3 h.1 (locB h.2.1 rfl) rfl) rfl) ?_
 refine dC [(39,_)] Tryz.call131 (t_impl_trivialRelations _ _ hr4) ?_
 refine d_alloc [] ?_
 refine dG [(9,_),(40,_)] [([(9,some (T.ptr (eSPr r4))),(40,some (T.agg [T.same 9 [0,0],T.same 9 [1,0],T.same 9 [2,0]]))],[(9,1),(40,1)])] ⟨rfl,rfl,trivial⟩ (fun E h => IxOk.opE (x_stp inf_33 rfl (locB h.1 rfl) h.1 rfl rfl h.2.1 (clean_of (cleanA ⟨(cleanL (Enc.clean (f:=I))),(cleanL (Enc.clean (f:=lV))),(cleanL (Enc.clean (f:=lM))),trivial⟩)) rfl) rfl) ?_
 refine dNA mixedP ?_
 refine nA ?_
 refine CW.seq ?_
 refine CW.to [(0,T.ro ((Pt eSPr) x0)),(1,T.ro ((Pt eSModule) x1)),(2,T.ro (lM x2)),(6,T.ptr (T.agg [L 1 I [],L 1 lV [],L 1 lM []])),(7,I (x0.Orders.length:Int)),(9,T.ptr (eSPr r4))] ⟨rfl,rfl,rfl,rfl,rfl,rfl,trivial⟩ ?_
 refine CW.region ?_
 refine a_as ?_
 refine rN ?_
 refine CW.seq ?_
 refine sR ?_
 refine a_mv ?_
 refine a_nilc ?_
 refine a_far ?_
 refine a_ldr ?_
 refine a_lenr ?_
 refine a_mv ?_
 refine rN ?_
 refine CW.block ?_
 obtain ⟨r11,hr11,h⟩:=bd h
 refine CW.lp (s:=(r4.Powers,0,0)) (l1_impl_extension x0 x2) (fun s1:(List (List Int)) × Int × Int => envL [(0,T.ro ((Pt eSPr) x0)),(1,T.ro ((Pt eSModule) x1)),(2,T.ro (lM x2)),(6,T.ptr (T.agg [L 1 I [],L 1 lV [],L 1 lM []])),(7,I (x0.Orders.length:Int)),(9,T.ptr (T.agg [L 1 I r4.Orders,L 1 lV s1.1,L 1 lM r4.Conjugates])),(10,I s1.2.1),(44,T.ro (lM x0.Powers)),(45,I (x0.Powers.length:Int)),(46,I s1.2.2)]) (fun (r11:((List (List Int)) × Int)) e E => e = .exit 0 ∧ Ghost ⟨St,W,w0,Tryz.f91.ntmps⟩ E (envL [(0,T.ro ((Pt eSPr) x0)),(1,T.ro ((Pt eSModule) x1)),(2,T.ro (lM x2)),(6,T.ptr (T.agg [L 1 I [],L 1 lV [],L 1 lM []])),(7,I (x0.Orders.length:Int)),(9,T.ptr (T.agg [L 1 I r4.Orders,L 1 lV r11.1,L 1 lM r4.Conjugates])),(10,I r11.2)])) (.has ⟨rfl,rfl,rfl,rfl,rfl,rfl,rfl,rfl,rfl,rfl,trivial⟩) (fun s1 x h => ?_) hr11 (fun e E hq => ?_)
 refine sR ?_
 refine a_lss ?_
 refine rN ?_
 refine CW.seq ?_
 refine cn h (fun hc h => ?_) (fun hc h => ?_)
 refine CW.skip ?_
 refine nA ?_
 refine CW.seq ?_
 refine CW.block ?_
 refine sR ?_
 refine a_mv ?_
 obtain ⟨v5,hv5,h⟩:=bd h
 refine a_ixr ?_
 refine a_ldr ?_
 refine a_as ?_
 refine a_as ?_
 refine rN ?_
 refine CW.seq ?_
 obtain ⟨v6,hv6,h⟩:=bd h
 obtain ⟨r7,hr7,h⟩:=bd h
 obtain ⟨v8,hv8,h⟩:=bd h
 refine CW.dk ?_
 refine d_fa [(9,_)] ?_
 refine d_ld [(51,_),(9,_)] ?_
 refine d_mv [(11,_)] ?_
 refine d_mv [(12,_)] ?_
 refine d_mv [(2,_)] ?_
 refine d_mv [(10,_)] ?_
 refine d_ixr [(55,_),(56,_)] ?_
 refine d_ldr [(57,_)] ?_
 refine dG [(54,_),(58,_)] [([(59,some (L 1 (Ro lV) [v5,v6]))],[(59,0)])] ⟨rfl,rfl,trivial⟩ (fun E h => IxOk.opE (x_bs elt_23 [.tmp 54,.tmp 58] [.slot 54 (T.ro (lV v5)),.slot 58 (T.ro (lV v6))] [v5,v6] (Ro lV) ⟨.slot _ _,.slot _ _,trivial⟩ (pkS h.1 (clean_of trivial) rfl (pkS h.2.1 (clean_of trivial) rfl pkN)) rfl rfl) rfl) ?_
 refine dC [(59,_)] Tryz.call67 (t_slices_Concat_int64_int64 _ _ hr7) ?_
 refine d_ix [(52,_),(9,_),(53,_)] ?_
 refine dG [(61,_),(9,_),(60,_)] [([(9,some (T.ptr (T.agg [L 1 I r4.Orders,L 1 lV (s1.1.set s1.2.2.toNat r7),L 1 lM r4.Conjugates]))),(60,some (T.same 9 [s1.2.2.toNat,1,0]))],[(9,3),(60,1)])] ⟨rfl,rfl,rfl,trivial⟩ (fun E h => IxOk.opE (x_st inf_22 rfl h.1 h.2.1 (getp (geta rfl (getc hv8 rfl))) (setp (seta rfl (setc hv8 rfl))) h.2.2.1 (clean_of (cleanL (Enc.clean (f:=I)))) rfl) rfl) ?_
 refine dNA mixedP ?_
 refine nA ?_
 refine CW.region ?_
 refine a_mv ?_
 obtain ⟨v9,hv9,h⟩:=bd h
 refine oP (x_add hv9 rfl rfl rfl) ?_
 refine a_as ?_
 refine RW.nil ?_
 refine nB ?_
 refine nA ?_
 refine CW.region ?_
 obtain ⟨v10,hv10,h⟩:=bd h
 refine oP (x_add hv10 rfl rfl rfl) ?_
 refine a_mv ?_
 refine RW.nil ?_
 exact eN h
 refine CW.exit ?_
 refine xA ?_
 exact eX h
 obtain ⟨rfl,hg⟩:=hq
 refine xB ?_
 refine nA ?_
 refine CW.ghost hg ?_
 refine CW.seq ?_
 refine sR ?_
 refine a_mv ?_
 refine a_mv ?_
 refine rN ?_
 refine CW.block ?_
 obtain ⟨r32,hr32,h⟩:=bd h
 refine CW.lp (s:=(r4.Conjugates,r11.2,0)) (l4_impl_extension x0 x1 x2) (fun s11:(List (List (List Int))) × Int × Int => envL [(0,T.ro ((Pt eSPr) x0)),(1,T.ro ((Pt eSModule) x1)),(2,T.ro (lM x2)),(6,T.ptr (T.agg [L 1 I [],L 1 lV [],L 1 lM []])),(7,I (x0.Orders.length:Int)),(9,T.ptr (T.agg [L 1 I r4.Orders,L 1 lV r11.1,L 1 lM s11.1])),(10,I s11.2.1),(65,I (x0.Orders.length:Int)),(66,I s11.2.2)]) (fun (r32:(List (List (List Int)))) e E => e = .exit 2 ∧ Ghost ⟨St,W,w0,Tryz.f91.ntmps⟩ E (envL [(6,T.ptr (T.agg [L 1 I [],L 1 lV [],L 1 lM []])),(9,T.ptr (T.agg [L 1 I r4.Orders,L 1 lV r11.1,L 1 lM r32]))])) (.has ⟨rfl,rfl,rfl,rfl,rfl,rfl,rfl,rfl,rfl,trivial⟩) (fun s11 x h => ?_) hr32 (fun e E hq => ?_)
 refine sR ?_
 refine a_lss ?_
 refine rN ?_
 refine CW.seq ?_
 refine cn h (fun hc h => ?_) (fun hc h => ?_)
 refine CW.skip ?_
 refine nA ?_
 refine CW.seq ?_
 refine CW.block ?_
 refine sR ?_
 refine a_mv ?_
 refine a_as ?_
 refine rN ?_
 refine CW.seq ?_
 refine sR ?_
 refine a_mv ?_
 refine a_nilc ?_
 refine a_far ?_
 refine a_ldr ?_
 refine a_mv ?_
 obtain ⟨v12,hv12,h⟩:=bd h
 refine a_ixr ?_
 refine a_ldr ?_
 refine a_lenr ?_
 refine a_mv ?_
 refine rN ?_
 refine CW.block ?_
 obtain ⟨r20,hr20,h⟩:=bd h
 refine CW.lp (s:=(s11.1,s11.2.1,0)) (l2_impl_extension x2 s11 v12) (fun s12:(List (List (List Int))) × Int × Int => envL [(0,T.ro ((Pt eSPr) x0)),(1,T.ro ((Pt eSModule) x1)),(2,T.ro (lM x2)),(6,T.ptr (T.agg [L 1 I [],L 1 lV [],L 1 lM []])),(7,I (x0.Orders.length:Int)),(9,T.ptr (T.agg [L 1 I r4.Orders,L 1 lV r11.1,L 1 lM s12.1])),(10,I s12.2.1),(13,I s11.2.2),(65,I (x0.Orders.length:Int)),(66,I s11.2.2),(75,T.ro (lM v12)),(76,I (v12.length:Int)),(77,I s12.2.2)]) (fun (r20:((List (List (List Int))) × Int)) e E => e = .exit 4 ∧ Ghost ⟨St,W,w0,Tryz.f91.ntmps⟩ E (envL [(0,T.ro ((Pt eSPr) x0)),(1,T.ro ((Pt eSModule) x1)),(2,T.ro (lM x2)),(6,T.ptr (T.agg [L 1 I [],L 1 lV [],L 1 lM []])),(7,I (x0.Orders.length:Int)),(9,T.ptr (T.agg [L 1 I r4.Orders,L 1 lV r11.1,L 1 lM r20.1])),(10,I r20.2),(13,I s11.2.2),(65,I (x0.Orders.length:Int)),(66,I s11.2.2)])) (.has ⟨rfl,rfl,rfl,rfl,rfl,rfl,rfl,rfl,rfl,rfl,rfl,rfl,rfl,trivial⟩) (fun s12 x h => ?_) hr20 (fun e E hq => ?_)
 refine sR ?_
 refine a_lss ?_
 refine rN ?_
 refine CW.seq ?_
 refine cn h (fun hc h => ?_) (fun hc h => ?_)
 refine CW.skip ?_
 refine nA ?_
 refine CW.seq ?_
 refine CW.block ?_
 refine sR ?_
 refine a_mv ?_
 obtain ⟨v13,hv13,h⟩:=bd h
 refine a_ixr ?_
 refine a_ldr ?_
 refine a_as ?_
 refine a_as ?_
 refine rN ?_
 refine CW.seq ?_
 obtain ⟨v14,hv14,h⟩:=bd h
 obtain ⟨v15,hv15,h⟩:=bd h
 obtain ⟨r16,hr16,h⟩:=bd h
 obtain ⟨v17,hv17,h⟩:=bd h
 refine CW.dk ?_
 refine d_fa [(9,_)] ?_
 refine d_ld [(82,_),(9,_)] ?_
 refine d_mv [(13,_)] ?_
 refine d_ix [(83,_),(9,_),(84,_)] ?_
 refine d_ld [(85,_),(9,_)] ?_
 refine d_mv [(14,_)] ?_
 refine d_mv [(15,_)] ?_
 refine d_mv [(2,_)] ?_
 refine d_mv [(10,_)] ?_
 refine d_ixr [(89,_),(90,_)] ?_
 refine d_ldr [(91,_)] ?_
 refine dG [(88,_),(92,_)] [([(93,some (L 1 (Ro lV) [v13,v15]))],[(93,0)])] ⟨rfl,rfl,trivial⟩ (fun E h => IxOk.opE (x_bs elt_23 [.tmp 88,.tmp 92] [.slot 88 (T.ro (lV v13)),.slot 92 (T.ro (lV v15))] [v13,v15] (Ro lV) ⟨.slot _ _,.slot _ _,trivial⟩ (pkS h.1 (clean_of trivial) rfl (pkS h.2.1 (clean_of trivial) rfl pkN)) rfl rfl) rfl) ?_
 refine dC [(93,_)] Tryz.call67 (t_slices_Concat_int64_int64 _ _ hr16) ?_
 refine d_ix [(86,_),(9,_),(87,_)] ?_
 refine dG [(95,_),(9,_),(94,_)] [([(9,some (T.ptr (T.agg [L 1 I r4.Orders,L 1 lV r11.1,L 1 lM (s12.1.set s11.2.2.toNat (v14.set s12.2.2.toNat r16))]))),(94,some (T.same 9 [s12.2.2.toNat,s11.2.2.toNat,2,0]))],[(9,4),(94,1)])] ⟨rfl,rfl,rfl,trivial⟩ (fun E h => IxOk.opE (x_st inf_22 rfl h.1 h.2.1 (getp (geta rfl (getc hv14 (getc hv17 rfl)))) (setp (seta rfl (setc hv14 (setc hv17 rfl)))) h.2.2.1 (clean_of (cleanL (Enc.clean (f:=I)))) rfl) rfl) ?_
 refine dNA mixedP ?_
 refine nA ?_
 refine CW.region ?_
 refine a_mv ?_
 obtain ⟨v18,hv18,h⟩:=bd h
 refine a_add ?_
 refine a_as ?_
 refine RW.nil ?_
 refine nB ?_
 refine nA ?_
 refine CW.to [(0,T.ro ((Pt eSPr) x0)),(1,T.ro ((Pt eSModule) x1)),(2,T.ro (lM x2)),(6,T.ptr (T.agg [L 1 I [],L 1 lV [],L 1 lM []])),(7,I (x0.Orders.length:Int)),(9,T.ptr (T.agg [L 1 I r4.Orders,L 1 lV r11.1,L 1 lM (s12.1.set s11.2.2.toNat (v14.set s12.2.2.toNat r16))])),(10,I v18),(13,I s11.2.2),(65,I (x0.Orders.length:Int)),(66,I s11.2.2),(75,T.ro (lM v12)),(76,I (v12.length:Int)),(77,I s12.2.2)] ⟨rfl,rfl,rfl,rfl,rfl,rfl,rfl,rfl,rfl,rfl,rfl,rfl,rfl,trivial⟩ ?_
 refine CW.region ?_
 obtain ⟨v19,hv19,h⟩:=bd h
 refine a_add ?_
 refine a_mv ?_
 refine RW.nil ?_
 exact eN h
 refine CW.exit ?_
 refine xA ?_
 exact eX h
 obtain ⟨rfl,hg⟩:=hq
 refine xB ?_
 refine nA ?_
 refine CW.ghost hg ?_
 refine sR ?_
 refine a_mv ?_
 refine a_nilc ?_
 refine a_far ?_
 refine a_ldr ?_
 refine a_mv ?_
 obtain ⟨v21,hv21,h⟩:=bd h
 refine a_ixr ?_
 refine a_ldr ?_
 refine a_lenr ?_
 refine a_mv ?_
 refine rN ?_
 refine CW.block ?_
 obtain ⟨r30,hr30,h⟩:=bd h
 refine CW.lp (s:=(r20.1,0)) (l3_impl_extension x0 s11 v21) (fun s14:(List (List (List Int))) × Int => envL [(0,T.ro ((Pt eSPr) x0)),(1,T.ro ((Pt eSModule) x1)),(2,T.ro (lM x2)),(6,T.ptr (T.agg [L 1 I [],L 1 lV [],L 1 lM []])),(7,I (x0.Orders.length:Int)),(9,T.ptr (T.agg [L 1 I r4.Orders,L 1 lV r11.1,L 1 lM s14.1])),(10,I r20.2),(13,I s11.2.2),(65,I (x0.Orders.length:Int)),(66,I s11.2.2),(105,T.ro (lM v21)),(106,I (v21.length:Int)),(107,I s14.2)]) (fun (r30:(List (List (List Int)))) e E => e = .exit 6 ∧ Ghost ⟨St,W,w0,Tryz.f91.ntmps⟩ E (envL [(0,T.ro ((Pt eSPr) x0)),(1,T.ro ((Pt eSModule) x1)),(2,T.ro (lM x2)),(6,T.ptr (T.agg [L 1 I [],L 1 lV [],L 1 lM []])),(7,I (x0.Orders.length:Int)),(9,T.ptr (T.agg [L 1 I r4.Orders,L 1 lV r11.1,L 1 lM r30])),(10,I r20.2),(65,I (x0.Orders.length:Int)),(66,I s11.2.2)])) (.has ⟨rfl,rfl,rfl,rfl,rfl,rfl,rfl,rfl,rfl,rfl,rfl,rfl,rfl,trivial⟩) (fun s14 x h => ?_) hr30 (fun e E hq => ?_)
 refine sR ?_
 refine a_lss ?_
 refine rN ?_
 refine CW.seq ?_
 refine cn h (fun hc h => ?_) (fun hc h => ?_)
 refine CW.skip ?_
 refine nA ?_
 refine CW.seq ?_
 refine CW.block ?_
 refine sR ?_
 refine a_mv ?_
 obtain ⟨v22,hv22,h⟩:=bd h
 refine a_ixr ?_
 refine a_ldr ?_
 refine a_as ?_
 refine a_as ?_
 refine rN ?_
 obtain ⟨v23,hv23,h⟩:=bd h
 obtain ⟨v24,hv24,h⟩:=bd h
 obtain ⟨v25,hv25,h⟩:=bd h
 obtain ⟨v26,hv26,h⟩:=bd h
 obtain ⟨r27,hr27,h⟩:=bd h
 obtain ⟨v28,hv28,h⟩:=bd h
 refine CW.dk ?_
 refine d_fa [(9,_)] ?_
 refine d_ld [(112,_),(9,_)] ?_
 refine d_mv [(13,_)] ?_
 refine d_ix [(113,_),(9,_),(114,_)] ?_
 refine d_ld [(115,_),(9,_)] ?_
 refine d_mv [(7,_)] ?_
 refine d_sub [(117,_)] ?_
 refine d_mv [(13,_)] ?_
 refine d_sub [(118,_),(119,_)] ?_
 refine d_mv [(16,_)] ?_
 refine d_add [(120,_),(121,_)] ?_
 refine d_mv [(17,_)] ?_
 refine d_mv [(7,_)] ?_
 refine dC [(123,_),(124,_)] Tryz.call132 (t_impl_padded _ _ _ _ hr27) ?_
 refine d_ix [(116,_),(9,_),(122,_)] ?_
 refine dG [(126,_),(9,_),(125,_)] [([(9,some (T.ptr (T.agg [L 1 I r4.Orders,L 1 lV r11.1,L 1 lM (s14.1.set s11.2.2.toNat (v23.set v26.toNat r27))]))),(125,some (T.same 9 [v26.toNat,s11.2.2.toNat,2,0]))],[(9,4),(125,1)])] ⟨rfl,rfl,rfl,trivial⟩ (fun E h => IxOk.opE (x_st inf_22 rfl h.1 h.2.1 (getp (geta rfl (getc hv23 (getc hv28 rfl)))) (setp (seta rfl (setc hv23 (setc hv28 rfl)))) h.2.2.1 (clean_of (cleanL (Enc.clean (f:=I)))) rfl) rfl) ?_
 refine dNA mixedP ?_
 refine nB ?_
 refine nA ?_
 refine CW.region ?_
 obtain ⟨v29,hv29,h⟩:=bd h
 refine a_add ?_
 refine a_mv ?_
 refine RW.nil ?_
 exact eN h
 refine CW.exit ?_
 refine xA ?_
 exact eX h
 obtain ⟨rfl,hg⟩:=hq
 refine xB ?_
 refine nB ?_
 refine nA ?_
 refine CW.ghost hg ?_
 refine CW.region ?_
 obtain ⟨v31,hv31,h⟩:=bd h
 refine a_add ?_
 refine a_mv ?_
 refine RW.nil ?_
 exact eN h
 refine CW.exit ?_
 refine xA ?_
 exact eX h
 obtain ⟨rfl,hg⟩:=hq
 refine xB ?_
 refine nA ?_
 refine CW.ghost hg ?_
 refine sR ?_
 refine a_ldp ?_
 refine RW.ghost (Ghost.trf 129 [0] 9 [0,0] _ _ rfl rfl rfl rfl rfl (clean_of (cleanL (Enc.clean (f:=I)))) rfl) ?_
 refine RW.ghost (Ghost.trf 129 [1] 9 [1,0] _ _ rfl rfl rfl rfl rfl (clean_of (cleanL (Enc.clean (f:=lV)))) rfl) ?_
 refine RW.ghost (Ghost.trf 129 [2] 9 [2,0] _ _ rfl rfl rfl rfl rfl (clean_of (cleanL (Enc.clean (f:=lM)))) rfl) ?_
 refine oP (x_stp inf_33 rfl (locB rfl rfl) rfl rfl rfl rfl (clean_of (cleanA ⟨(cleanL (Enc.clean (f:=I))),(cleanL (Enc.clean (f:=lV))),(cleanL (Enc.clean (f:=lM))),trivial⟩)) rfl) ?_
 refine rN ?_
 refine CW.ret ?_
 obtain rfl:=sI h
 exact ⟨_,Ghost.refl,⟨.inl rfl,[(6,[0],T.agg [L 1 I r4.Orders,L 1 lV r11.1,L 1 lM r32])],⟨⟨rfl,rfl,rfl,(var_33.h _ rfl rfl).h⟩,trivial⟩,rfl,(by simp),(by simp),trivial⟩⟩
theorem t_impl_isCocycle (x0:SPr) (x1:SModule) (x2:List (List Int)) (r:Bool) (h:f_impl_isCocycle x0 x1 x2 = some r):FnC Tryz.prog 90 [T.ro ((Pt eSPr) x0),T.ro ((Pt eSModule) x1),T.ro (lM x2)] [B r] []:=by
 refine fB Tryz.func90 (fun St W w0 v => ?_)
 refine sR ?_
 refine a_as ?_
 refine rN ?_
 refine sR ?_
 refine a_mv ?_
 refine a_mv ?_
 refine a_mv ?_
 obtain ⟨r1,hr1,h⟩:=bd h
 refine cA Tryz.call91 (t_impl_extension _ _ _ _ hr1) ?_
 refine a_alloc ?_
 refine oP (x_stp inf_33 rfl (locB rfl rfl) rfl rfl rfl rfl (clean_of (cleanA ⟨(cleanL (Enc.clean (f:=I))),(cleanL (Enc.clean (f:=lV))),(cleanL (Enc.clean (f:=lM))),trivial⟩)) rfl) ?_
 refine rN ?_
 refine sR ?_
 obtain ⟨r2,hr2,h⟩:=bd h
 refine oP (x_call (xs:=[.tmp 7]) Tryz.call101 (t_impl_consistentFrom _ _ hr2) ⟨(agC _ rfl (cloP (stA (stC (StripTo.h (f:=L 1 I) _) (stC (StripTo.h (f:=L 1 lV) _) (stC (StripTo.h (f:=L 1 lM) _) rfl))))) rfl),trivial⟩ (resC (f:=I) inferInstance resN) rfl) ?_
 refine a_eql ?_
 refine a_as ?_
 refine rN ?_
 refine CW.ret ?_
 obtain rfl:=sI h
 exact rT
theorem t_impl_cocycleCode (x0:SPr) (x1:SModule) (x2:List (List (List Int))) (r:Int) (h:f_impl_cocycleCode x0 x1 x2 = some r):FnC Tryz.prog 50 [T.ro ((Pt eSPr) x0),T.ro ((Pt eSModule) x1),T.ro (lC x2)] [I r] []:=by
 refine fB Tryz.func50 (fun St W w0 v => ?_)
 refine sR ?_
 refine a_as ?_
 refine rN ?_
 refine CW.seq ?_
 refine sR ?_
 refine a_mv ?_
 refine a_mv ?_
 obtain ⟨r1,hr1,h⟩:=bd h
 refine cA Tryz.call35 (t_impl_isModule _ _ _ hr1) ?_
 refine a_not ?_
 refine rN ?_
 refine cn h (fun hc h => ?_) (fun hc h => ?_)
 refine sR ?_
 refine a_as ?_
 refine rN ?_
 refine CW.ret ?_
 refine rA ?_
 obtain rfl:=sI h
 exact rT
 refine CW.skip ?_
 refine nA ?_
 refine CW.seq ?_
 refine sR ?_
 refine a_mv ?_
 refine a_lenr ?_
 refine a_mv ?_
 refine rN ?_
 refine CW.block ?_
 obtain ⟨r5,hr5,h⟩:=bd h
 refine CW.lp (s:=0) (l1_impl_cocycleCode x0 x1 x2) (fun s1:Int => envL [(0,T.ro ((Pt eSPr) x0)),(1,T.ro ((Pt eSModule) x1)),(2,T.ro (lC x2)),(15,T.ro (lC x2)),(16,I (x2.length:Int)),(17,I s1)]) (fun (x:Unit ⊕ Int) e E => match x with | (.inl r5) => e = .exit 0 ∧ Ghost ⟨St,W,w0,Tryz.f50.ntmps⟩ E (envL [(0,T.ro ((Pt eSPr) x0)),(1,T.ro ((Pt eSModule) x1)),(2,T.ro (lC x2))]) | (.inr r5) => e = .ret ∧ RetG ⟨St,W,w0,Tryz.f50.ntmps⟩ Tryz.prog Tryz.f50.results [T.ro ((Pt eSPr) x0),T.ro ((Pt eSModule) x1),T.ro (lC x2)] [I r5] [] .ret E) (.has ⟨rfl,rfl,rfl,rfl,rfl,rfl,trivial⟩) (fun s1 x h => ?_) hr5 (fun e E hq => ?_)
 refine sR ?_
 refine a_lss ?_
 refine rN ?_
 refine CW.seq ?_
 refine cn h (fun hc h => ?_) (fun hc h => ?_)
 refine CW.skip ?_
 refine nA ?_
 refine CW.seq ?_
 refine CW.block ?_
 refine sR ?_
 obtain ⟨v2,hv2,h⟩:=bd h
 refine RW.op (y_ixr (locB rfl rfl) rfl hv2 rfl) ?_
 refine a_ldr ?_
 refine a_as ?_
 refine rN ?_
 refine sR ?_
 refine a_mv ?_
 refine a_mv ?_
 refine a_mv ?_
 obtain ⟨r3,hr3,h⟩:=bd h
 refine cA Tryz.call89 (t_impl_areTails _ _ _ _ hr3) ?_
 refine a_not ?_
 refine rN ?_
 refine cn h (fun hc h => ?_) (fun hc h => ?_)
 refine sR ?_
 refine a_as ?_
 refine rN ?_
 refine CW.ret ?_
 refine rB ?_
 refine rA ?_
 exact eX h
 refine CW.skip ?_
 refine nB ?_
 refine nA ?_
 refine CW.region ?_
 obtain ⟨v4,hv4,h⟩:=bd h
 refine a_add ?_
 refine a_mv ?_
 refine RW.nil ?_
 exact eN h
 refine CW.exit ?_
 refine xA ?_
 exact eX h
 rcases r5 with r5 | r5
 obtain ⟨rfl,hg⟩:=hq
 refine xB ?_
 refine nA ?_
 refine CW.ghost hg ?_
 refine CW.seq ?_
 refine sR ?_
 refine a_mv ?_
 refine a_lenr ?_
 refine a_mv ?_
 refine rN ?_
 refine CW.block ?_
 obtain ⟨r9,hr9,h⟩:=bd h
 refine CW.lp (s:=0) (l2_impl_cocycleCode x0 x1 x2) (fun s3:Int => envL [(0,T.ro ((Pt eSPr) x0)),(1,T.ro ((Pt eSModule) x1)),(27,T.ro (lC x2)),(28,I (x2.length:Int)),(29,I s3)]) (fun (x:Unit ⊕ Int) e E => match x with | (.inl r9) => e = .exit 2 ∧ Ghost ⟨St,W,w0,Tryz.f50.ntmps⟩ E (envL []) | (.inr r9) => e = .ret ∧ RetG ⟨St,W,w0,Tryz.f50.ntmps⟩ Tryz.prog Tryz.f50.results [T.ro ((Pt eSPr) x0),T.ro ((Pt eSModule) x1),T.ro (lC x2)] [I r9] [] .ret E) (.has ⟨rfl,rfl,rfl,rfl,rfl,trivial⟩) (fun s3 x h => ?_) hr9 (fun e E hq => ?_)
 refine sR ?_
 refine a_lss ?_
 refine rN ?_
 refine CW.seq ?_
 refine cn h (fun hc h => ?_) (fun hc h => ?_)
 refine CW.skip ?_
 refine nA ?_
 refine CW.seq ?_
 refine CW.block ?_
 refine sR ?_
 obtain ⟨v6,hv6,h⟩:=bd h
 refine a_ixr ?_
 refine a_ldr ?_
 refine a_as ?_
 refine rN ?_
 refine sR ?_
 refine a_mv ?_
 refine a_mv ?_
 refine a_mv ?_
 obtain ⟨r7,hr7,h⟩:=bd h
 refine cA Tryz.call90 (t_impl_isCocycle _ _ _ _ hr7) ?_
 refine a_not ?_
 refine rN ?_
 refine cn h (fun hc h => ?_) (fun hc h => ?_)
 refine sR ?_
 refine a_as ?_
 refine rN ?_
 refine CW.ret ?_
 refine rB ?_
 refine rA ?_
 exact eX h
 refine CW.skip ?_
 refine nB ?_
 refine nA ?_
 refine CW.region ?_
 obtain ⟨v8,hv8,h⟩:=bd h
 refine a_add ?_
 refine a_mv ?_
 refine RW.nil ?_
 exact eN h
 refine CW.exit ?_
 refine xA ?_
 exact eX h
 rcases r9 with r9 | r9
 obtain ⟨rfl,hg⟩:=hq
 refine xB ?_
 refine nA ?_
 refine CW.ghost hg ?_
 refine sR ?_
 refine a_as ?_
 refine rN ?_
 refine CW.ret ?_
 obtain rfl:=sI h
 exact rT
 obtain ⟨rfl,hq⟩:=hq
 refine rB ?_
 refine rA ?_
 obtain rfl:=sI h
 exact hq
 obtain ⟨rfl,hq⟩:=hq
 refine rB ?_
 refine rA ?_
 obtain rfl:=sI h
 exact hq
theorem t_impl_validExtension (x0:SPr) (x1:SModule) (x2:List (List Int)) (r:SPr × Int) (h:f_impl_validExtension x0 x1 x2 = some r):FnC Tryz.prog 51 [T.ro ((Pt eSPr) x0),T.ro ((Pt eSModule) x1),T.ro (lM x2)] [eSPr r.1,I r.2] []:=by
 refine fB Tryz.func51 (fun St W w0 v => ?_)
 refine sR ?_
 refine a_alloc ?_
 refine a_as ?_
 refine rN ?_
 refine sR ?_
 refine a_mv ?_
 refine a_mv ?_
 refine a_mv ?_
 obtain ⟨r1,hr1,h⟩:=bd h
 refine cA Tryz.call91 (t_impl_extension _ _ _ _ hr1) ?_
 refine a_alloc ?_
 refine oP (x_stp inf_33 rfl (locB rfl rfl) rfl rfl rfl rfl (clean_of (cleanA ⟨(cleanL (Enc.clean (f:=I))),(cleanL (Enc.clean (f:=lV))),(cleanL (Enc.clean (f:=lM))),trivial⟩)) rfl) ?_
 refine rN ?_
 refine CW.seq ?_
 refine sR ?_
 refine a_ldp ?_
 obtain ⟨r2,hr2,h⟩:=bd h
 refine oP (x_call (xs:=[.tmp 13]) Tryz.call92 (t_impl_IsPresentation _ _ hr2) ⟨(agC _ rfl (cloA (cloC (cloS rfl rfl inferInstance) (cloC (cloS rfl rfl inferInstance) (cloC (cloS rfl rfl inferInstance) cloN)))) rfl),trivial⟩ (resC (f:=B) inferInstance resN) rfl) ?_
 refine a_not ?_
 refine rN ?_
 refine cn h (fun hc h => ?_) (fun hc h => ?_)
 refine sR ?_
 refine oP (x_build bld_33 [] [] [.zero (L 1 I []),.zero (L 1 lV []),.zero (L 1 lM [])] (pkZ rfl (pkZ rfl (pkZ rfl pkN))) bqN rfl) ?_
 refine oP (x_stp inf_33 rfl (locB rfl rfl) rfl rfl rfl rfl (clean_of (cleanA ⟨trivial,trivial,trivial,trivial⟩)) rfl) ?_
 refine a_as ?_
 refine rN ?_
 refine CW.ret ?_
 refine rA ?_
 obtain rfl:=sI h
 exact ⟨_,Ghost.refl,⟨.inl rfl,[(6,[0],T.agg [L 1 I [],L 1 lV [],L 1 lM []]),(7,[],I 3)],⟨⟨rfl,rfl,rfl,(var_33.h _ rfl rfl).h⟩,⟨rfl,rfl,rfl,rfl⟩,trivial⟩,rfl,(by simp),(by simp),trivial⟩⟩
 refine CW.skip ?_
 refine nA ?_
 refine sR ?_
 refine a_ldp ?_
 refine RW.ghost (Ghost.trf 17 [0] 8 [0,0] _ _ rfl rfl rfl rfl rfl (clean_of (cleanL (Enc.clean (f:=I)))) rfl) ?_
 refine RW.ghost (Ghost.trf 17 [1] 8 [1,0] _ _ rfl rfl rfl rfl rfl (clean_of (cleanL (Enc.clean (f:=lV)))) rfl) ?_
 refine RW.ghost (Ghost.trf 17 [2] 8 [2,0] _ _ rfl rfl rfl rfl rfl (clean_of (cleanL (Enc.clean (f:=lM)))) rfl) ?_
 refine oP (x_stp inf_33 rfl (locB rfl rfl) rfl rfl rfl rfl (clean_of (cleanA ⟨(cleanL (Enc.clean (f:=I))),(cleanL (Enc.clean (f:=lV))),(cleanL (Enc.clean (f:=lM))),trivial⟩)) rfl) ?_
 refine a_as ?_
 refine rN ?_
 refine CW.ret ?_
 obtain rfl:=sI h
 exact ⟨_,Ghost.refl,⟨.inl rfl,[(6,[0],eSPr r1),(7,[],I 0)],⟨⟨rfl,rfl,rfl,(var_33.h _ rfl rfl).h⟩,⟨rfl,rfl,rfl,rfl⟩,trivial⟩,rfl,(by simp),(by simp),trivial⟩⟩
theorem t_impl_ExtensionOf (x0:SPr) (x1:SModule) (x2:List (List Int)) (r:SPr × Int) (h:f_impl_ExtensionOf x0 x1 x2 = some r):FnC Tryz.prog 27 [qPr x0,qModule x1,T.ro (lM x2)] [eSPr r.1,I r.2] []:=by
 refine fB Tryz.func27 (fun St W w0 v => ?_)
 refine sR ?_
 refine a_box ?_
 refine a_box ?_
 refine a_alloc ?_
 refine a_as ?_
 refine rN ?_
 refine CW.seq ?_
 refine sR ?_
 refine a_mv ?_
 refine oP (x_bs elt_24 [.tmp 9] [.slot 9 (T.ro (lM x2))] [x2] (Ro lM) ⟨.slot _ _,trivial⟩ (pkS rfl (clean_of trivial) rfl pkN) rfl rfl) ?_
 obtain ⟨r1,hr1,h⟩:=bd h
 refine oP (x_call (xs:=[.tmp 3,.tmp 4,.tmp 10]) Tryz.call50 (t_impl_cocycleCode _ _ _ _ hr1) ⟨(agC _ rfl (cloP rfl) rfl),⟨(agC _ rfl (cloP rfl) rfl),⟨(agC _ rfl (cloO inferInstance) rfl),trivial⟩⟩⟩ (resC (f:=I) inferInstance resN) rfl) ?_
 refine a_as ?_
 refine rN ?_
 refine sR ?_
 refine a_mv ?_
 refine a_neq ?_
 refine rN ?_
 refine cn h (fun hc h => ?_) (fun hc h => ?_)
 refine sR ?_
 refine oP (x_build bld_33 [] [] [.zero (L 1 I []),.zero (L 1 lV []),.zero (L 1 lM [])] (pkZ rfl (pkZ rfl (pkZ rfl pkN))) bqN rfl) ?_
 refine a_mv ?_
 refine oP (x_stp inf_33 rfl (locB rfl rfl) rfl rfl rfl rfl (clean_of (cleanA ⟨trivial,trivial,trivial,trivial⟩)) rfl) ?_
 refine a_as ?_
 refine rN ?_
 refine CW.ret ?_
 refine rA ?_
 obtain rfl:=sI h
 exact ⟨_,Ghost.refl,⟨.inl rfl,[(6,[0],T.agg [L 1 I [],L 1 lV [],L 1 lM []]),(7,[],I r1)],⟨⟨rfl,rfl,rfl,(var_33.h _ rfl rfl).h⟩,⟨rfl,rfl,rfl,rfl⟩,trivial⟩,rfl,(by simp),(by simp),trivial⟩⟩
 refine CW.skip ?_
 refine nA ?_
 refine sR ?_
 refine a_mv ?_
 obtain ⟨r2,hr2,h⟩:=bd h
 refine oP (x_call (xs:=[.tmp 3,.tmp 4,.tmp 16]) Tryz.call51 (t_impl_validExtension _ _ _ _ hr2) ⟨(agC _ rfl (cloP rfl) rfl),⟨(agC _ rfl (cloP rfl) rfl),⟨(agC _ rfl rfl rfl),trivial⟩⟩⟩ (resC (f:=eSPr) inferInstance (resC (f:=I) inferInstance resN)) rfl) ?_
 refine a_ext ?_
 refine a_ext ?_
 refine RW.ghost (Ghost.trf 18 [0] 17 [0,0] _ _ rfl rfl rfl rfl rfl (clean_of (cleanL (Enc.clean (f:=I)))) rfl) ?_
 refine RW.ghost (Ghost.trf 18 [1] 17 [1,0] _ _ rfl rfl rfl rfl rfl (clean_of (cleanL (Enc.clean (f:=lV)))) rfl) ?_
 refine RW.ghost (Ghost.trf 18 [2] 17 [2,0] _ _ rfl rfl rfl rfl rfl (clean_of (cleanL (Enc.clean (f:=lM)))) rfl) ?_
 refine oP (x_stp inf_33 rfl (locB rfl rfl) rfl rfl rfl rfl (clean_of (cleanA ⟨(cleanL (Enc.clean (f:=I))),(cleanL (Enc.clean (f:=lV))),(cleanL (Enc.clean (f:=lM))),trivial⟩)) rfl) ?_
 refine a_as ?_
 refine rN ?_
 refine CW.ret ?_
 obtain rfl:=sI h
 exact ⟨_,Ghost.refl,⟨.inl rfl,[(6,[0],eSPr r2.1),(7,[],I r2.2)],⟨⟨rfl,rfl,rfl,(var_33.h _ rfl rfl).h⟩,⟨rfl,rfl,rfl,rfl⟩,trivial⟩,rfl,(by simp),(by simp),trivial⟩⟩
theorem t_laws_heldInt64SSS (x0:List (List (List Int))) (x1:Int) (r:Int) (h:f_laws_heldInt64SSS x0 x1 = some r):FnC Tryz.prog 52 [T.ro (lC x0),I x1] [I r] []:=by
 refine fB Tryz.func52 (fun St W w0 v => ?_)
 refine sR ?_
 refine a_as ?_
 refine rN ?_
 refine CW.seq ?_
 refine sR ?_
 refine a_as ?_
 refine rN ?_
 refine CW.block ?_
 obtain ⟨r4,hr4,h⟩:=bd h
 refine CW.lp (s:=(x1,0)) (l1_laws_heldInt64SSS x0) (fun s1:Int × Int => envL [(0,T.ro (lC x0)),(1,I s1.1),(5,I s1.2)]) (fun (x:Int ⊕ Int) e E => match x with | (.inl r4) => e = .exit 0 ∧ Ghost ⟨St,W,w0,Tryz.f52.ntmps⟩ E (envL [(1,I r4)]) | (.inr r4) => e = .ret ∧ RetG ⟨St,W,w0,Tryz.f52.ntmps⟩ Tryz.prog Tryz.f52.results [T.ro (lC x0),I x1] [I r4] [] .ret E) (.has ⟨rfl,rfl,rfl,trivial⟩) (fun s1 x h => ?_) hr4 (fun e E hq => ?_)
 refine CW.seq ?_
 refine sR ?_
 refine a_mv ?_
 refine a_mv ?_
 refine a_lenr ?_
 refine a_lss ?_
 refine rN ?_
 refine cn h (fun hc h => ?_) (fun hc h => ?_)
 refine CW.skip ?_
 refine nA ?_
 refine CW.seq ?_
 refine CW.block ?_
 refine sR ?_
 refine a_mv ?_
 refine a_mv ?_
 obtain ⟨v1,hv1,h⟩:=bd h
 refine a_ixr ?_
 refine a_ldr ?_
 refine a_mv ?_
 obtain ⟨r2,hr2,h⟩:=bd h
 refine cA Tryz.call19 (t_laws_heldInt64SS _ _ _ hr2) ?_
 refine a_as ?_
 refine rN ?_
 refine sR ?_
 refine a_mv ?_
 refine a_lss ?_
 refine rN ?_
 refine cn h (fun hc h => ?_) (fun hc h => ?_)
 refine sR ?_
 refine a_as ?_
 refine rN ?_
 refine CW.ret ?_
 refine rB ?_
 refine rA ?_
 exact eX h
 refine CW.skip ?_
 refine nB ?_
 refine nA ?_
 refine CW.region ?_
 refine a_mv ?_
 obtain ⟨v3,hv3,h⟩:=bd h
 refine a_add ?_
 refine a_as ?_
 refine RW.nil ?_
 exact eN h
 refine CW.exit ?_
 refine xA ?_
 exact eX h
 rcases r4 with r4 | r4
 obtain ⟨rfl,hg⟩:=hq
 refine xB ?_
 refine nA ?_
 refine CW.ghost hg ?_
 refine sR ?_
 refine a_mv ?_
 refine a_as ?_
 refine rN ?_
 refine CW.ret ?_
 obtain rfl:=sI h
 exact rT
 obtain ⟨rfl,hq⟩:=hq
 refine rB ?_
 refine rA ?_
 obtain rfl:=sI h
 exact hq
theorem t_laws_heldPresentation (x0:SPr) (x1:Int) (r:Int) (h:f_laws_heldPresentation x0 x1 = some r):FnC Tryz.prog 28 [qPr x0,I x1] [I r] []:=by
 refine fB Tryz.func28 (fun St W w0 v => ?_)
 refine sR ?_
 refine a_box ?_
 refine a_as ?_
 refine rN ?_
 refine sR ?_
 refine a_fa ?_
 refine a_ld ?_
 refine a_mv ?_
 obtain ⟨r1,hr1,h⟩:=bd h
 refine cA Tryz.call42 (t_laws_heldInt64S _ _ _ hr1) ?_
 refine a_as ?_
 refine rN ?_
 refine CW.seq ?_
 refine sR ?_
 refine a_mv ?_
 refine a_lss ?_
 refine rN ?_
 refine cn h (fun hc h => ?_) (fun hc h => ?_)
 refine sR ?_
 refine a_as ?_
 refine rN ?_
 refine CW.ret ?_
 refine rA ?_
 obtain rfl:=sI h
 exact rT
 refine CW.skip ?_
 refine nA ?_
 refine sR ?_
 refine a_fa ?_
 refine a_ld ?_
 refine a_mv ?_
 obtain ⟨r2,hr2,h⟩:=bd h
 refine cA Tryz.call19 (t_laws_heldInt64SS _ _ _ hr2) ?_
 refine a_as ?_
 refine rN ?_
 refine CW.seq ?_
 refine sR ?_
 refine a_mv ?_
 refine a_lss ?_
 refine rN ?_
 refine cn h (fun hc h => ?_) (fun hc h => ?_)
 refine sR ?_
 refine a_as ?_
 refine rN ?_
 refine CW.ret ?_
 refine rA ?_
 obtain rfl:=sI h
 exact rT
 refine CW.skip ?_
 refine nA ?_
 refine sR ?_
 refine a_fa ?_
 refine a_ld ?_
 refine a_mv ?_
 obtain ⟨r3,hr3,h⟩:=bd h
 refine cA Tryz.call52 (t_laws_heldInt64SSS _ _ _ hr3) ?_
 refine a_as ?_
 refine rN ?_
 refine CW.seq ?_
 refine sR ?_
 refine a_mv ?_
 refine a_lss ?_
 refine rN ?_
 refine cn h (fun hc h => ?_) (fun hc h => ?_)
 refine sR ?_
 refine a_as ?_
 refine rN ?_
 refine CW.ret ?_
 refine rA ?_
 obtain rfl:=sI h
 exact rT
 refine CW.skip ?_
 refine nA ?_
 refine sR ?_
 refine a_mv ?_
 refine a_as ?_
 refine rN ?_
 refine CW.ret ?_
 obtain rfl:=sI h
 exact rT
theorem t_laws_FnExactExtensionOf (x0:SPr) (x1:SModule) (x2:List (List Int)) (r:Bool) (h:f_laws_FnExactExtensionOf x0 x1 x2 = some r):FnC Tryz.prog 6 [qPr x0,qModule x1,T.ro (lM x2)] [B r] []:=by
 refine fB Tryz.func6 (fun St W w0 v => ?_)
 refine sR ?_
 refine a_box ?_
 refine a_box ?_
 refine a_as ?_
 refine rN ?_
 refine sR ?_
 refine a_as ?_
 refine rN ?_
 refine sR ?_
 refine a_ldp ?_
 refine a_mv ?_
 obtain ⟨r1,hr1,h⟩:=bd h
 refine cA Tryz.call7 (t_laws_szPresentation _ _ _ hr1) ?_
 refine a_as ?_
 refine rN ?_
 refine CW.seq ?_
 refine sR ?_
 refine a_mv ?_
 refine a_lss ?_
 refine rN ?_
 refine cn h (fun hc h => ?_) (fun hc h => ?_)
 refine sR ?_
 refine a_as ?_
 refine rN ?_
 refine CW.ret ?_
 refine rA ?_
 obtain rfl:=sI h
 exact rT
 refine CW.skip ?_
 refine nA ?_
 refine sR ?_
 refine a_ldp ?_
 refine a_mv ?_
 obtain ⟨r2,hr2,h⟩:=bd h
 refine cA Tryz.call8 (t_laws_szModule _ _ _ hr2) ?_
 refine a_as ?_
 refine rN ?_
 refine CW.seq ?_
 refine sR ?_
 refine a_mv ?_
 refine a_lss ?_
 refine rN ?_
 refine cn h (fun hc h => ?_) (fun hc h => ?_)
 refine sR ?_
 refine a_as ?_
 refine rN ?_
 refine CW.ret ?_
 refine rA ?_
 obtain rfl:=sI h
 exact rT
 refine CW.skip ?_
 refine nA ?_
 refine sR ?_
 refine a_mv ?_
 refine a_mv ?_
 obtain ⟨r3,hr3,h⟩:=bd h
 refine cA Tryz.call24 (t_laws_szInt64SS _ _ _ hr3) ?_
 refine a_as ?_
 refine rN ?_
 refine CW.seq ?_
 refine sR ?_
 refine a_mv ?_
 refine a_lss ?_
 refine rN ?_
 refine cn h (fun hc h => ?_) (fun hc h => ?_)
 refine sR ?_
 refine a_as ?_
 refine rN ?_
 refine CW.ret ?_
 refine rA ?_
 obtain rfl:=sI h
 exact rT
 refine CW.skip ?_
 refine nA ?_
 refine CW.seq ?_
 obtain ⟨r4,hr4,h⟩:=bd h
 obtain ⟨r5,hr5,h⟩:=bd h
 obtain ⟨r6,hr6,h⟩:=bd h
 obtain ⟨r7,hr7,h⟩:=bd h
 refine CW.dk ?_
 refine d_ldp [(3,_)] ?_
 refine dG [(36,_)] [([(37,some (eSPr r4))],[(37,0)])] ⟨rfl,trivial⟩ (fun E h => IxOk.opE (x_call (xs:=[.tmp 36]) Tryz.call10 (t_laws_toPresentation _ _ hr4) ⟨(agC _ h.1 rfl rfl),trivial⟩ (resC (f:=eSPr) inferInstance resN) rfl) rfl) ?_
 refine d_ldp [(4,_)] ?_
 refine dG [(38,_)] [([(39,some (eSModule r5))],[(39,0)])] ⟨rfl,trivial⟩ (fun E h => IxOk.opE (x_call (xs:=[.tmp 38]) Tryz.call11 (t_laws_toModule _ _ hr5) ⟨(agC _ h.1 rfl rfl),trivial⟩ (resC (f:=eSModule) inferInstance resN) rfl) rfl) ?_
 refine d_mv [(2,_)] ?_
 refine dG [(40,_)] [([(41,some (L 1 lV r6))],[(41,0)])] ⟨rfl,trivial⟩ (fun E h => IxOk.opE (x_call (xs:=[.tmp 40]) Tryz.call26 (t_laws_toInt64SS _ _ hr6) ⟨(agC _ h.1 rfl rfl),trivial⟩ (resC (f:=lM) inferInstance resN) rfl) rfl) ?_
 refine dG [(37,_),(39,_),(41,_)] [([(42,some (T.tup [eSPr r7.1,I r7.2]))],[(42,0)])] ⟨rfl,rfl,rfl,trivial⟩ (fun E h => IxOk.opE (x_call (xs:=[.tmp 37,.tmp 39,.tmp 41]) Tryz.call25 (t_spec_ExtensionOf _ _ _ _ hr7) ⟨(agC _ h.1 (cloA (cloC (cloO inferInstance) (cloC (cloO inferInstance) (cloC (cloO inferInstance) cloN)))) rfl),⟨(agC _ h.2.1 (cloA (cloC rfl (cloC rfl (cloC (cloO inferInstance) cloN)))) rfl),⟨(agC _ h.2.2.1 (cloO inferInstance) rfl),trivial⟩⟩⟩ (resC (f:=eSPr) inferInstance (resC (f:=I) inferInstance resN)) rfl) rfl) ?_
 refine d_mvT [(42,_)] ?_
 refine d_ext [(35,_)] ?_
 refine d_ext [(35,_)] ?_
 refine d_alloc [] ?_
 refine dG [(43,T.agg [T.same 42 [0,0],T.same 42 [1,0],T.same 42 [2,0]]),(42,T.tup [eSPr r7.1,I r7.2]),(8,T.ptr (T.agg [L 1 I [],L 1 lV [],L 1 lM []]))] [([(43,some (T.agg [L 1 I r7.1.Orders,T.same 42 [1,0],T.same 42 [2,0]])),(42,some (T.tup [T.agg [T.any,L 1 lV r7.1.Powers,L 1 lM r7.1.Conjugates],I r7.2]))],[(43,2),(42,3)]),([(43,some (T.agg [L 1 I r7.1.Orders,L 1 lV r7.1.Powers,T.same 42 [2,0]])),(42,some (T.tup [T.agg [T.any,T.any,L 1 lM r7.1.Conjugates],I r7.2]))],[(43,2),(42,3)]),([(43,some (eSPr r7.1)),(42,some (T.tup [T.agg [T.any,T.any,T.any],I r7.2]))],[(43,2),(42,3)]),([(8,some (T.ptr (eSPr r7.1))),(43,some (T.agg [T.same 8 [0,0],T.same 8 [1,0],T.same 8 [2,0]]))],[(8,1),(43,1)])] ⟨rfl,rfl,rfl,trivial⟩ (fun E h => IxOk.gh (Ghost.trf 43 [0] 42 [0,0] _ _ h.1 rfl h.2.1 rfl rfl (clean_of (cleanL (Enc.clean (f:=I)))) rfl) <| IxOk.gh (Ghost.trf 43 [1] 42 [1,0] _ _ rfl rfl rfl rfl rfl (clean_of (cleanL (Enc.clean (f:=lV)))) rfl) <| IxOk.gh (Ghost.trf 43 [2] 42 [2,0] _ _ rfl rfl rfl rfl rfl (clean_of (cleanL (Enc.clean (f:=lM)))) rfl) <| IxOk.opE (x_stp inf_33 rfl (locB (keepE (keepE (keepE h.2.2.1))) rfl) (keepE (keepE (keepE h.2.2.1))) rfl rfl rfl (clean_of (cleanA ⟨(cleanL (Enc.clean (f:=I))),(cleanL (Enc.clean (f:=lV))),(cleanL (Enc.clean (f:=lM))),trivial⟩)) rfl) rfl) ?_
 refine d_as [(44,_)] ?_
 refine dNA mixedP ?_
 refine nA ?_
 refine CW.seq ?_
 refine CW.to [(2,T.ro (lM x2)),(3,T.ptr (qPr x0)),(4,T.ptr (qModule x1)),(8,T.ptr (eSPr r7.1)),(9,I r7.2)] ⟨rfl,rfl,rfl,rfl,rfl,trivial⟩ ?_
 refine CW.region ?_
 refine a_ldp ?_
 obtain ⟨r8,hr8,h⟩:=bd h
 refine oP (x_call (xs:=[.tmp 45]) Tryz.call10 (t_laws_toPresentation _ _ hr8) ⟨(agC _ rfl rfl rfl),trivial⟩ (resC (f:=eSPr) inferInstance resN) rfl) ?_
 refine a_alloc ?_
 refine oP (x_stp inf_33 rfl (locB rfl rfl) rfl rfl rfl rfl (clean_of (cleanA ⟨(cleanL (Enc.clean (f:=I))),(cleanL (Enc.clean (f:=lV))),(cleanL (Enc.clean (f:=lM))),trivial⟩)) rfl) ?_
 refine rN ?_
 refine sR ?_
 refine a_ldp ?_
 obtain ⟨r9,hr9,h⟩:=bd h
 refine oP (x_call (xs:=[.tmp 47]) Tryz.call11 (t_laws_toModule _ _ hr9) ⟨(agC _ rfl rfl rfl),trivial⟩ (resC (f:=eSModule) inferInstance resN) rfl) ?_
 refine a_alloc ?_
 refine oP (x_stp inf_35 rfl (locB rfl rfl) rfl rfl rfl rfl (clean_of (cleanA ⟨(Enc.clean (f:=I) _),(Enc.clean (f:=I) _),(cleanL (Enc.clean (f:=lM))),trivial⟩)) rfl) ?_
 refine rN ?_
 refine sR ?_
 refine a_mv ?_
 obtain ⟨r10,hr10,h⟩:=bd h
 refine oP (x_call (xs:=[.tmp 49]) Tryz.call26 (t_laws_toInt64SS _ _ hr10) ⟨(agC _ rfl rfl rfl),trivial⟩ (resC (f:=lM) inferInstance resN) rfl) ?_
 refine a_as ?_
 refine RW.ghost (Ghost.tr 12 50 _ rfl rfl (clean_of (cleanL (Enc.clean (f:=lV)))) rfl) ?_
 refine rN ?_
 refine sR ?_
 refine a_ldp ?_
 refine a_ldp ?_
 refine a_mv ?_
 obtain ⟨r11,hr11,h⟩:=bd h
 refine oP (x_call (xs:=[.tmp 52,.tmp 53,.tmp 54]) Tryz.call27 (t_impl_ExtensionOf _ _ _ _ hr11) ⟨(agC _ rfl (cloA (cloC (cloS rfl rfl inferInstance) (cloC (cloS rfl rfl inferInstance) (cloC (cloS rfl rfl inferInstance) cloN)))) rfl),⟨(agC _ rfl (cloA (cloC rfl (cloC rfl (cloC (cloS rfl rfl inferInstance) cloN)))) rfl),⟨(agC _ rfl (cloS rfl rfl inferInstance) rfl),trivial⟩⟩⟩ (resC (f:=eSPr) inferInstance (resC (f:=I) inferInstance resN)) rfl) ?_
 refine a_mvT ?_
 refine a_ext ?_
 refine a_ext ?_
 refine a_alloc ?_
 refine RW.ghost (Ghost.trf 56 [0] 55 [0,0] _ _ rfl rfl rfl rfl rfl (clean_of (cleanL (Enc.clean (f:=I)))) rfl) ?_
 refine RW.ghost (Ghost.trf 56 [1] 55 [1,0] _ _ rfl rfl rfl rfl rfl (clean_of (cleanL (Enc.clean (f:=lV)))) rfl) ?_
 refine RW.ghost (Ghost.trf 56 [2] 55 [2,0] _ _ rfl rfl rfl rfl rfl (clean_of (cleanL (Enc.clean (f:=lM)))) rfl) ?_
 refine oP (x_stp inf_33 rfl (locB rfl rfl) rfl rfl rfl rfl (clean_of (cleanA ⟨(cleanL (Enc.clean (f:=I))),(cleanL (Enc.clean (f:=lV))),(cleanL (Enc.clean (f:=lM))),trivial⟩)) rfl) ?_
 refine a_as ?_
 refine rN ?_
 refine CW.seq ?_
 refine sR ?_
 refine a_ldp ?_
 refine a_ldp ?_
 obtain ⟨r12,hr12,h⟩:=bd h
 refine oP (x_call (xs:=[.tmp 58,.tmp 59]) Tryz.call14 (t_laws_eqPresentation _ _ _ hr12) ⟨(agC _ rfl (cloA (cloC (cloS rfl rfl inferInstance) (cloC (cloS rfl rfl inferInstance) (cloC (cloS rfl rfl inferInstance) cloN)))) rfl),⟨(agC _ rfl (cloA (cloC (cloS rfl rfl inferInstance) (cloC (cloS rfl rfl inferInstance) (cloC (cloS rfl rfl inferInstance) cloN)))) rfl),trivial⟩⟩ (resC (f:=B) inferInstance resN) rfl) ?_
 refine a_not ?_
 refine a_mv ?_
 refine RW.cases 62 _ rfl (fun hc => ?_) (fun hc => ?_)
 have h:=cT hc h
 refine sk2 ?_
 refine sk2 ?_
 refine sk2 ?_
 refine a_pick ?_
 refine rN ?_
 refine CW.condT rfl ?_
 refine CW.seq ?_
 refine CW.to [] trivial ?_
 refine CW.region ?_
 refine a_as ?_
 refine rN ?_
 refine CW.ret ?_
 refine rA ?_
 obtain rfl:=sI h
 exact rT
 have h:=cF hc h
 refine g_mv ?_
 refine g_mv ?_
 refine g_neq ?_
 refine a_pick ?_
 refine rN ?_
 refine cn h (fun hc h => ?_) (fun hc h => ?_)
 refine CW.seq ?_
 refine CW.to [] trivial ?_
 refine CW.region ?_
 refine a_as ?_
 refine rN ?_
 refine CW.ret ?_
 refine rA ?_
 obtain rfl:=sI h
 exact rT
 refine CW.skip ?_
 refine nA ?_
 refine CW.seq ?_
 refine CW.seq ?_
 refine CW.to [(2,T.ro (lM x2)),(3,T.ptr (qPr x0)),(4,T.ptr (qModule x1)),(8,T.ptr (eSPr r7.1)),(9,I r7.2),(10,T.ptr (eSPr r8)),(11,T.ptr (eSModule r9)),(12,L 1 lV r10),(13,T.ptr (eSPr r11.1)),(14,I r11.2)] ⟨rfl,rfl,rfl,rfl,rfl,rfl,rfl,rfl,rfl,rfl,trivial⟩ ?_
 obtain ⟨r13,hr13,h⟩:=bd h
 obtain ⟨r14,hr14,h⟩:=bd h
 refine CW.dk ?_
 refine d_ldp [(10,_)] ?_
 refine d_ldp [(3,_)] ?_
 refine dG [(68,_)] [([(69,some (eSPr r13))],[(69,0)])] ⟨rfl,trivial⟩ (fun E h => IxOk.opE (x_call (xs:=[.tmp 68]) Tryz.call10 (t_laws_toPresentation _ _ hr13) ⟨(agC _ h.1 rfl rfl),trivial⟩ (resC (f:=eSPr) inferInstance resN) rfl) rfl) ?_
 refine dG [(67,_),(10,_),(69,_)] [([(70,some (B r14))],[(70,0)])] ⟨rfl,rfl,rfl,trivial⟩ (fun E h => IxOk.opE (x_call (xs:=[.tmp 67,.tmp 69]) Tryz.call14 (t_laws_eqPresentation _ _ _ hr14) ⟨(agC _ h.1 (cloA (cloC (cloS h.2.1 rfl inferInstance) (cloC (cloS h.2.1 rfl inferInstance) (cloC (cloS h.2.1 rfl inferInstance) cloN)))) rfl),⟨(agC _ h.2.2.1 (cloA (cloC (cloO inferInstance) (cloC (cloO inferInstance) (cloC (cloO inferInstance) cloN)))) rfl),trivial⟩⟩ (resC (f:=B) inferInstance resN) rfl) rfl) ?_
 refine d_not [(70,_)] ?_
 refine dNA mixedP ?_
 refine nA ?_
 refine cn h (fun hc h => ?_) (fun hc h => ?_)
 refine sR ?_
 refine a_as ?_
 refine rN ?_
 refine CW.ret ?_
 refine rA ?_
 obtain rfl:=sI h
 exact rT
 refine CW.skip ?_
 refine nA ?_
 refine CW.seq ?_
 refine CW.seq ?_
 obtain ⟨r15,hr15,h⟩:=bd h
 obtain ⟨r16,hr16,h⟩:=bd h
 refine CW.dk ?_
 refine d_ldp [(11,_)] ?_
 refine d_ldp [(4,_)] ?_
 refine dG [(73,_)] [([(74,some (eSModule r15))],[(74,0)])] ⟨rfl,trivial⟩ (fun E h => IxOk.opE (x_call (xs:=[.tmp 73]) Tryz.call11 (t_laws_toModule _ _ hr15) ⟨(agC _ h.1 rfl rfl),trivial⟩ (resC (f:=eSModule) inferInstance resN) rfl) rfl) ?_
 refine dG [(72,_),(11,_),(74,_)] [([(75,some (B r16))],[(75,0)])] ⟨rfl,rfl,rfl,trivial⟩ (fun E h => IxOk.opE (x_call (xs:=[.tmp 72,.tmp 74]) Tryz.call15 (t_laws_eqModule _ _ _ hr16) ⟨(agC _ h.1 (cloA (cloC rfl (cloC rfl (cloC (cloS h.2.1 rfl inferInstance) cloN)))) rfl),⟨(agC _ h.2.2.1 (cloA (cloC rfl (cloC rfl (cloC (cloO inferInstance) cloN)))) rfl),trivial⟩⟩ (resC (f:=B) inferInstance resN) rfl) rfl) ?_
 refine d_not [(75,_)] ?_
 refine dNA mixedP ?_
 refine nA ?_
 refine cn h (fun hc h => ?_) (fun hc h => ?_)
 refine sR ?_
 refine a_as ?_
 refine rN ?_
 refine CW.ret ?_
 refine rA ?_
 obtain rfl:=sI h
 exact rT
 refine CW.skip ?_
 refine nA ?_
 refine CW.seq ?_
 refine sR ?_
 refine a_mv ?_
 refine a_mv ?_
 obtain ⟨r17,hr17,h⟩:=bd h
 refine oP (x_call (xs:=[.tmp 78]) Tryz.call26 (t_laws_toInt64SS _ _ hr17) ⟨(agC _ rfl rfl rfl),trivial⟩ (resC (f:=lM) inferInstance resN) rfl) ?_
 obtain ⟨r18,hr18,h⟩:=bd h
 refine cA Tryz.call13 (t_laws_eqInt64SS _ _ _ hr18) ?_
 refine a_not ?_
 refine rN ?_
 refine cn h (fun hc h => ?_) (fun hc h => ?_)
 refine sR ?_
 refine a_as ?_
 refine rN ?_
 refine CW.ret ?_
 refine rA ?_
 obtain rfl:=sI h
 exact rT
 refine CW.skip ?_
 refine nA ?_
 refine sR ?_
 refine a_as ?_
 refine rN ?_
 refine sR ?_
 refine a_ldp ?_
 refine a_mv ?_
 obtain ⟨r19,hr19,h⟩:=bd h
 refine oP (x_callA (xs:=[.tmp 82,.tmp 83]) 0 82 10 [(0,[0,0]),(1,[1,0]),(2,[2,0])] 2 Tryz.call16 (t_laws_markPresentation _ _ _ hr19) (.cons 0 [0,0] _ _ _ _ _ rfl rfl rfl rfl (clean_of (cleanL (Enc.clean (f:=I)))) rfl rfl rfl (.cons 1 [1,0] _ _ _ _ _ rfl rfl rfl rfl (clean_of (cleanL (Enc.clean (f:=lV)))) rfl rfl rfl (.cons 2 [2,0] _ _ _ _ _ rfl rfl rfl rfl (clean_of (cleanL (Enc.clean (f:=lM)))) rfl rfl rfl (.nil _)))) rfl (Enc.clean (f:=eSPr) _) (Enc.rofree (f:=eSPr) _) ⟨(agLd rfl (Enc.clean (f:=eSPr) _) (Enc.rofree (f:=eSPr) _)),⟨(agM _ rfl rfl rfl),trivial⟩⟩ (resC (f:=I) inferInstance resN) (.cons 0 [0,0] _ _ _ _ _ _ rfl rfl rfl rfl (clean_of (cleanL (Enc.clean (f:=I)))) rfl rfl rfl (.cons 1 [1,0] _ _ _ _ _ _ rfl rfl rfl rfl (clean_of (cleanL (Enc.clean (f:=lV)))) rfl rfl rfl (.cons 2 [2,0] _ _ _ _ _ _ rfl rfl rfl rfl (clean_of (cleanL (Enc.clean (f:=lM)))) rfl rfl rfl (.nil _)))) rfl rfl rfl) ?_
 refine a_as ?_
 refine rN ?_
 refine sR ?_
 refine a_ldp ?_
 refine a_mv ?_
 obtain ⟨r20,hr20,h⟩:=bd h
 refine oP (x_callA (xs:=[.tmp 85,.tmp 86]) 0 85 11 [(2,[2,0])] 2 Tryz.call17 (t_laws_markModule _ _ _ hr20) (.cons 2 [2,0] _ _ _ _ _ rfl rfl rfl rfl (clean_of (cleanL (Enc.clean (f:=lM)))) rfl rfl rfl (.nil _)) rfl (Enc.clean (f:=eSModule) _) (Enc.rofree (f:=eSModule) _) ⟨(agLd rfl (Enc.clean (f:=eSModule) _) (Enc.rofree (f:=eSModule) _)),⟨(agM _ rfl rfl rfl),trivial⟩⟩ (resC (f:=I) inferInstance resN) (.cons 2 [2,0] _ _ _ _ _ _ rfl rfl rfl rfl (clean_of (cleanL (Enc.clean (f:=lM)))) rfl rfl rfl (.nil _)) rfl rfl rfl) ?_
 refine a_as ?_
 refine rN ?_
 refine CW.seq ?_
 refine CW.to [(2,T.ro (lM x2)),(3,T.ptr (qPr x0)),(4,T.ptr (qModule x1)),(8,T.ptr (eSPr r7.1)),(9,I r7.2),(12,L 1 lV r10),(13,T.ptr (eSPr r11.1)),(14,I r11.2),(15,I r20.1)] ⟨rfl,rfl,rfl,rfl,rfl,rfl,rfl,rfl,rfl,trivial⟩ ?_
 refine CW.region ?_
 refine a_mv ?_
 refine a_mv ?_
 obtain ⟨r21,hr21,h⟩:=bd h
 refine oP (x_callM (xs:=[.tmp 88,.tmp 89]) 0 88 12 [] Tryz.call18 (t_laws_markInt64SS _ _ _ hr21) rfl rfl rfl (clean_of (cleanL (Enc.clean (f:=lV)))) (clean_of (cleanL (Enc.clean (f:=lV)))) (Enc.rofree (f:=L 1 lV) _) (Enc.rofree (f:=L 1 lV) _) ⟨(agLd rfl (clean_of (cleanL (Enc.clean (f:=lV)))) (Enc.rofree (f:=L 1 lV) _)),⟨(agM _ rfl rfl rfl),trivial⟩⟩ (resC (f:=I) inferInstance resN) rfl rfl rfl rfl) ?_
 refine a_as ?_
 refine rN ?_
 refine CW.seq ?_
 refine sR ?_
 refine a_mv ?_
 refine a_lss ?_
 refine a_mv ?_
 refine RW.cases 93 _ rfl (fun hc => ?_) (fun hc => ?_)
 have h:=cT hc h
 refine sk2 ?_
 refine sk2 ?_
 refine sk2 ?_
 refine sk2 ?_
 refine a_pick ?_
 refine a_mv ?_
 refine sk2 ?_
 refine sk2 ?_
 refine sk2 ?_
 refine a_pick ?_
 refine rN ?_
 refine CW.condT rfl ?_
 refine sR ?_
 refine a_as ?_
 refine rN ?_
 refine CW.ret ?_
 refine rA ?_
 obtain rfl:=sI h
 exact rT
 have h:=cF hc h
 refine g_ldp ?_
 refine g_ldp ?_
 obtain ⟨r22,hr22,h⟩:=bd h
 refine RW.cons (IxOk.guard 2 false 93 (x_call (xs:=[.tmp 94,.tmp 95]) Tryz.call14 (t_laws_eqPresentation _ _ _ hr22) ⟨(agC _ rfl (cloA (cloC (cloS rfl rfl inferInstance) (cloC (cloS rfl rfl inferInstance) (cloC (cloS rfl rfl inferInstance) cloN)))) rfl),⟨(agC _ rfl (cloA (cloC (cloS rfl rfl inferInstance) (cloC (cloS rfl rfl inferInstance) (cloC (cloS rfl rfl inferInstance) cloN)))) rfl),trivial⟩⟩ (resC (f:=B) inferInstance resN) rfl)) ?_
 refine g_not ?_
 refine a_pick ?_
 refine a_mv ?_
 refine RW.cases 99 _ rfl (fun hc => ?_) (fun hc => ?_)
 have h:=cT hc h
 refine sk2 ?_
 refine sk2 ?_
 refine sk2 ?_
 refine a_pick ?_
 refine rN ?_
 refine CW.condT rfl ?_
 refine sR ?_
 refine a_as ?_
 refine rN ?_
 refine CW.ret ?_
 refine rA ?_
 obtain rfl:=sI h
 exact rT
 have h:=cF hc h
 refine g_mv ?_
 refine g_mv ?_
 refine g_neq ?_
 refine a_pick ?_
 refine rN ?_
 refine cn h (fun hc h => ?_) (fun hc h => ?_)
 refine sR ?_
 refine a_as ?_
 refine rN ?_
 refine CW.ret ?_
 refine rA ?_
 obtain rfl:=sI h
 exact rT
 refine CW.skip ?_
 refine nA ?_
 refine sR ?_
 refine a_as ?_
 refine rN ?_
 refine sR ?_
 refine a_ldp ?_
 refine a_mv ?_
 obtain ⟨r23,hr23,h⟩:=bd h
 refine oP (x_callA (xs:=[.tmp 104,.tmp 105]) 0 104 13 [(0,[0,0]),(1,[1,0]),(2,[2,0])] 2 Tryz.call16 (t_laws_markPresentation _ _ _ hr23) (.cons 0 [0,0] _ _ _ _ _ rfl rfl rfl rfl (clean_of (cleanL (Enc.clean (f:=I)))) rfl rfl rfl (.cons 1 [1,0] _ _ _ _ _ rfl rfl rfl rfl (clean_of (cleanL (Enc.clean (f:=lV)))) rfl rfl rfl (.cons 2 [2,0] _ _ _ _ _ rfl rfl rfl rfl (clean_of (cleanL (Enc.clean (f:=lM)))) rfl rfl rfl (.nil _)))) rfl (Enc.clean (f:=eSPr) _) (Enc.rofree (f:=eSPr) _) ⟨(agLd rfl (Enc.clean (f:=eSPr) _) (Enc.rofree (f:=eSPr) _)),⟨(agM _ rfl rfl rfl),trivial⟩⟩ (resC (f:=I) inferInstance resN) (.cons 0 [0,0] _ _ _ _ _ _ rfl rfl rfl rfl (clean_of (cleanL (Enc.clean (f:=I)))) rfl rfl rfl (.cons 1 [1,0] _ _ _ _ _ _ rfl rfl rfl rfl (clean_of (cleanL (Enc.clean (f:=lV)))) rfl rfl rfl (.cons 2 [2,0] _ _ _ _ _ _ rfl rfl rfl rfl (clean_of (cleanL (Enc.clean (f:=lM)))) rfl rfl rfl (.nil _)))) rfl rfl rfl) ?_
 refine a_as ?_
 refine rN ?_
 refine sR ?_
 refine a_as ?_
 refine rN ?_
 refine sR ?_
 refine a_ldp ?_
 refine a_mv ?_
 obtain ⟨r24,hr24,h⟩:=bd h
 refine oP (x_call (xs:=[.tmp 107,.tmp 108]) Tryz.call28 (t_laws_heldPresentation _ _ _ hr24) ⟨(agC _ rfl (cloA (cloC (cloS rfl rfl inferInstance) (cloC (cloS rfl rfl inferInstance) (cloC (cloS rfl rfl inferInstance) cloN)))) rfl),⟨(agC _ rfl rfl rfl),trivial⟩⟩ (resC (f:=I) inferInstance resN) rfl) ?_
 refine a_as ?_
 refine rN ?_
 refine CW.seq ?_
 refine CW.seq ?_
 refine CW.to [(2,T.ro (lM x2)),(3,T.ptr (qPr x0)),(4,T.ptr (qModule x1)),(8,T.ptr (eSPr r7.1)),(9,I r7.2),(13,T.ptr (eSPr r23.2)),(16,I r23.1),(17,I r24)] ⟨rfl,rfl,rfl,rfl,rfl,rfl,rfl,rfl,trivial⟩ ?_
 refine CW.region ?_
 refine a_mv ?_
 refine a_lss ?_
 refine rN ?_
 refine cn h (fun hc h => ?_) (fun hc h => ?_)
 refine sR ?_
 refine a_as ?_
 refine rN ?_
 refine CW.ret ?_
 refine rA ?_
 obtain rfl:=sI h
 exact rT
 refine CW.skip ?_
 refine nA ?_
 refine CW.seq ?_
 refine sR ?_
 refine a_mv ?_
 refine a_mv ?_
 refine a_neq ?_
 refine rN ?_
 refine cn h (fun hc h => ?_) (fun hc h => ?_)
 refine sR ?_
 refine a_as ?_
 refine rN ?_
 refine CW.ret ?_
 refine rA ?_
 obtain rfl:=sI h
 exact rT
 refine CW.skip ?_
 refine nA ?_
 refine CW.seq ?_
 obtain ⟨r25,hr25,h⟩:=bd h
 obtain ⟨r26,hr26,h⟩:=bd h
 obtain ⟨r27,hr27,h⟩:=bd h
 obtain ⟨r28,hr28,h⟩:=bd h
 refine CW.dk ?_
 refine d_ldp [(3,_)] ?_
 refine dG [(116,_)] [([(117,some (eSPr r25))],[(117,0)])] ⟨rfl,trivial⟩ (fun E h => IxOk.opE (x_call (xs:=[.tmp 116]) Tryz.call10 (t_laws_toPresentation _ _ hr25) ⟨(agC _ h.1 rfl rfl),trivial⟩ (resC (f:=eSPr) inferInstance resN) rfl) rfl) ?_
 refine d_ldp [(4,_)] ?_
 refine dG [(118,_)] [([(119,some (eSModule r26))],[(119,0)])] ⟨rfl,trivial⟩ (fun E h => IxOk.opE (x_call (xs:=[.tmp 118]) Tryz.call11 (t_laws_toModule _ _ hr26) ⟨(agC _ h.1 rfl rfl),trivial⟩ (resC (f:=eSModule) inferInstance resN) rfl) rfl) ?_
 refine d_mv [(2,_)] ?_
 refine dG [(120,_)] [([(121,some (L 1 lV r27))],[(121,0)])] ⟨rfl,trivial⟩ (fun E h => IxOk.opE (x_call (xs:=[.tmp 120]) Tryz.call26 (t_laws_toInt64SS _ _ hr27) ⟨(agC _ h.1 rfl rfl),trivial⟩ (resC (f:=lM) inferInstance resN) rfl) rfl) ?_
 refine dG [(117,_),(119,_),(121,_)] [([(122,some (T.tup [eSPr r28.1,I r28.2]))],[(122,0)])] ⟨rfl,rfl,rfl,trivial⟩ (fun E h => IxOk.opE (x_call (xs:=[.tmp 117,.tmp 119,.tmp 121]) Tryz.call27 (t_impl_ExtensionOf _ _ _ _ hr28) ⟨(agC _ h.1 (cloA (cloC (cloO inferInstance) (cloC (cloO inferInstance) (cloC (cloO inferInstance) cloN)))) rfl),⟨(agC _ h.2.1 (cloA (cloC rfl (cloC rfl (cloC (cloO inferInstance) cloN)))) rfl),⟨(agC _ h.2.2.1 (cloO inferInstance) rfl),trivial⟩⟩⟩ (resC (f:=eSPr) inferInstance (resC (f:=I) inferInstance resN)) rfl) rfl) ?_
 refine d_mvT [(122,_)] ?_
 refine d_ext [(115,_)] ?_
 refine d_ext [(115,_)] ?_
 refine d_alloc [] ?_
 refine dG [(123,T.agg [T.same 122 [0,0],T.same 122 [1,0],T.same 122 [2,0]]),(122,T.tup [eSPr r28.1,I r28.2]),(18,T.ptr (T.agg [L 1 I [],L 1 lV [],L 1 lM []]))] [([(123,some (T.agg [L 1 I r28.1.Orders,T.same 122 [1,0],T.same 122 [2,0]])),(122,some (T.tup [T.agg [T.any,L 1 lV r28.1.Powers,L 1 lM r28.1.Conjugates],I r28.2]))],[(123,2),(122,3)]),([(123,some (T.agg [L 1 I r28.1.Orders,L 1 lV r28.1.Powers,T.same 122 [2,0]])),(122,some (T.tup [T.agg [T.any,T.any,L 1 lM r28.1.Conjugates],I r28.2]))],[(123,2),(122,3)]),([(123,some (eSPr r28.1)),(122,some (T.tup [T.agg [T.any,T.any,T.any],I r28.2]))],[(123,2),(122,3)]),([(18,some (T.ptr (eSPr r28.1))),(123,some (T.agg [T.same 18 [0,0],T.same 18 [1,0],T.same 18 [2,0]]))],[(18,1),(123,1)])] ⟨rfl,rfl,rfl,trivial⟩ (fun E h => IxOk.gh (Ghost.trf 123 [0] 122 [0,0] _ _ h.1 rfl h.2.1 rfl rfl (clean_of (cleanL (Enc.clean (f:=I)))) rfl) <| IxOk.gh (Ghost.trf 123 [1] 122 [1,0] _ _ rfl rfl rfl rfl rfl (clean_of (cleanL (Enc.clean (f:=lV)))) rfl) <| IxOk.gh (Ghost.trf 123 [2] 122 [2,0] _ _ rfl rfl rfl rfl rfl (clean_of (cleanL (Enc.clean (f:=lM)))) rfl) <| IxOk.opE (x_stp inf_33 rfl (locB (keepE (keepE (keepE h.2.2.1))) rfl) (keepE (keepE (keepE h.2.2.1))) rfl rfl rfl (clean_of (cleanA ⟨(cleanL (Enc.clean (f:=I))),(cleanL (Enc.clean (f:=lV))),(cleanL (Enc.clean (f:=lM))),trivial⟩)) rfl) rfl) ?_
 refine d_as [(124,_)] ?_
 refine dNA mixedP ?_
 refine nA ?_
 refine CW.seq ?_
 refine sR ?_
 refine a_ldp ?_
 refine a_ldp ?_
 obtain ⟨r29,hr29,h⟩:=bd h
 refine oP (x_call (xs:=[.tmp 125,.tmp 126]) Tryz.call14 (t_laws_eqPresentation _ _ _ hr29) ⟨(agC _ rfl (cloA (cloC (cloS rfl rfl inferInstance) (cloC (cloS rfl rfl inferInstance) (cloC (cloS rfl rfl inferInstance) cloN)))) rfl),⟨(agC _ rfl (cloA (cloC (cloS rfl rfl inferInstance) (cloC (cloS rfl rfl inferInstance) (cloC (cloS rfl rfl inferInstance) cloN)))) rfl),trivial⟩⟩ (resC (f:=B) inferInstance resN) rfl) ?_
 refine a_not ?_
 refine a_mv ?_
 refine RW.cases 129 _ rfl (fun hc => ?_) (fun hc => ?_)
 have h:=cT hc h
 refine sk2 ?_
 refine sk2 ?_
 refine sk2 ?_
 refine a_pick ?_
 refine rN ?_
 refine CW.condT rfl ?_
 refine CW.seq ?_
 refine CW.to [] trivial ?_
 refine CW.region ?_
 refine a_as ?_
 refine rN ?_
 refine CW.ret ?_
 refine rA ?_
 obtain rfl:=sI h
 exact rT
 have h:=cF hc h
 refine g_mv ?_
 refine g_mv ?_
 refine g_neq ?_
 refine a_pick ?_
 refine rN ?_
 refine cn h (fun hc h => ?_) (fun hc h => ?_)
 refine CW.seq ?_
 refine CW.to [] trivial ?_
 refine CW.region ?_
 refine a_as ?_
 refine rN ?_
 refine CW.ret ?_
 refine rA ?_
 obtain rfl:=sI h
 exact rT
 refine CW.skip ?_
 refine nA ?_
 refine CW.seq ?_
 refine CW.to [(13,T.ptr (eSPr r23.2)),(16,I r23.1)] ⟨rfl,rfl,trivial⟩ ?_
 refine CW.region ?_
 refine a_as ?_
 refine rN ?_
 refine sR ?_
 refine a_ldp ?_
 refine a_mv ?_
 obtain ⟨r30,hr30,h⟩:=bd h
 refine oP (x_call (xs:=[.tmp 134,.tmp 135]) Tryz.call28 (t_laws_heldPresentation _ _ _ hr30) ⟨(agC _ rfl (cloA (cloC (cloS rfl rfl inferInstance) (cloC (cloS rfl rfl inferInstance) (cloC (cloS rfl rfl inferInstance) cloN)))) rfl),⟨(agC _ rfl rfl rfl),trivial⟩⟩ (resC (f:=I) inferInstance resN) rfl) ?_
 refine a_as ?_
 refine rN ?_
 refine CW.seq ?_
 refine sR ?_
 refine a_mv ?_
 refine a_lss ?_
 refine rN ?_
 refine cn h (fun hc h => ?_) (fun hc h => ?_)
 refine sR ?_
 refine a_as ?_
 refine rN ?_
 refine CW.ret ?_
 refine rA ?_
 obtain rfl:=sI h
 exact rT
 refine CW.skip ?_
 refine nA ?_
 refine CW.seq ?_
 refine sR ?_
 refine a_mv ?_
 refine a_mv ?_
 refine a_neq ?_
 refine rN ?_
 refine cn h (fun hc h => ?_) (fun hc h => ?_)
 refine sR ?_
 refine a_as ?_
 refine rN ?_
 refine CW.ret ?_
 refine rA ?_
 obtain rfl:=sI h
 exact rT
 refine CW.skip ?_
 refine nA ?_
 refine sR ?_
 refine a_as ?_
 refine rN ?_
 refine CW.ret ?_
 obtain rfl:=sI h
 exact rT
end Go.Wk
