/- The program and the reference return the same extensions by tails, for all arguments (FnExactExtensionOf). This file is a part of the proof. -/
import Derived.Test.YtdcfglaicpidkaaGreatWT
namespace Go.Wk
open Go Go.Proofs Go.Ab
set_option maxRecDepth 100000
theorem t_laws_szInt64S (x0:List Int) (x1:Int) (r:Int) (h:f_laws_szInt64S x0 x1 = some r):FnC Tryz.prog 29 [T.ro (lV x0),I x1] [I r] []:=by
 refine fB Tryz.func29 (fun St W w0 v => ?_)
 refine sR ?_
 refine a_as ?_
 refine rN ?_
 refine sR ?_
 refine a_mv ?_
 refine a_mv ?_
 refine a_lenr ?_
 obtain ⟨v1,hv1,h⟩:=bd h
 refine a_sub ?_
 refine a_as ?_
 refine rN ?_
 refine CW.seq ?_
 refine sR ?_
 refine a_mv ?_
 refine a_lss ?_
 refine rN ?_
 refine cn h (fun hc h => ?_) (fun hc h => ?_)
 refine sR ?_
 refine a_as ?_
 refine rN ?_
 refine CW.ret ?_
 refine rA ?_
 obtain rfl:=sI h
 exact rT
 refine CW.skip ?_
 refine nA ?_
 refine sR ?_
 refine a_mv ?_
 refine a_as ?_
 refine rN ?_
 refine CW.ret ?_
 obtain rfl:=sI h
 exact rT
theorem t_laws_szInt64SS (x0:List (List Int)) (x1:Int) (r:Int) (h:f_laws_szInt64SS x0 x1 = some r):FnC Tryz.prog 24 [T.ro (lM x0),I x1] [I r] []:=by
 refine fB Tryz.func24 (fun St W w0 v => ?_)
 refine sR ?_
 refine a_as ?_
 refine rN ?_
 refine sR ?_
 refine a_mv ?_
 refine a_mv ?_
 refine a_lenr ?_
 obtain ⟨v1,hv1,h⟩:=bd h
 refine a_sub ?_
 refine a_as ?_
 refine rN ?_
 refine CW.seq ?_
 refine sR ?_
 refine a_mv ?_
 refine a_lss ?_
 refine rN ?_
 refine cn h (fun hc h => ?_) (fun hc h => ?_)
 refine sR ?_
 refine a_as ?_
 refine rN ?_
 refine CW.ret ?_
 refine rA ?_
 obtain rfl:=sI h
 exact rT
 refine CW.skip ?_
 refine nA ?_
 refine CW.seq ?_
 refine sR ?_
 refine a_as ?_
 refine rN ?_
 refine CW.block ?_
 obtain ⟨r5,hr5,h⟩:=bd h
 refine CW.lp (s:=(v1,0)) (l1_laws_szInt64SS x0) (fun s1:Int × Int => envL [(0,T.ro (lM x0)),(1,I s1.1),(5,I s1.2)]) (fun (x:Int ⊕ Int) e E => match x with | (.inl r5) => e = .exit 0 ∧ Ghost ⟨St,W,w0,Tryz.f24.ntmps⟩ E (envL [(1,I r5)]) | (.inr r5) => e = .ret ∧ RetG ⟨St,W,w0,Tryz.f24.ntmps⟩ Tryz.prog Tryz.f24.results [T.ro (lM x0),I x1] [I r5] [] .ret E) (.has ⟨rfl,rfl,rfl,trivial⟩) (fun s1 x h => ?_) hr5 (fun e E hq => ?_)
 refine CW.seq ?_
 refine sR ?_
 refine a_mv ?_
 refine a_mv ?_
 refine a_lenr ?_
 refine a_lss ?_
 refine rN ?_
 refine cn h (fun hc h => ?_) (fun hc h => ?_)
 refine CW.skip ?_
 refine nA ?_
 refine CW.seq ?_
 refine CW.block ?_
 refine sR ?_
 refine a_mv ?_
 refine a_mv ?_
 obtain ⟨v2,hv2,h⟩:=bd h
 refine a_ixr ?_
 refine a_ldr ?_
 refine a_mv ?_
 obtain ⟨r3,hr3,h⟩:=bd h
 refine cA Tryz.call29 (t_laws_szInt64S _ _ _ hr3) ?_
 refine a_as ?_
 refine rN ?_
 refine sR ?_
 refine a_mv ?_
 refine a_lss ?_
 refine rN ?_
 refine cn h (fun hc h => ?_) (fun hc h => ?_)
 refine sR ?_
 refine a_as ?_
 refine rN ?_
 refine CW.ret ?_
 refine rB ?_
 refine rA ?_
 exact eX h
 refine CW.skip ?_
 refine nB ?_
 refine nA ?_
 refine CW.region ?_
 refine a_mv ?_
 obtain ⟨v4,hv4,h⟩:=bd h
 refine a_add ?_
 refine a_as ?_
 refine RW.nil ?_
 exact eN h
 refine CW.exit ?_
 refine xA ?_
 exact eX h
 rcases r5 with r5 | r5
 obtain ⟨rfl,hg⟩:=hq
 refine xB ?_
 refine nA ?_
 refine CW.ghost hg ?_
 refine sR ?_
 refine a_mv ?_
 refine a_as ?_
 refine rN ?_
 refine CW.ret ?_
 obtain rfl:=sI h
 exact rT
 obtain ⟨rfl,hq⟩:=hq
 refine rB ?_
 refine rA ?_
 obtain rfl:=sI h
 exact hq
theorem t_laws_szInt64SSS (x0:List (List (List Int))) (x1:Int) (r:Int) (h:f_laws_szInt64SSS x0 x1 = some r):FnC Tryz.prog 30 [T.ro (lC x0),I x1] [I r] []:=by
 refine fB Tryz.func30 (fun St W w0 v => ?_)
 refine sR ?_
 refine a_as ?_
 refine rN ?_
 refine sR ?_
 refine a_mv ?_
 refine a_mv ?_
 refine a_lenr ?_
 obtain ⟨v1,hv1,h⟩:=bd h
 refine a_sub ?_
 refine a_as ?_
 refine rN ?_
 refine CW.seq ?_
 refine sR ?_
 refine a_mv ?_
 refine a_lss ?_
 refine rN ?_
 refine cn h (fun hc h => ?_) (fun hc h => ?_)
 refine sR ?_
 refine a_as ?_
 refine rN ?_
 refine CW.ret ?_
 refine rA ?_
 obtain rfl:=sI h
 exact rT
 refine CW.skip ?_
 refine nA ?_
 refine CW.seq ?_
 refine sR ?_
 refine a_as ?_
 refine rN ?_
 refine CW.block ?_
 obtain ⟨r5,hr5,h⟩:=bd h
 refine CW.lp (s:=(v1,0)) (l1_laws_szInt64SSS x0) (fun s1:Int × Int => envL [(0,T.ro (lC x0)),(1,I s1.1),(5,I s1.2)]) (fun (x:Int ⊕ Int) e E => match x with | (.inl r5) => e = .exit 0 ∧ Ghost ⟨St,W,w0,Tryz.f30.ntmps⟩ E (envL [(1,I r5)]) | (.inr r5) => e = .ret ∧ RetG ⟨St,W,w0,Tryz.f30.ntmps⟩ Tryz.prog Tryz.f30.results [T.ro (lC x0),I x1] [I r5] [] .ret E) (.has ⟨rfl,rfl,rfl,trivial⟩) (fun s1 x h => ?_) hr5 (fun e E hq => ?_)
 refine CW.seq ?_
 refine sR ?_
 refine a_mv ?_
 refine a_mv ?_
 refine a_lenr ?_
 refine a_lss ?_
 refine rN ?_
 refine cn h (fun hc h => ?_) (fun hc h => ?_)
 refine CW.skip ?_
 refine nA ?_
 refine CW.seq ?_
 refine CW.block ?_
 refine sR ?_
 refine a_mv ?_
 refine a_mv ?_
 obtain ⟨v2,hv2,h⟩:=bd h
 refine a_ixr ?_
 refine a_ldr ?_
 refine a_mv ?_
 obtain ⟨r3,hr3,h⟩:=bd h
 refine cA Tryz.call24 (t_laws_szInt64SS _ _ _ hr3) ?_
 refine a_as ?_
 refine rN ?_
 refine sR ?_
 refine a_mv ?_
 refine a_lss ?_
 refine rN ?_
 refine cn h (fun hc h => ?_) (fun hc h => ?_)
 refine sR ?_
 refine a_as ?_
 refine rN ?_
 refine CW.ret ?_
 refine rB ?_
 refine rA ?_
 exact eX h
 refine CW.skip ?_
 refine nB ?_
 refine nA ?_
 refine CW.region ?_
 refine a_mv ?_
 obtain ⟨v4,hv4,h⟩:=bd h
 refine a_add ?_
 refine a_as ?_
 refine RW.nil ?_
 exact eN h
 refine CW.exit ?_
 refine xA ?_
 exact eX h
 rcases r5 with r5 | r5
 obtain ⟨rfl,hg⟩:=hq
 refine xB ?_
 refine nA ?_
 refine CW.ghost hg ?_
 refine sR ?_
 refine a_mv ?_
 refine a_as ?_
 refine rN ?_
 refine CW.ret ?_
 obtain rfl:=sI h
 exact rT
 obtain ⟨rfl,hq⟩:=hq
 refine rB ?_
 refine rA ?_
 obtain rfl:=sI h
 exact hq
theorem t_laws_szPresentation (x0:SPr) (x1:Int) (r:Int) (h:f_laws_szPresentation x0 x1 = some r):FnC Tryz.prog 7 [qPr x0,I x1] [I r] []:=by
 refine fB Tryz.func7 (fun St W w0 v => ?_)
 refine sR ?_
 refine a_box ?_
 refine a_as ?_
 refine rN ?_
 refine sR ?_
 refine a_fa ?_
 refine a_ld ?_
 refine a_mv ?_
 obtain ⟨r1,hr1,h⟩:=bd h
 refine cA Tryz.call29 (t_laws_szInt64S _ _ _ hr1) ?_
 refine a_as ?_
 refine rN ?_
 refine CW.seq ?_
 refine sR ?_
 refine a_mv ?_
 refine a_lss ?_
 refine rN ?_
 refine cn h (fun hc h => ?_) (fun hc h => ?_)
 refine sR ?_
 refine a_as ?_
 refine rN ?_
 refine CW.ret ?_
 refine rA ?_
 obtain rfl:=sI h
 exact rT
 refine CW.skip ?_
 refine nA ?_
 refine sR ?_
 refine a_fa ?_
 refine a_ld ?_
 refine a_mv ?_
 obtain ⟨r2,hr2,h⟩:=bd h
 refine cA Tryz.call24 (t_laws_szInt64SS _ _ _ hr2) ?_
 refine a_as ?_
 refine rN ?_
 refine CW.seq ?_
 refine sR ?_
 refine a_mv ?_
 refine a_lss ?_
 refine rN ?_
 refine cn h (fun hc h => ?_) (fun hc h => ?_)
 refine sR ?_
 refine a_as ?_
 refine rN ?_
 refine CW.ret ?_
 refine rA ?_
 obtain rfl:=sI h
 exact rT
 refine CW.skip ?_
 refine nA ?_
 refine sR ?_
 refine a_fa ?_
 refine a_ld ?_
 refine a_mv ?_
 obtain ⟨r3,hr3,h⟩:=bd h
 refine cA Tryz.call30 (t_laws_szInt64SSS _ _ _ hr3) ?_
 refine a_as ?_
 refine rN ?_
 refine CW.seq ?_
 refine sR ?_
 refine a_mv ?_
 refine a_lss ?_
 refine rN ?_
 refine cn h (fun hc h => ?_) (fun hc h => ?_)
 refine sR ?_
 refine a_as ?_
 refine rN ?_
 refine CW.ret ?_
 refine rA ?_
 obtain rfl:=sI h
 exact rT
 refine CW.skip ?_
 refine nA ?_
 refine sR ?_
 refine a_mv ?_
 refine a_as ?_
 refine rN ?_
 refine CW.ret ?_
 obtain rfl:=sI h
 exact rT
theorem t_laws_szModule (x0:SModule) (x1:Int) (r:Int) (h:f_laws_szModule x0 x1 = some r):FnC Tryz.prog 8 [qModule x0,I x1] [I r] []:=by
 refine fB Tryz.func8 (fun St W w0 v => ?_)
 refine sR ?_
 refine a_box ?_
 refine a_as ?_
 refine rN ?_
 refine sR ?_
 refine a_fa ?_
 refine a_ld ?_
 refine a_mv ?_
 obtain ⟨r1,hr1,h⟩:=bd h
 refine cA Tryz.call30 (t_laws_szInt64SSS _ _ _ hr1) ?_
 refine a_as ?_
 refine rN ?_
 refine CW.seq ?_
 refine sR ?_
 refine a_mv ?_
 refine a_lss ?_
 refine rN ?_
 refine cn h (fun hc h => ?_) (fun hc h => ?_)
 refine sR ?_
 refine a_as ?_
 refine rN ?_
 refine CW.ret ?_
 refine rA ?_
 obtain rfl:=sI h
 exact rT
 refine CW.skip ?_
 refine nA ?_
 refine sR ?_
 refine a_mv ?_
 refine a_as ?_
 refine rN ?_
 refine CW.ret ?_
 obtain rfl:=sI h
 exact rT
theorem t_laws_toInt64S (x0:List Int) (r:(List Int)) (h:f_laws_toInt64S x0 = some r):FnC Tryz.prog 33 [T.ro (lV x0)] [lV r] []:=by
 refine fB Tryz.func33 (fun St W w0 v => ?_)
 refine sR ?_
 refine oP (x_nil 1 rfl) ?_
 refine rN ?_
 refine sR ?_
 refine a_mv ?_
 refine a_lenr ?_
 obtain ⟨m1,hm1,h⟩:=bd h
 refine oP (x_makeL (f:=I) (z:=0) elt_22 (rfl) hm1 rfl rfl rfl) ?_
 refine a_as ?_
 refine RW.ghost (Ghost.tr 3 7 _ rfl rfl (clean_of (cleanL (Enc.clean (f:=I)))) rfl) ?_
 refine rN ?_
 refine CW.seq ?_
 refine sR ?_
 refine a_as ?_
 refine rN ?_
 refine CW.block ?_
 obtain ⟨r5,hr5,h⟩:=bd h
 refine CW.lp (s:=(List.replicate m1 (0:Int),0)) (l1_laws_toInt64S x0) (fun s1:(List Int) × Int => envL [(0,T.ro (lV x0)),(3,L 1 I s1.1),(4,I s1.2)]) (fun (r5:(List Int)) e E => e = .exit 0 ∧ Ghost ⟨St,W,w0,Tryz.f33.ntmps⟩ E (envL [(3,L 1 I r5)])) (.has ⟨rfl,rfl,rfl,trivial⟩) (fun s1 x h => ?_) hr5 (fun e E hq => ?_)
 refine CW.seq ?_
 refine sR ?_
 refine a_mv ?_
 refine a_mv ?_
 refine a_lenr ?_
 refine a_lss ?_
 refine rN ?_
 refine cn h (fun hc h => ?_) (fun hc h => ?_)
 refine CW.skip ?_
 refine nA ?_
 refine CW.seq ?_
 refine CW.block ?_
 refine CW.region ?_
 refine a_mv ?_
 refine a_mv ?_
 refine a_mv ?_
 refine a_mv ?_
 obtain ⟨v2,hv2,h⟩:=bd h
 refine a_ixr ?_
 refine a_ldr ?_
 obtain ⟨v3,hv3,h⟩:=bd h
 refine a_ix ?_
 refine oP (x_st inf_2 rfl rfl rfl (getc hv3 rfl) (setc hv3 rfl) rfl (clean_of (Enc.clean (f:=I) _)) rfl) ?_
 refine RW.nil ?_
 refine nB ?_
 refine nA ?_
 refine CW.region ?_
 refine a_mv ?_
 obtain ⟨v4,hv4,h⟩:=bd h
 refine a_add ?_
 refine a_as ?_
 refine RW.nil ?_
 exact eN h
 refine CW.exit ?_
 refine xA ?_
 exact eX h
 obtain ⟨rfl,hg⟩:=hq
 refine xB ?_
 refine nA ?_
 refine CW.ghost hg ?_
 refine sR ?_
 refine a_mv ?_
 refine a_as ?_
 refine RW.ghost (Ghost.tr 2 3 _ rfl rfl (clean_of (cleanL (Enc.clean (f:=I)))) rfl) ?_
 refine rN ?_
 refine CW.ret ?_
 obtain rfl:=sI h
 exact rT
theorem t_laws_toInt64SS (x0:List (List Int)) (r:(List (List Int))) (h:f_laws_toInt64SS x0 = some r):FnC Tryz.prog 26 [T.ro (lM x0)] [lM r] []:=by
 refine fB Tryz.func26 (fun St W w0 v => ?_)
 refine sR ?_
 refine oP (x_nil 1 rfl) ?_
 refine rN ?_
 refine sR ?_
 refine a_mv ?_
 refine a_lenr ?_
 obtain ⟨m1,hm1,h⟩:=bd h
 refine oP (x_makeL (f:=lV) (z:=[]) elt_23 (rfl) hm1 rfl rfl rfl) ?_
 refine a_as ?_
 refine RW.ghost (Ghost.tr 3 7 _ rfl rfl (clean_of (cleanL (Enc.clean (f:=lV)))) rfl) ?_
 refine rN ?_
 refine CW.seq ?_
 refine sR ?_
 refine a_as ?_
 refine rN ?_
 refine CW.block ?_
 obtain ⟨r6,hr6,h⟩:=bd h
 refine CW.lp (s:=(List.replicate m1 ([]:List Int),0)) (l1_laws_toInt64SS x0) (fun s1:(List (List Int)) × Int => envL [(0,T.ro (lM x0)),(3,L 1 lV s1.1),(4,I s1.2)]) (fun (r6:(List (List Int))) e E => e = .exit 0 ∧ Ghost ⟨St,W,w0,Tryz.f26.ntmps⟩ E (envL [(3,L 1 lV r6)])) (.has ⟨rfl,rfl,rfl,trivial⟩) (fun s1 x h => ?_) hr6 (fun e E hq => ?_)
 refine CW.seq ?_
 refine sR ?_
 refine a_mv ?_
 refine a_mv ?_
 refine a_lenr ?_
 refine a_lss ?_
 refine rN ?_
 refine cn h (fun hc h => ?_) (fun hc h => ?_)
 refine CW.skip ?_
 refine nA ?_
 refine CW.seq ?_
 refine CW.block ?_
 refine CW.region ?_
 refine a_mv ?_
 refine a_mv ?_
 refine a_mv ?_
 refine a_mv ?_
 obtain ⟨v2,hv2,h⟩:=bd h
 refine a_ixr ?_
 refine a_ldr ?_
 obtain ⟨r3,hr3,h⟩:=bd h
 refine cA Tryz.call33 (t_laws_toInt64S _ _ hr3) ?_
 obtain ⟨v4,hv4,h⟩:=bd h
 refine a_ix ?_
 refine oP (x_st inf_22 rfl rfl rfl (getc hv4 rfl) (setc hv4 rfl) rfl (clean_of (cleanL (Enc.clean (f:=I)))) rfl) ?_
 refine RW.nil ?_
 refine nB ?_
 refine nA ?_
 refine CW.region ?_
 refine a_mv ?_
 obtain ⟨v5,hv5,h⟩:=bd h
 refine a_add ?_
 refine a_as ?_
 refine RW.nil ?_
 exact eN h
 refine CW.exit ?_
 refine xA ?_
 exact eX h
 obtain ⟨rfl,hg⟩:=hq
 refine xB ?_
 refine nA ?_
 refine CW.ghost hg ?_
 refine sR ?_
 refine a_mv ?_
 refine a_as ?_
 refine RW.ghost (Ghost.tr 2 3 _ rfl rfl (clean_of (cleanL (Enc.clean (f:=lV)))) rfl) ?_
 refine rN ?_
 refine CW.ret ?_
 obtain rfl:=sI h
 exact rT
theorem t_laws_toInt64SSS (x0:List (List (List Int))) (r:(List (List (List Int)))) (h:f_laws_toInt64SSS x0 = some r):FnC Tryz.prog 34 [T.ro (lC x0)] [lC r] []:=by
 refine fB Tryz.func34 (fun St W w0 v => ?_)
 refine sR ?_
 refine oP (x_nil 1 rfl) ?_
 refine rN ?_
 refine sR ?_
 refine a_mv ?_
 refine a_lenr ?_
 obtain ⟨m1,hm1,h⟩:=bd h
 refine oP (x_makeL (f:=lM) (z:=[]) elt_24 (rfl) hm1 rfl rfl rfl) ?_
 refine a_as ?_
 refine RW.ghost (Ghost.tr 3 7 _ rfl rfl (clean_of (cleanL (Enc.clean (f:=lM)))) rfl) ?_
 refine rN ?_
 refine CW.seq ?_
 refine sR ?_
 refine a_as ?_
 refine rN ?_
 refine CW.block ?_
 obtain ⟨r6,hr6,h⟩:=bd h
 refine CW.lp (s:=(List.replicate m1 ([]:List (List Int)),0)) (l1_laws_toInt64SSS x0) (fun s1:(List (List (List Int))) × Int => envL [(0,T.ro (lC x0)),(3,L 1 lM s1.1),(4,I s1.2)]) (fun (r6:(List (List (List Int)))) e E => e = .exit 0 ∧ Ghost ⟨St,W,w0,Tryz.f34.ntmps⟩ E (envL [(3,L 1 lM r6)])) (.has ⟨rfl,rfl,rfl,trivial⟩) (fun s1 x h => ?_) hr6 (fun e E hq => ?_)
 refine CW.seq ?_
 refine sR ?_
 refine a_mv ?_
 refine a_mv ?_
 refine a_lenr ?_
 refine a_lss ?_
 refine rN ?_
 refine cn h (fun hc h => ?_) (fun hc h => ?_)
 refine CW.skip ?_
 refine nA ?_
 refine CW.seq ?_
 refine CW.block ?_
 refine CW.region ?_
 refine a_mv ?_
 refine a_mv ?_
 refine a_mv ?_
 refine a_mv ?_
 obtain ⟨v2,hv2,h⟩:=bd h
 refine a_ixr ?_
 refine a_ldr ?_
 obtain ⟨r3,hr3,h⟩:=bd h
 refine cA Tryz.call26 (t_laws_toInt64SS _ _ hr3) ?_
 obtain ⟨v4,hv4,h⟩:=bd h
 refine a_ix ?_
 refine oP (x_st inf_23 rfl rfl rfl (getc hv4 rfl) (setc hv4 rfl) rfl (clean_of (cleanL (Enc.clean (f:=lV)))) rfl) ?_
 refine RW.nil ?_
 refine nB ?_
 refine nA ?_
 refine CW.region ?_
 refine a_mv ?_
 obtain ⟨v5,hv5,h⟩:=bd h
 refine a_add ?_
 refine a_as ?_
 refine RW.nil ?_
 exact eN h
 refine CW.exit ?_
 refine xA ?_
 exact eX h
 obtain ⟨rfl,hg⟩:=hq
 refine xB ?_
 refine nA ?_
 refine CW.ghost hg ?_
 refine sR ?_
 refine a_mv ?_
 refine a_as ?_
 refine RW.ghost (Ghost.tr 2 3 _ rfl rfl (clean_of (cleanL (Enc.clean (f:=lM)))) rfl) ?_
 refine rN ?_
 refine CW.ret ?_
 obtain rfl:=sI h
 exact rT
theorem t_laws_toPresentation (x0:SPr) (r:SPr) (h:f_laws_toPresentation x0 = some r):FnC Tryz.prog 10 [qPr x0] [eSPr r] []:=by
 refine fB Tryz.func10 (fun St W w0 v => ?_)
 refine sR ?_
 refine a_box ?_
 refine a_alloc ?_
 refine rN ?_
 refine sR ?_
 refine a_alloc ?_
 refine rN ?_
 refine sR ?_
 refine a_fa ?_
 refine a_ld ?_
 obtain ⟨r1,hr1,h⟩:=bd h
 refine cA Tryz.call33 (t_laws_toInt64S _ _ hr1) ?_
 refine a_fa ?_
 refine oP (x_st inf_22 rfl rfl rfl rfl rfl rfl (clean_of (cleanL (Enc.clean (f:=I)))) rfl) ?_
 refine rN ?_
 refine sR ?_
 refine a_fa ?_
 refine a_ld ?_
 obtain ⟨r2,hr2,h⟩:=bd h
 refine cA Tryz.call26 (t_laws_toInt64SS _ _ hr2) ?_
 refine a_fa ?_
 refine oP (x_st inf_23 rfl rfl rfl rfl rfl rfl (clean_of (cleanL (Enc.clean (f:=lV)))) rfl) ?_
 refine rN ?_
 refine sR ?_
 refine a_fa ?_
 refine a_ld ?_
 obtain ⟨r3,hr3,h⟩:=bd h
 refine cA Tryz.call34 (t_laws_toInt64SSS _ _ hr3) ?_
 refine a_fa ?_
 refine oP (x_st inf_24 rfl rfl rfl rfl rfl rfl (clean_of (cleanL (Enc.clean (f:=lM)))) rfl) ?_
 refine rN ?_
 refine sR ?_
 refine a_ldp ?_
 refine RW.ghost (Ghost.trf 16 [0] 3 [0,0] _ _ rfl rfl rfl rfl rfl (clean_of (cleanL (Enc.clean (f:=I)))) rfl) ?_
 refine RW.ghost (Ghost.trf 16 [1] 3 [1,0] _ _ rfl rfl rfl rfl rfl (clean_of (cleanL (Enc.clean (f:=lV)))) rfl) ?_
 refine RW.ghost (Ghost.trf 16 [2] 3 [2,0] _ _ rfl rfl rfl rfl rfl (clean_of (cleanL (Enc.clean (f:=lM)))) rfl) ?_
 refine oP (x_stp inf_33 rfl (locB rfl rfl) rfl rfl rfl rfl (clean_of (cleanA ⟨(cleanL (Enc.clean (f:=I))),(cleanL (Enc.clean (f:=lV))),(cleanL (Enc.clean (f:=lM))),trivial⟩)) rfl) ?_
 refine rN ?_
 refine CW.ret ?_
 obtain rfl:=sI h
 exact ⟨_,Ghost.refl,⟨.inl rfl,[(2,[0],T.agg [L 1 I r1,L 1 lV r2,L 1 lM r3])],⟨⟨rfl,rfl,rfl,(var_33.h _ rfl rfl).h⟩,trivial⟩,rfl,(by simp),(by simp),trivial⟩⟩
theorem t_laws_toModule (x0:SModule) (r:SModule) (h:f_laws_toModule x0 = some r):FnC Tryz.prog 11 [qModule x0] [eSModule r] []:=by
 refine fB Tryz.func11 (fun St W w0 v => ?_)
 refine sR ?_
 refine a_box ?_
 refine a_alloc ?_
 refine rN ?_
 refine sR ?_
 refine a_alloc ?_
 refine rN ?_
 refine sR ?_
 refine a_fa ?_
 refine a_ld ?_
 refine a_fa ?_
 refine oP (x_st inf_2 rfl rfl rfl rfl rfl rfl (clean_of (Enc.clean (f:=I) _)) rfl) ?_
 refine rN ?_
 refine sR ?_
 refine a_fa ?_
 refine a_ld ?_
 refine a_fa ?_
 refine oP (x_st inf_2 rfl rfl rfl rfl rfl rfl (clean_of (Enc.clean (f:=I) _)) rfl) ?_
 refine rN ?_
 refine sR ?_
 refine a_fa ?_
 refine a_ld ?_
 obtain ⟨r1,hr1,h⟩:=bd h
 refine cA Tryz.call34 (t_laws_toInt64SSS _ _ hr1) ?_
 refine a_fa ?_
 refine oP (x_st inf_24 rfl rfl rfl rfl rfl rfl (clean_of (cleanL (Enc.clean (f:=lM)))) rfl) ?_
 refine rN ?_
 refine sR ?_
 refine a_ldp ?_
 refine RW.ghost (Ghost.trf 14 [2] 3 [2,0] _ _ rfl rfl rfl rfl rfl (clean_of (cleanL (Enc.clean (f:=lM)))) rfl) ?_
 refine oP (x_stp inf_35 rfl (locB rfl rfl) rfl rfl rfl rfl (clean_of (cleanA ⟨(Enc.clean (f:=I) _),(Enc.clean (f:=I) _),(cleanL (Enc.clean (f:=lM))),trivial⟩)) rfl) ?_
 refine rN ?_
 refine CW.ret ?_
 obtain rfl:=sI h
 exact ⟨_,Ghost.refl,⟨.inl rfl,[(2,[0],T.agg [I x0.Prime,I x0.Dim,L 1 lM r1])],⟨⟨rfl,rfl,rfl,(var_35.h _ rfl rfl).h⟩,trivial⟩,rfl,(by simp),(by simp),trivial⟩⟩
theorem t_spec_l01Prime (x0:Int) (r:Bool) (h:f_spec_l01Prime x0 = some r):FnC Tryz.prog 94 [I x0] [B r] []:=by
 refine fB Tryz.func94 (fun St W w0 v => ?_)
 refine sR ?_
 refine a_as ?_
 refine rN ?_
 refine sR ?_
 refine a_mv ?_
 refine a_eql ?_
 refine a_mv ?_
 refine RW.cases 5 _ rfl (fun hc => ?_) (fun hc => ?_)
 have h:=cT hc h
 refine sk2 ?_
 refine sk2 ?_
 refine a_pick ?_
 refine a_mv ?_
 refine sk2 ?_
 refine sk2 ?_
 refine a_pick ?_
 refine a_mv ?_
 refine sk2 ?_
 refine sk2 ?_
 refine a_pick ?_
 refine a_as ?_
 refine rN ?_
 refine CW.ret ?_
 obtain rfl:=sI h
 exact rT
 have h:=cF hc h
 refine g_mv ?_
 refine g_eql ?_
 refine a_pick ?_
 refine a_mv ?_
 refine RW.cases 9 _ rfl (fun hc => ?_) (fun hc => ?_)
 have h:=cT hc h
 refine sk2 ?_
 refine sk2 ?_
 refine a_pick ?_
 refine a_mv ?_
 refine sk2 ?_
 refine sk2 ?_
 refine a_pick ?_
 refine a_as ?_
 refine rN ?_
 refine CW.ret ?_
 obtain rfl:=sI h
 exact rT
 have h:=cF hc h
 refine g_mv ?_
 refine g_eql ?_
 refine a_pick ?_
 refine a_mv ?_
 refine RW.cases 13 _ rfl (fun hc => ?_) (fun hc => ?_)
 have h:=cT hc h
 refine sk2 ?_
 refine sk2 ?_
 refine a_pick ?_
 refine a_as ?_
 refine rN ?_
 refine CW.ret ?_
 obtain rfl:=sI h
 exact rT
 have h:=cF hc h
 refine g_mv ?_
 refine g_eql ?_
 refine a_pick ?_
 refine a_as ?_
 refine rN ?_
 refine CW.ret ?_
 obtain rfl:=sI h
 exact rT
theorem t_spec_l07Product (x0:List Int) (r:Int) (h:f_spec_l07Product x0 = some r):FnC Tryz.prog 128 [T.ro (lV x0)] [I r] []:=by
 refine fB Tryz.func128 (fun St W w0 v => ?_)
 refine sR ?_
 refine a_as ?_
 refine rN ?_
 refine sR ?_
 refine a_as ?_
 refine rN ?_
 refine CW.seq ?_
 refine sR ?_
 refine a_as ?_
 refine rN ?_
 refine CW.block ?_
 obtain ⟨r5,hr5,h⟩:=bd h
 refine CW.lp (s:=(1,0)) (l1_spec_l07Product x0) (fun s1:Int × Int => envL [(0,T.ro (lV x0)),(3,I s1.1),(4,I s1.2)]) (fun (r5:Int) e E => e = .exit 0 ∧ Ghost ⟨St,W,w0,Tryz.f128.ntmps⟩ E (envL [(3,I r5)])) (.has ⟨rfl,rfl,rfl,trivial⟩) (fun s1 x h => ?_) hr5 (fun e E hq => ?_)
 refine CW.seq ?_
 refine sR ?_
 refine a_mv ?_
 refine a_mv ?_
 refine a_lenr ?_
 refine a_lss ?_
 refine rN ?_
 refine cn h (fun hc h => ?_) (fun hc h => ?_)
 refine CW.skip ?_
 refine nA ?_
 refine CW.seq ?_
 refine CW.block ?_
 refine sR ?_
 refine a_mv ?_
 refine a_leq ?_
 refine rN ?_
 refine cn h (fun hc h => ?_) (fun hc h => ?_)
 refine CW.region ?_
 refine a_mv ?_
 refine a_mv ?_
 refine a_mv ?_
 obtain ⟨v1,hv1,h⟩:=bd h
 refine a_ixr ?_
 refine a_ldr ?_
 obtain ⟨v2,hv2,h⟩:=bd h
 refine a_mul ?_
 refine a_as ?_
 refine RW.nil ?_
 refine nB ?_
 refine nA ?_
 refine CW.region ?_
 refine a_mv ?_
 obtain ⟨v3,hv3,h⟩:=bd h
 refine a_add ?_
 refine a_as ?_
 refine RW.nil ?_
 exact eN h
 refine CW.skip ?_
 refine nB ?_
 refine nA ?_
 refine CW.region ?_
 refine a_mv ?_
 obtain ⟨v4,hv4,h⟩:=bd h
 refine a_add ?_
 refine a_as ?_
 refine RW.nil ?_
 exact eN h
 refine CW.exit ?_
 refine xA ?_
 exact eX h
 obtain ⟨rfl,hg⟩:=hq
 refine xB ?_
 refine nA ?_
 refine CW.ghost hg ?_
 refine sR ?_
 refine a_mv ?_
 refine a_as ?_
 refine rN ?_
 refine CW.ret ?_
 obtain rfl:=sI h
 exact rT
theorem t_spec_l01In (x0:Int) (x1:Int) (x2:Int) (r:Bool) (h:f_spec_l01In x0 x1 x2 = some r):FnC Tryz.prog 95 [I x0,I x1,I x2] [B r] []:=by
 refine fB Tryz.func95 (fun St W w0 v => ?_)
 refine sR ?_
 refine a_as ?_
 refine rN ?_
 refine sR ?_
 refine a_mv ?_
 refine a_mv ?_
 refine a_geq ?_
 refine a_mv ?_
 refine RW.cases 10 _ rfl (fun hc => ?_) (fun hc => ?_)
 have h:=cT hc h
 refine g_mv ?_
 refine g_mv ?_
 refine g_leq ?_
 refine a_pick ?_
 refine a_as ?_
 refine rN ?_
 refine CW.ret ?_
 obtain rfl:=sI h
 exact rT
 have h:=cF hc h
 refine sk2 ?_
 refine sk2 ?_
 refine sk2 ?_
 refine a_pick ?_
 refine a_as ?_
 refine rN ?_
 refine CW.ret ?_
 obtain rfl:=sI h
 exact rT
theorem t_spec_l07Exponents (x0:List Int) (x1:List Int) (x2:Int) (r:Bool) (h:f_spec_l07Exponents x0 x1 x2 = some r):FnC Tryz.prog 129 [T.ro (lV x0),T.ro (lV x1),I x2] [B r] []:=by
 refine fB Tryz.func129 (fun St W w0 v => ?_)
 refine sR ?_
 refine a_as ?_
 refine rN ?_
 refine CW.seq ?_
 refine sR ?_
 refine a_mv ?_
 refine a_lenr ?_
 refine a_mv ?_
 refine a_lenr ?_
 refine a_neq ?_
 refine rN ?_
 refine cn h (fun hc h => ?_) (fun hc h => ?_)
 refine sR ?_
 refine a_as ?_
 refine rN ?_
 refine CW.ret ?_
 refine rA ?_
 obtain rfl:=sI h
 exact rT
 refine CW.skip ?_
 refine nA ?_
 refine CW.seq ?_
 refine sR ?_
 refine a_as ?_
 refine rN ?_
 refine CW.block ?_
 obtain ⟨r6,hr6,h⟩:=bd h
 refine CW.lp (s:=0) (l1_spec_l07Exponents x0 x1 x2) (fun s1:Int => envL [(0,T.ro (lV x0)),(1,T.ro (lV x1)),(2,I x2),(7,I s1)]) (fun (x:Unit ⊕ Bool) e E => match x with | (.inl r6) => e = .exit 0 ∧ Ghost ⟨St,W,w0,Tryz.f129.ntmps⟩ E (envL []) | (.inr r6) => e = .ret ∧ RetG ⟨St,W,w0,Tryz.f129.ntmps⟩ Tryz.prog Tryz.f129.results [T.ro (lV x0),T.ro (lV x1),I x2] [B r6] [] .ret E) (.has ⟨rfl,rfl,rfl,rfl,trivial⟩) (fun s1 x h => ?_) hr6 (fun e E hq => ?_)
 refine CW.seq ?_
 refine sR ?_
 refine a_mv ?_
 refine a_mv ?_
 refine a_lenr ?_
 refine a_lss ?_
 refine rN ?_
 refine cn h (fun hc h => ?_) (fun hc h => ?_)
 refine CW.skip ?_
 refine nA ?_
 refine CW.seq ?_
 refine CW.block ?_
 refine CW.seq ?_
 obtain ⟨v1,hv1,h⟩:=bd h
 obtain ⟨v2,hv2,h⟩:=bd h
 obtain ⟨v3,hv3,h⟩:=bd h
 obtain ⟨r4,hr4,h⟩:=bd h
 refine CW.casesB (!r4) (fun hc0 => ?_) (fun hc0 => ?_)
 have h:=cT hc0 h
 refine CW.dk ?_
 refine d_mv [(1,_)] ?_
 refine d_mv [(7,_)] ?_
 refine dG [(19,_),(20,_)] [([(21,some (T.ro ((Pt I) v1)))],[(21,0)])] ⟨rfl,rfl,trivial⟩ (fun E h => IxOk.opE (x_ixr (f:=I) row_22 hv1 (locB h.1 rfl) h.2.1 rfl) rfl) ?_
 refine d_ldr [(21,_)] ?_
 refine d_mv [(0,_)] ?_
 refine d_mv [(7,_)] ?_
 refine d_ixr [(23,_),(24,_)] ?_
 refine d_ldr [(25,_)] ?_
 refine d_sub [(26,_)] ?_
 refine dC [(22,_),(27,_)] Tryz.call95 (t_spec_l01In _ _ _ _ hr4) ?_
 refine dG [(28,_)] [([(29,some (B true))],[(29,0)])] ⟨rfl,trivial⟩ (fun E h => IxOk.opE (okB_eq hc0 (x_not h.1 rfl)) rfl) ?_
 refine d_mv [(29,_)] ?_
 refine dsk2 ?_
 refine dsk2 ?_
 refine dsk2 ?_
 refine dsk2 ?_
 refine dsk3 ?_
 refine dsk3 ?_
 refine dsk3 ?_
 refine dsk3 ?_
 refine dsk3 ?_
 refine dsk2 ?_
 refine d_pick [(30,_)] ?_
 refine dN ([] :: [] :: [0,1] :: [0,1,2] :: [] :: [] :: [4,5] :: [4,5,6] :: [4,5,6,7] :: [0,1,2,3,4,5,6,7,8] :: [0,1,2,3,4,5,6,7,8,9] :: [0,1,2,3,4,5,6,7,8,9,10] :: [0,1,2,3,4,5,6,7,8,9,10,11] :: [0,1,2,3,4,5,6,7,8,9,10,11] :: [0,1,2,3,4,5,6,7,8,9,10,11,12,13] :: [0,1,2,3,4,5,6,7,8,9,10,11,12,13,14] :: [0,1,2,3,4,5,6,7,8,9,10,11,12,13,14,15] :: [0,1,2,3,4,5,6,7,8,9,10,11,12,13,14,15] :: [0,1,2,3,4,5,6,7,8,9,10,11,12,13,14,15,16,17] :: [0,1,2,3,4,5,6,7,8,9,10,11,12,13,14,15,16,17,18] :: [0,1,2,3,4,5,6,7,8,9,10,11,12,13,14,15,16,17,18,19] :: [0,1,2,3,4,5,6,7,8,9,10,11,12,13,14,15,16,17,18,19,20] :: [0,1,2,3,4,5,6,7,8,9,10,11,12,13,14,15,16,17,18,19,20,21] :: []) mixedP ?_
 refine nA ?_
 refine CW.condT rfl ?_
 refine CW.seq ?_
 refine CW.to [] trivial ?_
 refine CW.region ?_
 refine a_as ?_
 refine rN ?_
 refine CW.ret ?_
 refine rB ?_
 refine rA ?_
 exact eX h
 have h:=cF hc0 h
 refine CW.casesB (decide (s1 ≤ x2)) (fun hc1 => ?_) (fun hc1 => ?_)
 have h:=cT hc1 h
 obtain ⟨v5,hv5,h⟩:=bd h
 refine CW.dk ?_
 refine d_mv [(1,_)] ?_
 refine d_mv [(7,_)] ?_
 refine dG [(19,_),(20,_)] [([(21,some (T.ro ((Pt I) v1)))],[(21,0)])] ⟨rfl,rfl,trivial⟩ (fun E h => IxOk.opE (x_ixr (f:=I) row_22 hv1 (locB h.1 rfl) h.2.1 rfl) rfl) ?_
 refine d_ldr [(21,_)] ?_
 refine d_mv [(0,_)] ?_
 refine d_mv [(7,_)] ?_
 refine d_ixr [(23,_),(24,_)] ?_
 refine d_ldr [(25,_)] ?_
 refine d_sub [(26,_)] ?_
 refine dC [(22,_),(27,_)] Tryz.call95 (t_spec_l01In _ _ _ _ hr4) ?_
 refine dG [(28,_)] [([(29,some (B false))],[(29,0)])] ⟨rfl,trivial⟩ (fun E h => IxOk.opE (okB_eq hc0 (x_not h.1 rfl)) rfl) ?_
 refine d_mv [(29,_)] ?_
 refine e_mv [(7,_),(30,_)] ?_
 refine e_mv [(2,_),(30,_)] ?_
 refine dG [(31,_),(32,_),(30,_)] [([(33,some (B true))],[(33,0)])] ⟨rfl,rfl,rfl,trivial⟩ (fun E h => IxOk.guardE 11 false 30 (okB_eq hc1 (x_leq h.1 h.2.1 rfl)) rfl rfl h.2.2.1 rfl) ?_
 refine e_mv [(33,_),(30,_)] ?_
 refine e_mv [(1,_),(34,_)] ?_
 refine e_mv [(7,_),(34,_)] ?_
 refine dG [(35,_),(36,_),(34,_)] [([(37,some (T.ro ((Pt I) v5)))],[(37,0)])] ⟨rfl,rfl,rfl,trivial⟩ (fun E h => IxOk.guardE 15 true 34 (x_ixr (f:=I) row_22 hv5 (locB h.1 rfl) h.2.1 rfl) rfl rfl h.2.2.1 rfl) ?_
 refine e_ldr [(37,_),(34,_)] ?_
 refine e_neq [(38,_),(34,_)] ?_
 refine dG [(34,_),(39,_),(30,_)] [([(40,some (B (v5 != 0)))],[(40,0)])] ⟨rfl,rfl,rfl,trivial⟩ (fun E h => IxOk.guardE 11 false 30 (x_pick (b:=true) h.1 h.2.1 rfl) rfl rfl h.2.2.1 rfl) ?_
 refine d_pick [(30,_),(40,_)] ?_
 refine dN ([] :: [] :: [0,1] :: [0,1,2] :: [] :: [] :: [4,5] :: [4,5,6] :: [4,5,6,7] :: [0,1,2,3,4,5,6,7,8] :: [0,1,2,3,4,5,6,7,8,9] :: [0,1,2,3,4,5,6,7,8,9,10] :: [0,1,2,3,4,5,6,7,8,9,10,11] :: [0,1,2,3,4,5,6,7,8,9,10,11] :: [0,1,2,3,4,5,6,7,8,9,10,11,12,13] :: [0,1,2,3,4,5,6,7,8,9,10,11,12,13,14] :: [0,1,2,3,4,5,6,7,8,9,10,11,12,13,14,15] :: [0,1,2,3,4,5,6,7,8,9,10,11,12,13,14,15] :: [0,1,2,3,4,5,6,7,8,9,10,11,12,13,14,15,16,17] :: [0,1,2,3,4,5,6,7,8,9,10,11,12,13,14,15,16,17,18] :: [0,1,2,3,4,5,6,7,8,9,10,11,12,13,14,15,16,17,18,19] :: [0,1,2,3,4,5,6,7,8,9,10,11,12,13,14,15,16,17,18,19,20] :: [0,1,2,3,4,5,6,7,8,9,10,11,12,13,14,15,16,17,18,19,20,21] :: []) mixedP ?_
 refine nA ?_
 refine cn h (fun hc h => ?_) (fun hc h => ?_)
 refine CW.seq ?_
 refine CW.to [] trivial ?_
 refine CW.region ?_
 refine a_as ?_
 refine rN ?_
 refine CW.ret ?_
 refine rB ?_
 refine rA ?_
 exact eX h
 refine CW.skip ?_
 refine nB ?_
 refine nA ?_
 refine CW.to [(0,T.ro (lV x0)),(1,T.ro (lV x1)),(2,I x2),(7,I s1)] ⟨rfl,rfl,rfl,rfl,trivial⟩ ?_
 refine CW.region ?_
 refine a_mv ?_
 obtain ⟨v6,hv6,h⟩:=bd h
 refine a_add ?_
 refine a_as ?_
 refine RW.nil ?_
 exact eN h
 have h:=cF hc1 h
 refine CW.dk ?_
 refine d_mv [(1,_)] ?_
 refine d_mv [(7,_)] ?_
 refine dG [(19,_),(20,_)] [([(21,some (T.ro ((Pt I) v1)))],[(21,0)])] ⟨rfl,rfl,trivial⟩ (fun E h => IxOk.opE (x_ixr (f:=I) row_22 hv1 (locB h.1 rfl) h.2.1 rfl) rfl) ?_
 refine d_ldr [(21,_)] ?_
 refine d_mv [(0,_)] ?_
 refine d_mv [(7,_)] ?_
 refine d_ixr [(23,_),(24,_)] ?_
 refine d_ldr [(25,_)] ?_
 refine d_sub [(26,_)] ?_
 refine dC [(22,_),(27,_)] Tryz.call95 (t_spec_l01In _ _ _ _ hr4) ?_
 refine dG [(28,_)] [([(29,some (B false))],[(29,0)])] ⟨rfl,trivial⟩ (fun E h => IxOk.opE (okB_eq hc0 (x_not h.1 rfl)) rfl) ?_
 refine d_mv [(29,_)] ?_
 refine e_mv [(7,_),(30,_)] ?_
 refine e_mv [(2,_),(30,_)] ?_
 refine dG [(31,_),(32,_),(30,_)] [([(33,some (B false))],[(33,0)])] ⟨rfl,rfl,rfl,trivial⟩ (fun E h => IxOk.guardE 11 false 30 (okB_eq hc1 (x_leq h.1 h.2.1 rfl)) rfl rfl h.2.2.1 rfl) ?_
 refine e_mv [(33,_),(30,_)] ?_
 refine dsk2 ?_
 refine dsk2 ?_
 refine dsk2 ?_
 refine dsk2 ?_
 refine dsk2 ?_
 refine dG [(34,_),(30,_)] [([(40,some (B false))],[(40,0)])] ⟨rfl,rfl,trivial⟩ (fun E h => IxOk.guardE 11 false 30 (x_pick (b:=false) h.1 rfl rfl) rfl rfl h.2.1 rfl) ?_
 refine d_pick [(30,_),(40,_)] ?_
 refine dN ([] :: [] :: [0,1] :: [0,1,2] :: [] :: [] :: [4,5] :: [4,5,6] :: [4,5,6,7] :: [0,1,2,3,4,5,6,7,8] :: [0,1,2,3,4,5,6,7,8,9] :: [0,1,2,3,4,5,6,7,8,9,10] :: [0,1,2,3,4,5,6,7,8,9,10,11] :: [0,1,2,3,4,5,6,7,8,9,10,11] :: [0,1,2,3,4,5,6,7,8,9,10,11,12,13] :: [0,1,2,3,4,5,6,7,8,9,10,11,12,13,14] :: [0,1,2,3,4,5,6,7,8,9,10,11,12,13,14,15] :: [0,1,2,3,4,5,6,7,8,9,10,11,12,13,14,15] :: [0,1,2,3,4,5,6,7,8,9,10,11,12,13,14,15,16,17] :: [0,1,2,3,4,5,6,7,8,9,10,11,12,13,14,15,16,17,18] :: [0,1,2,3,4,5,6,7,8,9,10,11,12,13,14,15,16,17,18,19] :: [0,1,2,3,4,5,6,7,8,9,10,11,12,13,14,15,16,17,18,19,20] :: [0,1,2,3,4,5,6,7,8,9,10,11,12,13,14,15,16,17,18,19,20,21] :: []) mixedP ?_
 refine nA ?_
 refine CW.condF rfl ?_
 refine CW.skip ?_
 refine nB ?_
 refine nA ?_
 refine CW.to [(0,T.ro (lV x0)),(1,T.ro (lV x1)),(2,I x2),(7,I s1)] ⟨rfl,rfl,rfl,rfl,trivial⟩ ?_
 refine CW.region ?_
 refine a_mv ?_
 obtain ⟨v5,hv5,h⟩:=bd h
 refine oP (x_add hv5 rfl rfl rfl) ?_
 refine a_as ?_
 refine RW.nil ?_
 exact eN h
 refine CW.exit ?_
 refine xA ?_
 exact eX h
 rcases r6 with r6 | r6
 obtain ⟨rfl,hg⟩:=hq
 refine xB ?_
 refine nA ?_
 refine CW.ghost hg ?_
 refine sR ?_
 refine a_as ?_
 refine rN ?_
 refine CW.ret ?_
 obtain rfl:=sI h
 exact rT
 obtain ⟨rfl,hq⟩:=hq
 refine rB ?_
 refine rA ?_
 obtain rfl:=sI h
 exact hq
theorem t_spec_IsPresentation (x0:SPr) (r:Bool) (h:f_spec_IsPresentation x0 = some r):FnC Tryz.prog 88 [qPr x0] [B r] []:=by
 refine fB Tryz.func88 (fun St W w0 v => ?_)
 refine sR ?_
 refine a_box ?_
 refine a_as ?_
 refine rN ?_
 refine sR ?_
 refine a_fa ?_
 refine a_ld ?_
 refine a_lenr ?_
 refine a_as ?_
 refine rN ?_
 refine CW.seq ?_
 refine sR ?_
 refine a_mv ?_
 refine a_gtr ?_
 refine a_mv ?_
 refine RW.cases 12 _ rfl (fun hc => ?_) (fun hc => ?_)
 have h:=cT hc h
 refine sk2 ?_
 refine sk2 ?_
 refine sk2 ?_
 refine sk2 ?_
 refine sk2 ?_
 refine a_pick ?_
 refine a_mv ?_
 refine sk2 ?_
 refine sk2 ?_
 refine sk2 ?_
 refine sk2 ?_
 refine sk2 ?_
 refine a_pick ?_
 refine rN ?_
 refine CW.condT rfl ?_
 refine sR ?_
 refine a_as ?_
 refine rN ?_
 refine CW.ret ?_
 refine rA ?_
 obtain rfl:=sI h
 exact rT
 have h:=cF hc h
 refine g_fa ?_
 refine g_ld ?_
 refine g_lenr ?_
 refine g_mv ?_
 refine g_neq ?_
 refine a_pick ?_
 refine a_mv ?_
 refine RW.cases 19 _ rfl (fun hc => ?_) (fun hc => ?_)
 have h:=cT hc h
 refine sk2 ?_
 refine sk2 ?_
 refine sk2 ?_
 refine sk2 ?_
 refine sk2 ?_
 refine a_pick ?_
 refine rN ?_
 refine CW.condT rfl ?_
 refine sR ?_
 refine a_as ?_
 refine rN ?_
 refine CW.ret ?_
 refine rA ?_
 obtain rfl:=sI h
 exact rT
 have h:=cF hc h
 refine g_fa ?_
 refine g_ld ?_
 refine g_lenr ?_
 refine g_mv ?_
 refine g_neq ?_
 refine a_pick ?_
 refine rN ?_
 refine cn h (fun hc h => ?_) (fun hc h => ?_)
 refine sR ?_
 refine a_as ?_
 refine rN ?_
 refine CW.ret ?_
 refine rA ?_
 obtain rfl:=sI h
 exact rT
 refine CW.skip ?_
 refine nA ?_
 refine CW.seq ?_
 refine sR ?_
 refine a_as ?_
 refine rN ?_
 refine CW.block ?_
 obtain ⟨r4,hr4,h⟩:=bd h
 refine CW.lp (s:=0) (l1_spec_IsPresentation x0) (fun s1:Int => envL [(1,T.ptr (qPr x0)),(3,I (x0.Orders.length:Int)),(4,I s1)]) (fun (x:Unit ⊕ Bool) e E => match x with | (.inl r4) => e = .exit 0 ∧ Ghost ⟨St,W,w0,Tryz.f88.ntmps⟩ E (envL [(1,T.ptr (qPr x0)),(3,I (x0.Orders.length:Int))]) | (.inr r4) => e = .ret ∧ RetG ⟨St,W,w0,Tryz.f88.ntmps⟩ Tryz.prog Tryz.f88.results [qPr x0] [B r4] [] .ret E) (.has ⟨rfl,rfl,rfl,trivial⟩) (fun s1 x h => ?_) hr4 (fun e E hq => ?_)
 refine CW.seq ?_
 refine sR ?_
 refine a_mv ?_
 refine a_mv ?_
 refine a_lss ?_
 refine rN ?_
 refine cn h (fun hc h => ?_) (fun hc h => ?_)
 refine CW.skip ?_
 refine nA ?_
 refine CW.seq ?_
 refine CW.block ?_
 refine sR ?_
 refine a_fa ?_
 refine a_ld ?_
 refine a_mv ?_
 obtain ⟨v1,hv1,h⟩:=bd h
 refine a_ixr ?_
 refine a_ldr ?_
 obtain ⟨r2,hr2,h⟩:=bd h
 refine cA Tryz.call94 (t_spec_l01Prime _ _ hr2) ?_
 refine a_not ?_
 refine rN ?_
 refine cn h (fun hc h => ?_) (fun hc h => ?_)
 refine sR ?_
 refine a_as ?_
 refine rN ?_
 refine CW.ret ?_
 refine rB ?_
 refine rA ?_
 exact eX h
 refine CW.skip ?_
 refine nB ?_
 refine nA ?_
 refine CW.region ?_
 refine a_mv ?_
 obtain ⟨v3,hv3,h⟩:=bd h
 refine a_add ?_
 refine a_as ?_
 refine RW.nil ?_
 exact eN h
 refine CW.exit ?_
 refine xA ?_
 exact eX h
 rcases r4 with r4 | r4
 obtain ⟨rfl,hg⟩:=hq
 refine xB ?_
 refine nA ?_
 refine CW.ghost hg ?_
 refine CW.seq ?_
 refine sR ?_
 refine a_fa ?_
 refine a_ld ?_
 obtain ⟨r5,hr5,h⟩:=bd h
 refine cA Tryz.call128 (t_spec_l07Product _ _ hr5) ?_
 refine a_gtr ?_
 refine rN ?_
 refine cn h (fun hc h => ?_) (fun hc h => ?_)
 refine sR ?_
 refine a_as ?_
 refine rN ?_
 refine CW.ret ?_
 refine rA ?_
 obtain rfl:=sI h
 exact rT
 refine CW.skip ?_
 refine nA ?_
 refine CW.seq ?_
 refine sR ?_
 refine a_as ?_
 refine rN ?_
 refine CW.block ?_
 obtain ⟨r18,hr18,h⟩:=bd h
 refine CW.lp (s:=0) (l3_spec_IsPresentation x0) (fun s7:Int => envL [(1,T.ptr (qPr x0)),(3,I (x0.Orders.length:Int)),(5,I s7)]) (fun (x:Unit ⊕ Bool) e E => match x with | (.inl r18) => e = .exit 2 ∧ Ghost ⟨St,W,w0,Tryz.f88.ntmps⟩ E (envL []) | (.inr r18) => e = .ret ∧ RetG ⟨St,W,w0,Tryz.f88.ntmps⟩ Tryz.prog Tryz.f88.results [qPr x0] [B r18] [] .ret E) (.has ⟨rfl,rfl,rfl,trivial⟩) (fun s7 x h => ?_) hr18 (fun e E hq => ?_)
 refine CW.seq ?_
 refine sR ?_
 refine a_mv ?_
 refine a_mv ?_
 refine a_lss ?_
 refine rN ?_
 refine cn h (fun hc h => ?_) (fun hc h => ?_)
 refine CW.skip ?_
 refine nA ?_
 refine CW.seq ?_
 refine CW.block ?_
 refine CW.seq ?_
 refine CW.seq ?_
 obtain ⟨v6,hv6,h⟩:=bd h
 obtain ⟨r7,hr7,h⟩:=bd h
 refine CW.casesB (!r7) (fun hc0 => ?_) (fun hc0 => ?_)
 have h:=cT hc0 h
 refine CW.dk ?_
 refine d_fa [(1,_)] ?_
 refine d_ld [(47,_),(1,_)] ?_
 refine d_fa [(1,_)] ?_
 refine d_ld [(49,_),(1,_)] ?_
 refine d_mv [(5,_)] ?_
 refine d_ixr [(50,_),(51,_)] ?_
 refine d_ldr [(52,_)] ?_
 refine d_mv [(5,_)] ?_
 refine dC [(48,_),(53,_),(54,_)] Tryz.call129 (t_spec_l07Exponents _ _ _ _ hr7) ?_
 refine dG [(55,_)] [([(56,some (B true))],[(56,0)])] ⟨rfl,trivial⟩ (fun E h => IxOk.opE (okB_eq hc0 (x_not h.1 rfl)) rfl) ?_
 refine d_mv [(56,_)] ?_
 refine dsk2 ?_
 refine dsk2 ?_
 refine dsk2 ?_
 refine dsk2 ?_
 refine dsk2 ?_
 refine dsk2 ?_
 refine dsk2 ?_
 refine dsk2 ?_
 refine dsk2 ?_
 refine dsk2 ?_
 refine dsk2 ?_
 refine d_pick [(57,_)] ?_
 refine dN ([] :: [0] :: [] :: [2] :: [] :: [2,3,4] :: [2,3,4,5] :: [] :: [0,1,2,3,4,5,6,7] :: [0,1,2,3,4,5,6,7,8] :: [0,1,2,3,4,5,6,7,8,9] :: [0,1,2,3,4,5,6,7,8,9,10] :: [0,1,2,3,4,5,6,7,8,9,10,11] :: [0,1,2,3,4,5,6,7,8,9,10] :: [0,1,2,3,4,5,6,7,8,9,10,11,12,13] :: [0,1,2,3,4,5,6,7,8,9,10,11,12,13,14] :: [0,1,2,3,4,5,6,7,8,9,10,11,12,13,14,15] :: [0,1,2,3,4,5,6,7,8,9,10] :: [0,1,2,3,4,5,6,7,8,9,10,17] :: [0,1,2,3,4,5,6,7,8,9,10] :: [0,1,2,3,4,5,6,7,8,9,10,17,18,19] :: [0,1,2,3,4,5,6,7,8,9,10,11,12,13,14,15,16,17,18,19,20] :: [0,1,2,3,4,5,6,7,8,9,10,11,12,13,14,15,16,17,18,19,20,21] :: []) mixedP ?_
 refine nA ?_
 refine CW.condT rfl ?_
 refine CW.seq ?_
 refine CW.to [] trivial ?_
 refine CW.region ?_
 refine a_as ?_
 refine rN ?_
 refine CW.ret ?_
 refine rA ?_
 refine rB ?_
 refine rA ?_
 exact eX h
 have h:=cF hc0 h
 obtain ⟨v8,hv8,h⟩:=bd h
 obtain ⟨v9,hv9,h⟩:=bd h
 obtain ⟨v10,hv10,h⟩:=bd h
 refine CW.dk ?_
 refine d_fa [(1,_)] ?_
 refine d_ld [(47,_),(1,_)] ?_
 refine d_fa [(1,_)] ?_
 refine d_ld [(49,_),(1,_)] ?_
 refine d_mv [(5,_)] ?_
 refine d_ixr [(50,_),(51,_)] ?_
 refine d_ldr [(52,_)] ?_
 refine d_mv [(5,_)] ?_
 refine dC [(48,_),(53,_),(54,_)] Tryz.call129 (t_spec_l07Exponents _ _ _ _ hr7) ?_
 refine dG [(55,_)] [([(56,some (B false))],[(56,0)])] ⟨rfl,trivial⟩ (fun E h => IxOk.opE (okB_eq hc0 (x_not h.1 rfl)) rfl) ?_
 refine d_mv [(56,_)] ?_
 refine e_fa [(1,_),(57,_)] ?_
 refine e_ld [(58,_),(1,_),(57,_)] ?_
 refine e_mv [(5,_),(57,_)] ?_
 refine e_ixr [(59,_),(60,_),(57,_)] ?_
 refine e_ldr [(61,_),(57,_)] ?_
 refine e_lenr [(62,_),(57,_)] ?_
 refine e_mv [(3,_),(57,_)] ?_
 refine e_sub [(64,_),(57,_)] ?_
 refine e_mv [(5,_),(57,_)] ?_
 refine e_sub [(65,_),(66,_),(57,_)] ?_
 refine e_neq [(63,_),(67,_),(57,_)] ?_
 refine d_pick [(57,_),(68,_)] ?_
 refine dN ([] :: [0] :: [] :: [2] :: [] :: [2,3,4] :: [2,3,4,5] :: [] :: [0,1,2,3,4,5,6,7] :: [0,1,2,3,4,5,6,7,8] :: [0,1,2,3,4,5,6,7,8,9] :: [0,1,2,3,4,5,6,7,8,9,10] :: [0,1,2,3,4,5,6,7,8,9,10,11] :: [0,1,2,3,4,5,6,7,8,9,10] :: [0,1,2,3,4,5,6,7,8,9,10,11,12,13] :: [0,1,2,3,4,5,6,7,8,9,10,11,12,13,14] :: [0,1,2,3,4,5,6,7,8,9,10,11,12,13,14,15] :: [0,1,2,3,4,5,6,7,8,9,10] :: [0,1,2,3,4,5,6,7,8,9,10,17] :: [0,1,2,3,4,5,6,7,8,9,10] :: [0,1,2,3,4,5,6,7,8,9,10,17,18,19] :: [0,1,2,3,4,5,6,7,8,9,10,11,12,13,14,15,16,17,18,19,20] :: [0,1,2,3,4,5,6,7,8,9,10,11,12,13,14,15,16,17,18,19,20,21] :: []) mixedP ?_
 refine nA ?_
 refine cn h (fun hc h => ?_) (fun hc h => ?_)
 refine CW.seq ?_
 refine CW.to [] trivial ?_
 refine CW.region ?_
 refine a_as ?_
 refine rN ?_
 refine CW.ret ?_
 refine rA ?_
 refine rB ?_
 refine rA ?_
 exact eX h
 refine CW.skip ?_
 refine nA ?_
 refine CW.seq ?_
 refine CW.to [(1,T.ptr (qPr x0)),(3,I (x0.Orders.length:Int)),(5,I s7)] ⟨rfl,rfl,rfl,trivial⟩ ?_
 refine CW.region ?_
 refine a_as ?_
 refine rN ?_
 refine CW.block ?_
 obtain ⟨r16,hr16,h⟩:=bd h
 refine CW.lp (s:=0) (l2_spec_IsPresentation x0 s7) (fun s8:Int => envL [(1,T.ptr (qPr x0)),(3,I (x0.Orders.length:Int)),(5,I s7),(6,I s8)]) (fun (x:Unit ⊕ Bool) e E => match x with | (.inl r16) => e = .exit 4 ∧ Ghost ⟨St,W,w0,Tryz.f88.ntmps⟩ E (envL [(1,T.ptr (qPr x0)),(3,I (x0.Orders.length:Int)),(5,I s7)]) | (.inr r16) => e = .ret ∧ RetG ⟨St,W,w0,Tryz.f88.ntmps⟩ Tryz.prog Tryz.f88.results [qPr x0] [B r16] [] .ret E) (.has ⟨rfl,rfl,rfl,rfl,trivial⟩) (fun s8 x h => ?_) hr16 (fun e E hq => ?_)
 refine CW.seq ?_
 refine sR ?_
 refine a_mv ?_
 refine a_fa ?_
 refine a_ld ?_
 refine a_mv ?_
 obtain ⟨v11,hv11,h⟩:=bd h
 refine oP (x_ixr (f:=lM) row_24 hv11 (locB rfl rfl) rfl rfl) ?_
 refine a_ldr ?_
 refine a_lenr ?_
 refine a_lss ?_
 refine rN ?_
 refine cn h (fun hc h => ?_) (fun hc h => ?_)
 refine CW.skip ?_
 refine nA ?_
 refine CW.seq ?_
 refine CW.block ?_
 refine CW.seq ?_
 obtain ⟨v12,hv12,h⟩:=bd h
 obtain ⟨v13,hv13,h⟩:=bd h
 obtain ⟨r14,hr14,h⟩:=bd h
 refine CW.dk ?_
 refine d_fa [(1,_)] ?_
 refine d_ld [(80,_),(1,_)] ?_
 refine d_fa [(1,_)] ?_
 refine d_ld [(82,_),(1,_)] ?_
 refine d_mv [(5,_)] ?_
 refine dG [(83,_),(84,_)] [([(85,some (T.ro ((Pt lM) v12)))],[(85,0)])] ⟨rfl,rfl,trivial⟩ (fun E h => IxOk.opE (x_ixr (f:=lM) row_24 hv12 (locB h.1 rfl) h.2.1 rfl) rfl) ?_
 refine d_ldr [(85,_)] ?_
 refine d_mv [(6,_)] ?_
 refine d_ixr [(86,_),(87,_)] ?_
 refine d_ldr [(88,_)] ?_
 refine d_mv [(5,_)] ?_
 refine dC [(81,_),(89,_),(90,_)] Tryz.call129 (t_spec_l07Exponents _ _ _ _ hr14) ?_
 refine d_not [(91,_)] ?_
 refine dNA mixedP ?_
 refine nA ?_
 refine cn h (fun hc h => ?_) (fun hc h => ?_)
 refine sR ?_
 refine a_as ?_
 refine rN ?_
 refine CW.ret ?_
 refine rB ?_
 refine rA ?_
 exact eX h
 refine CW.skip ?_
 refine nB ?_
 refine nA ?_
 refine CW.region ?_
 refine a_mv ?_
 obtain ⟨v15,hv15,h⟩:=bd h
 refine a_add ?_
 refine a_as ?_
 refine RW.nil ?_
 exact eN h
 refine CW.exit ?_
 refine xA ?_
 exact eX h
 rcases r16 with r16 | r16
 obtain ⟨rfl,hg⟩:=hq
 refine xB ?_
 refine nB ?_
 refine nA ?_
 refine CW.ghost hg ?_
 refine CW.region ?_
 refine a_mv ?_
 obtain ⟨v17,hv17,h⟩:=bd h
 refine a_add ?_
 refine a_as ?_
 refine RW.nil ?_
 exact eN h
 obtain ⟨rfl,hq⟩:=hq
 refine rB ?_
 refine rB ?_
 refine rA ?_
 exact eX h ⟨rfl,hq⟩
 refine CW.exit ?_
 refine xA ?_
 exact eX h
 rcases r18 with r18 | r18
 obtain ⟨rfl,hg⟩:=hq
 refine xB ?_
 refine nA ?_
 refine CW.ghost hg ?_
 refine sR ?_
 refine a_as ?_
 refine rN ?_
 refine CW.ret ?_
 obtain rfl:=sI h
 exact rT
 obtain ⟨rfl,hq⟩:=hq
 refine rB ?_
 refine rA ?_
 obtain rfl:=sI h
 exact hq
 obtain ⟨rfl,hq⟩:=hq
 refine rB ?_
 refine rA ?_
 obtain rfl:=sI h
 exact hq
theorem t_spec_l01Own (x0:List Int) (r:(List Int)) (h:f_spec_l01Own x0 = some r):FnC Tryz.prog 115 [T.ro (lV x0)] [lV r] []:=by
 refine fB Tryz.func115 (fun St W w0 v => ?_)
 refine sR ?_
 refine oP (x_nil 1 rfl) ?_
 refine rN ?_
 refine sR ?_
 refine oP (x_bs0 elt_22 rfl) ?_
 refine a_mv ?_
 obtain ⟨v1,hv1,h⟩:=bd h
 refine oP (x_appr (f:=I) (g:=I) elt_22 (fun _ => rfl) (fun _ => rfl) inferInstance hv1 rfl (locB rfl rfl) rfl) ?_
 refine a_as ?_
 refine RW.ghost (Ghost.tr 2 5 _ rfl rfl (clean_of (cleanL (Enc.clean (f:=I)))) rfl) ?_
 refine rN ?_
 refine CW.ret ?_
 obtain rfl:=sI h
 exact rT
theorem tb_spec_l08Image {g_spec_l08At:SPr → Int → (List Int) → (List Int) → Option (List Int)} (H_spec_l08At:∀ (x0:SPr) (x1:Int) (x2:List Int) (x3:List Int) r,g_spec_l08At x0 x1 x2 x3 = some r → FnC Tryz.prog 156 [qPr x0,I x1,T.ro (lV x2),T.ro (lV x3)] [lV r] []) (x0:SPr) (x1:Int) (x2:List Int) (r:(List Int)) (h:b_spec_l08Image g_spec_l08At x0 x1 x2 = some r):FnC Tryz.prog 155 [qPr x0,I x1,T.ro (lV x2)] [lV r] []:=by
 refine fB Tryz.func155 (fun St W w0 v => ?_)
 refine sR ?_
 refine a_box ?_
 refine oP (x_nil 1 rfl) ?_
 refine rN ?_
 refine sR ?_
 refine a_fa ?_
 refine a_ld ?_
 refine a_lenr ?_
 refine a_as ?_
 refine rN ?_
 refine sR ?_
 refine a_mv ?_
 obtain ⟨m1,hm1,h⟩:=bd h
 refine oP (x_makeL (f:=I) (z:=0) elt_22 (rfl) hm1 rfl rfl rfl) ?_
 refine a_as ?_
 refine RW.ghost (Ghost.tr 8 15 _ rfl rfl (clean_of (cleanL (Enc.clean (f:=I)))) rfl) ?_
 refine rN ?_
 refine CW.seq ?_
 refine sR ?_
 refine a_mv ?_
 obtain ⟨v2,hv2,h⟩:=bd h
 refine a_add ?_
 refine a_as ?_
 refine rN ?_
 refine CW.block ?_
 obtain ⟨r13,hr13,h⟩:=bd h
 refine CW.lp (s:=(List.replicate m1 (0:Int),v2)) (l2_spec_l08Image g_spec_l08At x0 x1 x2) (fun s5:(List Int) × Int => envL [(1,I x1),(2,T.ro (lV x2)),(3,T.ptr (qPr x0)),(7,I (x0.Orders.length:Int)),(8,L 1 I s5.1),(9,I s5.2)]) (fun (r13:(List Int)) e E => e = .exit 0 ∧ Ghost ⟨St,W,w0,Tryz.f155.ntmps⟩ E (envL [(8,L 1 I r13)])) (.has ⟨rfl,rfl,rfl,rfl,rfl,rfl,trivial⟩) (fun s5 x h => ?_) hr13 (fun e E hq => ?_)
 refine CW.seq ?_
 refine sR ?_
 refine a_mv ?_
 refine a_mv ?_
 refine a_lss ?_
 refine rN ?_
 refine cn h (fun hc h => ?_) (fun hc h => ?_)
 refine CW.skip ?_
 refine nA ?_
 refine CW.seq ?_
 refine CW.block ?_
 refine sR ?_
 refine a_as ?_
 refine rN ?_
 refine CW.block ?_
 obtain ⟨r11,hr11,h⟩:=bd h
 refine CW.lp (s:=(s5.1,0)) (l1_spec_l08Image g_spec_l08At x0 x1 x2 s5) (fun s6:(List Int) × Int => envL [(1,I x1),(2,T.ro (lV x2)),(3,T.ptr (qPr x0)),(7,I (x0.Orders.length:Int)),(8,L 1 I s6.1),(9,I s5.2),(10,I s6.2)]) (fun (r11:(List Int)) e E => e = .exit 2 ∧ Ghost ⟨St,W,w0,Tryz.f155.ntmps⟩ E (envL [(1,I x1),(2,T.ro (lV x2)),(3,T.ptr (qPr x0)),(7,I (x0.Orders.length:Int)),(8,L 1 I r11),(9,I s5.2)])) (.has ⟨rfl,rfl,rfl,rfl,rfl,rfl,rfl,trivial⟩) (fun s6 x h => ?_) hr11 (fun e E hq => ?_)
 refine CW.seq ?_
 refine sR ?_
 refine a_mv ?_
 refine a_mv ?_
 refine a_mv ?_
 obtain ⟨v3,hv3,h⟩:=bd h
 refine a_ixr ?_
 refine a_ldr ?_
 refine a_lss ?_
 refine rN ?_
 refine cn h (fun hc h => ?_) (fun hc h => ?_)
 refine CW.skip ?_
 refine nA ?_
 refine CW.seq ?_
 refine CW.block ?_
 obtain ⟨v4,hv4,h⟩:=bd h
 obtain ⟨v5,hv5,h⟩:=bd h
 obtain ⟨v6,hv6,h⟩:=bd h
 obtain ⟨v7,hv7,h⟩:=bd h
 obtain ⟨v8,hv8,h⟩:=bd h
 obtain ⟨r9,hr9,h⟩:=bd h
 refine CW.dk ?_
 refine d_ldp [(3,_)] ?_
 refine d_mv [(1,_)] ?_
 refine d_add [(32,_)] ?_
 refine d_mv [(8,_)] ?_
 refine d_fa [(3,_)] ?_
 refine d_ld [(35,_),(3,_)] ?_
 refine d_mv [(1,_)] ?_
 refine d_ixr [(36,_),(37,_)] ?_
 refine d_ldr [(38,_)] ?_
 refine d_mv [(9,_)] ?_
 refine d_mv [(1,_)] ?_
 refine d_sub [(40,_),(41,_)] ?_
 refine d_sub [(42,_)] ?_
 refine d_ixr [(39,_),(43,_)] ?_
 refine d_ldr [(44,_)] ?_
 refine dC [(31,_),(33,_),(34,_),(8,_),(45,_)] Tryz.call156 (H_spec_l08At _ _ _ _ _ hr9) ?_
 refine d_as [(46,_)] ?_
 refine dNA mixedP ?_
 refine nB ?_
 refine nA ?_
 refine CW.region ?_
 refine a_mv ?_
 obtain ⟨v10,hv10,h⟩:=bd h
 refine a_add ?_
 refine a_as ?_
 refine RW.ghost (Ghost.tr 8 46 _ rfl rfl (clean_of (cleanL (Enc.clean (f:=I)))) rfl) ?_
 refine RW.nil ?_
 exact eN h
 refine CW.exit ?_
 refine xA ?_
 exact eX h
 obtain ⟨rfl,hg⟩:=hq
 refine xB ?_
 refine nB ?_
 refine nA ?_
 refine CW.ghost hg ?_
 refine CW.region ?_
 refine a_mv ?_
 obtain ⟨v12,hv12,h⟩:=bd h
 refine a_add ?_
 refine a_as ?_
 refine RW.nil ?_
 exact eN h
 refine CW.exit ?_
 refine xA ?_
 exact eX h
 obtain ⟨rfl,hg⟩:=hq
 refine xB ?_
 refine nA ?_
 refine CW.ghost hg ?_
 refine sR ?_
 refine a_mv ?_
 refine a_as ?_
 refine RW.ghost (Ghost.tr 6 8 _ rfl rfl (clean_of (cleanL (Enc.clean (f:=I)))) rfl) ?_
 refine rN ?_
 refine CW.ret ?_
 obtain rfl:=sI h
 exact rT
theorem tb_spec_l08At {g_spec_l08Image:SPr → Int → (List Int) → Option (List Int)} (H_spec_l08Image:∀ (x0:SPr) (x1:Int) (x2:List Int) r,g_spec_l08Image x0 x1 x2 = some r → FnC Tryz.prog 155 [qPr x0,I x1,T.ro (lV x2)] [lV r] []) {g_spec_l08At:SPr → Int → (List Int) → (List Int) → Option (List Int)} (H_spec_l08At:∀ (x0:SPr) (x1:Int) (x2:List Int) (x3:List Int) r,g_spec_l08At x0 x1 x2 x3 = some r → FnC Tryz.prog 156 [qPr x0,I x1,T.ro (lV x2),T.ro (lV x3)] [lV r] []) (x0:SPr) (x1:Int) (x2:List Int) (x3:List Int) (r:(List Int)) (h:b_spec_l08At g_spec_l08Image g_spec_l08At x0 x1 x2 x3 = some r):FnC Tryz.prog 156 [qPr x0,I x1,T.ro (lV x2),T.ro (lV x3)] [lV r] []:=by
 refine fB Tryz.func156 (fun St W w0 v => ?_)
 refine sR ?_
 refine a_box ?_
 refine oP (x_nil 1 rfl) ?_
 refine rN ?_
 refine sR ?_
 refine a_fa ?_
 refine a_ld ?_
 refine a_lenr ?_
 refine a_as ?_
 refine rN ?_
 refine CW.seq ?_
 refine sR ?_
 refine a_mv ?_
 refine a_mv ?_
 refine a_geq ?_
 refine rN ?_
 refine cn h (fun hc h => ?_) (fun hc h => ?_)
 refine sR ?_
 refine a_mv ?_
 obtain ⟨m1,hm1,h⟩:=bd h
 refine oP (x_makeL (f:=I) (z:=0) elt_22 (rfl) hm1 rfl rfl rfl) ?_
 refine a_as ?_
 refine RW.ghost (Ghost.tr 8 23 _ rfl rfl (clean_of (cleanL (Enc.clean (f:=I)))) rfl) ?_
 refine rN ?_
 refine CW.ret ?_
 refine rA ?_
 obtain rfl:=sI h
 exact rT
 refine CW.skip ?_
 refine nA ?_
 refine sR ?_
 refine a_mv ?_
 obtain ⟨r2,hr2,h⟩:=bd h
 refine cA Tryz.call115 (t_spec_l01Own _ _ hr2) ?_
 refine a_mv ?_
 obtain ⟨r3,hr3,h⟩:=bd h
 refine cA Tryz.call115 (t_spec_l01Own _ _ hr3) ?_
 refine a_as ?_
 refine a_as ?_
 refine RW.ghost (Ghost.tr 10 25 _ rfl rfl (clean_of (cleanL (Enc.clean (f:=I)))) rfl) ?_
 refine RW.ghost (Ghost.tr 11 27 _ rfl rfl (clean_of (cleanL (Enc.clean (f:=I)))) rfl) ?_
 refine rN ?_
 refine sR ?_
 refine a_mv ?_
 refine a_mv ?_
 obtain ⟨v4,hv4,h⟩:=bd h
 refine a_ix ?_
 refine oP (x_stcT inf_2 rfl rfl rfl (getc hv4 rfl) (setc hv4 rfl) rfl rfl) ?_
 refine rN ?_
 refine sR ?_
 refine a_mv ?_
 refine a_mv ?_
 obtain ⟨v5,hv5,h⟩:=bd h
 refine a_ix ?_
 refine oP (x_stcT inf_2 rfl rfl rfl (getc hv5 rfl) (setc hv5 rfl) rfl rfl) ?_
 refine rN ?_
 refine CW.seq ?_
 refine sR ?_
 refine a_as ?_
 refine rN ?_
 refine CW.block ?_
 obtain ⟨r9,hr9,h⟩:=bd h
 refine CW.lp (s:=(r2.set x1.toNat 0,0)) (l1_spec_l08At g_spec_l08Image x0 x1 x3) (fun s1:(List Int) × Int => envL [(1,I x1),(2,T.ro (lV x2)),(3,T.ro (lV x3)),(4,T.ptr (qPr x0)),(10,L 1 I s1.1),(11,L 1 I (r3.set x1.toNat 0)),(12,I s1.2)]) (fun (r9:(List Int)) e E => e = .exit 0 ∧ Ghost ⟨St,W,w0,Tryz.f156.ntmps⟩ E (envL [(1,I x1),(2,T.ro (lV x2)),(3,T.ro (lV x3)),(4,T.ptr (qPr x0)),(10,L 1 I r9),(11,L 1 I (r3.set x1.toNat 0))])) (.has ⟨rfl,rfl,rfl,rfl,rfl,rfl,rfl,trivial⟩) (fun s1 x h => ?_) hr9 (fun e E hq => ?_)
 refine CW.seq ?_
 refine sR ?_
 refine a_mv ?_
 refine a_mv ?_
 refine a_mv ?_
 obtain ⟨v6,hv6,h⟩:=bd h
 refine a_ixr ?_
 refine a_ldr ?_
 refine a_lss ?_
 refine rN ?_
 refine cn h (fun hc h => ?_) (fun hc h => ?_)
 refine CW.skip ?_
 refine nA ?_
 refine CW.seq ?_
 refine CW.block ?_
 refine CW.region ?_
 refine a_ldp ?_
 refine a_mv ?_
 refine a_mv ?_
 obtain ⟨r7,hr7,h⟩:=bd h
 refine cA Tryz.call155 (H_spec_l08Image _ _ _ _ hr7) ?_
 refine a_as ?_
 refine RW.ghost (Ghost.tr 10 45 _ rfl rfl (clean_of (cleanL (Enc.clean (f:=I)))) rfl) ?_
 refine RW.nil ?_
 refine nB ?_
 refine nA ?_
 refine CW.region ?_
 refine a_mv ?_
 obtain ⟨v8,hv8,h⟩:=bd h
 refine a_add ?_
 refine a_as ?_
 refine RW.nil ?_
 exact eN h
 refine CW.exit ?_
 refine xA ?_
 exact eX h
 obtain ⟨rfl,hg⟩:=hq
 refine xB ?_
 refine nA ?_
 refine CW.ghost hg ?_
 refine sR ?_
 refine a_ldp ?_
 refine a_mv ?_
 obtain ⟨v10,hv10,h⟩:=bd h
 refine oP (x_add hv10 rfl rfl rfl) ?_
 refine a_mv ?_
 refine a_mv ?_
 obtain ⟨r11,hr11,h⟩:=bd h
 refine cA Tryz.call156 (H_spec_l08At _ _ _ _ _ hr11) ?_
 refine a_as ?_
 refine RW.ghost (Ghost.tr 13 51 _ rfl rfl (clean_of (cleanL (Enc.clean (f:=I)))) rfl) ?_
 refine rN ?_
 refine CW.seq ?_
 obtain ⟨v12,hv12,h⟩:=bd h
 obtain ⟨v13,hv13,h⟩:=bd h
 obtain ⟨v14,hv14,h⟩:=bd h
 refine CW.dk ?_
 refine d_mv [(2,_)] ?_
 refine d_mv [(1,_)] ?_
 refine d_ixr [(52,_),(53,_)] ?_
 refine d_ldr [(54,_)] ?_
 refine d_mv [(3,_)] ?_
 refine d_mv [(1,_)] ?_
 refine d_ixr [(56,_),(57,_)] ?_
 refine d_ldr [(58,_)] ?_
 refine d_add [(55,_),(59,_)] ?_
 refine d_as [(60,_)] ?_
 refine dNA mixedP ?_
 refine nA ?_
 refine CW.seq ?_
 refine sR ?_
 refine a_mv ?_
 refine a_fa ?_
 refine a_ld ?_
 refine a_mv ?_
 obtain ⟨v15,hv15,h⟩:=bd h
 refine oP (x_ixr (f:=I) row_22 hv15 (locB rfl rfl) rfl rfl) ?_
 refine a_ldr ?_
 refine a_geq ?_
 refine rN ?_
 refine cn h (fun hc h => ?_) (fun hc h => ?_)
 refine CW.seq ?_
 refine CW.to [(1,I x1),(4,T.ptr (qPr x0)),(13,L 1 I r11),(14,I v14)] ⟨rfl,rfl,rfl,rfl,trivial⟩ ?_
 refine CW.region ?_
 refine a_mv ?_
 refine a_fa ?_
 refine a_ld ?_
 refine a_mv ?_
 obtain ⟨v16,hv16,h⟩:=bd h
 refine oP (x_ixr (f:=I) row_22 hv16 (locB rfl rfl) rfl rfl) ?_
 refine a_ldr ?_
 obtain ⟨v17,hv17,h⟩:=bd h
 refine a_sub ?_
 refine a_as ?_
 refine rN ?_
 obtain ⟨v18,hv18,h⟩:=bd h
 obtain ⟨v19,hv19,h⟩:=bd h
 obtain ⟨r20,hr20,h⟩:=bd h
 refine CW.dk ?_
 refine d_ldp [(4,_)] ?_
 refine d_mv [(1,_)] ?_
 refine dG [(76,_)] [([(77,some (I v18))],[(77,0)])] ⟨rfl,trivial⟩ (fun E h => IxOk.opE (x_add hv18 h.1 rfl rfl) rfl) ?_
 refine d_fa [(4,_)] ?_
 refine d_ld [(78,_),(4,_)] ?_
 refine d_mv [(1,_)] ?_
 refine d_ixr [(79,_),(80,_)] ?_
 refine d_ldr [(81,_)] ?_
 refine d_mv [(13,_)] ?_
 refine dC [(75,_),(77,_),(82,_),(83,_),(13,_)] Tryz.call156 (H_spec_l08At _ _ _ _ _ hr20) ?_
 refine d_as [(84,_)] ?_
 refine dNA mixedP ?_
 refine nA ?_
 refine CW.ghost (Ghost.tr 13 84 _ rfl rfl (clean_of (cleanL (Enc.clean (f:=I)))) rfl) ?_
 refine sR ?_
 refine a_mv ?_
 obtain ⟨r21,hr21,h⟩:=bd h
 refine cA Tryz.call115 (t_spec_l01Own _ _ hr21) ?_
 refine a_as ?_
 refine RW.ghost (Ghost.tr 15 86 _ rfl rfl (clean_of (cleanL (Enc.clean (f:=I)))) rfl) ?_
 refine rN ?_
 refine sR ?_
 refine a_mv ?_
 refine a_mv ?_
 refine a_mv ?_
 obtain ⟨v22,hv22,h⟩:=bd h
 refine a_ix ?_
 refine oP (x_st inf_2 rfl rfl rfl (getc hv22 rfl) (setc hv22 rfl) rfl (clean_of (Enc.clean (f:=I) _)) rfl) ?_
 refine rN ?_
 refine CW.seq ?_
 refine CW.to [(15,L 1 I (r21.set x1.toNat v17))] ⟨rfl,trivial⟩ ?_
 refine CW.region ?_
 refine a_mv ?_
 refine a_as ?_
 refine RW.ghost (Ghost.tr 8 15 _ rfl rfl (clean_of (cleanL (Enc.clean (f:=I)))) rfl) ?_
 refine rN ?_
 refine CW.ret ?_
 obtain rfl:=sI h
 exact rT
 refine CW.skip ?_
 refine nA ?_
 refine CW.seq ?_
 refine CW.to [(1,I x1),(13,L 1 I r11),(14,I v14)] ⟨rfl,rfl,rfl,trivial⟩ ?_
 refine CW.region ?_
 refine a_mv ?_
 obtain ⟨r23,hr23,h⟩:=bd h
 refine cA Tryz.call115 (t_spec_l01Own _ _ hr23) ?_
 refine a_as ?_
 refine RW.ghost (Ghost.tr 15 86 _ rfl rfl (clean_of (cleanL (Enc.clean (f:=I)))) rfl) ?_
 refine rN ?_
 refine sR ?_
 refine a_mv ?_
 refine a_mv ?_
 refine a_mv ?_
 obtain ⟨v24,hv24,h⟩:=bd h
 refine a_ix ?_
 refine oP (x_st inf_2 rfl rfl rfl (getc hv24 rfl) (setc hv24 rfl) rfl (clean_of (Enc.clean (f:=I) _)) rfl) ?_
 refine rN ?_
 refine sR ?_
 refine a_mv ?_
 refine a_as ?_
 refine RW.ghost (Ghost.tr 8 15 _ rfl rfl (clean_of (cleanL (Enc.clean (f:=I)))) rfl) ?_
 refine rN ?_
 refine CW.ret ?_
 obtain rfl:=sI h
 exact rT
theorem tN_spec_l08Image:∀ n,(∀ (x0:SPr) (x1:Int) (x2:List Int) r,fN_spec_l08Image n x0 x1 x2 = some r → FnC Tryz.prog 155 [qPr x0,I x1,T.ro (lV x2)] [lV r] []) ∧ (∀ (x0:SPr) (x1:Int) (x2:List Int) (x3:List Int) r,fN_spec_l08At n x0 x1 x2 x3 = some r → FnC Tryz.prog 156 [qPr x0,I x1,T.ro (lV x2),T.ro (lV x3)] [lV r] []):=by
  intro n
  induction n with
  | zero => exact ⟨(fun _ _ _ r h => by simp [fN_spec_l08Image] at h),(fun _ _ _ _ r h => by simp [fN_spec_l08At] at h)⟩
  | succ n ih => exact ⟨(fun x0 x1 x2 r h => tb_spec_l08Image ih.2 x0 x1 x2 r (by simpa [fN_spec_l08Image] using h)),(fun x0 x1 x2 x3 r h => tb_spec_l08At ih.1 ih.2 x0 x1 x2 x3 r (by simpa [fN_spec_l08At] using h))⟩
theorem t_spec_l08Image (x0:SPr) (x1:Int) (x2:List Int) (r:(List Int)) (h:f_spec_l08Image x0 x1 x2 = some r):FnC Tryz.prog 155 [qPr x0,I x1,T.ro (lV x2)] [lV r] []:=by
 obtain ⟨n,hn⟩:=fuelO_some h
 exact (tN_spec_l08Image n).1 x0 x1 x2 r hn
theorem t_spec_l08At (x0:SPr) (x1:Int) (x2:List Int) (x3:List Int) (r:(List Int)) (h:f_spec_l08At x0 x1 x2 x3 = some r):FnC Tryz.prog 156 [qPr x0,I x1,T.ro (lV x2),T.ro (lV x3)] [lV r] []:=by
 obtain ⟨n,hn⟩:=fuelO_some h
 exact (tN_spec_l08Image n).2 x0 x1 x2 x3 r hn
theorem t_spec_l08Repeat (x0:SPr) (x1:Int) (x2:List Int) (x3:Int) (r:(List Int)) (h:f_spec_l08Repeat x0 x1 x2 x3 = some r):FnC Tryz.prog 154 [qPr x0,I x1,T.ro (lV x2),I x3] [lV r] []:=by
 refine fB Tryz.func154 (fun St W w0 v => ?_)
 refine sR ?_
 refine a_box ?_
 refine oP (x_nil 1 rfl) ?_
 refine rN ?_
 refine sR ?_
 refine a_fa ?_
 refine a_ld ?_
 refine a_lenr ?_
 obtain ⟨m1,hm1,h⟩:=bd h
 refine oP (x_makeL (f:=I) (z:=0) elt_22 (rfl) hm1 rfl rfl rfl) ?_
 refine a_as ?_
 refine RW.ghost (Ghost.tr 9 14 _ rfl rfl (clean_of (cleanL (Enc.clean (f:=I)))) rfl) ?_
 refine rN ?_
 refine sR ?_
 refine a_mv ?_
 refine a_as ?_
 refine rN ?_
 refine CW.seq ?_
 refine CW.block ?_
 obtain ⟨r8,hr8,h⟩:=bd h
 refine CW.lp (s:=(x3,List.replicate m1 (0:Int),x2)) (l1_spec_l08Repeat x0 x1) (fun s1:Int × (List Int) × (List Int) => envL [(1,I x1),(3,I s1.1),(4,T.ptr (qPr x0)),(9,L 1 I s1.2.1),(10,T.ro (lV s1.2.2))]) (fun (r8:(List Int)) e E => e = .exit 0 ∧ Ghost ⟨St,W,w0,Tryz.f154.ntmps⟩ E (envL [(9,L 1 I r8)])) (.has ⟨rfl,rfl,rfl,rfl,rfl,trivial⟩) (fun s1 x h => ?_) hr8 (fun e E hq => ?_)
 refine CW.seq ?_
 refine sR ?_
 refine a_mv ?_
 refine a_gtr ?_
 refine rN ?_
 refine cn h (fun hc h => ?_) (fun hc h => ?_)
 refine CW.skip ?_
 refine nA ?_
 refine CW.block ?_
 refine CW.seq ?_
 refine sR ?_
 refine a_mv ?_
 obtain ⟨v2,hv2,h⟩:=bd h
 refine a_rem ?_
 refine a_eql ?_
 refine rN ?_
 refine cn h (fun hc h => ?_) (fun hc h => ?_)
 refine CW.region ?_
 refine a_ldp ?_
 refine a_mv ?_
 refine a_mv ?_
 refine a_mv ?_
 obtain ⟨r3,hr3,h⟩:=bd h
 refine cA Tryz.call156 (t_spec_l08At _ _ _ _ _ hr3) ?_
 refine a_as ?_
 refine RW.ghost (Ghost.tr 9 25 _ rfl rfl (clean_of (cleanL (Enc.clean (f:=I)))) rfl) ?_
 refine rN ?_
 refine sR ?_
 refine a_ldp ?_
 refine a_mv ?_
 refine a_mv ?_
 refine a_mv ?_
 obtain ⟨r4,hr4,h⟩:=bd h
 refine cA Tryz.call156 (t_spec_l08At _ _ _ _ _ hr4) ?_
 refine a_as ?_
 refine RW.ghost (Ghost.tr 10 30 _ rfl rfl (clean_of (cleanL (Enc.clean (f:=I)))) rfl) ?_
 refine rN ?_
 refine CW.region ?_
 refine a_mv ?_
 obtain ⟨v5,hv5,h⟩:=bd h
 refine a_quo ?_
 refine a_as ?_
 refine RW.ghost (Ghost.frz 10 (k:=1) (f:=I) (g:=I) r4 rfl inferInstance) ?_
 refine RW.nil ?_
 refine nB ?_
 exact eN h
 refine CW.skip ?_
 refine nA ?_
 refine sR ?_
 refine a_ldp ?_
 refine a_mv ?_
 refine a_mv ?_
 refine a_mv ?_
 obtain ⟨r6,hr6,h⟩:=bd h
 refine cA Tryz.call156 (t_spec_l08At _ _ _ _ _ hr6) ?_
 refine a_as ?_
 refine RW.ghost (Ghost.tr 10 30 _ rfl rfl (clean_of (cleanL (Enc.clean (f:=I)))) rfl) ?_
 refine rN ?_
 refine CW.region ?_
 refine a_mv ?_
 obtain ⟨v7,hv7,h⟩:=bd h
 refine a_quo ?_
 refine a_as ?_
 refine RW.ghost (Ghost.frz 10 (k:=1) (f:=I) (g:=I) r6 rfl inferInstance) ?_
 refine RW.nil ?_
 refine nB ?_
 exact eN h
 refine CW.exit ?_
 refine xA ?_
 exact eX h
 obtain ⟨rfl,hg⟩:=hq
 refine xB ?_
 refine nA ?_
 refine CW.ghost hg ?_
 refine sR ?_
 refine a_mv ?_
 refine a_as ?_
 refine RW.ghost (Ghost.tr 8 9 _ rfl rfl (clean_of (cleanL (Enc.clean (f:=I)))) rfl) ?_
 refine rN ?_
 refine CW.ret ?_
 obtain rfl:=sI h
 exact rT
theorem t_spec_l01Same (x0:List Int) (x1:List Int) (r:Bool) (h:f_spec_l01Same x0 x1 = some r):FnC Tryz.prog 136 [T.ro (lV x0),T.ro (lV x1)] [B r] []:=by
 refine fB Tryz.func136 (fun St W w0 v => ?_)
 refine sR ?_
 refine a_as ?_
 refine rN ?_
 refine CW.seq ?_
 refine sR ?_
 refine a_mv ?_
 refine a_lenr ?_
 refine a_mv ?_
 refine a_lenr ?_
 refine a_neq ?_
 refine rN ?_
 refine cn h (fun hc h => ?_) (fun hc h => ?_)
 refine sR ?_
 refine a_as ?_
 refine rN ?_
 refine CW.ret ?_
 refine rA ?_
 obtain rfl:=sI h
 exact rT
 refine CW.skip ?_
 refine nA ?_
 refine CW.seq ?_
 refine sR ?_
 refine a_as ?_
 refine rN ?_
 refine CW.block ?_
 obtain ⟨r4,hr4,h⟩:=bd h
 refine CW.lp (s:=0) (l1_spec_l01Same x0 x1) (fun s1:Int => envL [(0,T.ro (lV x0)),(1,T.ro (lV x1)),(5,I s1)]) (fun (x:Unit ⊕ Bool) e E => match x with | (.inl r4) => e = .exit 0 ∧ Ghost ⟨St,W,w0,Tryz.f136.ntmps⟩ E (envL []) | (.inr r4) => e = .ret ∧ RetG ⟨St,W,w0,Tryz.f136.ntmps⟩ Tryz.prog Tryz.f136.results [T.ro (lV x0),T.ro (lV x1)] [B r4] [] .ret E) (.has ⟨rfl,rfl,rfl,trivial⟩) (fun s1 x h => ?_) hr4 (fun e E hq => ?_)
 refine CW.seq ?_
 refine sR ?_
 refine a_mv ?_
 refine a_mv ?_
 refine a_lenr ?_
 refine a_lss ?_
 refine rN ?_
 refine cn h (fun hc h => ?_) (fun hc h => ?_)
 refine CW.skip ?_
 refine nA ?_
 refine CW.seq ?_
 refine CW.block ?_
 refine CW.seq ?_
 obtain ⟨v1,hv1,h⟩:=bd h
 obtain ⟨v2,hv2,h⟩:=bd h
 refine CW.dk ?_
 refine d_mv [(0,_)] ?_
 refine d_mv [(5,_)] ?_
 refine d_ixr [(17,_),(18,_)] ?_
 refine d_ldr [(19,_)] ?_
 refine d_mv [(1,_)] ?_
 refine d_mv [(5,_)] ?_
 refine d_ixr [(21,_),(22,_)] ?_
 refine d_ldr [(23,_)] ?_
 refine d_neq [(20,_),(24,_)] ?_
 refine dNA mixedP ?_
 refine nA ?_
 refine cn h (fun hc h => ?_) (fun hc h => ?_)
 refine sR ?_
 refine a_as ?_
 refine rN ?_
 refine CW.ret ?_
 refine rB ?_
 refine rA ?_
 exact eX h
 refine CW.skip ?_
 refine nB ?_
 refine nA ?_
 refine CW.region ?_
 refine a_mv ?_
 obtain ⟨v3,hv3,h⟩:=bd h
 refine a_add ?_
 refine a_as ?_
 refine RW.nil ?_
 exact eN h
 refine CW.exit ?_
 refine xA ?_
 exact eX h
 rcases r4 with r4 | r4
 obtain ⟨rfl,hg⟩:=hq
 refine xB ?_
 refine nA ?_
 refine CW.ghost hg ?_
 refine sR ?_
 refine a_as ?_
 refine rN ?_
 refine CW.ret ?_
 obtain rfl:=sI h
 exact rT
 obtain ⟨rfl,hq⟩:=hq
 refine rB ?_
 refine rA ?_
 obtain rfl:=sI h
 exact hq
theorem t_spec_l07Unit (x0:Int) (x1:Int) (r:(List Int)) (h:f_spec_l07Unit x0 x1 = some r):FnC Tryz.prog 127 [I x0,I x1] [lV r] []:=by
 refine fB Tryz.func127 (fun St W w0 v => ?_)
 refine sR ?_
 refine oP (x_nil 1 rfl) ?_
 refine rN ?_
 refine sR ?_
 refine a_mv ?_
 obtain ⟨m1,hm1,h⟩:=bd h
 refine oP (x_makeL (f:=I) (z:=0) elt_22 (rfl) hm1 rfl rfl rfl) ?_
 refine a_as ?_
 refine RW.ghost (Ghost.tr 5 7 _ rfl rfl (clean_of (cleanL (Enc.clean (f:=I)))) rfl) ?_
 refine rN ?_
 refine sR ?_
 refine a_mv ?_
 refine a_mv ?_
 obtain ⟨v2,hv2,h⟩:=bd h
 refine a_ix ?_
 refine oP (x_stcT inf_2 rfl rfl rfl (getc hv2 rfl) (setc hv2 rfl) rfl rfl) ?_
 refine rN ?_
 refine sR ?_
 refine a_mv ?_
 refine a_as ?_
 refine RW.ghost (Ghost.tr 4 5 _ rfl rfl (clean_of (cleanL (Enc.clean (f:=I)))) rfl) ?_
 refine rN ?_
 refine CW.ret ?_
 obtain rfl:=sI h
 exact rT
end Go.Wk

namespace Go.Wk
open Go Go.Proofs Go.Ab
set_option maxRecDepth 100000
theorem t_spec_l08Level (x0:SPr) (x1:Int) (r:SFault) (h:f_spec_l08Level x0 x1 = some r):FnC Tryz.prog 142 [qPr x0,I x1] [eSFault r] []:=by
 refine fB Tryz.func142 (fun St W w0 v => ?_)
 refine sR ?_
 refine a_box ?_
 refine a_alloc ?_
 refine rN ?_
 refine sR ?_
 refine a_fa ?_
 refine a_ld ?_
 refine a_lenr ?_
 refine a_as ?_
 refine rN ?_
 refine sR ?_
 refine a_mv ?_
 refine a_as ?_
 refine rN ?_
 refine CW.seq ?_
 refine sR ?_
 refine a_mv ?_
 obtain ⟨v1,hv1,h⟩:=bd h
 refine a_add ?_
 refine a_as ?_
 refine rN ?_
 refine CW.block ?_
 obtain ⟨r13,hr13,h⟩:=bd h
 refine CW.lp (s:=v1) (l1_spec_l08Level x0 x1) (fun s1:Int => envL [(1,I x1),(2,T.ptr (qPr x0)),(4,T.ptr (T.agg [I 0,I 0,I 0,I 0])),(5,I (x0.Orders.length:Int)),(6,I x1),(7,I s1)]) (fun (x:Unit ⊕ SFault) e E => match x with | (.inl r13) => e = .exit 0 ∧ Ghost ⟨St,W,w0,Tryz.f142.ntmps⟩ E (envL [(1,I x1),(2,T.ptr (qPr x0)),(4,T.ptr (T.agg [I 0,I 0,I 0,I 0])),(5,I (x0.Orders.length:Int)),(6,I x1)]) | (.inr r13) => e = .ret ∧ RetG ⟨St,W,w0,Tryz.f142.ntmps⟩ Tryz.prog Tryz.f142.results [qPr x0,I x1] [eSFault r13] [] .ret E) (.has ⟨rfl,rfl,rfl,rfl,rfl,rfl,trivial⟩) (fun s1 x h => ?_) hr13 (fun e E hq => ?_)
 refine CW.seq ?_
 refine sR ?_
 refine a_mv ?_
 refine a_mv ?_
 refine a_lss ?_
 refine rN ?_
 refine cn h (fun hc h => ?_) (fun hc h => ?_)
 refine CW.skip ?_
 refine nA ?_
 refine CW.seq ?_
 refine CW.block ?_
 refine CW.seq ?_
 obtain ⟨v2,hv2,h⟩:=bd h
 obtain ⟨v3,hv3,h⟩:=bd h
 obtain ⟨v4,hv4,h⟩:=bd h
 obtain ⟨v5,hv5,h⟩:=bd h
 obtain ⟨v6,hv6,h⟩:=bd h
 obtain ⟨v7,hv7,h⟩:=bd h
 obtain ⟨r8,hr8,h⟩:=bd h
 refine CW.dk ?_
 refine d_ldp [(2,_)] ?_
 refine d_mv [(1,_)] ?_
 refine d_add [(31,_)] ?_
 refine d_fa [(2,_)] ?_
 refine d_ld [(33,_),(2,_)] ?_
 refine d_mv [(1,_)] ?_
 refine d_ixr [(34,_),(35,_)] ?_
 refine d_ldr [(36,_)] ?_
 refine d_mv [(7,_)] ?_
 refine d_mv [(1,_)] ?_
 refine d_sub [(38,_),(39,_)] ?_
 refine d_sub [(40,_)] ?_
 refine d_ixr [(37,_),(41,_)] ?_
 refine d_ldr [(42,_)] ?_
 refine d_fa [(2,_)] ?_
 refine d_ld [(44,_),(2,_)] ?_
 refine d_mv [(7,_)] ?_
 refine d_ixr [(45,_),(46,_)] ?_
 refine d_ldr [(47,_)] ?_
 refine dC [(30,_),(32,_),(43,_),(48,_)] Tryz.call154 (t_spec_l08Repeat _ _ _ _ _ hr8) ?_
 refine d_as [(49,_)] ?_
 refine dNA mixedP ?_
 refine nA ?_
 refine CW.ghost (Ghost.tr 8 49 _ rfl rfl (clean_of (cleanL (Enc.clean (f:=I)))) rfl) ?_
 refine CW.seq ?_
 refine CW.to [(1,I x1),(2,T.ptr (qPr x0)),(4,T.ptr (T.agg [I 0,I 0,I 0,I 0])),(5,I (x0.Orders.length:Int)),(6,I x1),(7,I s1),(8,L 1 I r8)] ⟨rfl,rfl,rfl,rfl,rfl,rfl,rfl,trivial⟩ ?_
 obtain ⟨v9,hv9,h⟩:=bd h
 obtain ⟨r10,hr10,h⟩:=bd h
 obtain ⟨r11,hr11,h⟩:=bd h
 refine CW.dk ?_
 refine d_mv [(8,_)] ?_
 refine d_ldp [(2,_)] ?_
 refine d_mv [(1,_)] ?_
 refine d_fa [(2,_)] ?_
 refine d_ld [(53,_),(2,_)] ?_
 refine d_mv [(7,_)] ?_
 refine d_ixr [(54,_),(55,_)] ?_
 refine d_ldr [(56,_)] ?_
 refine dC [(51,_),(52,_),(57,_)] Tryz.call155 (t_spec_l08Image _ _ _ _ hr10) ?_
 refine dC [(50,_),(8,_),(58,_)] Tryz.call136 (t_spec_l01Same _ _ _ hr11) ?_
 refine d_not [(59,_)] ?_
 refine dNA mixedP ?_
 refine nA ?_
 refine cn h (fun hc h => ?_) (fun hc h => ?_)
 refine sR ?_
 refine a_mv ?_
 refine a_mv ?_
 refine oP (x_build bld_129 [(0,.const _),(1,.tmp 61),(2,.tmp 62)] [(0,.zero (I 1)),(1,.slot 61 (I x1)),(2,.slot 62 (I s1))] [.zero (I 1),.slot 61 (I x1),.slot 62 (I s1),.zero (I 0)] (pkZ rfl (pkS rfl (clean_of (Enc.clean (f:=I) _)) rfl (pkS rfl (clean_of (Enc.clean (f:=I) _)) rfl (pkZ rfl pkN)))) (bqC (.zero _ _ rfl) (bqC (.slot _ _) (bqC (.slot _ _) bqN))) rfl) ?_
 refine oP (x_stp inf_129 rfl (locB rfl rfl) rfl rfl rfl rfl (clean_of (cleanA ⟨(Enc.clean (f:=I) _),(Enc.clean (f:=I) _),(Enc.clean (f:=I) _),(Enc.clean (f:=I) _),trivial⟩)) rfl) ?_
 refine rN ?_
 refine CW.ret ?_
 refine rB ?_
 refine rA ?_
 exact eX h ⟨rfl,⟨_,Ghost.refl,⟨.inl rfl,[(4,[0],T.agg [I 1,I x1,I s1,I 0])],⟨⟨rfl,rfl,rfl,(var_129.h _ rfl rfl).h⟩,trivial⟩,rfl,(by simp),(by simp),trivial⟩⟩⟩
 refine CW.skip ?_
 refine nB ?_
 refine nA ?_
 refine CW.region ?_
 refine a_mv ?_
 obtain ⟨v12,hv12,h⟩:=bd h
 refine a_add ?_
 refine a_as ?_
 refine RW.nil ?_
 exact eN h
 refine CW.exit ?_
 refine xA ?_
 exact eX h
 rcases r13 with r13 | r13
 obtain ⟨rfl,hg⟩:=hq
 refine xB ?_
 refine nA ?_
 refine CW.ghost hg ?_
 refine CW.seq ?_
 refine sR ?_
 refine a_mv ?_
 obtain ⟨v14,hv14,h⟩:=bd h
 refine a_add ?_
 refine a_as ?_
 refine rN ?_
 refine CW.block ?_
 obtain ⟨r37,hr37,h⟩:=bd h
 refine CW.lp (s:=v14) (l3_spec_l08Level x0 x1) (fun s7:Int => envL [(1,I x1),(2,T.ptr (qPr x0)),(4,T.ptr (T.agg [I 0,I 0,I 0,I 0])),(5,I (x0.Orders.length:Int)),(6,I x1),(9,I s7)]) (fun (x:Unit ⊕ SFault) e E => match x with | (.inl r37) => e = .exit 2 ∧ Ghost ⟨St,W,w0,Tryz.f142.ntmps⟩ E (envL [(1,I x1),(2,T.ptr (qPr x0)),(4,T.ptr (T.agg [I 0,I 0,I 0,I 0])),(5,I (x0.Orders.length:Int)),(6,I x1)]) | (.inr r37) => e = .ret ∧ RetG ⟨St,W,w0,Tryz.f142.ntmps⟩ Tryz.prog Tryz.f142.results [qPr x0,I x1] [eSFault r37] [] .ret E) (.has ⟨rfl,rfl,rfl,rfl,rfl,rfl,trivial⟩) (fun s7 x h => ?_) hr37 (fun e E hq => ?_)
 refine CW.seq ?_
 refine sR ?_
 refine a_mv ?_
 refine a_mv ?_
 refine a_lss ?_
 refine rN ?_
 refine cn h (fun hc h => ?_) (fun hc h => ?_)
 refine CW.skip ?_
 refine nA ?_
 refine CW.seq ?_
 refine CW.block ?_
 refine sR ?_
 refine a_mv ?_
 obtain ⟨v15,hv15,h⟩:=bd h
 refine a_add ?_
 refine a_as ?_
 refine rN ?_
 refine CW.block ?_
 obtain ⟨r35,hr35,h⟩:=bd h
 refine CW.lp (s:=v15) (l2_spec_l08Level x0 x1 s7) (fun s8:Int => envL [(1,I x1),(2,T.ptr (qPr x0)),(4,T.ptr (T.agg [I 0,I 0,I 0,I 0])),(5,I (x0.Orders.length:Int)),(6,I x1),(9,I s7),(10,I s8)]) (fun (x:Unit ⊕ SFault) e E => match x with | (.inl r35) => e = .exit 4 ∧ Ghost ⟨St,W,w0,Tryz.f142.ntmps⟩ E (envL [(1,I x1),(2,T.ptr (qPr x0)),(4,T.ptr (T.agg [I 0,I 0,I 0,I 0])),(5,I (x0.Orders.length:Int)),(6,I x1),(9,I s7)]) | (.inr r35) => e = .ret ∧ RetG ⟨St,W,w0,Tryz.f142.ntmps⟩ Tryz.prog Tryz.f142.results [qPr x0,I x1] [eSFault r35] [] .ret E) (.has ⟨rfl,rfl,rfl,rfl,rfl,rfl,rfl,trivial⟩) (fun s8 x h => ?_) hr35 (fun e E hq => ?_)
 refine CW.seq ?_
 refine sR ?_
 refine a_mv ?_
 refine a_mv ?_
 refine a_lss ?_
 refine rN ?_
 refine cn h (fun hc h => ?_) (fun hc h => ?_)
 refine CW.skip ?_
 refine nA ?_
 refine CW.seq ?_
 refine CW.block ?_
 refine CW.seq ?_
 obtain ⟨v16,hv16,h⟩:=bd h
 obtain ⟨v17,hv17,h⟩:=bd h
 obtain ⟨v18,hv18,h⟩:=bd h
 obtain ⟨v19,hv19,h⟩:=bd h
 obtain ⟨v20,hv20,h⟩:=bd h
 obtain ⟨v21,hv21,h⟩:=bd h
 obtain ⟨v22,hv22,h⟩:=bd h
 obtain ⟨v23,hv23,h⟩:=bd h
 refine CW.dk ?_
 refine d_fa [(2,_)] ?_
 refine d_ld [(78,_),(2,_)] ?_
 refine d_mv [(1,_)] ?_
 refine dG [(79,_),(80,_)] [([(81,some (T.ro ((Pt lM) v16)))],[(81,0)])] ⟨rfl,rfl,trivial⟩ (fun E h => IxOk.opE (x_ixr (f:=lM) row_24 hv16 (locB h.1 rfl) h.2.1 rfl) rfl) ?_
 refine d_ldr [(81,_)] ?_
 refine d_mv [(9,_)] ?_
 refine d_mv [(1,_)] ?_
 refine d_sub [(83,_),(84,_)] ?_
 refine d_sub [(85,_)] ?_
 refine d_ixr [(82,_),(86,_)] ?_
 refine d_ldr [(87,_)] ?_
 refine d_fa [(2,_)] ?_
 refine d_ld [(89,_),(2,_)] ?_
 refine d_mv [(1,_)] ?_
 refine dG [(90,_),(91,_)] [([(92,some (T.ro ((Pt lM) v20)))],[(92,0)])] ⟨rfl,rfl,trivial⟩ (fun E h => IxOk.opE (x_ixr (f:=lM) row_24 hv20 (locB h.1 rfl) h.2.1 rfl) rfl) ?_
 refine d_ldr [(92,_)] ?_
 refine d_mv [(10,_)] ?_
 refine d_mv [(1,_)] ?_
 refine d_sub [(94,_),(95,_)] ?_
 refine d_sub [(96,_)] ?_
 refine d_ixr [(93,_),(97,_)] ?_
 refine d_ldr [(98,_)] ?_
 refine d_as [(88,_)] ?_
 refine d_as [(99,_)] ?_
 refine dN ([] :: [0] :: [] :: [0,1,2] :: [0,1,2,3] :: [] :: [] :: [5,6] :: [5,6,7] :: [0,1,2,3,4,5,6,7,8] :: [0,1,2,3,4,5,6,7,8,9] :: [] :: [11] :: [] :: [11,12,13] :: [11,12,13,14] :: [] :: [] :: [16,17] :: [16,17,18] :: [11,12,13,14,15,16,17,18,19] :: [11,12,13,14,15,16,17,18,19,20] :: [0,1,2,3,4,5,6,7,8,9,10] :: [0,1,2,3,4,5,6,7,8,9,10,11,12,13,14,15,16,17,18,19,20,21,22] :: []) mixedP ?_
 refine nA ?_
 refine CW.seq ?_
 refine CW.to [(1,I x1),(2,T.ptr (qPr x0)),(4,T.ptr (T.agg [I 0,I 0,I 0,I 0])),(5,I (x0.Orders.length:Int)),(6,I x1),(9,I s7),(10,I s8),(11,T.ro (lV v19)),(12,T.ro (lV v23))] ⟨rfl,rfl,rfl,rfl,rfl,rfl,rfl,rfl,rfl,trivial⟩ ?_
 obtain ⟨v24,hv24,h⟩:=bd h
 obtain ⟨v25,hv25,h⟩:=bd h
 obtain ⟨v26,hv26,h⟩:=bd h
 obtain ⟨v27,hv27,h⟩:=bd h
 obtain ⟨r28,hr28,h⟩:=bd h
 refine CW.dk ?_
 refine d_ldp [(2,_)] ?_
 refine d_mv [(1,_)] ?_
 refine d_fa [(2,_)] ?_
 refine d_ld [(102,_),(2,_)] ?_
 refine d_mv [(9,_)] ?_
 refine d_ixr [(103,_),(104,_)] ?_
 refine d_ldr [(105,_)] ?_
 refine d_mv [(10,_)] ?_
 refine d_mv [(9,_)] ?_
 refine d_sub [(107,_),(108,_)] ?_
 refine d_sub [(109,_)] ?_
 refine d_ixr [(106,_),(110,_)] ?_
 refine d_ldr [(111,_)] ?_
 refine dC [(100,_),(101,_),(112,_)] Tryz.call155 (t_spec_l08Image _ _ _ _ hr28) ?_
 refine d_as [(113,_)] ?_
 refine dNA mixedP ?_
 refine nA ?_
 refine CW.ghost (Ghost.tr 13 113 _ rfl rfl (clean_of (cleanL (Enc.clean (f:=I)))) rfl) ?_
 refine CW.seq ?_
 obtain ⟨v29,hv29,h⟩:=bd h
 obtain ⟨r30,hr30,h⟩:=bd h
 obtain ⟨v31,hv31,h⟩:=bd h
 obtain ⟨r32,hr32,h⟩:=bd h
 obtain ⟨r33,hr33,h⟩:=bd h
 refine CW.dk ?_
 refine d_ldp [(2,_)] ?_
 refine d_mv [(1,_)] ?_
 refine dG [(115,_)] [([(116,some (I v29))],[(116,0)])] ⟨rfl,trivial⟩ (fun E h => IxOk.opE (x_add hv29 h.1 rfl rfl) rfl) ?_
 refine d_mv [(12,_)] ?_
 refine d_mv [(11,_)] ?_
 refine dC [(114,_),(116,_),(117,_),(118,_)] Tryz.call156 (t_spec_l08At _ _ _ _ _ hr30) ?_
 refine d_ldp [(2,_)] ?_
 refine d_mv [(1,_)] ?_
 refine dG [(121,_)] [([(122,some (I v31))],[(122,0)])] ⟨rfl,trivial⟩ (fun E h => IxOk.opE (x_add hv31 h.1 rfl rfl) rfl) ?_
 refine d_mv [(11,_)] ?_
 refine d_mv [(13,_)] ?_
 refine dC [(120,_),(122,_),(123,_),(124,_),(13,_)] Tryz.call156 (t_spec_l08At _ _ _ _ _ hr32) ?_
 refine dC [(119,_),(125,_)] Tryz.call136 (t_spec_l01Same _ _ _ hr33) ?_
 refine d_not [(126,_)] ?_
 refine dNA mixedP ?_
 refine nA ?_
 refine cn h (fun hc h => ?_) (fun hc h => ?_)
 refine CW.seq ?_
 refine CW.to [(4,T.ptr (T.agg [I 0,I 0,I 0,I 0])),(6,I x1),(9,I s7),(10,I s8)] ⟨rfl,rfl,rfl,rfl,trivial⟩ ?_
 refine CW.region ?_
 refine a_mv ?_
 refine a_mv ?_
 refine a_mv ?_
 refine oP (x_build bld_129 [(0,.const _),(1,.tmp 128),(2,.tmp 129),(3,.tmp 130)] [(0,.zero (I 2)),(1,.slot 128 (I x1)),(2,.slot 129 (I s7)),(3,.slot 130 (I s8))] [.zero (I 2),.slot 128 (I x1),.slot 129 (I s7),.slot 130 (I s8)] (pkZ rfl (pkS rfl (clean_of (Enc.clean (f:=I) _)) rfl (pkS rfl (clean_of (Enc.clean (f:=I) _)) rfl (pkS rfl (clean_of (Enc.clean (f:=I) _)) rfl pkN)))) (bqC (.zero _ _ rfl) (bqC (.slot _ _) (bqC (.slot _ _) (bqC (.slot _ _) bqN)))) rfl) ?_
 refine oP (x_stp inf_129 rfl (locB rfl rfl) rfl rfl rfl rfl (clean_of (cleanA ⟨(Enc.clean (f:=I) _),(Enc.clean (f:=I) _),(Enc.clean (f:=I) _),(Enc.clean (f:=I) _),trivial⟩)) rfl) ?_
 refine rN ?_
 refine CW.ret ?_
 refine rB ?_
 refine rA ?_
 exact eX h ⟨rfl,⟨_,Ghost.refl,⟨.inl rfl,[(4,[0],T.agg [I 2,I x1,I s7,I s8])],⟨⟨rfl,rfl,rfl,(var_129.h _ rfl rfl).h⟩,trivial⟩,rfl,(by simp),(by simp),trivial⟩⟩⟩
 refine CW.skip ?_
 refine nB ?_
 refine nA ?_
 refine CW.to [(1,I x1),(2,T.ptr (qPr x0)),(4,T.ptr (T.agg [I 0,I 0,I 0,I 0])),(5,I (x0.Orders.length:Int)),(6,I x1),(9,I s7),(10,I s8)] ⟨rfl,rfl,rfl,rfl,rfl,rfl,rfl,trivial⟩ ?_
 refine CW.region ?_
 refine a_mv ?_
 obtain ⟨v34,hv34,h⟩:=bd h
 refine a_add ?_
 refine a_as ?_
 refine RW.nil ?_
 exact eN h
 refine CW.exit ?_
 refine xA ?_
 exact eX h
 rcases r35 with r35 | r35
 obtain ⟨rfl,hg⟩:=hq
 refine xB ?_
 refine nB ?_
 refine nA ?_
 refine CW.ghost hg ?_
 refine CW.region ?_
 refine a_mv ?_
 obtain ⟨v36,hv36,h⟩:=bd h
 refine a_add ?_
 refine a_as ?_
 refine RW.nil ?_
 exact eN h
 obtain ⟨rfl,hq⟩:=hq
 refine rB ?_
 refine rB ?_
 refine rA ?_
 exact eX h ⟨rfl,hq⟩
 refine CW.exit ?_
 refine xA ?_
 exact eX h
 rcases r37 with r37 | r37
 obtain ⟨rfl,hg⟩:=hq
 refine xB ?_
 refine nA ?_
 refine CW.ghost hg ?_
 refine sR ?_
 refine a_fa ?_
 refine a_ld ?_
 refine a_mv ?_
 obtain ⟨v38,hv38,h⟩:=bd h
 refine a_ixr ?_
 refine a_ldr ?_
 refine a_as ?_
 refine rN ?_
 refine CW.seq ?_
 refine sR ?_
 refine a_ldp ?_
 refine a_mv ?_
 refine a_mv ?_
 obtain ⟨r39,hr39,h⟩:=bd h
 refine cA Tryz.call155 (t_spec_l08Image _ _ _ _ hr39) ?_
 refine a_mv ?_
 obtain ⟨r40,hr40,h⟩:=bd h
 refine cA Tryz.call136 (t_spec_l01Same _ _ _ hr40) ?_
 refine a_not ?_
 refine rN ?_
 refine cn h (fun hc h => ?_) (fun hc h => ?_)
 refine sR ?_
 refine a_mv ?_
 refine oP (x_build bld_129 [(0,.const _),(1,.tmp 144)] [(0,.zero (I 3)),(1,.slot 144 (I x1))] [.zero (I 3),.slot 144 (I x1),.zero (I 0),.zero (I 0)] (pkZ rfl (pkS rfl (clean_of (Enc.clean (f:=I) _)) rfl (pkZ rfl (pkZ rfl pkN)))) (bqC (.zero _ _ rfl) (bqC (.slot _ _) bqN)) rfl) ?_
 refine oP (x_stp inf_129 rfl (locB rfl rfl) rfl rfl rfl rfl (clean_of (cleanA ⟨(Enc.clean (f:=I) _),(Enc.clean (f:=I) _),(Enc.clean (f:=I) _),(Enc.clean (f:=I) _),trivial⟩)) rfl) ?_
 refine rN ?_
 refine CW.ret ?_
 refine rA ?_
 obtain rfl:=sI h
 exact ⟨_,Ghost.refl,⟨.inl rfl,[(4,[0],T.agg [I 3,I x1,I 0,I 0])],⟨⟨rfl,rfl,rfl,(var_129.h _ rfl rfl).h⟩,trivial⟩,rfl,(by simp),(by simp),trivial⟩⟩
 refine CW.skip ?_
 refine nA ?_
 refine CW.seq ?_
 refine sR ?_
 refine a_mv ?_
 obtain ⟨v41,hv41,h⟩:=bd h
 refine a_add ?_
 refine a_as ?_
 refine rN ?_
 refine CW.block ?_
 obtain ⟨r53,hr53,h⟩:=bd h
 refine CW.lp (s:=v41) (l5_spec_l08Level x0 x1 v38) (fun s15:Int => envL [(1,I x1),(2,T.ptr (qPr x0)),(4,T.ptr (T.agg [I 0,I 0,I 0,I 0])),(5,I (x0.Orders.length:Int)),(6,I x1),(14,T.ro (lV v38)),(15,I s15)]) (fun (x:Unit ⊕ SFault) e E => match x with | (.inl r53) => e = .exit 6 ∧ Ghost ⟨St,W,w0,Tryz.f142.ntmps⟩ E (envL [(4,T.ptr (T.agg [I 0,I 0,I 0,I 0]))]) | (.inr r53) => e = .ret ∧ RetG ⟨St,W,w0,Tryz.f142.ntmps⟩ Tryz.prog Tryz.f142.results [qPr x0,I x1] [eSFault r53] [] .ret E) (.has ⟨rfl,rfl,rfl,rfl,rfl,rfl,rfl,trivial⟩) (fun s15 x h => ?_) hr53 (fun e E hq => ?_)
 refine CW.seq ?_
 refine sR ?_
 refine a_mv ?_
 refine a_mv ?_
 refine a_lss ?_
 refine rN ?_
 refine cn h (fun hc h => ?_) (fun hc h => ?_)
 refine CW.skip ?_
 refine nA ?_
 refine CW.seq ?_
 refine CW.block ?_
 refine sR ?_
 refine a_mv ?_
 refine a_mv ?_
 obtain ⟨r42,hr42,h⟩:=bd h
 refine cA Tryz.call127 (t_spec_l07Unit _ _ _ hr42) ?_
 refine a_as ?_
 refine RW.ghost (Ghost.tr 16 155 _ rfl rfl (clean_of (cleanL (Enc.clean (f:=I)))) rfl) ?_
 refine rN ?_
 refine sR ?_
 refine a_mv ?_
 refine a_as ?_
 refine rN ?_
 refine CW.seq ?_
 refine sR ?_
 refine a_as ?_
 refine rN ?_
 refine CW.block ?_
 refine CW.ghost (Ghost.tr 17 16 _ rfl rfl (clean_of (cleanL (Enc.clean (f:=I)))) rfl) ?_
 refine CW.ghost (Ghost.frz 17 (k:=1) (f:=I) (g:=I) r42 rfl inferInstance) ?_
 refine CW.ghost (Ghost.res 16 17 [] _ rfl rfl rfl) ?_
 obtain ⟨r46,hr46,h⟩:=bd h
 refine CW.lp (s:=(r42,0)) (l4_spec_l08Level x0 x1) (fun s16:(List Int) × Int => envL [(1,I x1),(2,T.ptr (qPr x0)),(4,T.ptr (T.agg [I 0,I 0,I 0,I 0])),(5,I (x0.Orders.length:Int)),(6,I x1),(14,T.ro (lV v38)),(15,I s15),(16,T.ro (lV r42)),(17,T.ro (lV s16.1)),(18,I s16.2)]) (fun (r46:(List Int)) e E => e = .exit 8 ∧ Ghost ⟨St,W,w0,Tryz.f142.ntmps⟩ E (envL [(1,I x1),(2,T.ptr (qPr x0)),(4,T.ptr (T.agg [I 0,I 0,I 0,I 0])),(5,I (x0.Orders.length:Int)),(6,I x1),(14,T.ro (lV v38)),(15,I s15),(16,T.ro (lV r42)),(17,T.ro (lV r46))])) (.has ⟨rfl,rfl,rfl,rfl,rfl,rfl,rfl,rfl,rfl,rfl,trivial⟩) (fun s16 x h => ?_) hr46 (fun e E hq => ?_)
 refine CW.seq ?_
 refine sR ?_
 refine a_mv ?_
 refine a_fa ?_
 refine a_ld ?_
 refine a_mv ?_
 obtain ⟨v43,hv43,h⟩:=bd h
 refine a_ixr ?_
 refine a_ldr ?_
 refine a_lss ?_
 refine rN ?_
 refine cn h (fun hc h => ?_) (fun hc h => ?_)
 refine CW.skip ?_
 refine nA ?_
 refine CW.seq ?_
 refine CW.block ?_
 refine CW.region ?_
 refine a_ldp ?_
 refine a_mv ?_
 refine a_mv ?_
 obtain ⟨r44,hr44,h⟩:=bd h
 refine cA Tryz.call155 (t_spec_l08Image _ _ _ _ hr44) ?_
 refine a_as ?_
 refine RW.ghost (Ghost.tr 17 169 _ rfl rfl (clean_of (cleanL (Enc.clean (f:=I)))) rfl) ?_
 refine RW.nil ?_
 refine nB ?_
 refine nA ?_
 refine CW.region ?_
 refine a_mv ?_
 obtain ⟨v45,hv45,h⟩:=bd h
 refine a_add ?_
 refine a_as ?_
 refine RW.ghost (Ghost.frz 17 (k:=1) (f:=I) (g:=I) r44 rfl inferInstance) ?_
 refine RW.nil ?_
 exact eN h
 refine CW.exit ?_
 refine xA ?_
 exact eX h
 obtain ⟨rfl,hg⟩:=hq
 refine xB ?_
 refine nA ?_
 refine CW.ghost hg ?_
 refine CW.seq ?_
 obtain ⟨v47,hv47,h⟩:=bd h
 obtain ⟨r48,hr48,h⟩:=bd h
 obtain ⟨v49,hv49,h⟩:=bd h
 obtain ⟨r50,hr50,h⟩:=bd h
 obtain ⟨r51,hr51,h⟩:=bd h
 refine CW.dk ?_
 refine d_ldp [(2,_)] ?_
 refine d_mv [(1,_)] ?_
 refine dG [(171,_)] [([(172,some (I v47))],[(172,0)])] ⟨rfl,trivial⟩ (fun E h => IxOk.opE (x_add hv47 h.1 rfl rfl) rfl) ?_
 refine d_mv [(14,_)] ?_
 refine d_mv [(17,_)] ?_
 refine dC [(170,_),(172,_),(173,_),(174,_)] Tryz.call156 (t_spec_l08At _ _ _ _ _ hr48) ?_
 refine d_ldp [(2,_)] ?_
 refine d_mv [(1,_)] ?_
 refine dG [(177,_)] [([(178,some (I v49))],[(178,0)])] ⟨rfl,trivial⟩ (fun E h => IxOk.opE (x_add hv49 h.1 rfl rfl) rfl) ?_
 refine d_mv [(16,_)] ?_
 refine d_mv [(14,_)] ?_
 refine dC [(176,_),(178,_),(179,_),(180,_)] Tryz.call156 (t_spec_l08At _ _ _ _ _ hr50) ?_
 refine dC [(175,_),(181,_)] Tryz.call136 (t_spec_l01Same _ _ _ hr51) ?_
 refine d_not [(182,_)] ?_
 refine dNA mixedP ?_
 refine nA ?_
 refine cn h (fun hc h => ?_) (fun hc h => ?_)
 refine sR ?_
 refine a_mv ?_
 refine a_mv ?_
 refine oP (x_build bld_129 [(0,.const _),(1,.tmp 184),(2,.tmp 185)] [(0,.zero (I 4)),(1,.slot 184 (I x1)),(2,.slot 185 (I s15))] [.zero (I 4),.slot 184 (I x1),.slot 185 (I s15),.zero (I 0)] (pkZ rfl (pkS rfl (clean_of (Enc.clean (f:=I) _)) rfl (pkS rfl (clean_of (Enc.clean (f:=I) _)) rfl (pkZ rfl pkN)))) (bqC (.zero _ _ rfl) (bqC (.slot _ _) (bqC (.slot _ _) bqN))) rfl) ?_
 refine oP (x_stp inf_129 rfl (locB rfl rfl) rfl rfl rfl rfl (clean_of (cleanA ⟨(Enc.clean (f:=I) _),(Enc.clean (f:=I) _),(Enc.clean (f:=I) _),(Enc.clean (f:=I) _),trivial⟩)) rfl) ?_
 refine rN ?_
 refine CW.ret ?_
 refine rB ?_
 refine rA ?_
 exact eX h ⟨rfl,⟨_,Ghost.refl,⟨.inl rfl,[(4,[0],T.agg [I 4,I x1,I s15,I 0])],⟨⟨rfl,rfl,rfl,(var_129.h _ rfl rfl).h⟩,trivial⟩,rfl,(by simp),(by simp),trivial⟩⟩⟩
 refine CW.skip ?_
 refine nB ?_
 refine nA ?_
 refine CW.region ?_
 refine a_mv ?_
 obtain ⟨v52,hv52,h⟩:=bd h
 refine a_add ?_
 refine a_as ?_
 refine RW.nil ?_
 exact eN h
 refine CW.exit ?_
 refine xA ?_
 exact eX h
 rcases r53 with r53 | r53
 obtain ⟨rfl,hg⟩:=hq
 refine xB ?_
 refine nA ?_
 refine CW.ghost hg ?_
 refine sR ?_
 refine oP (x_build bld_129 [] [] [.zero (I 0),.zero (I 0),.zero (I 0),.zero (I 0)] (pkZ rfl (pkZ rfl (pkZ rfl (pkZ rfl pkN)))) bqN rfl) ?_
 refine oP (x_stp inf_129 rfl (locB rfl rfl) rfl rfl rfl rfl (clean_of (cleanA ⟨(Enc.clean (f:=I) _),(Enc.clean (f:=I) _),(Enc.clean (f:=I) _),(Enc.clean (f:=I) _),trivial⟩)) rfl) ?_
 refine rN ?_
 refine CW.ret ?_
 obtain rfl:=sI h
 exact ⟨_,Ghost.refl,⟨.inl rfl,[(4,[0],T.agg [I 0,I 0,I 0,I 0])],⟨⟨rfl,rfl,rfl,(var_129.h _ rfl rfl).h⟩,trivial⟩,rfl,(by simp),(by simp),trivial⟩⟩
 obtain ⟨rfl,hq⟩:=hq
 refine rB ?_
 refine rA ?_
 obtain rfl:=sI h
 exact hq
 obtain ⟨rfl,hq⟩:=hq
 refine rB ?_
 refine rA ?_
 obtain rfl:=sI h
 exact hq
 obtain ⟨rfl,hq⟩:=hq
 refine rB ?_
 refine rA ?_
 obtain rfl:=sI h
 exact hq
theorem t_spec_l08Fault (x0:SPr) (r:SFault) (h:f_spec_l08Fault x0 = some r):FnC Tryz.prog 134 [qPr x0] [eSFault r] []:=by
 refine fB Tryz.func134 (fun St W w0 v => ?_)
 refine sR ?_
 refine a_box ?_
 refine a_alloc ?_
 refine rN ?_
 refine CW.seq ?_
 refine sR ?_
 refine a_fa ?_
 refine a_ld ?_
 refine a_lenr ?_
 obtain ⟨v1,hv1,h⟩:=bd h
 refine a_sub ?_
 refine a_as ?_
 refine rN ?_
 refine CW.block ?_
 obtain ⟨r4,hr4,h⟩:=bd h
 refine CW.lp (s:=v1) (l1_spec_l08Fault x0) (fun s1:Int => envL [(1,T.ptr (qPr x0)),(2,T.ptr (T.agg [I 0,I 0,I 0,I 0])),(3,I s1)]) (fun (x:Unit ⊕ SFault) e E => match x with | (.inl r4) => e = .exit 0 ∧ Ghost ⟨St,W,w0,Tryz.f134.ntmps⟩ E (envL [(2,T.ptr (T.agg [I 0,I 0,I 0,I 0]))]) | (.inr r4) => e = .ret ∧ RetG ⟨St,W,w0,Tryz.f134.ntmps⟩ Tryz.prog Tryz.f134.results [qPr x0] [eSFault r4] [] .ret E) (.has ⟨rfl,rfl,rfl,trivial⟩) (fun s1 x h => ?_) hr4 (fun e E hq => ?_)
 refine CW.seq ?_
 refine sR ?_
 refine a_mv ?_
 refine a_geq ?_
 refine rN ?_
 refine cn h (fun hc h => ?_) (fun hc h => ?_)
 refine CW.skip ?_
 refine nA ?_
 refine CW.seq ?_
 refine CW.block ?_
 refine sR ?_
 refine a_ldp ?_
 refine a_mv ?_
 obtain ⟨r2,hr2,h⟩:=bd h
 refine cA Tryz.call142 (t_spec_l08Level _ _ _ hr2) ?_
 refine a_alloc ?_
 refine oP (x_stp inf_129 rfl (locB rfl rfl) rfl rfl rfl rfl (clean_of (cleanA ⟨(Enc.clean (f:=I) _),(Enc.clean (f:=I) _),(Enc.clean (f:=I) _),(Enc.clean (f:=I) _),trivial⟩)) rfl) ?_
 refine rN ?_
 refine sR ?_
 refine a_fa ?_
 refine a_ld ?_
 refine a_neq ?_
 refine rN ?_
 refine cn h (fun hc h => ?_) (fun hc h => ?_)
 refine sR ?_
 refine a_ldp ?_
 refine oP (x_stp inf_129 rfl (locB rfl rfl) rfl rfl rfl rfl (clean_of (cleanA ⟨(Enc.clean (f:=I) _),(Enc.clean (f:=I) _),(Enc.clean (f:=I) _),(Enc.clean (f:=I) _),trivial⟩)) rfl) ?_
 refine rN ?_
 refine CW.ret ?_
 refine rB ?_
 refine rA ?_
 exact eX h ⟨rfl,⟨_,Ghost.refl,⟨.inl rfl,[(2,[0],qFault r2)],⟨⟨rfl,rfl,rfl,(var_129.h _ rfl rfl).h⟩,trivial⟩,rfl,(by simp),(by simp),trivial⟩⟩⟩
 refine CW.skip ?_
 refine nB ?_
 refine nA ?_
 refine CW.region ?_
 refine a_mv ?_
 obtain ⟨v3,hv3,h⟩:=bd h
 refine a_sub ?_
 refine a_as ?_
 refine RW.nil ?_
 exact eN h
 refine CW.exit ?_
 refine xA ?_
 exact eX h
 rcases r4 with r4 | r4
 obtain ⟨rfl,hg⟩:=hq
 refine xB ?_
 refine nA ?_
 refine CW.ghost hg ?_
 refine sR ?_
 refine oP (x_build bld_129 [] [] [.zero (I 0),.zero (I 0),.zero (I 0),.zero (I 0)] (pkZ rfl (pkZ rfl (pkZ rfl (pkZ rfl pkN)))) bqN rfl) ?_
 refine oP (x_stp inf_129 rfl (locB rfl rfl) rfl rfl rfl rfl (clean_of (cleanA ⟨(Enc.clean (f:=I) _),(Enc.clean (f:=I) _),(Enc.clean (f:=I) _),(Enc.clean (f:=I) _),trivial⟩)) rfl) ?_
 refine rN ?_
 refine CW.ret ?_
 obtain rfl:=sI h
 exact ⟨_,Ghost.refl,⟨.inl rfl,[(2,[0],T.agg [I 0,I 0,I 0,I 0])],⟨⟨rfl,rfl,rfl,(var_129.h _ rfl rfl).h⟩,trivial⟩,rfl,(by simp),(by simp),trivial⟩⟩
 obtain ⟨rfl,hq⟩:=hq
 refine rB ?_
 refine rA ?_
 obtain rfl:=sI h
 exact hq
theorem t_spec_l08Consistent (x0:SPr) (r:Bool) (h:f_spec_l08Consistent x0 = some r):FnC Tryz.prog 93 [qPr x0] [B r] []:=by
 refine fB Tryz.func93 (fun St W w0 v => ?_)
 refine sR ?_
 refine a_box ?_
 refine a_as ?_
 refine rN ?_
 refine sR ?_
 refine a_ldp ?_
 obtain ⟨r1,hr1,h⟩:=bd h
 refine cA Tryz.call134 (t_spec_l08Fault _ _ hr1) ?_
 refine oP (x_fld fld_129_0 (fldv_129_0 rfl rfl) rfl rfl rfl rfl) ?_
 refine a_eql ?_
 refine a_as ?_
 refine rN ?_
 refine CW.ret ?_
 obtain rfl:=sI h
 exact rT
theorem t_spec_l08Group (x0:SPr) (r:Bool) (h:f_spec_l08Group x0 = some r):FnC Tryz.prog 53 [qPr x0] [B r] []:=by
 refine fB Tryz.func53 (fun St W w0 v => ?_)
 refine sR ?_
 refine a_box ?_
 refine a_as ?_
 refine rN ?_
 refine sR ?_
 refine a_ldp ?_
 obtain ⟨r1,hr1,h⟩:=bd h
 refine cA Tryz.call88 (t_spec_IsPresentation _ _ hr1) ?_
 refine a_mv ?_
 refine RW.cases 5 _ rfl (fun hc => ?_) (fun hc => ?_)
 have h:=cT hc h
 refine g_ldp ?_
 obtain ⟨r2,hr2,h⟩:=bd h
 refine RW.cons (IxOk.guard 2 true 5 (x_call (xs:=[.tmp 6]) Tryz.call93 (t_spec_l08Consistent _ _ hr2) ⟨(agC _ rfl rfl rfl),trivial⟩ (resC (f:=B) inferInstance resN) rfl)) ?_
 refine a_pick ?_
 refine a_as ?_
 refine rN ?_
 refine CW.ret ?_
 obtain rfl:=sI h
 exact rT
 have h:=cF hc h
 refine sk2 ?_
 refine sk2 ?_
 refine a_pick ?_
 refine a_as ?_
 refine rN ?_
 refine CW.ret ?_
 obtain rfl:=sI h
 exact rT
theorem t_spec_l02Vector (x0:Int) (x1:Int) (x2:List Int) (r:Bool) (h:f_spec_l02Vector x0 x1 x2 = some r):FnC Tryz.prog 135 [I x0,I x1,T.ro (lV x2)] [B r] []:=by
 refine fB Tryz.func135 (fun St W w0 v => ?_)
 refine sR ?_
 refine a_as ?_
 refine rN ?_
 refine CW.seq ?_
 refine sR ?_
 refine a_mv ?_
 refine a_lenr ?_
 refine a_mv ?_
 refine a_neq ?_
 refine rN ?_
 refine cn h (fun hc h => ?_) (fun hc h => ?_)
 refine sR ?_
 refine a_as ?_
 refine rN ?_
 refine CW.ret ?_
 refine rA ?_
 obtain rfl:=sI h
 exact rT
 refine CW.skip ?_
 refine nA ?_
 refine CW.seq ?_
 refine sR ?_
 refine a_as ?_
 refine rN ?_
 refine CW.block ?_
 obtain ⟨r5,hr5,h⟩:=bd h
 refine CW.lp (s:=0) (l1_spec_l02Vector x0 x2) (fun s1:Int => envL [(0,I x0),(2,T.ro (lV x2)),(7,I s1)]) (fun (x:Unit ⊕ Bool) e E => match x with | (.inl r5) => e = .exit 0 ∧ Ghost ⟨St,W,w0,Tryz.f135.ntmps⟩ E (envL []) | (.inr r5) => e = .ret ∧ RetG ⟨St,W,w0,Tryz.f135.ntmps⟩ Tryz.prog Tryz.f135.results [I x0,I x1,T.ro (lV x2)] [B r5] [] .ret E) (.has ⟨rfl,rfl,rfl,trivial⟩) (fun s1 x h => ?_) hr5 (fun e E hq => ?_)
 refine CW.seq ?_
 refine sR ?_
 refine a_mv ?_
 refine a_mv ?_
 refine a_lenr ?_
 refine a_lss ?_
 refine rN ?_
 refine cn h (fun hc h => ?_) (fun hc h => ?_)
 refine CW.skip ?_
 refine nA ?_
 refine CW.seq ?_
 refine CW.block ?_
 refine sR ?_
 refine a_mv ?_
 refine a_mv ?_
 obtain ⟨v1,hv1,h⟩:=bd h
 refine a_ixr ?_
 refine a_ldr ?_
 refine a_mv ?_
 obtain ⟨v2,hv2,h⟩:=bd h
 refine a_sub ?_
 obtain ⟨r3,hr3,h⟩:=bd h
 refine cA Tryz.call95 (t_spec_l01In _ _ _ _ hr3) ?_
 refine a_not ?_
 refine rN ?_
 refine cn h (fun hc h => ?_) (fun hc h => ?_)
 refine sR ?_
 refine a_as ?_
 refine rN ?_
 refine CW.ret ?_
 refine rB ?_
 refine rA ?_
 exact eX h
 refine CW.skip ?_
 refine nB ?_
 refine nA ?_
 refine CW.region ?_
 refine a_mv ?_
 obtain ⟨v4,hv4,h⟩:=bd h
 refine a_add ?_
 refine a_as ?_
 refine RW.nil ?_
 exact eN h
 refine CW.exit ?_
 refine xA ?_
 exact eX h
 rcases r5 with r5 | r5
 obtain ⟨rfl,hg⟩:=hq
 refine xB ?_
 refine nA ?_
 refine CW.ghost hg ?_
 refine sR ?_
 refine a_as ?_
 refine rN ?_
 refine CW.ret ?_
 obtain rfl:=sI h
 exact rT
 obtain ⟨rfl,hq⟩:=hq
 refine rB ?_
 refine rA ?_
 obtain rfl:=sI h
 exact hq
theorem t_spec_l21Rows (x0:Int) (x1:Int) (x2:List (List Int)) (r:Bool) (h:f_spec_l21Rows x0 x1 x2 = some r):FnC Tryz.prog 96 [I x0,I x1,T.ro (lM x2)] [B r] []:=by
 refine fB Tryz.func96 (fun St W w0 v => ?_)
 refine sR ?_
 refine a_as ?_
 refine rN ?_
 refine CW.seq ?_
 refine sR ?_
 refine a_mv ?_
 refine a_lenr ?_
 refine a_mv ?_
 refine a_neq ?_
 refine rN ?_
 refine cn h (fun hc h => ?_) (fun hc h => ?_)
 refine sR ?_
 refine a_as ?_
 refine rN ?_
 refine CW.ret ?_
 refine rA ?_
 obtain rfl:=sI h
 exact rT
 refine CW.skip ?_
 refine nA ?_
 refine CW.seq ?_
 refine sR ?_
 refine a_as ?_
 refine rN ?_
 refine CW.block ?_
 obtain ⟨r4,hr4,h⟩:=bd h
 refine CW.lp (s:=0) (l1_spec_l21Rows x0 x1 x2) (fun s1:Int => envL [(0,I x0),(1,I x1),(2,T.ro (lM x2)),(7,I s1)]) (fun (x:Unit ⊕ Bool) e E => match x with | (.inl r4) => e = .exit 0 ∧ Ghost ⟨St,W,w0,Tryz.f96.ntmps⟩ E (envL []) | (.inr r4) => e = .ret ∧ RetG ⟨St,W,w0,Tryz.f96.ntmps⟩ Tryz.prog Tryz.f96.results [I x0,I x1,T.ro (lM x2)] [B r4] [] .ret E) (.has ⟨rfl,rfl,rfl,rfl,trivial⟩) (fun s1 x h => ?_) hr4 (fun e E hq => ?_)
 refine CW.seq ?_
 refine sR ?_
 refine a_mv ?_
 refine a_mv ?_
 refine a_lenr ?_
 refine a_lss ?_
 refine rN ?_
 refine cn h (fun hc h => ?_) (fun hc h => ?_)
 refine CW.skip ?_
 refine nA ?_
 refine CW.seq ?_
 refine CW.block ?_
 refine sR ?_
 refine a_mv ?_
 refine a_mv ?_
 refine a_mv ?_
 refine a_mv ?_
 obtain ⟨v1,hv1,h⟩:=bd h
 refine a_ixr ?_
 refine a_ldr ?_
 obtain ⟨r2,hr2,h⟩:=bd h
 refine cA Tryz.call135 (t_spec_l02Vector _ _ _ _ hr2) ?_
 refine a_not ?_
 refine rN ?_
 refine cn h (fun hc h => ?_) (fun hc h => ?_)
 refine sR ?_
 refine a_as ?_
 refine rN ?_
 refine CW.ret ?_
 refine rB ?_
 refine rA ?_
 exact eX h
 refine CW.skip ?_
 refine nB ?_
 refine nA ?_
 refine CW.region ?_
 refine a_mv ?_
 obtain ⟨v3,hv3,h⟩:=bd h
 refine a_add ?_
 refine a_as ?_
 refine RW.nil ?_
 exact eN h
 refine CW.exit ?_
 refine xA ?_
 exact eX h
 rcases r4 with r4 | r4
 obtain ⟨rfl,hg⟩:=hq
 refine xB ?_
 refine nA ?_
 refine CW.ghost hg ?_
 refine sR ?_
 refine a_as ?_
 refine rN ?_
 refine CW.ret ?_
 obtain rfl:=sI h
 exact rT
 obtain ⟨rfl,hq⟩:=hq
 refine rB ?_
 refine rA ?_
 obtain rfl:=sI h
 exact hq
theorem t_spec_l02Unit (x0:Int) (r:(List (List Int))) (h:f_spec_l02Unit x0 = some r):FnC Tryz.prog 79 [I x0] [lM r] []:=by
 refine fB Tryz.func79 (fun St W w0 v => ?_)
 refine sR ?_
 refine oP (x_nil 1 rfl) ?_
 refine rN ?_
 refine sR ?_
 refine oP (x_bs0 elt_23 rfl) ?_
 refine a_as ?_
 refine RW.ghost (Ghost.tr 3 6 _ rfl rfl (clean_of trivial) rfl) ?_
 refine rN ?_
 refine CW.seq ?_
 refine sR ?_
 refine a_as ?_
 refine rN ?_
 refine CW.block ?_
 obtain ⟨r5,hr5,h⟩:=bd h
 refine CW.lp (s:=([],0)) (l1_spec_l02Unit x0) (fun s1:(List (List Int)) × Int => envL [(0,I x0),(3,L 1 lV s1.1),(4,I s1.2)]) (fun (r5:(List (List Int))) e E => e = .exit 0 ∧ Ghost ⟨St,W,w0,Tryz.f79.ntmps⟩ E (envL [(3,L 1 lV r5)])) (.has ⟨rfl,rfl,rfl,trivial⟩) (fun s1 x h => ?_) hr5 (fun e E hq => ?_)
 refine CW.seq ?_
 refine sR ?_
 refine a_mv ?_
 refine a_mv ?_
 refine a_lss ?_
 refine rN ?_
 refine cn h (fun hc h => ?_) (fun hc h => ?_)
 refine CW.skip ?_
 refine nA ?_
 refine CW.seq ?_
 refine CW.block ?_
 refine sR ?_
 refine a_mv ?_
 obtain ⟨m1,hm1,h⟩:=bd h
 refine oP (x_makeL (f:=I) (z:=0) elt_22 (rfl) hm1 rfl rfl rfl) ?_
 refine a_as ?_
 refine RW.ghost (Ghost.tr 5 13 _ rfl rfl (clean_of (cleanL (Enc.clean (f:=I)))) rfl) ?_
 refine rN ?_
 refine sR ?_
 refine a_mv ?_
 refine a_mv ?_
 obtain ⟨v2,hv2,h⟩:=bd h
 refine a_ix ?_
 refine oP (x_stcT inf_2 rfl rfl rfl (getc hv2 rfl) (setc hv2 rfl) rfl rfl) ?_
 refine rN ?_
 refine CW.region ?_
 refine a_mv ?_
 refine a_mv ?_
 refine RW.ghost (Ghost.tr 18 5 _ rfl rfl (clean_of (cleanL (Enc.clean (f:=I)))) rfl) ?_
 refine oP (x_bs elt_23 [.tmp 18] [.slot 18 (L 1 I ((List.replicate m1 (0:Int)).set s1.2.toNat 1))] [(List.replicate m1 (0:Int)).set s1.2.toNat 1] lV ⟨.slot _ _,trivial⟩ (pkS rfl (clean_of (cleanL (Enc.clean (f:=I)))) rfl pkN) rfl rfl) ?_
 refine RW.ghost (Ghost.tr 17 3 _ rfl rfl (clean_of (cleanL (Enc.clean (f:=lV)))) rfl) ?_
 obtain ⟨v3,hv3,h⟩:=bd h
 refine oP (x_appm (f:=lV) elt_23 hv3 rfl rfl rfl) ?_
 refine a_as ?_
 refine RW.ghost (Ghost.tr 3 20 _ rfl rfl (clean_of (cleanL (Enc.clean (f:=lV)))) rfl) ?_
 refine RW.nil ?_
 refine nB ?_
 refine nA ?_
 refine CW.region ?_
 refine a_mv ?_
 obtain ⟨v4,hv4,h⟩:=bd h
 refine a_add ?_
 refine a_as ?_
 refine RW.nil ?_
 exact eN h
 refine CW.exit ?_
 refine xA ?_
 exact eX h
 obtain ⟨rfl,hg⟩:=hq
 refine xB ?_
 refine nA ?_
 refine CW.ghost hg ?_
 refine sR ?_
 refine a_mv ?_
 refine a_as ?_
 refine RW.ghost (Ghost.tr 2 3 _ rfl rfl (clean_of (cleanL (Enc.clean (f:=lV)))) rfl) ?_
 refine rN ?_
 refine CW.ret ?_
 obtain rfl:=sI h
 exact rT
theorem t_spec_l02Times (x0:Int) (x1:List Int) (x2:List (List Int)) (x3:Int) (r:(List Int)) (h:f_spec_l02Times x0 x1 x2 x3 = some r):FnC Tryz.prog 118 [I x0,T.ro (lV x1),T.ro (lM x2),I x3] [lV r] []:=by
 refine fB Tryz.func118 (fun St W w0 v => ?_)
 refine sR ?_
 refine oP (x_nil 1 rfl) ?_
 refine rN ?_
 refine sR ?_
 refine a_mv ?_
 obtain ⟨m1,hm1,h⟩:=bd h
 refine oP (x_makeL (f:=I) (z:=0) elt_22 (rfl) hm1 rfl rfl rfl) ?_
 refine a_as ?_
 refine RW.ghost (Ghost.tr 9 13 _ rfl rfl (clean_of (cleanL (Enc.clean (f:=I)))) rfl) ?_
 refine rN ?_
 refine CW.seq ?_
 refine sR ?_
 refine a_as ?_
 refine rN ?_
 refine CW.block ?_
 obtain ⟨r14,hr14,h⟩:=bd h
 refine CW.lp (s:=(List.replicate m1 (0:Int),0)) (l2_spec_l02Times x0 x1 x2) (fun s5:(List Int) × Int => envL [(0,I x0),(1,T.ro (lV x1)),(2,T.ro (lM x2)),(9,L 1 I s5.1),(10,I s5.2)]) (fun (r14:(List Int)) e E => e = .exit 0 ∧ Ghost ⟨St,W,w0,Tryz.f118.ntmps⟩ E (envL [(9,L 1 I r14)])) (.has ⟨rfl,rfl,rfl,rfl,rfl,trivial⟩) (fun s5 x h => ?_) hr14 (fun e E hq => ?_)
 refine CW.seq ?_
 refine sR ?_
 refine a_mv ?_
 refine a_mv ?_
 refine a_lenr ?_
 refine a_lss ?_
 refine a_mv ?_
 refine RW.cases 18 _ rfl (fun hc => ?_) (fun hc => ?_)
 have h:=cT hc h
 refine g_mv ?_
 refine g_mv ?_
 refine g_lenr ?_
 refine g_lss ?_
 refine a_pick ?_
 refine rN ?_
 refine cn h (fun hc h => ?_) (fun hc h => ?_)
 refine CW.skip ?_
 refine nA ?_
 refine CW.seq ?_
 refine CW.block ?_
 refine sR ?_
 refine a_as ?_
 refine rN ?_
 refine CW.block ?_
 obtain ⟨r12,hr12,h⟩:=bd h
 refine CW.lp (s:=(s5.1,0)) (l1_spec_l02Times x0 x1 x2 s5) (fun s6:(List Int) × Int => envL [(0,I x0),(1,T.ro (lV x1)),(2,T.ro (lM x2)),(9,L 1 I s6.1),(10,I s5.2),(11,I s6.2)]) (fun (r12:(List Int)) e E => e = .exit 2 ∧ Ghost ⟨St,W,w0,Tryz.f118.ntmps⟩ E (envL [(0,I x0),(1,T.ro (lV x1)),(2,T.ro (lM x2)),(9,L 1 I r12),(10,I s5.2)])) (.has ⟨rfl,rfl,rfl,rfl,rfl,rfl,trivial⟩) (fun s6 x h => ?_) hr12 (fun e E hq => ?_)
 refine CW.seq ?_
 refine sR ?_
 refine a_mv ?_
 refine a_mv ?_
 refine a_len ?_
 refine a_lss ?_
 refine a_mv ?_
 refine RW.cases 30 _ rfl (fun hc => ?_) (fun hc => ?_)
 have h:=cT hc h
 refine g_mv ?_
 refine g_mv ?_
 refine g_mv ?_
 obtain ⟨v2,hv2,h⟩:=bd h
 refine RW.cons (IxOk.guard 4 true 30 (x_ixr (f:=lV) row_23 hv2 (locB rfl rfl) rfl rfl)) ?_
 refine g_ldr ?_
 refine g_lenr ?_
 refine g_lss ?_
 refine a_pick ?_
 refine rN ?_
 refine cn h (fun hc h => ?_) (fun hc h => ?_)
 refine CW.skip ?_
 refine nA ?_
 refine CW.seq ?_
 refine CW.block ?_
 obtain ⟨v3,hv3,h⟩:=bd h
 obtain ⟨v4,hv4,h⟩:=bd h
 obtain ⟨v5,hv5,h⟩:=bd h
 obtain ⟨v6,hv6,h⟩:=bd h
 obtain ⟨v7,hv7,h⟩:=bd h
 obtain ⟨v8,hv8,h⟩:=bd h
 obtain ⟨v9,hv9,h⟩:=bd h
 obtain ⟨v10,hv10,h⟩:=bd h
 refine CW.dk ?_
 refine d_mv [(9,_)] ?_
 refine d_mv [(11,_)] ?_
 refine d_mv [(9,_)] ?_
 refine d_mv [(11,_)] ?_
 refine dG [(43,_),(9,_),(44,_)] [([(45,some (T.addr 9 [s6.2.toNat]))],[(45,0)])] ⟨rfl,rfl,rfl,trivial⟩ (fun E h => IxOk.opE (x_ix (f:=I) row_22 hv3 (locA h.1 h.2.1 rfl rfl) h.2.2.1 rfl) rfl) ?_
 refine dG [(45,_),(9,_)] [([(46,some (I v3))],[(46,0)])] ⟨rfl,rfl,trivial⟩ (fun E h => IxOk.opE (x_ld (var_2.h _ rfl rfl) h.1 h.2.1 (getc hv3 rfl) rfl) rfl) ?_
 refine d_mv [(1,_)] ?_
 refine d_mv [(10,_)] ?_
 refine d_ixr [(47,_),(48,_)] ?_
 refine d_ldr [(49,_)] ?_
 refine d_mv [(2,_)] ?_
 refine d_mv [(10,_)] ?_
 refine dG [(51,_),(52,_)] [([(53,some (T.ro ((Pt lV) v5)))],[(53,0)])] ⟨rfl,rfl,trivial⟩ (fun E h => IxOk.opE (x_ixr (f:=lV) row_23 hv5 (locB h.1 rfl) h.2.1 rfl) rfl) ?_
 refine d_ldr [(53,_)] ?_
 refine d_mv [(11,_)] ?_
 refine d_ixr [(54,_),(55,_)] ?_
 refine d_ldr [(56,_)] ?_
 refine d_mul [(50,_),(57,_)] ?_
 refine d_add [(46,_),(58,_)] ?_ (h:=fun _ h => (x_add hv8 h.1 h.2.1 rfl))
 refine d_mv [(0,_)] ?_
 refine d_rem [(59,_),(60,_)] ?_
 refine dG [(41,_),(9,_),(42,_)] [([(62,some (T.addr 9 [s6.2.toNat]))],[(62,0)])] ⟨rfl,rfl,rfl,trivial⟩ (fun E h => IxOk.opE (x_ix (f:=I) row_22 hv10 (locA h.1 h.2.1 rfl rfl) h.2.2.1 rfl) rfl) ?_
 refine dG [(62,_),(9,_),(61,_)] [([(9,some (L 1 I (s6.1.set s6.2.toNat v9)))],[(9,1)])] ⟨rfl,rfl,rfl,trivial⟩ (fun E h => IxOk.opE (x_st inf_2 rfl h.1 h.2.1 (getc hv10 rfl) (setc hv10 rfl) h.2.2.1 (clean_of (Enc.clean (f:=I) _)) rfl) rfl) ?_
 refine dN ([] :: [] :: [] :: [] :: [2,3] :: [2,3,4] :: [] :: [] :: [6,7] :: [6,7,8] :: [] :: [] :: [10,11] :: [10,11,12] :: [] :: [10,11,12,13,14] :: [10,11,12,13,14,15] :: [6,7,8,9,10,11,12,13,14,15,16] :: [2,3,4,5,6,7,8,9,10,11,12,13,14,15,16,17] :: [] :: [2,3,4,5,6,7,8,9,10,11,12,13,14,15,16,17,18,19] :: [0,1,2,3,4,5,6,7,8,9,10,11,12,13,14,15,16,17,18,19,20] :: [0,1,2,3,4,5,6,7,8,9,10,11,12,13,14,15,16,17,18,19,20,21] :: []) mixedP ?_
 refine nB ?_
 refine nA ?_
 refine CW.to [(0,I x0),(1,T.ro (lV x1)),(2,T.ro (lM x2)),(9,L 1 I (s6.1.set s6.2.toNat v9)),(10,I s5.2),(11,I s6.2)] ⟨rfl,rfl,rfl,rfl,rfl,rfl,trivial⟩ ?_
 refine CW.region ?_
 refine a_mv ?_
 obtain ⟨v11,hv11,h⟩:=bd h
 refine a_add ?_
 refine a_as ?_
 refine RW.nil ?_
 exact eN h
 refine CW.exit ?_
 refine xA ?_
 exact eX h
 have h:=cF hc h
 refine sk2 ?_
 refine sk2 ?_
 refine sk2 ?_
 refine sk2 ?_
 refine sk2 ?_
 refine sk2 ?_
 refine sk2 ?_
 refine a_pick ?_
 refine rN ?_
 refine CW.condF rfl ?_
 refine CW.exit ?_
 refine xA ?_
 exact eX h
 obtain ⟨rfl,hg⟩:=hq
 refine xB ?_
 refine nB ?_
 refine nA ?_
 refine CW.ghost hg ?_
 refine CW.region ?_
 refine a_mv ?_
 obtain ⟨v13,hv13,h⟩:=bd h
 refine a_add ?_
 refine a_as ?_
 refine RW.nil ?_
 exact eN h
 refine CW.exit ?_
 refine xA ?_
 exact eX h
 have h:=cF hc h
 refine sk2 ?_
 refine sk2 ?_
 refine sk2 ?_
 refine sk2 ?_
 refine a_pick ?_
 refine rN ?_
 refine CW.condF rfl ?_
 refine CW.exit ?_
 refine xA ?_
 exact eX h
 obtain ⟨rfl,hg⟩:=hq
 refine xB ?_
 refine nA ?_
 refine CW.ghost hg ?_
 refine sR ?_
 refine a_mv ?_
 refine a_as ?_
 refine RW.ghost (Ghost.tr 8 9 _ rfl rfl (clean_of (cleanL (Enc.clean (f:=I)))) rfl) ?_
 refine rN ?_
 refine CW.ret ?_
 obtain rfl:=sI h
 exact rT
theorem t_spec_l02Product (x0:Int) (x1:List (List Int)) (x2:List (List Int)) (x3:Int) (r:(List (List Int))) (h:f_spec_l02Product x0 x1 x2 x3 = some r):FnC Tryz.prog 97 [I x0,T.ro (lM x1),T.ro (lM x2),I x3] [lM r] []:=by
 refine fB Tryz.func97 (fun St W w0 v => ?_)
 refine sR ?_
 refine oP (x_nil 1 rfl) ?_
 refine rN ?_
 refine sR ?_
 refine oP (x_bs0 elt_23 rfl) ?_
 refine a_as ?_
 refine RW.ghost (Ghost.tr 9 11 _ rfl rfl (clean_of trivial) rfl) ?_
 refine rN ?_
 refine CW.seq ?_
 refine sR ?_
 refine a_as ?_
 refine rN ?_
 refine CW.block ?_
 obtain ⟨r5,hr5,h⟩:=bd h
 refine CW.lp (s:=([],0)) (l1_spec_l02Product x0 x1 x2 x3) (fun s1:(List (List Int)) × Int => envL [(0,I x0),(1,T.ro (lM x1)),(2,T.ro (lM x2)),(3,I x3),(9,L 1 lV s1.1),(10,I s1.2)]) (fun (r5:(List (List Int))) e E => e = .exit 0 ∧ Ghost ⟨St,W,w0,Tryz.f97.ntmps⟩ E (envL [(9,L 1 lV r5)])) (.has ⟨rfl,rfl,rfl,rfl,rfl,rfl,trivial⟩) (fun s1 x h => ?_) hr5 (fun e E hq => ?_)
 refine CW.seq ?_
 refine sR ?_
 refine a_mv ?_
 refine a_mv ?_
 refine a_lenr ?_
 refine a_lss ?_
 refine rN ?_
 refine cn h (fun hc h => ?_) (fun hc h => ?_)
 refine CW.skip ?_
 refine nA ?_
 refine CW.seq ?_
 refine CW.block ?_
 refine CW.region ?_
 refine a_mv ?_
 refine a_mv ?_
 refine a_mv ?_
 refine a_mv ?_
 obtain ⟨v1,hv1,h⟩:=bd h
 refine a_ixr ?_
 refine a_ldr ?_
 refine a_mv ?_
 refine a_mv ?_
 obtain ⟨r2,hr2,h⟩:=bd h
 refine cA Tryz.call118 (t_spec_l02Times _ _ _ _ _ hr2) ?_
 refine oP (x_bs elt_23 [.tmp 26] [.slot 26 (L 1 I r2)] [r2] lV ⟨.slot _ _,trivial⟩ (pkS rfl (clean_of (cleanL (Enc.clean (f:=I)))) rfl pkN) rfl rfl) ?_
 refine RW.ghost (Ghost.tr 18 9 _ rfl rfl (clean_of (cleanL (Enc.clean (f:=lV)))) rfl) ?_
 obtain ⟨v3,hv3,h⟩:=bd h
 refine oP (x_appm (f:=lV) elt_23 hv3 rfl rfl rfl) ?_
 refine a_as ?_
 refine RW.ghost (Ghost.tr 9 28 _ rfl rfl (clean_of (cleanL (Enc.clean (f:=lV)))) rfl) ?_
 refine RW.nil ?_
 refine nB ?_
 refine nA ?_
 refine CW.region ?_
 refine a_mv ?_
 obtain ⟨v4,hv4,h⟩:=bd h
 refine a_add ?_
 refine a_as ?_
 refine RW.nil ?_
 exact eN h
 refine CW.exit ?_
 refine xA ?_
 exact eX h
 obtain ⟨rfl,hg⟩:=hq
 refine xB ?_
 refine nA ?_
 refine CW.ghost hg ?_
 refine sR ?_
 refine a_mv ?_
 refine a_as ?_
 refine RW.ghost (Ghost.tr 8 9 _ rfl rfl (clean_of (cleanL (Enc.clean (f:=lV)))) rfl) ?_
 refine rN ?_
 refine CW.ret ?_
 obtain rfl:=sI h
 exact rT
theorem t_spec_l21Act (x0:SModule) (x1:List Int) (r:(List (List Int))) (h:f_spec_l21Act x0 x1 = some r):FnC Tryz.prog 99 [qModule x0,T.ro (lV x1)] [lM r] []:=by
 refine fB Tryz.func99 (fun St W w0 v => ?_)
 refine sR ?_
 refine a_box ?_
 refine oP (x_nil 1 rfl) ?_
 refine rN ?_
 refine sR ?_
 refine a_fa ?_
 refine a_ld ?_
 obtain ⟨r1,hr1,h⟩:=bd h
 refine cA Tryz.call79 (t_spec_l02Unit _ _ hr1) ?_
 refine a_as ?_
 refine RW.ghost (Ghost.tr 5 10 _ rfl rfl (clean_of (cleanL (Enc.clean (f:=lV)))) rfl) ?_
 refine rN ?_
 refine CW.seq ?_
 refine sR ?_
 refine a_as ?_
 refine rN ?_
 refine CW.block ?_
 obtain ⟨r8,hr8,h⟩:=bd h
 refine CW.lp (s:=(r1,0)) (l2_spec_l21Act x0 x1) (fun s5:(List (List Int)) × Int => envL [(1,T.ro (lV x1)),(2,T.ptr (qModule x0)),(5,L 1 lV s5.1),(6,I s5.2)]) (fun (r8:(List (List Int))) e E => e = .exit 0 ∧ Ghost ⟨St,W,w0,Tryz.f99.ntmps⟩ E (envL [(5,L 1 lV r8)])) (.has ⟨rfl,rfl,rfl,rfl,trivial⟩) (fun s5 x h => ?_) hr8 (fun e E hq => ?_)
 refine CW.seq ?_
 refine sR ?_
 refine a_mv ?_
 refine a_mv ?_
 refine a_lenr ?_
 refine a_lss ?_
 refine rN ?_
 refine cn h (fun hc h => ?_) (fun hc h => ?_)
 refine CW.skip ?_
 refine nA ?_
 refine CW.seq ?_
 refine CW.block ?_
 refine sR ?_
 refine a_as ?_
 refine rN ?_
 refine CW.block ?_
 obtain ⟨r6,hr6,h⟩:=bd h
 refine CW.lp (s:=(s5.1,0)) (l1_spec_l21Act x0 x1 s5) (fun s6:(List (List Int)) × Int => envL [(1,T.ro (lV x1)),(2,T.ptr (qModule x0)),(5,L 1 lV s6.1),(6,I s5.2),(7,I s6.2)]) (fun (r6:(List (List Int))) e E => e = .exit 2 ∧ Ghost ⟨St,W,w0,Tryz.f99.ntmps⟩ E (envL [(1,T.ro (lV x1)),(2,T.ptr (qModule x0)),(5,L 1 lV r6),(6,I s5.2)])) (.has ⟨rfl,rfl,rfl,rfl,rfl,trivial⟩) (fun s6 x h => ?_) hr6 (fun e E hq => ?_)
 refine CW.seq ?_
 refine sR ?_
 refine a_mv ?_
 refine a_mv ?_
 refine a_mv ?_
 obtain ⟨v2,hv2,h⟩:=bd h
 refine a_ixr ?_
 refine a_ldr ?_
 refine a_lss ?_
 refine rN ?_
 refine cn h (fun hc h => ?_) (fun hc h => ?_)
 refine CW.skip ?_
 refine nA ?_
 refine CW.seq ?_
 refine CW.block ?_
 obtain ⟨v3,hv3,h⟩:=bd h
 obtain ⟨r4,hr4,h⟩:=bd h
 refine CW.dk ?_
 refine d_fa [(2,_)] ?_
 refine d_ld [(25,_),(2,_)] ?_
 refine d_mv [(5,_)] ?_
 refine d_fa [(2,_)] ?_
 refine d_ld [(28,_),(2,_)] ?_
 refine d_mv [(6,_)] ?_
 refine d_ixr [(29,_),(30,_)] ?_
 refine d_ldr [(31,_)] ?_
 refine d_fa [(2,_)] ?_
 refine d_ld [(33,_),(2,_)] ?_
 refine dC [(26,_),(27,_),(5,_),(32,_),(34,_)] Tryz.call97 (t_spec_l02Product _ _ _ _ _ hr4) ?_
 refine d_as [(35,_)] ?_
 refine dNA mixedP ?_
 refine nB ?_
 refine nA ?_
 refine CW.region ?_
 refine a_mv ?_
 obtain ⟨v5,hv5,h⟩:=bd h
 refine a_add ?_
 refine a_as ?_
 refine RW.ghost (Ghost.tr 5 35 _ rfl rfl (clean_of (cleanL (Enc.clean (f:=lV)))) rfl) ?_
 refine RW.nil ?_
 exact eN h
 refine CW.exit ?_
 refine xA ?_
 exact eX h
 obtain ⟨rfl,hg⟩:=hq
 refine xB ?_
 refine nB ?_
 refine nA ?_
 refine CW.ghost hg ?_
 refine CW.region ?_
 refine a_mv ?_
 obtain ⟨v7,hv7,h⟩:=bd h
 refine a_add ?_
 refine a_as ?_
 refine RW.nil ?_
 exact eN h
 refine CW.exit ?_
 refine xA ?_
 exact eX h
 obtain ⟨rfl,hg⟩:=hq
 refine xB ?_
 refine nA ?_
 refine CW.ghost hg ?_
 refine sR ?_
 refine a_mv ?_
 refine a_as ?_
 refine RW.ghost (Ghost.tr 4 5 _ rfl rfl (clean_of (cleanL (Enc.clean (f:=lV)))) rfl) ?_
 refine rN ?_
 refine CW.ret ?_
 obtain rfl:=sI h
 exact rT
theorem t_spec_l01Same2 (x0:List (List Int)) (x1:List (List Int)) (r:Bool) (h:f_spec_l01Same2 x0 x1 = some r):FnC Tryz.prog 98 [T.ro (lM x0),T.ro (lM x1)] [B r] []:=by
 refine fB Tryz.func98 (fun St W w0 v => ?_)
 refine sR ?_
 refine a_as ?_
 refine rN ?_
 refine CW.seq ?_
 refine sR ?_
 refine a_mv ?_
 refine a_lenr ?_
 refine a_mv ?_
 refine a_lenr ?_
 refine a_neq ?_
 refine rN ?_
 refine cn h (fun hc h => ?_) (fun hc h => ?_)
 refine sR ?_
 refine a_as ?_
 refine rN ?_
 refine CW.ret ?_
 refine rA ?_
 obtain rfl:=sI h
 exact rT
 refine CW.skip ?_
 refine nA ?_
 refine CW.seq ?_
 refine sR ?_
 refine a_as ?_
 refine rN ?_
 refine CW.block ?_
 obtain ⟨r5,hr5,h⟩:=bd h
 refine CW.lp (s:=0) (l1_spec_l01Same2 x0 x1) (fun s1:Int => envL [(0,T.ro (lM x0)),(1,T.ro (lM x1)),(5,I s1)]) (fun (x:Unit ⊕ Bool) e E => match x with | (.inl r5) => e = .exit 0 ∧ Ghost ⟨St,W,w0,Tryz.f98.ntmps⟩ E (envL []) | (.inr r5) => e = .ret ∧ RetG ⟨St,W,w0,Tryz.f98.ntmps⟩ Tryz.prog Tryz.f98.results [T.ro (lM x0),T.ro (lM x1)] [B r5] [] .ret E) (.has ⟨rfl,rfl,rfl,trivial⟩) (fun s1 x h => ?_) hr5 (fun e E hq => ?_)
 refine CW.seq ?_
 refine sR ?_
 refine a_mv ?_
 refine a_mv ?_
 refine a_lenr ?_
 refine a_lss ?_
 refine rN ?_
 refine cn h (fun hc h => ?_) (fun hc h => ?_)
 refine CW.skip ?_
 refine nA ?_
 refine CW.seq ?_
 refine CW.block ?_
 refine CW.seq ?_
 obtain ⟨v1,hv1,h⟩:=bd h
 obtain ⟨v2,hv2,h⟩:=bd h
 obtain ⟨r3,hr3,h⟩:=bd h
 refine CW.dk ?_
 refine d_mv [(0,_)] ?_
 refine d_mv [(5,_)] ?_
 refine d_ixr [(17,_),(18,_)] ?_
 refine d_ldr [(19,_)] ?_
 refine d_mv [(1,_)] ?_
 refine d_mv [(5,_)] ?_
 refine d_ixr [(21,_),(22,_)] ?_
 refine d_ldr [(23,_)] ?_
 refine dC [(20,_),(24,_)] Tryz.call136 (t_spec_l01Same _ _ _ hr3) ?_
 refine d_not [(25,_)] ?_
 refine dNA mixedP ?_
 refine nA ?_
 refine cn h (fun hc h => ?_) (fun hc h => ?_)
 refine sR ?_
 refine a_as ?_
 refine rN ?_
 refine CW.ret ?_
 refine rB ?_
 refine rA ?_
 exact eX h
 refine CW.skip ?_
 refine nB ?_
 refine nA ?_
 refine CW.region ?_
 refine a_mv ?_
 obtain ⟨v4,hv4,h⟩:=bd h
 refine a_add ?_
 refine a_as ?_
 refine RW.nil ?_
 exact eN h
 refine CW.exit ?_
 refine xA ?_
 exact eX h
 rcases r5 with r5 | r5
 obtain ⟨rfl,hg⟩:=hq
 refine xB ?_
 refine nA ?_
 refine CW.ghost hg ?_
 refine sR ?_
 refine a_as ?_
 refine rN ?_
 refine CW.ret ?_
 obtain rfl:=sI h
 exact rT
 obtain ⟨rfl,hq⟩:=hq
 refine rB ?_
 refine rA ?_
 obtain rfl:=sI h
 exact hq
theorem t_spec_l21Is (x0:SPr) (x1:SModule) (r:Bool) (h:f_spec_l21Is x0 x1 = some r):FnC Tryz.prog 54 [qPr x0,qModule x1] [B r] []:=by
 refine fB Tryz.func54 (fun St W w0 v => ?_)
 refine sR ?_
 refine a_box ?_
 refine a_box ?_
 refine a_as ?_
 refine rN ?_
 refine sR ?_
 refine a_fa ?_
 refine a_ld ?_
 refine a_lenr ?_
 refine a_as ?_
 refine rN ?_
 refine CW.seq ?_
 refine sR ?_
 refine a_fa ?_
 refine a_ld ?_
 obtain ⟨r1,hr1,h⟩:=bd h
 refine cA Tryz.call94 (t_spec_l01Prime _ _ hr1) ?_
 refine a_not ?_
 refine a_mv ?_
 refine RW.cases 20 _ rfl (fun hc => ?_) (fun hc => ?_)
 have h:=cT hc h
 refine sk2 ?_
 refine sk2 ?_
 refine sk2 ?_
 refine sk2 ?_
 refine a_pick ?_
 refine a_mv ?_
 refine sk2 ?_
 refine sk2 ?_
 refine sk2 ?_
 refine sk2 ?_
 refine sk2 ?_
 refine a_pick ?_
 refine rN ?_
 refine CW.condT rfl ?_
 refine CW.seq ?_
 refine CW.to [] trivial ?_
 refine CW.region ?_
 refine a_as ?_
 refine rN ?_
 refine CW.ret ?_
 refine rA ?_
 obtain rfl:=sI h
 exact rT
 have h:=cF hc h
 refine g_fa ?_
 refine g_ld ?_
 obtain ⟨r2,hr2,h⟩:=bd h
 refine RW.cons (IxOk.guard 4 false 20 (x_call (xs:=[.tmp 22,.const _,.const _]) Tryz.call95 (t_spec_l01In _ _ _ _ hr2) ⟨(agC _ rfl rfl rfl),⟨(agC _ rfl rfl rfl),⟨(agC _ rfl rfl rfl),trivial⟩⟩⟩ (resC (f:=B) inferInstance resN) rfl)) ?_
 refine g_not ?_
 refine a_pick ?_
 refine a_mv ?_
 refine RW.cases 26 _ rfl (fun hc => ?_) (fun hc => ?_)
 have h:=cT hc h
 refine sk2 ?_
 refine sk2 ?_
 refine sk2 ?_
 refine sk2 ?_
 refine sk2 ?_
 refine a_pick ?_
 refine rN ?_
 refine CW.condT rfl ?_
 refine CW.seq ?_
 refine CW.to [] trivial ?_
 refine CW.region ?_
 refine a_as ?_
 refine rN ?_
 refine CW.ret ?_
 refine rA ?_
 obtain rfl:=sI h
 exact rT
 have h:=cF hc h
 refine g_fa ?_
 refine g_ld ?_
 refine g_lenr ?_
 refine g_mv ?_
 refine g_neq ?_
 refine a_pick ?_
 refine rN ?_
 refine cn h (fun hc h => ?_) (fun hc h => ?_)
 refine CW.seq ?_
 refine CW.to [] trivial ?_
 refine CW.region ?_
 refine a_as ?_
 refine rN ?_
 refine CW.ret ?_
 refine rA ?_
 obtain rfl:=sI h
 exact rT
 refine CW.skip ?_
 refine nA ?_
 refine CW.seq ?_
 refine CW.seq ?_
 refine CW.to [(2,T.ptr (qPr x0)),(3,T.ptr (qModule x1)),(5,I (x0.Orders.length:Int))] ⟨rfl,rfl,rfl,trivial⟩ ?_
 refine CW.region ?_
 refine a_as ?_
 refine rN ?_
 refine CW.block ?_
 obtain ⟨r6,hr6,h⟩:=bd h
 refine CW.lp (s:=0) (l1_spec_l21Is x0 x1) (fun s1:Int => envL [(2,T.ptr (qPr x0)),(3,T.ptr (qModule x1)),(5,I (x0.Orders.length:Int)),(6,I s1)]) (fun (x:Unit ⊕ Bool) e E => match x with | (.inl r6) => e = .exit 0 ∧ Ghost ⟨St,W,w0,Tryz.f54.ntmps⟩ E (envL [(2,T.ptr (qPr x0)),(3,T.ptr (qModule x1)),(5,I (x0.Orders.length:Int))]) | (.inr r6) => e = .ret ∧ RetG ⟨St,W,w0,Tryz.f54.ntmps⟩ Tryz.prog Tryz.f54.results [qPr x0,qModule x1] [B r6] [] .ret E) (.has ⟨rfl,rfl,rfl,rfl,trivial⟩) (fun s1 x h => ?_) hr6 (fun e E hq => ?_)
 refine CW.seq ?_
 refine sR ?_
 refine a_mv ?_
 refine a_mv ?_
 refine a_lss ?_
 refine rN ?_
 refine cn h (fun hc h => ?_) (fun hc h => ?_)
 refine CW.skip ?_
 refine nA ?_
 refine CW.seq ?_
 refine CW.block ?_
 refine CW.seq ?_
 obtain ⟨v3,hv3,h⟩:=bd h
 obtain ⟨r4,hr4,h⟩:=bd h
 refine CW.dk ?_
 refine d_fa [(3,_)] ?_
 refine d_ld [(38,_),(3,_)] ?_
 refine d_fa [(3,_)] ?_
 refine d_ld [(40,_),(3,_)] ?_
 refine d_fa [(3,_)] ?_
 refine d_ld [(42,_),(3,_)] ?_
 refine d_mv [(6,_)] ?_
 refine d_ixr [(43,_),(44,_)] ?_
 refine d_ldr [(45,_)] ?_
 refine dC [(39,_),(41,_),(46,_)] Tryz.call96 (t_spec_l21Rows _ _ _ _ hr4) ?_
 refine d_not [(47,_)] ?_
 refine dNA mixedP ?_
 refine nA ?_
 refine cn h (fun hc h => ?_) (fun hc h => ?_)
 refine sR ?_
 refine a_as ?_
 refine rN ?_
 refine CW.ret ?_
 refine rB ?_
 refine rA ?_
 exact eX h
 refine CW.skip ?_
 refine nB ?_
 refine nA ?_
 refine CW.region ?_
 refine a_mv ?_
 obtain ⟨v5,hv5,h⟩:=bd h
 refine a_add ?_
 refine a_as ?_
 refine RW.nil ?_
 exact eN h
 refine CW.exit ?_
 refine xA ?_
 exact eX h
 rcases r6 with r6 | r6
 obtain ⟨rfl,hg⟩:=hq
 refine xB ?_
 refine nA ?_
 refine CW.ghost hg ?_
 refine CW.seq ?_
 refine sR ?_
 refine a_as ?_
 refine rN ?_
 refine CW.block ?_
 obtain ⟨r31,hr31,h⟩:=bd h
 refine CW.lp (s:=0) (l4_spec_l21Is x0 x1) (fun s11:Int => envL [(2,T.ptr (qPr x0)),(3,T.ptr (qModule x1)),(5,I (x0.Orders.length:Int)),(7,I s11)]) (fun (x:Unit ⊕ Bool) e E => match x with | (.inl r31) => e = .exit 2 ∧ Ghost ⟨St,W,w0,Tryz.f54.ntmps⟩ E (envL []) | (.inr r31) => e = .ret ∧ RetG ⟨St,W,w0,Tryz.f54.ntmps⟩ Tryz.prog Tryz.f54.results [qPr x0,qModule x1] [B r31] [] .ret E) (.has ⟨rfl,rfl,rfl,rfl,trivial⟩) (fun s11 x h => ?_) hr31 (fun e E hq => ?_)
 refine CW.seq ?_
 refine sR ?_
 refine a_mv ?_
 refine a_mv ?_
 refine a_lss ?_
 refine rN ?_
 refine cn h (fun hc h => ?_) (fun hc h => ?_)
 refine CW.skip ?_
 refine nA ?_
 refine CW.seq ?_
 refine CW.block ?_
 refine sR ?_
 refine a_fa ?_
 refine a_ld ?_
 obtain ⟨r7,hr7,h⟩:=bd h
 refine cA Tryz.call79 (t_spec_l02Unit _ _ hr7) ?_
 refine a_as ?_
 refine RW.ghost (Ghost.tr 8 56 _ rfl rfl (clean_of (cleanL (Enc.clean (f:=lV)))) rfl) ?_
 refine rN ?_
 refine CW.seq ?_
 refine sR ?_
 refine a_as ?_
 refine rN ?_
 refine CW.block ?_
 obtain ⟨r12,hr12,h⟩:=bd h
 refine CW.lp (s:=(r7,0)) (l2_spec_l21Is x0 x1 s11) (fun s12:(List (List Int)) × Int => envL [(2,T.ptr (qPr x0)),(3,T.ptr (qModule x1)),(5,I (x0.Orders.length:Int)),(7,I s11),(8,L 1 lV s12.1),(9,I s12.2)]) (fun (r12:(List (List Int))) e E => e = .exit 4 ∧ Ghost ⟨St,W,w0,Tryz.f54.ntmps⟩ E (envL [(2,T.ptr (qPr x0)),(3,T.ptr (qModule x1)),(5,I (x0.Orders.length:Int)),(7,I s11),(8,L 1 lV r12)])) (.has ⟨rfl,rfl,rfl,rfl,rfl,rfl,trivial⟩) (fun s12 x h => ?_) hr12 (fun e E hq => ?_)
 refine CW.seq ?_
 refine sR ?_
 refine a_mv ?_
 refine a_fa ?_
 refine a_ld ?_
 refine a_mv ?_
 obtain ⟨v8,hv8,h⟩:=bd h
 refine a_ixr ?_
 refine a_ldr ?_
 refine a_lss ?_
 refine rN ?_
 refine cn h (fun hc h => ?_) (fun hc h => ?_)
 refine CW.skip ?_
 refine nA ?_
 refine CW.seq ?_
 refine CW.block ?_
 obtain ⟨v9,hv9,h⟩:=bd h
 obtain ⟨r10,hr10,h⟩:=bd h
 refine CW.dk ?_
 refine d_fa [(3,_)] ?_
 refine d_ld [(66,_),(3,_)] ?_
 refine d_mv [(8,_)] ?_
 refine d_fa [(3,_)] ?_
 refine d_ld [(69,_),(3,_)] ?_
 refine d_mv [(7,_)] ?_
 refine d_ixr [(70,_),(71,_)] ?_
 refine d_ldr [(72,_)] ?_
 refine d_fa [(3,_)] ?_
 refine d_ld [(74,_),(3,_)] ?_
 refine dC [(67,_),(68,_),(8,_),(73,_),(75,_)] Tryz.call97 (t_spec_l02Product _ _ _ _ _ hr10) ?_
 refine d_as [(76,_)] ?_
 refine dNA mixedP ?_
 refine nB ?_
 refine nA ?_
 refine CW.region ?_
 refine a_mv ?_
 obtain ⟨v11,hv11,h⟩:=bd h
 refine a_add ?_
 refine a_as ?_
 refine RW.ghost (Ghost.tr 8 76 _ rfl rfl (clean_of (cleanL (Enc.clean (f:=lV)))) rfl) ?_
 refine RW.nil ?_
 exact eN h
 refine CW.exit ?_
 refine xA ?_
 exact eX h
 obtain ⟨rfl,hg⟩:=hq
 refine xB ?_
 refine nA ?_
 refine CW.ghost hg ?_
 refine CW.seq ?_
 refine CW.seq ?_
 obtain ⟨v13,hv13,h⟩:=bd h
 obtain ⟨r14,hr14,h⟩:=bd h
 obtain ⟨r15,hr15,h⟩:=bd h
 refine CW.dk ?_
 refine d_mv [(8,_)] ?_
 refine d_ldp [(3,_)] ?_
 refine d_fa [(2,_)] ?_
 refine d_ld [(79,_),(2,_)] ?_
 refine d_mv [(7,_)] ?_
 refine d_ixr [(80,_),(81,_)] ?_
 refine d_ldr [(82,_)] ?_
 refine dC [(78,_),(83,_)] Tryz.call99 (t_spec_l21Act _ _ _ hr14) ?_
 refine dC [(77,_),(8,_),(84,_)] Tryz.call98 (t_spec_l01Same2 _ _ _ hr15) ?_
 refine d_not [(85,_)] ?_
 refine dNA mixedP ?_
 refine nA ?_
 refine cn h (fun hc h => ?_) (fun hc h => ?_)
 refine sR ?_
 refine a_as ?_
 refine rN ?_
 refine CW.ret ?_
 refine rA ?_
 refine rB ?_
 refine rA ?_
 exact eX h
 refine CW.skip ?_
 refine nA ?_
 refine sR ?_
 refine a_mv ?_
 obtain ⟨v16,hv16,h⟩:=bd h
 refine a_add ?_
 refine a_as ?_
 refine rN ?_
 refine CW.block ?_
 obtain ⟨r29,hr29,h⟩:=bd h
 refine CW.lp (s:=v16) (l3_spec_l21Is x0 x1 s11) (fun s14:Int => envL [(2,T.ptr (qPr x0)),(3,T.ptr (qModule x1)),(5,I (x0.Orders.length:Int)),(7,I s11),(10,I s14)]) (fun (x:Unit ⊕ Bool) e E => match x with | (.inl r29) => e = .exit 6 ∧ Ghost ⟨St,W,w0,Tryz.f54.ntmps⟩ E (envL [(2,T.ptr (qPr x0)),(3,T.ptr (qModule x1)),(5,I (x0.Orders.length:Int)),(7,I s11)]) | (.inr r29) => e = .ret ∧ RetG ⟨St,W,w0,Tryz.f54.ntmps⟩ Tryz.prog Tryz.f54.results [qPr x0,qModule x1] [B r29] [] .ret E) (.has ⟨rfl,rfl,rfl,rfl,rfl,trivial⟩) (fun s14 x h => ?_) hr29 (fun e E hq => ?_)
 refine CW.seq ?_
 refine sR ?_
 refine a_mv ?_
 refine a_mv ?_
 refine a_lss ?_
 refine rN ?_
 refine cn h (fun hc h => ?_) (fun hc h => ?_)
 refine CW.skip ?_
 refine nA ?_
 refine CW.seq ?_
 refine CW.block ?_
 refine CW.seq ?_
 obtain ⟨v17,hv17,h⟩:=bd h
 obtain ⟨v18,hv18,h⟩:=bd h
 obtain ⟨r19,hr19,h⟩:=bd h
 refine CW.dk ?_
 refine d_fa [(3,_)] ?_
 refine d_ld [(94,_),(3,_)] ?_
 refine d_fa [(3,_)] ?_
 refine d_ld [(96,_),(3,_)] ?_
 refine d_mv [(10,_)] ?_
 refine d_ixr [(97,_),(98,_)] ?_
 refine d_ldr [(99,_)] ?_
 refine d_fa [(3,_)] ?_
 refine d_ld [(101,_),(3,_)] ?_
 refine d_mv [(7,_)] ?_
 refine dG [(102,_),(103,_)] [([(104,some (T.ro ((Pt lM) v18)))],[(104,0)])] ⟨rfl,rfl,trivial⟩ (fun E h => IxOk.opE (x_ixr (f:=lM) row_24 hv18 (locB h.1 rfl) h.2.1 rfl) rfl) ?_
 refine d_ldr [(104,_)] ?_
 refine d_fa [(3,_)] ?_
 refine d_ld [(106,_),(3,_)] ?_
 refine dC [(95,_),(100,_),(105,_),(107,_)] Tryz.call97 (t_spec_l02Product _ _ _ _ _ hr19) ?_
 refine d_as [(108,_)] ?_
 refine dNA mixedP ?_
 refine nA ?_
 refine CW.ghost (Ghost.tr 11 108 _ rfl rfl (clean_of (cleanL (Enc.clean (f:=lV)))) rfl) ?_
 refine CW.seq ?_
 obtain ⟨v20,hv20,h⟩:=bd h
 obtain ⟨v21,hv21,h⟩:=bd h
 obtain ⟨v22,hv22,h⟩:=bd h
 obtain ⟨v23,hv23,h⟩:=bd h
 obtain ⟨v24,hv24,h⟩:=bd h
 obtain ⟨r25,hr25,h⟩:=bd h
 obtain ⟨r26,hr26,h⟩:=bd h
 refine CW.dk ?_
 refine d_fa [(3,_)] ?_
 refine d_ld [(109,_),(3,_)] ?_
 refine d_fa [(3,_)] ?_
 refine d_ld [(111,_),(3,_)] ?_
 refine d_mv [(7,_)] ?_
 refine dG [(112,_),(113,_)] [([(114,some (T.ro ((Pt lM) v20)))],[(114,0)])] ⟨rfl,rfl,trivial⟩ (fun E h => IxOk.opE (x_ixr (f:=lM) row_24 hv20 (locB h.1 rfl) h.2.1 rfl) rfl) ?_
 refine d_ldr [(114,_)] ?_
 refine d_ldp [(3,_)] ?_
 refine d_fa [(2,_)] ?_
 refine d_ld [(117,_),(2,_)] ?_
 refine d_mv [(7,_)] ?_
 refine d_ixr [(118,_),(119,_)] ?_
 refine d_ldr [(120,_)] ?_
 refine d_mv [(10,_)] ?_
 refine d_mv [(7,_)] ?_
 refine d_sub [(122,_),(123,_)] ?_
 refine d_sub [(124,_)] ?_
 refine d_ixr [(121,_),(125,_)] ?_
 refine d_ldr [(126,_)] ?_
 refine dC [(116,_),(127,_)] Tryz.call99 (t_spec_l21Act _ _ _ hr25) ?_
 refine d_fa [(3,_)] ?_
 refine d_ld [(129,_),(3,_)] ?_
 refine dC [(110,_),(115,_),(128,_),(130,_)] Tryz.call97 (t_spec_l02Product _ _ _ _ _ hr26) ?_
 refine d_as [(131,_)] ?_
 refine dN ([] :: [0] :: [] :: [2] :: [] :: [2,3,4] :: [2,3,4,5] :: [] :: [] :: [8] :: [] :: [8,9,10] :: [8,9,10,11] :: [] :: [] :: [13,14] :: [13,14,15] :: [8,9,10,11,12,13,14,15,16] :: [8,9,10,11,12,13,14,15,16,17] :: [7,8,9,10,11,12,13,14,15,16,17,18] :: [] :: [20] :: [0,1,2,3,4,5,6,7,8,9,10,11,12,13,14,15,16,17,18,19,20,21] :: [0,1,2,3,4,5,6,7,8,9,10,11,12,13,14,15,16,17,18,19,20,21,22] :: []) mixedP ?_
 refine nA ?_
 refine CW.ghost (Ghost.tr 12 131 _ rfl rfl (clean_of (cleanL (Enc.clean (f:=lV)))) rfl) ?_
 refine CW.seq ?_
 refine CW.to [(2,T.ptr (qPr x0)),(3,T.ptr (qModule x1)),(5,I (x0.Orders.length:Int)),(7,I s11),(10,I s14),(11,L 1 lV r19),(12,L 1 lV r26)] ⟨rfl,rfl,rfl,rfl,rfl,rfl,rfl,trivial⟩ ?_
 refine CW.region ?_
 refine a_mv ?_
 refine a_mv ?_
 obtain ⟨r27,hr27,h⟩:=bd h
 refine cA Tryz.call98 (t_spec_l01Same2 _ _ _ hr27) ?_
 refine a_not ?_
 refine rN ?_
 refine cn h (fun hc h => ?_) (fun hc h => ?_)
 refine sR ?_
 refine a_as ?_
 refine rN ?_
 refine CW.ret ?_
 refine rB ?_
 refine rA ?_
 exact eX h
 refine CW.skip ?_
 refine nB ?_
 refine nA ?_
 refine CW.region ?_
 refine a_mv ?_
 obtain ⟨v28,hv28,h⟩:=bd h
 refine a_add ?_
 refine a_as ?_
 refine RW.nil ?_
 exact eN h
 refine CW.exit ?_
 refine xA ?_
 exact eX h
 rcases r29 with r29 | r29
 obtain ⟨rfl,hg⟩:=hq
 refine xB ?_
 refine nB ?_
 refine nA ?_
 refine CW.ghost hg ?_
 refine CW.region ?_
 refine a_mv ?_
 obtain ⟨v30,hv30,h⟩:=bd h
 refine a_add ?_
 refine a_as ?_
 refine RW.nil ?_
 exact eN h
 obtain ⟨rfl,hq⟩:=hq
 refine rB ?_
 refine rB ?_
 refine rA ?_
 exact eX h ⟨rfl,hq⟩
 refine CW.exit ?_
 refine xA ?_
 exact eX h
 rcases r31 with r31 | r31
 obtain ⟨rfl,hg⟩:=hq
 refine xB ?_
 refine nA ?_
 refine CW.ghost hg ?_
 refine sR ?_
 refine a_as ?_
 refine rN ?_
 refine CW.ret ?_
 obtain rfl:=sI h
 exact rT
 obtain ⟨rfl,hq⟩:=hq
 refine rB ?_
 refine rA ?_
 obtain rfl:=sI h
 exact hq
 obtain ⟨rfl,hq⟩:=hq
 refine rB ?_
 refine rA ?_
 obtain rfl:=sI h
 exact hq
theorem t_spec_IsModule (x0:SPr) (x1:SModule) (r:Bool) (h:f_spec_IsModule x0 x1 = some r):FnC Tryz.prog 31 [qPr x0,qModule x1] [B r] []:=by
 refine fB Tryz.func31 (fun St W w0 v => ?_)
 refine sR ?_
 refine a_box ?_
 refine a_box ?_
 refine a_as ?_
 refine rN ?_
 refine sR ?_
 refine a_ldp ?_
 obtain ⟨r1,hr1,h⟩:=bd h
 refine cA Tryz.call53 (t_spec_l08Group _ _ hr1) ?_
 refine a_mv ?_
 refine RW.cases 7 _ rfl (fun hc => ?_) (fun hc => ?_)
 have h:=cT hc h
 refine g_ldp ?_
 refine g_ldp ?_
 obtain ⟨r2,hr2,h⟩:=bd h
 refine RW.cons (IxOk.guard 2 true 7 (x_call (xs:=[.tmp 8,.tmp 9]) Tryz.call54 (t_spec_l21Is _ _ _ hr2) ⟨(agC _ rfl rfl rfl),⟨(agC _ rfl rfl rfl),trivial⟩⟩ (resC (f:=B) inferInstance resN) rfl)) ?_
 refine a_pick ?_
 refine a_as ?_
 refine rN ?_
 refine CW.ret ?_
 obtain rfl:=sI h
 exact rT
 have h:=cF hc h
 refine sk2 ?_
 refine sk2 ?_
 refine sk2 ?_
 refine a_pick ?_
 refine a_as ?_
 refine rN ?_
 refine CW.ret ?_
 obtain rfl:=sI h
 exact rT
theorem t_spec_l01Mod (x0:Int) (x1:Int) (r:Int) (h:f_spec_l01Mod x0 x1 = some r):FnC Tryz.prog 117 [I x0,I x1] [I r] []:=by
 refine fB Tryz.func117 (fun St W w0 v => ?_)
 refine sR ?_
 refine a_as ?_
 refine rN ?_
 refine sR ?_
 refine a_mv ?_
 refine a_mv ?_
 obtain ⟨v1,hv1,h⟩:=bd h
 refine a_rem ?_
 refine a_as ?_
 refine rN ?_
 refine CW.seq ?_
 refine sR ?_
 refine a_mv ?_
 refine a_lss ?_
 refine rN ?_
 refine cn h (fun hc h => ?_) (fun hc h => ?_)
 refine CW.region ?_
 refine a_mv ?_
 refine a_mv ?_
 obtain ⟨v2,hv2,h⟩:=bd h
 refine a_add ?_
 refine a_as ?_
 refine rN ?_
 refine sR ?_
 refine a_mv ?_
 refine a_as ?_
 refine rN ?_
 refine CW.ret ?_
 obtain rfl:=sI h
 exact rT
 refine CW.skip ?_
 refine nA ?_
 refine sR ?_
 refine a_mv ?_
 refine a_as ?_
 refine rN ?_
 refine CW.ret ?_
 obtain rfl:=sI h
 exact rT
theorem t_spec_l02Add (x0:Int) (x1:List Int) (x2:Int) (x3:List Int) (r:(List Int)) (h:f_spec_l02Add x0 x1 x2 x3 = some r):FnC Tryz.prog 78 [I x0,T.ro (lV x1),I x2,T.ro (lV x3)] [lV r] []:=by
 refine fB Tryz.func78 (fun St W w0 v => ?_)
 refine sR ?_
 refine oP (x_nil 1 rfl) ?_
 refine rN ?_
 refine sR ?_
 refine a_mv ?_
 obtain ⟨r1,hr1,h⟩:=bd h
 refine cA Tryz.call115 (t_spec_l01Own _ _ hr1) ?_
 refine a_as ?_
 refine RW.ghost (Ghost.tr 9 12 _ rfl rfl (clean_of (cleanL (Enc.clean (f:=I)))) rfl) ?_
 refine rN ?_
 refine CW.seq ?_
 refine sR ?_
 refine a_as ?_
 refine rN ?_
 refine CW.block ?_
 obtain ⟨r9,hr9,h⟩:=bd h
 refine CW.lp (s:=(r1,0)) (l1_spec_l02Add x0 x2 x3) (fun s1:(List Int) × Int => envL [(0,I x0),(2,I x2),(3,T.ro (lV x3)),(9,L 1 I s1.1),(10,I s1.2)]) (fun (r9:(List Int)) e E => e = .exit 0 ∧ Ghost ⟨St,W,w0,Tryz.f78.ntmps⟩ E (envL [(9,L 1 I r9)])) (.has ⟨rfl,rfl,rfl,rfl,rfl,trivial⟩) (fun s1 x h => ?_) hr9 (fun e E hq => ?_)
 refine CW.seq ?_
 refine sR ?_
 refine a_mv ?_
 refine a_mv ?_
 refine a_len ?_
 refine a_lss ?_
 refine a_mv ?_
 refine RW.cases 17 _ rfl (fun hc => ?_) (fun hc => ?_)
 have h:=cT hc h
 refine g_mv ?_
 refine g_mv ?_
 refine g_lenr ?_
 refine g_lss ?_
 refine a_pick ?_
 refine rN ?_
 refine cn h (fun hc h => ?_) (fun hc h => ?_)
 refine CW.skip ?_
 refine nA ?_
 refine CW.seq ?_
 refine CW.block ?_
 obtain ⟨v2,hv2,h⟩:=bd h
 obtain ⟨v3,hv3,h⟩:=bd h
 obtain ⟨v4,hv4,h⟩:=bd h
 obtain ⟨v5,hv5,h⟩:=bd h
 obtain ⟨r6,hr6,h⟩:=bd h
 obtain ⟨v7,hv7,h⟩:=bd h
 refine CW.dk ?_
 refine d_mv [(9,_)] ?_
 refine d_mv [(10,_)] ?_
 refine d_mv [(9,_)] ?_
 refine d_mv [(10,_)] ?_
 refine dG [(27,_),(9,_),(28,_)] [([(29,some (T.addr 9 [s1.2.toNat]))],[(29,0)])] ⟨rfl,rfl,rfl,trivial⟩ (fun E h => IxOk.opE (x_ix (f:=I) row_22 hv2 (locA h.1 h.2.1 rfl rfl) h.2.2.1 rfl) rfl) ?_
 refine dG [(29,_),(9,_)] [([(30,some (I v2))],[(30,0)])] ⟨rfl,rfl,trivial⟩ (fun E h => IxOk.opE (x_ld (var_2.h _ rfl rfl) h.1 h.2.1 (getc hv2 rfl) rfl) rfl) ?_
 refine d_mv [(2,_)] ?_
 refine d_mv [(3,_)] ?_
 refine d_mv [(10,_)] ?_
 refine d_ixr [(32,_),(33,_)] ?_
 refine d_ldr [(34,_)] ?_
 refine d_mul [(31,_),(35,_)] ?_
 refine d_add [(30,_),(36,_)] ?_ (h:=fun _ h => (x_add hv5 h.1 h.2.1 rfl))
 refine d_mv [(0,_)] ?_
 refine dC [(37,_),(38,_)] Tryz.call117 (t_spec_l01Mod _ _ _ hr6) ?_
 refine dG [(25,_),(9,_),(26,_)] [([(40,some (T.addr 9 [s1.2.toNat]))],[(40,0)])] ⟨rfl,rfl,rfl,trivial⟩ (fun E h => IxOk.opE (x_ix (f:=I) row_22 hv7 (locA h.1 h.2.1 rfl rfl) h.2.2.1 rfl) rfl) ?_
 refine dG [(40,_),(9,_),(39,_)] [([(9,some (L 1 I (s1.1.set s1.2.toNat r6)))],[(9,1)])] ⟨rfl,rfl,rfl,trivial⟩ (fun E h => IxOk.opE (x_st inf_2 rfl h.1 h.2.1 (getc hv7 rfl) (setc hv7 rfl) h.2.2.1 (clean_of (Enc.clean (f:=I) _)) rfl) rfl) ?_
 refine dNA mixedP ?_
 refine nB ?_
 refine nA ?_
 refine CW.to [(0,I x0),(2,I x2),(3,T.ro (lV x3)),(9,L 1 I (s1.1.set s1.2.toNat r6)),(10,I s1.2)] ⟨rfl,rfl,rfl,rfl,rfl,trivial⟩ ?_
 refine CW.region ?_
 refine a_mv ?_
 obtain ⟨v8,hv8,h⟩:=bd h
 refine a_add ?_
 refine a_as ?_
 refine RW.nil ?_
 exact eN h
 refine CW.exit ?_
 refine xA ?_
 exact eX h
 have h:=cF hc h
 refine sk2 ?_
 refine sk2 ?_
 refine sk2 ?_
 refine sk2 ?_
 refine a_pick ?_
 refine rN ?_
 refine CW.condF rfl ?_
 refine CW.exit ?_
 refine xA ?_
 exact eX h
 obtain ⟨rfl,hg⟩:=hq
 refine xB ?_
 refine nA ?_
 refine CW.ghost hg ?_
 refine sR ?_
 refine a_mv ?_
 refine a_as ?_
 refine RW.ghost (Ghost.tr 8 9 _ rfl rfl (clean_of (cleanL (Enc.clean (f:=I)))) rfl) ?_
 refine rN ?_
 refine CW.ret ?_
 obtain rfl:=sI h
 exact rT
end Go.Wk

namespace Go.Wk
open Go Go.Proofs Go.Ab
set_option maxRecDepth 100000
theorem t_impl_IsGroupPrime (x0:Int) (r:Bool) (h:f_impl_IsGroupPrime x0 = some r):FnC Tryz.prog 57 [I x0] [B r] []:=by
 refine fB Tryz.func57 (fun St W w0 v => ?_)
 refine sR ?_
 refine a_as ?_
 refine rN ?_
 refine sR ?_
 refine a_mv ?_
 refine a_eql ?_
 refine a_mv ?_
 refine RW.cases 5 _ rfl (fun hc => ?_) (fun hc => ?_)
 have h:=cT hc h
 refine sk2 ?_
 refine sk2 ?_
 refine a_pick ?_
 refine a_mv ?_
 refine sk2 ?_
 refine sk2 ?_
 refine a_pick ?_
 refine a_mv ?_
 refine sk2 ?_
 refine sk2 ?_
 refine a_pick ?_
 refine a_as ?_
 refine rN ?_
 refine CW.ret ?_
 obtain rfl:=sI h
 exact rT
 have h:=cF hc h
 refine g_mv ?_
 refine g_eql ?_
 refine a_pick ?_
 refine a_mv ?_
 refine RW.cases 9 _ rfl (fun hc => ?_) (fun hc => ?_)
 have h:=cT hc h
 refine sk2 ?_
 refine sk2 ?_
 refine a_pick ?_
 refine a_mv ?_
 refine sk2 ?_
 refine sk2 ?_
 refine a_pick ?_
 refine a_as ?_
 refine rN ?_
 refine CW.ret ?_
 obtain rfl:=sI h
 exact rT
 have h:=cF hc h
 refine g_mv ?_
 refine g_eql ?_
 refine a_pick ?_
 refine a_mv ?_
 refine RW.cases 13 _ rfl (fun hc => ?_) (fun hc => ?_)
 have h:=cT hc h
 refine sk2 ?_
 refine sk2 ?_
 refine a_pick ?_
 refine a_as ?_
 refine rN ?_
 refine CW.ret ?_
 obtain rfl:=sI h
 exact rT
 have h:=cF hc h
 refine g_mv ?_
 refine g_eql ?_
 refine a_pick ?_
 refine a_as ?_
 refine rN ?_
 refine CW.ret ?_
 obtain rfl:=sI h
 exact rT
theorem t_impl_inside (x0:Int) (x1:Int) (x2:Int) (r:Bool) (h:f_impl_inside x0 x1 x2 = some r):FnC Tryz.prog 58 [I x0,I x1,I x2] [B r] []:=by
 refine fB Tryz.func58 (fun St W w0 v => ?_)
 refine sR ?_
 refine a_as ?_
 refine rN ?_
 refine sR ?_
 refine a_mv ?_
 refine a_mv ?_
 refine a_geq ?_
 refine a_mv ?_
 refine RW.cases 10 _ rfl (fun hc => ?_) (fun hc => ?_)
 have h:=cT hc h
 refine g_mv ?_
 refine g_mv ?_
 refine g_leq ?_
 refine a_pick ?_
 refine a_as ?_
 refine rN ?_
 refine CW.ret ?_
 obtain rfl:=sI h
 exact rT
 have h:=cF hc h
 refine sk2 ?_
 refine sk2 ?_
 refine sk2 ?_
 refine a_pick ?_
 refine a_as ?_
 refine rN ?_
 refine CW.ret ?_
 obtain rfl:=sI h
 exact rT
theorem t_impl_isExponents (x0:SPr) (x1:List Int) (r:Bool) (h:f_impl_isExponents x0 x1 = some r):FnC Tryz.prog 141 [T.ro ((Pt eSPr) x0),T.ro (lV x1)] [B r] []:=by
 refine fB Tryz.func141 (fun St W w0 v => ?_)
 refine sR ?_
 refine a_as ?_
 refine rN ?_
 refine CW.seq ?_
 refine sR ?_
 refine a_mv ?_
 refine a_lenr ?_
 refine a_mv ?_
 refine a_nilc ?_
 refine a_far ?_
 refine a_ldr ?_
 refine a_lenr ?_
 refine a_neq ?_
 refine rN ?_
 refine cn h (fun hc h => ?_) (fun hc h => ?_)
 refine sR ?_
 refine a_as ?_
 refine rN ?_
 refine CW.ret ?_
 refine rA ?_
 obtain rfl:=sI h
 exact rT
 refine CW.skip ?_
 refine nA ?_
 refine CW.seq ?_
 refine sR ?_
 refine a_mv ?_
 refine a_lenr ?_
 refine a_mv ?_
 refine rN ?_
 refine CW.block ?_
 obtain ⟨r6,hr6,h⟩:=bd h
 refine CW.lp (s:=0) (l1_impl_isExponents x0 x1) (fun s1:Int => envL [(0,T.ro ((Pt eSPr) x0)),(15,T.ro (lV x1)),(16,I (x1.length:Int)),(17,I s1)]) (fun (x:Unit ⊕ Bool) e E => match x with | (.inl r6) => e = .exit 0 ∧ Ghost ⟨St,W,w0,Tryz.f141.ntmps⟩ E (envL []) | (.inr r6) => e = .ret ∧ RetG ⟨St,W,w0,Tryz.f141.ntmps⟩ Tryz.prog Tryz.f141.results [T.ro ((Pt eSPr) x0),T.ro (lV x1)] [B r6] [] .ret E) (.has ⟨rfl,rfl,rfl,rfl,trivial⟩) (fun s1 x h => ?_) hr6 (fun e E hq => ?_)
 refine sR ?_
 refine a_lss ?_
 refine rN ?_
 refine CW.seq ?_
 refine cn h (fun hc h => ?_) (fun hc h => ?_)
 refine CW.skip ?_
 refine nA ?_
 refine CW.seq ?_
 refine CW.block ?_
 refine sR ?_
 refine a_mv ?_
 obtain ⟨v1,hv1,h⟩:=bd h
 refine a_ixr ?_
 refine a_ldr ?_
 refine a_as ?_
 refine a_as ?_
 refine rN ?_
 refine sR ?_
 refine a_mv ?_
 refine a_mv ?_
 refine a_nilc ?_
 refine a_far ?_
 refine a_ldr ?_
 refine a_mv ?_
 obtain ⟨v2,hv2,h⟩:=bd h
 refine a_ixr ?_
 refine a_ldr ?_
 obtain ⟨v3,hv3,h⟩:=bd h
 refine a_sub ?_
 obtain ⟨r4,hr4,h⟩:=bd h
 refine cA Tryz.call58 (t_impl_inside _ _ _ _ hr4) ?_
 refine a_not ?_
 refine rN ?_
 refine cn h (fun hc h => ?_) (fun hc h => ?_)
 refine sR ?_
 refine a_as ?_
 refine rN ?_
 refine CW.ret ?_
 refine rB ?_
 refine rA ?_
 exact eX h
 refine CW.skip ?_
 refine nB ?_
 refine nA ?_
 refine CW.region ?_
 obtain ⟨v5,hv5,h⟩:=bd h
 refine a_add ?_
 refine a_mv ?_
 refine RW.nil ?_
 exact eN h
 refine CW.exit ?_
 refine xA ?_
 exact eX h
 rcases r6 with r6 | r6
 obtain ⟨rfl,hg⟩:=hq
 refine xB ?_
 refine nA ?_
 refine CW.ghost hg ?_
 refine sR ?_
 refine a_as ?_
 refine rN ?_
 refine CW.ret ?_
 obtain rfl:=sI h
 exact rT
 obtain ⟨rfl,hq⟩:=hq
 refine rB ?_
 refine rA ?_
 obtain rfl:=sI h
 exact hq
theorem t_impl_isZero (x0:List Int) (r:Bool) (h:f_impl_isZero x0 = some r):FnC Tryz.prog 121 [T.ro (lV x0)] [B r] []:=by
 refine fB Tryz.func121 (fun St W w0 v => ?_)
 refine sR ?_
 refine a_as ?_
 refine rN ?_
 refine CW.seq ?_
 refine sR ?_
 refine a_mv ?_
 refine a_lenr ?_
 refine a_mv ?_
 refine rN ?_
 refine CW.block ?_
 obtain ⟨r3,hr3,h⟩:=bd h
 refine CW.lp (s:=0) (l1_impl_isZero x0) (fun s1:Int => envL [(5,T.ro (lV x0)),(6,I (x0.length:Int)),(7,I s1)]) (fun (x:Unit ⊕ Bool) e E => match x with | (.inl r3) => e = .exit 0 ∧ Ghost ⟨St,W,w0,Tryz.f121.ntmps⟩ E (envL []) | (.inr r3) => e = .ret ∧ RetG ⟨St,W,w0,Tryz.f121.ntmps⟩ Tryz.prog Tryz.f121.results [T.ro (lV x0)] [B r3] [] .ret E) (.has ⟨rfl,rfl,rfl,trivial⟩) (fun s1 x h => ?_) hr3 (fun e E hq => ?_)
 refine sR ?_
 refine a_lss ?_
 refine rN ?_
 refine CW.seq ?_
 refine cn h (fun hc h => ?_) (fun hc h => ?_)
 refine CW.skip ?_
 refine nA ?_
 refine CW.seq ?_
 refine CW.block ?_
 refine sR ?_
 obtain ⟨v1,hv1,h⟩:=bd h
 refine a_ixr ?_
 refine a_ldr ?_
 refine a_as ?_
 refine rN ?_
 refine sR ?_
 refine a_mv ?_
 refine a_neq ?_
 refine rN ?_
 refine cn h (fun hc h => ?_) (fun hc h => ?_)
 refine sR ?_
 refine a_as ?_
 refine rN ?_
 refine CW.ret ?_
 refine rB ?_
 refine rA ?_
 exact eX h
 refine CW.skip ?_
 refine nB ?_
 refine nA ?_
 refine CW.region ?_
 obtain ⟨v2,hv2,h⟩:=bd h
 refine a_add ?_
 refine a_mv ?_
 refine RW.nil ?_
 exact eN h
 refine CW.exit ?_
 refine xA ?_
 exact eX h
 rcases r3 with r3 | r3
 obtain ⟨rfl,hg⟩:=hq
 refine xB ?_
 refine nA ?_
 refine CW.ghost hg ?_
 refine sR ?_
 refine a_as ?_
 refine rN ?_
 refine CW.ret ?_
 obtain rfl:=sI h
 exact rT
 obtain ⟨rfl,hq⟩:=hq
 refine rB ?_
 refine rA ?_
 obtain rfl:=sI h
 exact hq
theorem t_impl_tailVector (x0:SPr) (x1:Int) (x2:List Int) (r:Bool) (h:f_impl_tailVector x0 x1 x2 = some r):FnC Tryz.prog 133 [T.ro ((Pt eSPr) x0),I x1,T.ro (lV x2)] [B r] []:=by
 refine fB Tryz.func133 (fun St W w0 v => ?_)
 refine sR ?_
 refine a_as ?_
 refine rN ?_
 refine sR ?_
 refine a_mv ?_
 refine a_mv ?_
 obtain ⟨r1,hr1,h⟩:=bd h
 refine cA Tryz.call141 (t_impl_isExponents _ _ _ hr1) ?_
 refine a_mv ?_
 refine RW.cases 10 _ rfl (fun hc => ?_) (fun hc => ?_)
 have h:=cT hc h
 refine g_mv ?_
 refine g_mv ?_
 obtain ⟨v2,hv2,h⟩:=bd h
 refine g_add ?_
 obtain ⟨v3,hv3,h⟩:=bd h
 refine RW.cons (IxOk.guard 3 true 10 (x_slr row_22 hv3 (locB rfl rfl) optN0 (optS (sliceO_hi hv3) rfl) rfl)) ?_
 obtain ⟨r4,hr4,h⟩:=bd h
 refine RW.cons (IxOk.guard 3 true 10 (x_call (xs:=[.tmp 14]) Tryz.call121 (t_impl_isZero _ _ hr4) ⟨(agC _ rfl rfl rfl),trivial⟩ (resC (f:=B) inferInstance resN) rfl)) ?_
 refine a_pick ?_
 refine a_as ?_
 refine rN ?_
 refine CW.ret ?_
 obtain rfl:=sI h
 exact rT
 have h:=cF hc h
 refine sk2 ?_
 refine sk2 ?_
 refine sk2 ?_
 refine sk2 ?_
 refine sk2 ?_
 refine a_pick ?_
 refine a_as ?_
 refine rN ?_
 refine CW.ret ?_
 obtain rfl:=sI h
 exact rT
theorem t_impl_IsPresentation (x0:SPr) (r:Bool) (h:f_impl_IsPresentation x0 = some r):FnC Tryz.prog 92 [qPr x0] [B r] []:=by
 refine fB Tryz.func92 (fun St W w0 v => ?_)
 refine sR ?_
 refine a_box ?_
 refine a_as ?_
 refine rN ?_
 refine sR ?_
 refine a_fa ?_
 refine a_ld ?_
 refine a_lenr ?_
 refine a_as ?_
 refine rN ?_
 refine CW.seq ?_
 refine sR ?_
 refine a_mv ?_
 refine a_gtr ?_
 refine a_mv ?_
 refine RW.cases 15 _ rfl (fun hc => ?_) (fun hc => ?_)
 have h:=cT hc h
 refine sk2 ?_
 refine sk2 ?_
 refine sk2 ?_
 refine sk2 ?_
 refine sk2 ?_
 refine a_pick ?_
 refine a_mv ?_
 refine sk2 ?_
 refine sk2 ?_
 refine sk2 ?_
 refine sk2 ?_
 refine sk2 ?_
 refine a_pick ?_
 refine rN ?_
 refine CW.condT rfl ?_
 refine sR ?_
 refine a_as ?_
 refine rN ?_
 refine CW.ret ?_
 refine rA ?_
 obtain rfl:=sI h
 exact rT
 have h:=cF hc h
 refine g_fa ?_
 refine g_ld ?_
 refine g_lenr ?_
 refine g_mv ?_
 refine g_neq ?_
 refine a_pick ?_
 refine a_mv ?_
 refine RW.cases 22 _ rfl (fun hc => ?_) (fun hc => ?_)
 have h:=cT hc h
 refine sk2 ?_
 refine sk2 ?_
 refine sk2 ?_
 refine sk2 ?_
 refine sk2 ?_
 refine a_pick ?_
 refine rN ?_
 refine CW.condT rfl ?_
 refine sR ?_
 refine a_as ?_
 refine rN ?_
 refine CW.ret ?_
 refine rA ?_
 obtain rfl:=sI h
 exact rT
 have h:=cF hc h
 refine g_fa ?_
 refine g_ld ?_
 refine g_lenr ?_
 refine g_mv ?_
 refine g_neq ?_
 refine a_pick ?_
 refine rN ?_
 refine cn h (fun hc h => ?_) (fun hc h => ?_)
 refine sR ?_
 refine a_as ?_
 refine rN ?_
 refine CW.ret ?_
 refine rA ?_
 obtain rfl:=sI h
 exact rT
 refine CW.skip ?_
 refine nA ?_
 refine sR ?_
 refine a_as ?_
 refine rN ?_
 refine CW.seq ?_
 refine sR ?_
 refine a_fa ?_
 refine a_ld ?_
 refine a_lenr ?_
 refine a_mv ?_
 refine rN ?_
 refine CW.block ?_
 obtain ⟨r6,hr6,h⟩:=bd h
 refine CW.lp (s:=(1,0)) (l1_impl_IsPresentation x0) (fun s1:Int × Int => envL [(1,T.ptr (qPr x0)),(3,I (x0.Orders.length:Int)),(4,I s1.1),(30,T.ro (lV x0.Orders)),(31,I (x0.Orders.length:Int)),(32,I s1.2)]) (fun (x:Unit ⊕ Bool) e E => match x with | (.inl r6) => e = .exit 0 ∧ Ghost ⟨St,W,w0,Tryz.f92.ntmps⟩ E (envL [(1,T.ptr (qPr x0)),(3,I (x0.Orders.length:Int))]) | (.inr r6) => e = .ret ∧ RetG ⟨St,W,w0,Tryz.f92.ntmps⟩ Tryz.prog Tryz.f92.results [qPr x0] [B r6] [] .ret E) (.has ⟨rfl,rfl,rfl,rfl,rfl,rfl,trivial⟩) (fun s1 x h => ?_) hr6 (fun e E hq => ?_)
 refine sR ?_
 refine a_lss ?_
 refine rN ?_
 refine CW.seq ?_
 refine cn h (fun hc h => ?_) (fun hc h => ?_)
 refine CW.skip ?_
 refine nA ?_
 refine CW.seq ?_
 refine CW.block ?_
 refine sR ?_
 obtain ⟨v1,hv1,h⟩:=bd h
 refine a_ixr ?_
 refine a_ldr ?_
 refine a_as ?_
 refine rN ?_
 refine CW.seq ?_
 refine sR ?_
 refine a_mv ?_
 obtain ⟨r2,hr2,h⟩:=bd h
 refine cA Tryz.call57 (t_impl_IsGroupPrime _ _ hr2) ?_
 refine a_not ?_
 refine a_mv ?_
 refine RW.cases 39 _ rfl (fun hc => ?_) (fun hc => ?_)
 have h:=cT hc h
 refine sk2 ?_
 refine sk2 ?_
 refine sk2 ?_
 refine sk2 ?_
 refine a_pick ?_
 refine rN ?_
 refine CW.condT rfl ?_
 refine sR ?_
 refine a_as ?_
 refine rN ?_
 refine CW.ret ?_
 refine rA ?_
 refine rB ?_
 refine rA ?_
 exact eX h
 have h:=cF hc h
 refine g_mv ?_
 refine g_mv ?_
 obtain ⟨v3,hv3,h⟩:=bd h
 refine RW.cons (IxOk.guard 3 false 39 (x_mul hv3 rfl rfl rfl)) ?_
 refine g_gtr ?_
 refine a_pick ?_
 refine rN ?_
 refine cn h (fun hc h => ?_) (fun hc h => ?_)
 refine sR ?_
 refine a_as ?_
 refine rN ?_
 refine CW.ret ?_
 refine rA ?_
 refine rB ?_
 refine rA ?_
 exact eX h
 refine CW.skip ?_
 refine nA ?_
 refine CW.region ?_
 refine a_mv ?_
 refine a_mv ?_
 obtain ⟨v4,hv4,h⟩:=bd h
 refine oP (x_mul hv4 rfl rfl rfl) ?_
 refine a_as ?_
 refine RW.nil ?_
 refine nB ?_
 refine nA ?_
 refine CW.region ?_
 obtain ⟨v5,hv5,h⟩:=bd h
 refine a_add ?_
 refine a_mv ?_
 refine RW.nil ?_
 exact eN h
 refine CW.exit ?_
 refine xA ?_
 exact eX h
 rcases r6 with r6 | r6
 obtain ⟨rfl,hg⟩:=hq
 refine xB ?_
 refine nA ?_
 refine CW.ghost hg ?_
 refine CW.seq ?_
 refine sR ?_
 refine a_mv ?_
 refine a_mv ?_
 refine rN ?_
 refine CW.block ?_
 obtain ⟨r18,hr18,h⟩:=bd h
 refine CW.lp (s:=0) (l3_impl_IsPresentation x0) (fun s7:Int => envL [(1,T.ptr (qPr x0)),(3,I (x0.Orders.length:Int)),(49,I (x0.Orders.length:Int)),(50,I s7)]) (fun (x:Unit ⊕ Bool) e E => match x with | (.inl r18) => e = .exit 2 ∧ Ghost ⟨St,W,w0,Tryz.f92.ntmps⟩ E (envL []) | (.inr r18) => e = .ret ∧ RetG ⟨St,W,w0,Tryz.f92.ntmps⟩ Tryz.prog Tryz.f92.results [qPr x0] [B r18] [] .ret E) (.has ⟨rfl,rfl,rfl,rfl,trivial⟩) (fun s7 x h => ?_) hr18 (fun e E hq => ?_)
 refine sR ?_
 refine a_lss ?_
 refine rN ?_
 refine CW.seq ?_
 refine cn h (fun hc h => ?_) (fun hc h => ?_)
 refine CW.skip ?_
 refine nA ?_
 refine CW.seq ?_
 refine CW.block ?_
 refine sR ?_
 refine a_mv ?_
 refine a_as ?_
 refine rN ?_
 refine CW.seq ?_
 refine sR ?_
 refine a_mv ?_
 refine a_fa ?_
 refine a_ld ?_
 refine a_mv ?_
 obtain ⟨v7,hv7,h⟩:=bd h
 refine a_ixr ?_
 refine a_ldr ?_
 obtain ⟨r8,hr8,h⟩:=bd h
 refine oP (x_call (xs:=[.tmp 1,.tmp 53,.tmp 58]) Tryz.call133 (t_impl_tailVector _ _ _ _ hr8) ⟨(agC _ rfl (cloP rfl) rfl),⟨(agC _ rfl rfl rfl),⟨(agC _ rfl rfl rfl),trivial⟩⟩⟩ (resC (f:=B) inferInstance resN) rfl) ?_
 refine a_not ?_
 refine a_mv ?_
 refine RW.cases 61 _ rfl (fun hc => ?_) (fun hc => ?_)
 have h:=cT hc h
 refine sk2 ?_
 refine sk2 ?_
 refine sk2 ?_
 refine sk2 ?_
 refine sk2 ?_
 refine sk2 ?_
 refine sk2 ?_
 refine sk2 ?_
 refine sk2 ?_
 refine sk2 ?_
 refine sk2 ?_
 refine a_pick ?_
 refine rN ?_
 refine CW.condT rfl ?_
 refine CW.seq ?_
 refine CW.to [] trivial ?_
 refine CW.region ?_
 refine a_as ?_
 refine rN ?_
 refine CW.ret ?_
 refine rA ?_
 refine rB ?_
 refine rA ?_
 exact eX h
 have h:=cF hc h
 refine g_fa ?_
 refine g_ld ?_
 refine g_mv ?_
 obtain ⟨v9,hv9,h⟩:=bd h
 refine RW.cons (IxOk.guard 8 false 61 (x_ixr (f:=lM) row_24 hv9 (locB rfl rfl) rfl rfl)) ?_
 refine g_ldr ?_
 refine g_lenr ?_
 refine g_mv ?_
 obtain ⟨v10,hv10,h⟩:=bd h
 refine g_sub ?_
 refine g_mv ?_
 obtain ⟨v11,hv11,h⟩:=bd h
 refine g_sub ?_
 refine g_neq ?_
 refine a_pick ?_
 refine rN ?_
 refine cn h (fun hc h => ?_) (fun hc h => ?_)
 refine CW.seq ?_
 refine CW.to [] trivial ?_
 refine CW.region ?_
 refine a_as ?_
 refine rN ?_
 refine CW.ret ?_
 refine rA ?_
 refine rB ?_
 refine rA ?_
 exact eX h
 refine CW.skip ?_
 refine nA ?_
 refine CW.seq ?_
 refine CW.to [(1,T.ptr (qPr x0)),(3,I (x0.Orders.length:Int)),(7,I s7),(49,I (x0.Orders.length:Int)),(50,I s7)] ⟨rfl,rfl,rfl,rfl,rfl,trivial⟩ ?_
 refine CW.region ?_
 refine a_fa ?_
 refine a_ld ?_
 refine a_mv ?_
 obtain ⟨v12,hv12,h⟩:=bd h
 refine oP (x_ixr (f:=lM) row_24 hv12 (locB rfl rfl) rfl rfl) ?_
 refine a_ldr ?_
 refine a_lenr ?_
 refine a_mv ?_
 refine rN ?_
 refine CW.block ?_
 obtain ⟨r16,hr16,h⟩:=bd h
 refine CW.lp (s:=0) (l2_impl_IsPresentation x0 s7 v12) (fun s8:Int => envL [(1,T.ptr (qPr x0)),(3,I (x0.Orders.length:Int)),(7,I s7),(49,I (x0.Orders.length:Int)),(50,I s7),(78,T.ro (lM v12)),(79,I (v12.length:Int)),(80,I s8)]) (fun (x:Unit ⊕ Bool) e E => match x with | (.inl r16) => e = .exit 4 ∧ Ghost ⟨St,W,w0,Tryz.f92.ntmps⟩ E (envL [(1,T.ptr (qPr x0)),(3,I (x0.Orders.length:Int)),(49,I (x0.Orders.length:Int)),(50,I s7)]) | (.inr r16) => e = .ret ∧ RetG ⟨St,W,w0,Tryz.f92.ntmps⟩ Tryz.prog Tryz.f92.results [qPr x0] [B r16] [] .ret E) (.has ⟨rfl,rfl,rfl,rfl,rfl,rfl,rfl,rfl,trivial⟩) (fun s8 x h => ?_) hr16 (fun e E hq => ?_)
 refine sR ?_
 refine a_lss ?_
 refine rN ?_
 refine CW.seq ?_
 refine cn h (fun hc h => ?_) (fun hc h => ?_)
 refine CW.skip ?_
 refine nA ?_
 refine CW.seq ?_
 refine CW.block ?_
 refine sR ?_
 obtain ⟨v13,hv13,h⟩:=bd h
 refine a_ixr ?_
 refine a_ldr ?_
 refine a_as ?_
 refine rN ?_
 refine sR ?_
 refine a_mv ?_
 refine a_mv ?_
 obtain ⟨r14,hr14,h⟩:=bd h
 refine oP (x_call (xs:=[.tmp 1,.tmp 84,.tmp 85]) Tryz.call133 (t_impl_tailVector _ _ _ _ hr14) ⟨(agC _ rfl (cloP rfl) rfl),⟨(agC _ rfl rfl rfl),⟨(agC _ rfl rfl rfl),trivial⟩⟩⟩ (resC (f:=B) inferInstance resN) rfl) ?_
 refine a_not ?_
 refine rN ?_
 refine cn h (fun hc h => ?_) (fun hc h => ?_)
 refine sR ?_
 refine a_as ?_
 refine rN ?_
 refine CW.ret ?_
 refine rB ?_
 refine rA ?_
 exact eX h
 refine CW.skip ?_
 refine nB ?_
 refine nA ?_
 refine CW.region ?_
 obtain ⟨v15,hv15,h⟩:=bd h
 refine a_add ?_
 refine a_mv ?_
 refine RW.nil ?_
 exact eN h
 refine CW.exit ?_
 refine xA ?_
 exact eX h
 rcases r16 with r16 | r16
 obtain ⟨rfl,hg⟩:=hq
 refine xB ?_
 refine nB ?_
 refine nA ?_
 refine CW.ghost hg ?_
 refine CW.region ?_
 obtain ⟨v17,hv17,h⟩:=bd h
 refine a_add ?_
 refine a_mv ?_
 refine RW.nil ?_
 exact eN h
 obtain ⟨rfl,hq⟩:=hq
 refine rB ?_
 refine rB ?_
 refine rA ?_
 exact eX h ⟨rfl,hq⟩
 refine CW.exit ?_
 refine xA ?_
 exact eX h
 rcases r18 with r18 | r18
 obtain ⟨rfl,hg⟩:=hq
 refine xB ?_
 refine nA ?_
 refine CW.ghost hg ?_
 refine sR ?_
 refine a_as ?_
 refine rN ?_
 refine CW.ret ?_
 obtain rfl:=sI h
 exact rT
 obtain ⟨rfl,hq⟩:=hq
 refine rB ?_
 refine rA ?_
 obtain rfl:=sI h
 exact hq
 obtain ⟨rfl,hq⟩:=hq
 refine rB ?_
 refine rA ?_
 obtain rfl:=sI h
 exact hq
theorem t_slices_Clone_int64_int64 (x0:List Int) (r:(List Int)) (h:f_slices_Clone_int64_int64 x0 = some r):FnC Tryz.prog 109 [T.ro (lV x0)] [lV r] []:=by
 refine fB Tryz.func109 (fun St W w0 v => ?_)
 refine sR ?_
 refine oP (x_nil 1 rfl) ?_
 refine rN ?_
 refine CW.seq ?_
 refine sR ?_
 refine a_mv ?_
 refine RW.isnil Tryz.underlying22 (locB rfl rfl) (.inl rfl) rfl rfl (fun b1 hb1 => ?_)
 refine rN ?_
 refine CW.cond _ rfl (fun hc => ?_) (fun hc => ?_)
 have hx:=hb1 hc
 subst hx
 have h:some ([]) = some r:=by simpa [appO,f_slices_Clone_int64_int64] using h
 refine sR ?_
 refine oP (x_nil 1 rfl) ?_
 refine rN ?_
 refine CW.ret ?_
 refine rA ?_
 obtain rfl:=sI h
 exact rT
 refine CW.skip ?_
 refine nA ?_
 refine sR ?_
 refine oP (x_bs0 elt_22 rfl) ?_
 refine a_mv ?_
 obtain ⟨v2,hv2,h⟩:=bd h
 refine oP (x_appr (f:=I) (g:=I) elt_22 (fun _ => rfl) (fun _ => rfl) inferInstance hv2 rfl (locB rfl rfl) rfl) ?_
 refine a_as ?_
 refine RW.ghost (Ghost.tr 2 7 _ rfl rfl (clean_of (cleanL (Enc.clean (f:=I)))) rfl) ?_
 refine rN ?_
 refine CW.ret ?_
 obtain rfl:=sI h
 exact rT
theorem tb_impl_timesGenerator {g_impl_timesVector:SPr → (List Int) → (List Int) → Option (List Int)} (H_impl_timesVector:∀ (x0:SPr) (x1:List Int) (x2:List Int) r,g_impl_timesVector x0 x1 x2 = some r → FnC Tryz.prog 157 [T.ro ((Pt eSPr) x0),L 1 I x1,T.ro (lV x2)] [] [(1,lV r)]) (x0:SPr) (x1:List Int) (x2:Int) (r:(List Int)) (h:b_impl_timesGenerator g_impl_timesVector x0 x1 x2 = some r):FnC Tryz.prog 161 [T.ro ((Pt eSPr) x0),L 1 I x1,I x2] [] [(1,lV r)]:=by
 refine fB Tryz.func161 (fun St W w0 v => ?_)
 refine sR ?_
 refine a_mv ?_
 refine a_mv ?_
 obtain ⟨v1,hv1,h⟩:=bd h
 refine a_add ?_
 obtain ⟨v2,hv2,h⟩:=bd h
 refine oP (x_slo row_22 hv2 (locA rfl rfl rfl rfl) (optS (sliceO_lo hv2) rfl) optN rfl) ?_
 obtain ⟨r3,hr3,h⟩:=bd h
 refine oP (x_call (xs:=[.tmp 13]) Tryz.call109 (t_slices_Clone_int64_int64 _ _ hr3) ⟨(agC _ rfl (cloSubV rfl rfl inferInstance hv2) rfl),trivial⟩ (resC (f:=lV) inferInstance resN) rfl) ?_
 refine a_as ?_
 refine RW.ghost (Ghost.tr 6 14 _ rfl rfl (clean_of (cleanL (Enc.clean (f:=I)))) rfl) ?_
 refine rN ?_
 refine CW.seq ?_
 refine sR ?_
 refine a_mv ?_
 refine a_len ?_
 refine a_mv ?_
 refine rN ?_
 refine CW.block ?_
 obtain ⟨r8,hr8,h⟩:=bd h
 refine CW.lp (s:=(x1,0)) (l1_impl_timesGenerator x2 r3) (fun s1:(List Int) × Int => envL [(0,T.ro ((Pt eSPr) x0)),(1,L 1 I s1.1),(2,I x2),(6,L 1 I r3),(16,I (r3.length:Int)),(17,I s1.2)]) (fun (r8:(List Int)) e E => e = .exit 0 ∧ Ghost ⟨St,W,w0,Tryz.f161.ntmps⟩ E (envL [(0,T.ro ((Pt eSPr) x0)),(1,L 1 I r8),(2,I x2),(6,L 1 I r3)])) (.has ⟨rfl,rfl,rfl,rfl,rfl,rfl,trivial⟩) (fun s1 x h => ?_) hr8 (fun e E hq => ?_)
 refine sR ?_
 refine a_lss ?_
 refine rN ?_
 refine CW.seq ?_
 refine cn h (fun hc h => ?_) (fun hc h => ?_)
 refine CW.skip ?_
 refine nA ?_
 refine CW.seq ?_
 refine CW.block ?_
 refine sR ?_
 refine a_mv ?_
 refine a_as ?_
 refine rN ?_
 refine CW.region ?_
 refine a_mv ?_
 refine a_mv ?_
 obtain ⟨v4,hv4,h⟩:=bd h
 refine a_add ?_
 refine a_mv ?_
 obtain ⟨v5,hv5,h⟩:=bd h
 refine a_add ?_
 obtain ⟨v6,hv6,h⟩:=bd h
 refine a_ix ?_
 refine oP (x_stcT inf_2 rfl rfl rfl (getc hv6 rfl) (setc hv6 rfl) rfl rfl) ?_
 refine RW.nil ?_
 refine nB ?_
 refine nA ?_
 refine CW.region ?_
 obtain ⟨v7,hv7,h⟩:=bd h
 refine a_add ?_
 refine a_mv ?_
 refine RW.nil ?_
 exact eN h
 refine CW.exit ?_
 refine xA ?_
 exact eX h
 obtain ⟨rfl,hg⟩:=hq
 refine xB ?_
 refine nA ?_
 refine CW.ghost hg ?_
 refine sR ?_
 refine a_mv ?_
 refine a_mv ?_
 obtain ⟨v9,hv9,h⟩:=bd h
 refine oP (x_ix (f:=I) row_22 hv9 (locA rfl rfl rfl rfl) rfl rfl) ?_
 refine oP (x_ld (var_2.h _ rfl rfl) rfl rfl (getc hv9 rfl) rfl) ?_
 obtain ⟨v10,hv10,h⟩:=bd h
 refine a_add ?_
 obtain ⟨v11,hv11,h⟩:=bd h
 refine oP (x_ix (f:=I) row_22 hv11 (locA rfl rfl rfl rfl) rfl rfl) ?_
 refine oP (x_st inf_2 rfl rfl rfl (getc hv11 rfl) (setc hv11 rfl) rfl (clean_of (Enc.clean (f:=I) _)) rfl) ?_
 refine rN ?_
 refine CW.seq ?_
 refine CW.seq ?_
 obtain ⟨v12,hv12,h⟩:=bd h
 obtain ⟨v13,hv13,h⟩:=bd h
 refine CW.dk ?_
 refine d_mv [(1,_)] ?_
 refine d_mv [(2,_)] ?_
 refine dG [(33,_),(1,_),(34,_)] [([(35,some (T.addr 1 [x2.toNat]))],[(35,0)])] ⟨rfl,rfl,rfl,trivial⟩ (fun E h => IxOk.opE (x_ix (f:=I) row_22 hv12 (locA h.1 h.2.1 rfl rfl) h.2.2.1 rfl) rfl) ?_
 refine dG [(35,_),(1,_)] [([(36,some (I v12))],[(36,0)])] ⟨rfl,rfl,trivial⟩ (fun E h => IxOk.opE (x_ld (var_2.h _ rfl rfl) h.1 h.2.1 (getc hv12 rfl) rfl) rfl) ?_
 refine d_mv [(0,_)] ?_
 refine d_nilc [(37,_)] ?_
 refine d_far [(38,_)] ?_
 refine d_ldr [(39,_)] ?_
 refine d_mv [(2,_)] ?_
 refine d_ixr [(40,_),(41,_)] ?_
 refine d_ldr [(42,_)] ?_
 refine d_eql [(36,_),(43,_)] ?_
 refine dNA mixedP ?_
 refine nA ?_
 refine cn h (fun hc h => ?_) (fun hc h => ?_)
 refine sR ?_
 refine a_mv ?_
 refine a_mv ?_
 obtain ⟨v14,hv14,h⟩:=bd h
 refine oP (x_ix (f:=I) row_22 hv14 (locA rfl rfl rfl rfl) rfl rfl) ?_
 refine oP (x_stcT inf_2 rfl rfl rfl (getc hv14 rfl) (setc hv14 rfl) rfl rfl) ?_
 refine rN ?_
 refine CW.region ?_
 refine a_mv ?_
 refine a_mv ?_
 refine a_mv ?_
 refine a_nilc ?_
 refine a_far ?_
 refine a_ldr ?_
 refine a_mv ?_
 obtain ⟨v15,hv15,h⟩:=bd h
 refine a_ixr ?_
 refine a_ldr ?_
 obtain ⟨r16,hr16,h⟩:=bd h
 refine oP (x_callM (xs:=[.tmp 48,.tmp 49,.tmp 56]) 1 49 1 [] Tryz.call157 (H_impl_timesVector _ _ _ _ hr16) rfl rfl rfl (clean_of (cleanL (Enc.clean (f:=I)))) (clean_of (cleanL (Enc.clean (f:=I)))) (Enc.rofree (f:=L 1 I) _) (Enc.rofree (f:=L 1 I) _) ⟨(agM _ rfl rfl rfl),⟨(agLd rfl (clean_of (cleanL (Enc.clean (f:=I)))) (Enc.rofree (f:=L 1 I) _)),⟨(agM _ rfl rfl rfl),trivial⟩⟩⟩ resN rfl rfl rfl rfl) ?_
 refine rN ?_
 refine CW.seq ?_
 refine CW.to [(0,T.ro ((Pt eSPr) x0)),(1,L 1 I r16),(2,I x2),(6,L 1 I r3)] ⟨rfl,rfl,rfl,rfl,trivial⟩ ?_
 refine CW.region ?_
 refine a_mv ?_
 refine a_len ?_
 refine a_mv ?_
 refine RW.ghost (Ghost.tr 58 6 _ rfl rfl (clean_of (cleanL (Enc.clean (f:=I)))) rfl) ?_
 refine rN ?_
 refine CW.block ?_
 obtain ⟨r24,hr24,h⟩:=bd h
 refine CW.lp (s:=(r16,0)) (l3_impl_timesGenerator g_impl_timesVector x0 x2 r3) (fun s7:(List Int) × Int => envL [(0,T.ro ((Pt eSPr) x0)),(1,L 1 I s7.1),(2,I x2),(58,L 1 I r3),(59,I (r3.length:Int)),(60,I s7.2)]) (fun (r24:(List Int)) e E => e = .exit 2 ∧ Ghost ⟨St,W,w0,Tryz.f161.ntmps⟩ E (envL [(1,L 1 I r24)])) (.has ⟨rfl,rfl,rfl,rfl,rfl,rfl,trivial⟩) (fun s7 x h => ?_) hr24 (fun e E hq => ?_)
 refine sR ?_
 refine a_lss ?_
 refine rN ?_
 refine CW.seq ?_
 refine cn h (fun hc h => ?_) (fun hc h => ?_)
 refine CW.skip ?_
 refine nA ?_
 refine CW.seq ?_
 refine CW.block ?_
 refine sR ?_
 refine a_mv ?_
 obtain ⟨v17,hv17,h⟩:=bd h
 refine a_ix ?_
 refine a_ld ?_
 refine a_as ?_
 refine a_as ?_
 refine rN ?_
 refine sR ?_
 refine a_mv ?_
 refine a_mv ?_
 refine rN ?_
 refine CW.block ?_
 obtain ⟨r22,hr22,h⟩:=bd h
 refine CW.lp (s:=(s7.1,0)) (l2_impl_timesGenerator g_impl_timesVector x0 x2 s7 v17) (fun s8:(List Int) × Int => envL [(0,T.ro ((Pt eSPr) x0)),(1,L 1 I s8.1),(2,I x2),(8,I s7.2),(58,L 1 I r3),(59,I (r3.length:Int)),(60,I s7.2),(65,I v17),(66,I s8.2)]) (fun (r22:(List Int)) e E => e = .exit 4 ∧ Ghost ⟨St,W,w0,Tryz.f161.ntmps⟩ E (envL [(0,T.ro ((Pt eSPr) x0)),(1,L 1 I r22),(2,I x2),(58,L 1 I r3),(59,I (r3.length:Int)),(60,I s7.2)])) (.has ⟨rfl,rfl,rfl,rfl,rfl,rfl,rfl,rfl,rfl,trivial⟩) (fun s8 x h => ?_) hr22 (fun e E hq => ?_)
 refine sR ?_
 refine a_lss ?_
 refine rN ?_
 refine CW.seq ?_
 refine cn h (fun hc h => ?_) (fun hc h => ?_)
 refine CW.skip ?_
 refine nA ?_
 refine CW.seq ?_
 refine CW.block ?_
 refine CW.region ?_
 refine a_mv ?_
 refine a_mv ?_
 refine a_mv ?_
 refine a_nilc ?_
 refine a_far ?_
 refine a_ldr ?_
 refine a_mv ?_
 obtain ⟨v18,hv18,h⟩:=bd h
 refine a_ixr ?_
 refine a_ldr ?_
 refine a_mv ?_
 obtain ⟨v19,hv19,h⟩:=bd h
 refine a_ixr ?_
 refine a_ldr ?_
 obtain ⟨r20,hr20,h⟩:=bd h
 refine oP (x_callM (xs:=[.tmp 68,.tmp 69,.tmp 79]) 1 69 1 [] Tryz.call157 (H_impl_timesVector _ _ _ _ hr20) rfl rfl rfl (clean_of (cleanL (Enc.clean (f:=I)))) (clean_of (cleanL (Enc.clean (f:=I)))) (Enc.rofree (f:=L 1 I) _) (Enc.rofree (f:=L 1 I) _) ⟨(agM _ rfl rfl rfl),⟨(agLd rfl (clean_of (cleanL (Enc.clean (f:=I)))) (Enc.rofree (f:=L 1 I) _)),⟨(agM _ rfl rfl rfl),trivial⟩⟩⟩ resN rfl rfl rfl rfl) ?_
 refine RW.nil ?_
 refine nB ?_
 refine nA ?_
 refine CW.region ?_
 obtain ⟨v21,hv21,h⟩:=bd h
 refine a_add ?_
 refine a_mv ?_
 refine RW.nil ?_
 exact eN h
 refine CW.exit ?_
 refine xA ?_
 exact eX h
 obtain ⟨rfl,hg⟩:=hq
 refine xB ?_
 refine nB ?_
 refine nA ?_
 refine CW.ghost hg ?_
 refine CW.region ?_
 obtain ⟨v23,hv23,h⟩:=bd h
 refine a_add ?_
 refine a_mv ?_
 refine RW.nil ?_
 exact eN h
 refine CW.exit ?_
 refine xA ?_
 exact eX h
 obtain ⟨rfl,hg⟩:=hq
 refine xB ?_
 obtain rfl:=sI h
 exact rTg hg rT
 refine CW.skip ?_
 refine nA ?_
 refine sR ?_
 refine a_mv ?_
 refine a_len ?_
 refine a_mv ?_
 refine RW.ghost (Ghost.tr 58 6 _ rfl rfl (clean_of (cleanL (Enc.clean (f:=I)))) rfl) ?_
 refine rN ?_
 refine CW.block ?_
 obtain ⟨r32,hr32,h⟩:=bd h
 refine CW.lp (s:=(r8.set x2.toNat v10,0)) (l5_impl_timesGenerator g_impl_timesVector x0 x2 r3) (fun s15:(List Int) × Int => envL [(0,T.ro ((Pt eSPr) x0)),(1,L 1 I s15.1),(2,I x2),(58,L 1 I r3),(59,I (r3.length:Int)),(60,I s15.2)]) (fun (r32:(List Int)) e E => e = .exit 2 ∧ Ghost ⟨St,W,w0,Tryz.f161.ntmps⟩ E (envL [(1,L 1 I r32)])) (.has ⟨rfl,rfl,rfl,rfl,rfl,rfl,trivial⟩) (fun s15 x h => ?_) hr32 (fun e E hq => ?_)
 refine sR ?_
 refine a_lss ?_
 refine rN ?_
 refine CW.seq ?_
 refine cn h (fun hc h => ?_) (fun hc h => ?_)
 refine CW.skip ?_
 refine nA ?_
 refine CW.seq ?_
 refine CW.block ?_
 refine sR ?_
 refine a_mv ?_
 obtain ⟨v25,hv25,h⟩:=bd h
 refine a_ix ?_
 refine a_ld ?_
 refine a_as ?_
 refine a_as ?_
 refine rN ?_
 refine sR ?_
 refine a_mv ?_
 refine a_mv ?_
 refine rN ?_
 refine CW.block ?_
 obtain ⟨r30,hr30,h⟩:=bd h
 refine CW.lp (s:=(s15.1,0)) (l4_impl_timesGenerator g_impl_timesVector x0 x2 s15 v25) (fun s16:(List Int) × Int => envL [(0,T.ro ((Pt eSPr) x0)),(1,L 1 I s16.1),(2,I x2),(8,I s15.2),(58,L 1 I r3),(59,I (r3.length:Int)),(60,I s15.2),(65,I v25),(66,I s16.2)]) (fun (r30:(List Int)) e E => e = .exit 4 ∧ Ghost ⟨St,W,w0,Tryz.f161.ntmps⟩ E (envL [(0,T.ro ((Pt eSPr) x0)),(1,L 1 I r30),(2,I x2),(58,L 1 I r3),(59,I (r3.length:Int)),(60,I s15.2)])) (.has ⟨rfl,rfl,rfl,rfl,rfl,rfl,rfl,rfl,rfl,trivial⟩) (fun s16 x h => ?_) hr30 (fun e E hq => ?_)
 refine sR ?_
 refine a_lss ?_
 refine rN ?_
 refine CW.seq ?_
 refine cn h (fun hc h => ?_) (fun hc h => ?_)
 refine CW.skip ?_
 refine nA ?_
 refine CW.seq ?_
 refine CW.block ?_
 refine CW.region ?_
 refine a_mv ?_
 refine a_mv ?_
 refine a_mv ?_
 refine a_nilc ?_
 refine a_far ?_
 refine a_ldr ?_
 refine a_mv ?_
 obtain ⟨v26,hv26,h⟩:=bd h
 refine a_ixr ?_
 refine a_ldr ?_
 refine a_mv ?_
 obtain ⟨v27,hv27,h⟩:=bd h
 refine a_ixr ?_
 refine a_ldr ?_
 obtain ⟨r28,hr28,h⟩:=bd h
 refine oP (x_callM (xs:=[.tmp 68,.tmp 69,.tmp 79]) 1 69 1 [] Tryz.call157 (H_impl_timesVector _ _ _ _ hr28) rfl rfl rfl (clean_of (cleanL (Enc.clean (f:=I)))) (clean_of (cleanL (Enc.clean (f:=I)))) (Enc.rofree (f:=L 1 I) _) (Enc.rofree (f:=L 1 I) _) ⟨(agM _ rfl rfl rfl),⟨(agLd rfl (clean_of (cleanL (Enc.clean (f:=I)))) (Enc.rofree (f:=L 1 I) _)),⟨(agM _ rfl rfl rfl),trivial⟩⟩⟩ resN rfl rfl rfl rfl) ?_
 refine RW.nil ?_
 refine nB ?_
 refine nA ?_
 refine CW.region ?_
 obtain ⟨v29,hv29,h⟩:=bd h
 refine a_add ?_
 refine a_mv ?_
 refine RW.nil ?_
 exact eN h
 refine CW.exit ?_
 refine xA ?_
 exact eX h
 obtain ⟨rfl,hg⟩:=hq
 refine xB ?_
 refine nB ?_
 refine nA ?_
 refine CW.ghost hg ?_
 refine CW.region ?_
 obtain ⟨v31,hv31,h⟩:=bd h
 refine a_add ?_
 refine a_mv ?_
 refine RW.nil ?_
 exact eN h
 refine CW.exit ?_
 refine xA ?_
 exact eX h
 obtain ⟨rfl,hg⟩:=hq
 refine xB ?_
 obtain rfl:=sI h
 exact rTg hg rT
theorem tb_impl_timesVector {g_impl_timesGenerator:SPr → (List Int) → Int → Option (List Int)} (H_impl_timesGenerator:∀ (x0:SPr) (x1:List Int) (x2:Int) r,g_impl_timesGenerator x0 x1 x2 = some r → FnC Tryz.prog 161 [T.ro ((Pt eSPr) x0),L 1 I x1,I x2] [] [(1,lV r)]) (x0:SPr) (x1:List Int) (x2:List Int) (r:(List Int)) (h:b_impl_timesVector g_impl_timesGenerator x0 x1 x2 = some r):FnC Tryz.prog 157 [T.ro ((Pt eSPr) x0),L 1 I x1,T.ro (lV x2)] [] [(1,lV r)]:=by
 refine fB Tryz.func157 (fun St W w0 v => ?_)
 refine sR ?_
 refine a_mv ?_
 refine a_lenr ?_
 refine a_mv ?_
 refine rN ?_
 refine CW.block ?_
 obtain ⟨r6,hr6,h⟩:=bd h
 refine CW.lp (s:=(x1,0)) (l2_impl_timesVector g_impl_timesGenerator x0 x2) (fun s5:(List Int) × Int => envL [(0,T.ro ((Pt eSPr) x0)),(1,L 1 I s5.1),(8,T.ro (lV x2)),(9,I (x2.length:Int)),(10,I s5.2)]) (fun (r6:(List Int)) e E => e = .exit 0 ∧ Ghost ⟨St,W,w0,Tryz.f157.ntmps⟩ E (envL [(1,L 1 I r6)])) (.has ⟨rfl,rfl,rfl,rfl,rfl,trivial⟩) (fun s5 x h => ?_) hr6 (fun e E hq => ?_)
 refine sR ?_
 refine a_lss ?_
 refine rN ?_
 refine CW.seq ?_
 refine cn h (fun hc h => ?_) (fun hc h => ?_)
 refine CW.skip ?_
 refine nA ?_
 refine CW.seq ?_
 refine CW.block ?_
 refine sR ?_
 refine a_mv ?_
 obtain ⟨v1,hv1,h⟩:=bd h
 refine a_ixr ?_
 refine a_ldr ?_
 refine a_as ?_
 refine a_as ?_
 refine rN ?_
 refine sR ?_
 refine a_mv ?_
 refine a_mv ?_
 refine rN ?_
 refine CW.block ?_
 obtain ⟨r4,hr4,h⟩:=bd h
 refine CW.lp (s:=(s5.1,0)) (l1_impl_timesVector g_impl_timesGenerator x0 s5 v1) (fun s6:(List Int) × Int => envL [(0,T.ro ((Pt eSPr) x0)),(1,L 1 I s6.1),(6,I s5.2),(8,T.ro (lV x2)),(9,I (x2.length:Int)),(10,I s5.2),(15,I v1),(16,I s6.2)]) (fun (r4:(List Int)) e E => e = .exit 2 ∧ Ghost ⟨St,W,w0,Tryz.f157.ntmps⟩ E (envL [(0,T.ro ((Pt eSPr) x0)),(1,L 1 I r4),(8,T.ro (lV x2)),(9,I (x2.length:Int)),(10,I s5.2)])) (.has ⟨rfl,rfl,rfl,rfl,rfl,rfl,rfl,rfl,trivial⟩) (fun s6 x h => ?_) hr4 (fun e E hq => ?_)
 refine sR ?_
 refine a_lss ?_
 refine rN ?_
 refine CW.seq ?_
 refine cn h (fun hc h => ?_) (fun hc h => ?_)
 refine CW.skip ?_
 refine nA ?_
 refine CW.seq ?_
 refine CW.block ?_
 refine CW.region ?_
 refine a_mv ?_
 refine a_mv ?_
 refine a_mv ?_
 obtain ⟨r2,hr2,h⟩:=bd h
 refine oP (x_callM (xs:=[.tmp 18,.tmp 19,.tmp 20]) 1 19 1 [] Tryz.call161 (H_impl_timesGenerator _ _ _ _ hr2) rfl rfl rfl (clean_of (cleanL (Enc.clean (f:=I)))) (clean_of (cleanL (Enc.clean (f:=I)))) (Enc.rofree (f:=L 1 I) _) (Enc.rofree (f:=L 1 I) _) ⟨(agM _ rfl rfl rfl),⟨(agLd rfl (clean_of (cleanL (Enc.clean (f:=I)))) (Enc.rofree (f:=L 1 I) _)),⟨(agM _ rfl rfl rfl),trivial⟩⟩⟩ resN rfl rfl rfl rfl) ?_
 refine RW.nil ?_
 refine nB ?_
 refine nA ?_
 refine CW.region ?_
 obtain ⟨v3,hv3,h⟩:=bd h
 refine a_add ?_
 refine a_mv ?_
 refine RW.nil ?_
 exact eN h
 refine CW.exit ?_
 refine xA ?_
 exact eX h
 obtain ⟨rfl,hg⟩:=hq
 refine xB ?_
 refine nB ?_
 refine nA ?_
 refine CW.ghost hg ?_
 refine CW.region ?_
 obtain ⟨v5,hv5,h⟩:=bd h
 refine a_add ?_
 refine a_mv ?_
 refine RW.nil ?_
 exact eN h
 refine CW.exit ?_
 refine xA ?_
 exact eX h
 obtain ⟨rfl,hg⟩:=hq
 refine xB ?_
 obtain rfl:=sI h
 exact rTg hg rT
theorem tN_impl_timesGenerator:∀ n,(∀ (x0:SPr) (x1:List Int) (x2:Int) r,fN_impl_timesGenerator n x0 x1 x2 = some r → FnC Tryz.prog 161 [T.ro ((Pt eSPr) x0),L 1 I x1,I x2] [] [(1,lV r)]) ∧ (∀ (x0:SPr) (x1:List Int) (x2:List Int) r,fN_impl_timesVector n x0 x1 x2 = some r → FnC Tryz.prog 157 [T.ro ((Pt eSPr) x0),L 1 I x1,T.ro (lV x2)] [] [(1,lV r)]):=by
  intro n
  induction n with
  | zero => exact ⟨(fun _ _ _ r h => by simp [fN_impl_timesGenerator] at h),(fun _ _ _ r h => by simp [fN_impl_timesVector] at h)⟩
  | succ n ih => exact ⟨(fun x0 x1 x2 r h => tb_impl_timesGenerator ih.2 x0 x1 x2 r (by simpa [fN_impl_timesGenerator] using h)),(fun x0 x1 x2 r h => tb_impl_timesVector ih.1 x0 x1 x2 r (by simpa [fN_impl_timesVector] using h))⟩
theorem t_impl_timesGenerator (x0:SPr) (x1:List Int) (x2:Int) (r:(List Int)) (h:f_impl_timesGenerator x0 x1 x2 = some r):FnC Tryz.prog 161 [T.ro ((Pt eSPr) x0),L 1 I x1,I x2] [] [(1,lV r)]:=by
 obtain ⟨n,hn⟩:=fuelO_some h
 exact (tN_impl_timesGenerator n).1 x0 x1 x2 r hn
theorem t_impl_timesVector (x0:SPr) (x1:List Int) (x2:List Int) (r:(List Int)) (h:f_impl_timesVector x0 x1 x2 = some r):FnC Tryz.prog 157 [T.ro ((Pt eSPr) x0),L 1 I x1,T.ro (lV x2)] [] [(1,lV r)]:=by
 obtain ⟨n,hn⟩:=fuelO_some h
 exact (tN_impl_timesGenerator n).2 x0 x1 x2 r hn
end Go.Wk

namespace Go.Wk
open Go Go.Proofs Go.Ab
set_option maxRecDepth 100000
theorem t_impl_power (x0:SPr) (x1:List Int) (x2:Int) (r:(List Int)) (h:f_impl_power x0 x1 x2 = some r):FnC Tryz.prog 143 [T.ro ((Pt eSPr) x0),T.ro (lV x1),I x2] [lV r] []:=by
 refine fB Tryz.func143 (fun St W w0 v => ?_)
 refine sR ?_
 refine oP (x_nil 1 rfl) ?_
 refine rN ?_
 refine sR ?_
 refine a_mv ?_
 refine a_lenr ?_
 obtain ⟨m1,hm1,h⟩:=bd h
 refine oP (x_makeL (f:=I) (z:=0) elt_22 (rfl) hm1 rfl rfl rfl) ?_
 refine a_as ?_
 refine RW.ghost (Ghost.tr 7 10 _ rfl rfl (clean_of (cleanL (Enc.clean (f:=I)))) rfl) ?_
 refine rN ?_
 refine CW.seq ?_
 refine sR ?_
 refine a_mv ?_
 refine a_mv ?_
 refine rN ?_
 refine CW.block ?_
 obtain ⟨r4,hr4,h⟩:=bd h
 refine CW.lp (s:=(List.replicate m1 (0:Int),0)) (l1_impl_power x0 x1 x2) (fun s1:(List Int) × Int => envL [(0,T.ro ((Pt eSPr) x0)),(1,T.ro (lV x1)),(7,L 1 I s1.1),(11,I x2),(12,I s1.2)]) (fun (r4:(List Int)) e E => e = .exit 0 ∧ Ghost ⟨St,W,w0,Tryz.f143.ntmps⟩ E (envL [(7,L 1 I r4)])) (.has ⟨rfl,rfl,rfl,rfl,rfl,trivial⟩) (fun s1 x h => ?_) hr4 (fun e E hq => ?_)
 refine sR ?_
 refine a_lss ?_
 refine rN ?_
 refine CW.seq ?_
 refine cn h (fun hc h => ?_) (fun hc h => ?_)
 refine CW.skip ?_
 refine nA ?_
 refine CW.seq ?_
 refine CW.block ?_
 refine CW.region ?_
 refine a_mv ?_
 refine a_mv ?_
 refine a_mv ?_
 obtain ⟨r2,hr2,h⟩:=bd h
 refine oP (x_callM (xs:=[.tmp 14,.tmp 15,.tmp 16]) 1 15 7 [] Tryz.call157 (t_impl_timesVector _ _ _ _ hr2) rfl rfl rfl (clean_of (cleanL (Enc.clean (f:=I)))) (clean_of (cleanL (Enc.clean (f:=I)))) (Enc.rofree (f:=L 1 I) _) (Enc.rofree (f:=L 1 I) _) ⟨(agM _ rfl rfl rfl),⟨(agLd rfl (clean_of (cleanL (Enc.clean (f:=I)))) (Enc.rofree (f:=L 1 I) _)),⟨(agM _ rfl rfl rfl),trivial⟩⟩⟩ resN rfl rfl rfl rfl) ?_
 refine RW.nil ?_
 refine nB ?_
 refine nA ?_
 refine CW.region ?_
 obtain ⟨v3,hv3,h⟩:=bd h
 refine a_add ?_
 refine a_mv ?_
 refine RW.nil ?_
 exact eN h
 refine CW.exit ?_
 refine xA ?_
 exact eX h
 obtain ⟨rfl,hg⟩:=hq
 refine xB ?_
 refine nA ?_
 refine CW.ghost hg ?_
 refine sR ?_
 refine a_mv ?_
 refine a_as ?_
 refine RW.ghost (Ghost.tr 6 7 _ rfl rfl (clean_of (cleanL (Enc.clean (f:=I)))) rfl) ?_
 refine rN ?_
 refine CW.ret ?_
 obtain rfl:=sI h
 exact rT
theorem t_impl_imageBy (x0:SPr) (x1:Int) (x2:List Int) (r:(List Int)) (h:f_impl_imageBy x0 x1 x2 = some r):FnC Tryz.prog 144 [T.ro ((Pt eSPr) x0),I x1,T.ro (lV x2)] [lV r] []:=by
 refine fB Tryz.func144 (fun St W w0 v => ?_)
 refine sR ?_
 refine oP (x_nil 1 rfl) ?_
 refine rN ?_
 refine sR ?_
 refine a_mv ?_
 refine a_lenr ?_
 obtain ⟨m1,hm1,h⟩:=bd h
 refine oP (x_makeL (f:=I) (z:=0) elt_22 (rfl) hm1 rfl rfl rfl) ?_
 refine a_as ?_
 refine RW.ghost (Ghost.tr 7 12 _ rfl rfl (clean_of (cleanL (Enc.clean (f:=I)))) rfl) ?_
 refine rN ?_
 refine CW.seq ?_
 refine sR ?_
 refine a_mv ?_
 refine a_nilc ?_
 refine a_far ?_
 refine a_ldr ?_
 refine a_mv ?_
 obtain ⟨v2,hv2,h⟩:=bd h
 refine a_ixr ?_
 refine a_ldr ?_
 refine a_lenr ?_
 refine a_mv ?_
 refine rN ?_
 refine CW.block ?_
 obtain ⟨r11,hr11,h⟩:=bd h
 refine CW.lp (s:=(List.replicate m1 (0:Int),0)) (l2_impl_imageBy x0 x1 x2 v2) (fun s5:(List Int) × Int => envL [(0,T.ro ((Pt eSPr) x0)),(1,I x1),(2,T.ro (lV x2)),(7,L 1 I s5.1),(19,T.ro (lM v2)),(20,I (v2.length:Int)),(21,I s5.2)]) (fun (r11:(List Int)) e E => e = .exit 0 ∧ Ghost ⟨St,W,w0,Tryz.f144.ntmps⟩ E (envL [(7,L 1 I r11)])) (.has ⟨rfl,rfl,rfl,rfl,rfl,rfl,rfl,trivial⟩) (fun s5 x h => ?_) hr11 (fun e E hq => ?_)
 refine sR ?_
 refine a_lss ?_
 refine rN ?_
 refine CW.seq ?_
 refine cn h (fun hc h => ?_) (fun hc h => ?_)
 refine CW.skip ?_
 refine nA ?_
 refine CW.seq ?_
 refine CW.block ?_
 refine sR ?_
 refine a_mv ?_
 obtain ⟨v3,hv3,h⟩:=bd h
 refine a_ixr ?_
 refine a_ldr ?_
 refine a_as ?_
 refine a_as ?_
 refine rN ?_
 refine sR ?_
 refine a_mv ?_
 refine a_mv ?_
 obtain ⟨v4,hv4,h⟩:=bd h
 refine a_add ?_
 refine a_mv ?_
 obtain ⟨v5,hv5,h⟩:=bd h
 refine a_add ?_
 obtain ⟨v6,hv6,h⟩:=bd h
 refine a_ixr ?_
 refine a_ldr ?_
 refine a_mv ?_
 refine rN ?_
 refine CW.block ?_
 obtain ⟨r9,hr9,h⟩:=bd h
 refine CW.lp (s:=(s5.1,0)) (l1_impl_imageBy x0 v3 v6) (fun s6:(List Int) × Int => envL [(0,T.ro ((Pt eSPr) x0)),(1,I x1),(2,T.ro (lV x2)),(7,L 1 I s6.1),(9,T.ro (lV v3)),(19,T.ro (lM v2)),(20,I (v2.length:Int)),(21,I s5.2),(32,I v6),(33,I s6.2)]) (fun (r9:(List Int)) e E => e = .exit 2 ∧ Ghost ⟨St,W,w0,Tryz.f144.ntmps⟩ E (envL [(0,T.ro ((Pt eSPr) x0)),(1,I x1),(2,T.ro (lV x2)),(7,L 1 I r9),(19,T.ro (lM v2)),(20,I (v2.length:Int)),(21,I s5.2)])) (.has ⟨rfl,rfl,rfl,rfl,rfl,rfl,rfl,rfl,rfl,rfl,trivial⟩) (fun s6 x h => ?_) hr9 (fun e E hq => ?_)
 refine sR ?_
 refine a_lss ?_
 refine rN ?_
 refine CW.seq ?_
 refine cn h (fun hc h => ?_) (fun hc h => ?_)
 refine CW.skip ?_
 refine nA ?_
 refine CW.seq ?_
 refine CW.block ?_
 refine CW.region ?_
 refine a_mv ?_
 refine a_mv ?_
 refine a_mv ?_
 obtain ⟨r7,hr7,h⟩:=bd h
 refine oP (x_callM (xs:=[.tmp 35,.tmp 36,.tmp 37]) 1 36 7 [] Tryz.call157 (t_impl_timesVector _ _ _ _ hr7) rfl rfl rfl (clean_of (cleanL (Enc.clean (f:=I)))) (clean_of (cleanL (Enc.clean (f:=I)))) (Enc.rofree (f:=L 1 I) _) (Enc.rofree (f:=L 1 I) _) ⟨(agM _ rfl rfl rfl),⟨(agLd rfl (clean_of (cleanL (Enc.clean (f:=I)))) (Enc.rofree (f:=L 1 I) _)),⟨(agM _ rfl rfl rfl),trivial⟩⟩⟩ resN rfl rfl rfl rfl) ?_
 refine RW.nil ?_
 refine nB ?_
 refine nA ?_
 refine CW.region ?_
 obtain ⟨v8,hv8,h⟩:=bd h
 refine a_add ?_
 refine a_mv ?_
 refine RW.nil ?_
 exact eN h
 refine CW.exit ?_
 refine xA ?_
 exact eX h
 obtain ⟨rfl,hg⟩:=hq
 refine xB ?_
 refine nB ?_
 refine nA ?_
 refine CW.ghost hg ?_
 refine CW.region ?_
 obtain ⟨v10,hv10,h⟩:=bd h
 refine a_add ?_
 refine a_mv ?_
 refine RW.nil ?_
 exact eN h
 refine CW.exit ?_
 refine xA ?_
 exact eX h
 obtain ⟨rfl,hg⟩:=hq
 refine xB ?_
 refine nA ?_
 refine CW.ghost hg ?_
 refine sR ?_
 refine a_mv ?_
 refine a_as ?_
 refine RW.ghost (Ghost.tr 6 7 _ rfl rfl (clean_of (cleanL (Enc.clean (f:=I)))) rfl) ?_
 refine rN ?_
 refine CW.ret ?_
 obtain rfl:=sI h
 exact rT
theorem t_slices_Equal_int64_int64 (x0:List Int) (x1:List Int) (r:Bool) (h:f_slices_Equal_int64_int64 x0 x1 = some r):FnC Tryz.prog 106 [T.ro (lV x0),T.ro (lV x1)] [B r] []:=by
 refine fB Tryz.func106 (fun St W w0 v => ?_)
 refine sR ?_
 refine a_as ?_
 refine rN ?_
 refine CW.seq ?_
 refine sR ?_
 refine a_mv ?_
 refine a_lenr ?_
 refine a_mv ?_
 refine a_lenr ?_
 refine a_neq ?_
 refine rN ?_
 refine cn h (fun hc h => ?_) (fun hc h => ?_)
 refine sR ?_
 refine a_as ?_
 refine rN ?_
 refine CW.ret ?_
 refine rA ?_
 obtain rfl:=sI h
 exact rT
 refine CW.skip ?_
 refine nA ?_
 refine CW.seq ?_
 refine sR ?_
 refine a_mv ?_
 refine a_lenr ?_
 refine a_mv ?_
 refine rN ?_
 refine CW.block ?_
 obtain ⟨r4,hr4,h⟩:=bd h
 refine CW.lp (s:=0) (l1_slices_Equal_int64_int64 x0 x1) (fun s1:Int => envL [(0,T.ro (lV x0)),(1,T.ro (lV x1)),(12,I (x0.length:Int)),(13,I s1)]) (fun (x:Unit ⊕ Bool) e E => match x with | (.inl r4) => e = .exit 0 ∧ Ghost ⟨St,W,w0,Tryz.f106.ntmps⟩ E (envL []) | (.inr r4) => e = .ret ∧ RetG ⟨St,W,w0,Tryz.f106.ntmps⟩ Tryz.prog Tryz.f106.results [T.ro (lV x0),T.ro (lV x1)] [B r4] [] .ret E) (.has ⟨rfl,rfl,rfl,rfl,trivial⟩) (fun s1 x h => ?_) hr4 (fun e E hq => ?_)
 refine sR ?_
 refine a_lss ?_
 refine rN ?_
 refine CW.seq ?_
 refine cn h (fun hc h => ?_) (fun hc h => ?_)
 refine CW.skip ?_
 refine nA ?_
 refine CW.seq ?_
 refine CW.block ?_
 refine sR ?_
 refine a_mv ?_
 refine a_as ?_
 refine rN ?_
 refine CW.seq ?_
 obtain ⟨v1,hv1,h⟩:=bd h
 obtain ⟨v2,hv2,h⟩:=bd h
 refine CW.dk ?_
 refine d_mv [(0,_)] ?_
 refine d_mv [(5,_)] ?_
 refine d_ixr [(16,_),(17,_)] ?_
 refine d_ldr [(18,_)] ?_
 refine d_mv [(1,_)] ?_
 refine d_mv [(5,_)] ?_
 refine d_ixr [(20,_),(21,_)] ?_
 refine d_ldr [(22,_)] ?_
 refine d_neq [(19,_),(23,_)] ?_
 refine dNA mixedP ?_
 refine nA ?_
 refine cn h (fun hc h => ?_) (fun hc h => ?_)
 refine sR ?_
 refine a_as ?_
 refine rN ?_
 refine CW.ret ?_
 refine rB ?_
 refine rA ?_
 exact eX h
 refine CW.skip ?_
 refine nB ?_
 refine nA ?_
 refine CW.region ?_
 obtain ⟨v3,hv3,h⟩:=bd h
 refine a_add ?_
 refine a_mv ?_
 refine RW.nil ?_
 exact eN h
 refine CW.exit ?_
 refine xA ?_
 exact eX h
 rcases r4 with r4 | r4
 obtain ⟨rfl,hg⟩:=hq
 refine xB ?_
 refine nA ?_
 refine CW.ghost hg ?_
 refine sR ?_
 refine a_as ?_
 refine rN ?_
 refine CW.ret ?_
 obtain rfl:=sI h
 exact rT
 obtain ⟨rfl,hq⟩:=hq
 refine rB ?_
 refine rA ?_
 obtain rfl:=sI h
 exact hq
theorem t_impl_invert (x0:SPr) (x1:List Int) (r:(List Int)) (h:f_impl_invert x0 x1 = some r):FnC Tryz.prog 159 [T.ro ((Pt eSPr) x0),T.ro (lV x1)] [lV r] []:=by
 refine fB Tryz.func159 (fun St W w0 v => ?_)
 refine sR ?_
 refine oP (x_nil 1 rfl) ?_
 refine rN ?_
 refine sR ?_
 refine a_mv ?_
 obtain ⟨r1,hr1,h⟩:=bd h
 refine cA Tryz.call109 (t_slices_Clone_int64_int64 _ _ hr1) ?_
 refine a_as ?_
 refine RW.ghost (Ghost.tr 5 9 _ rfl rfl (clean_of (cleanL (Enc.clean (f:=I)))) rfl) ?_
 refine rN ?_
 refine sR ?_
 refine a_mv ?_
 refine a_lenr ?_
 obtain ⟨m2,hm2,h⟩:=bd h
 refine oP (x_makeL (f:=I) (z:=0) elt_22 (rfl) hm2 rfl rfl rfl) ?_
 refine a_as ?_
 refine RW.ghost (Ghost.tr 6 12 _ rfl rfl (clean_of (cleanL (Enc.clean (f:=I)))) rfl) ?_
 refine rN ?_
 refine CW.seq ?_
 refine sR ?_
 refine a_mv ?_
 refine a_len ?_
 refine a_mv ?_
 refine rN ?_
 refine CW.block ?_
 obtain ⟨r8,hr8,h⟩:=bd h
 refine CW.lp (s:=(r1,List.replicate m2 (0:Int),0)) (l2_impl_invert x0 r1) (fun s5:(List Int) × (List Int) × Int => envL [(0,T.ro ((Pt eSPr) x0)),(5,L 1 I s5.1),(6,L 1 I s5.2.1),(14,I (r1.length:Int)),(15,I s5.2.2)]) (fun (r8:(List Int)) e E => e = .exit 0 ∧ Ghost ⟨St,W,w0,Tryz.f159.ntmps⟩ E (envL [(6,L 1 I r8)])) (.has ⟨rfl,rfl,rfl,rfl,rfl,trivial⟩) (fun s5 x h => ?_) hr8 (fun e E hq => ?_)
 refine sR ?_
 refine a_lss ?_
 refine rN ?_
 refine CW.seq ?_
 refine cn h (fun hc h => ?_) (fun hc h => ?_)
 refine CW.skip ?_
 refine nA ?_
 refine CW.seq ?_
 refine CW.block ?_
 refine sR ?_
 refine a_mv ?_
 refine a_as ?_
 refine rN ?_
 refine CW.block ?_
 obtain ⟨r6,hr6,h⟩:=bd h
 refine CW.lp (s:=(s5.1,s5.2.1)) (l1_impl_invert x0 s5) (fun s6:(List Int) × (List Int) => envL [(0,T.ro ((Pt eSPr) x0)),(5,L 1 I s6.1),(6,L 1 I s6.2),(7,I s5.2.2),(14,I (r1.length:Int)),(15,I s5.2.2)]) (fun (r6:((List Int) × (List Int))) e E => e = .exit 2 ∧ Ghost ⟨St,W,w0,Tryz.f159.ntmps⟩ E (envL [(0,T.ro ((Pt eSPr) x0)),(5,L 1 I r6.1),(6,L 1 I r6.2),(14,I (r1.length:Int)),(15,I s5.2.2)])) (.has ⟨rfl,rfl,rfl,rfl,rfl,rfl,trivial⟩) (fun s6 x h => ?_) hr6 (fun e E hq => ?_)
 refine CW.seq ?_
 refine sR ?_
 refine a_mv ?_
 refine a_mv ?_
 obtain ⟨v3,hv3,h⟩:=bd h
 refine a_ix ?_
 refine a_ld ?_
 refine a_neq ?_
 refine rN ?_
 refine cn h (fun hc h => ?_) (fun hc h => ?_)
 refine CW.skip ?_
 refine nA ?_
 refine CW.block ?_
 refine sR ?_
 refine a_mv ?_
 refine a_mv ?_
 refine a_mv ?_
 obtain ⟨r4,hr4,h⟩:=bd h
 refine oP (x_callM (xs:=[.tmp 23,.tmp 24,.tmp 25]) 1 24 5 [] Tryz.call161 (t_impl_timesGenerator _ _ _ _ hr4) rfl rfl rfl (clean_of (cleanL (Enc.clean (f:=I)))) (clean_of (cleanL (Enc.clean (f:=I)))) (Enc.rofree (f:=L 1 I) _) (Enc.rofree (f:=L 1 I) _) ⟨(agM _ rfl rfl rfl),⟨(agLd rfl (clean_of (cleanL (Enc.clean (f:=I)))) (Enc.rofree (f:=L 1 I) _)),⟨(agM _ rfl rfl rfl),trivial⟩⟩⟩ resN rfl rfl rfl rfl) ?_
 refine rN ?_
 refine CW.region ?_
 refine a_mv ?_
 refine a_mv ?_
 refine a_mv ?_
 obtain ⟨r5,hr5,h⟩:=bd h
 refine oP (x_callM (xs:=[.tmp 27,.tmp 28,.tmp 29]) 1 28 6 [] Tryz.call161 (t_impl_timesGenerator _ _ _ _ hr5) rfl rfl rfl (clean_of (cleanL (Enc.clean (f:=I)))) (clean_of (cleanL (Enc.clean (f:=I)))) (Enc.rofree (f:=L 1 I) _) (Enc.rofree (f:=L 1 I) _) ⟨(agM _ rfl rfl rfl),⟨(agLd rfl (clean_of (cleanL (Enc.clean (f:=I)))) (Enc.rofree (f:=L 1 I) _)),⟨(agM _ rfl rfl rfl),trivial⟩⟩⟩ resN rfl rfl rfl rfl) ?_
 refine RW.nil ?_
 refine nB ?_
 exact eN h
 refine CW.exit ?_
 refine xA ?_
 exact eX h
 obtain ⟨rfl,hg⟩:=hq
 refine xB ?_
 refine nB ?_
 refine nA ?_
 refine CW.ghost hg ?_
 refine CW.region ?_
 obtain ⟨v7,hv7,h⟩:=bd h
 refine a_add ?_
 refine a_mv ?_
 refine RW.nil ?_
 exact eN h
 refine CW.exit ?_
 refine xA ?_
 exact eX h
 obtain ⟨rfl,hg⟩:=hq
 refine xB ?_
 refine nA ?_
 refine CW.ghost hg ?_
 refine sR ?_
 refine a_mv ?_
 refine a_as ?_
 refine RW.ghost (Ghost.tr 4 6 _ rfl rfl (clean_of (cleanL (Enc.clean (f:=I)))) rfl) ?_
 refine rN ?_
 refine CW.ret ?_
 obtain rfl:=sI h
 exact rT
theorem t_impl_multiply (x0:SPr) (x1:List Int) (x2:List Int) (r:(List Int)) (h:f_impl_multiply x0 x1 x2 = some r):FnC Tryz.prog 158 [T.ro ((Pt eSPr) x0),T.ro (lV x1),T.ro (lV x2)] [lV r] []:=by
 refine fB Tryz.func158 (fun St W w0 v => ?_)
 refine sR ?_
 refine oP (x_nil 1 rfl) ?_
 refine rN ?_
 refine sR ?_
 refine a_mv ?_
 obtain ⟨r1,hr1,h⟩:=bd h
 refine cA Tryz.call109 (t_slices_Clone_int64_int64 _ _ hr1) ?_
 refine a_as ?_
 refine RW.ghost (Ghost.tr 7 9 _ rfl rfl (clean_of (cleanL (Enc.clean (f:=I)))) rfl) ?_
 refine rN ?_
 refine sR ?_
 refine a_mv ?_
 refine a_mv ?_
 refine a_mv ?_
 obtain ⟨r2,hr2,h⟩:=bd h
 refine oP (x_callM (xs:=[.tmp 10,.tmp 11,.tmp 12]) 1 11 7 [] Tryz.call157 (t_impl_timesVector _ _ _ _ hr2) rfl rfl rfl (clean_of (cleanL (Enc.clean (f:=I)))) (clean_of (cleanL (Enc.clean (f:=I)))) (Enc.rofree (f:=L 1 I) _) (Enc.rofree (f:=L 1 I) _) ⟨(agM _ rfl rfl rfl),⟨(agLd rfl (clean_of (cleanL (Enc.clean (f:=I)))) (Enc.rofree (f:=L 1 I) _)),⟨(agM _ rfl rfl rfl),trivial⟩⟩⟩ resN rfl rfl rfl rfl) ?_
 refine rN ?_
 refine sR ?_
 refine a_mv ?_
 refine a_as ?_
 refine RW.ghost (Ghost.tr 6 7 _ rfl rfl (clean_of (cleanL (Enc.clean (f:=I)))) rfl) ?_
 refine rN ?_
 refine CW.ret ?_
 obtain rfl:=sI h
 exact rT
theorem t_impl_conjugate (x0:SPr) (x1:List Int) (x2:List Int) (r:(List Int)) (h:f_impl_conjugate x0 x1 x2 = some r):FnC Tryz.prog 145 [T.ro ((Pt eSPr) x0),T.ro (lV x1),T.ro (lV x2)] [lV r] []:=by
 refine fB Tryz.func145 (fun St W w0 v => ?_)
 refine sR ?_
 refine oP (x_nil 1 rfl) ?_
 refine rN ?_
 refine sR ?_
 refine a_mv ?_
 refine a_mv ?_
 refine a_mv ?_
 obtain ⟨r1,hr1,h⟩:=bd h
 refine cA Tryz.call159 (t_impl_invert _ _ _ hr1) ?_
 refine a_mv ?_
 refine a_mv ?_
 refine a_mv ?_
 obtain ⟨r2,hr2,h⟩:=bd h
 refine cA Tryz.call158 (t_impl_multiply _ _ _ _ hr2) ?_
 obtain ⟨r3,hr3,h⟩:=bd h
 refine cA Tryz.call158 (t_impl_multiply _ _ _ _ hr3) ?_
 refine a_as ?_
 refine RW.ghost (Ghost.tr 6 15 _ rfl rfl (clean_of (cleanL (Enc.clean (f:=I)))) rfl) ?_
 refine rN ?_
 refine CW.ret ?_
 obtain rfl:=sI h
 exact rT
theorem t_impl_unitVector (x0:Int) (x1:Int) (r:(List Int)) (h:f_impl_unitVector x0 x1 = some r):FnC Tryz.prog 70 [I x0,I x1] [lV r] []:=by
 refine fB Tryz.func70 (fun St W w0 v => ?_)
 refine sR ?_
 refine oP (x_nil 1 rfl) ?_
 refine rN ?_
 refine sR ?_
 refine a_mv ?_
 obtain ⟨m1,hm1,h⟩:=bd h
 refine oP (x_makeL (f:=I) (z:=0) elt_22 (rfl) hm1 rfl rfl rfl) ?_
 refine a_as ?_
 refine RW.ghost (Ghost.tr 5 7 _ rfl rfl (clean_of (cleanL (Enc.clean (f:=I)))) rfl) ?_
 refine rN ?_
 refine sR ?_
 refine a_mv ?_
 refine a_mv ?_
 obtain ⟨v2,hv2,h⟩:=bd h
 refine a_ix ?_
 refine oP (x_stcT inf_2 rfl rfl rfl (getc hv2 rfl) (setc hv2 rfl) rfl rfl) ?_
 refine rN ?_
 refine sR ?_
 refine a_mv ?_
 refine a_as ?_
 refine RW.ghost (Ghost.tr 4 5 _ rfl rfl (clean_of (cleanL (Enc.clean (f:=I)))) rfl) ?_
 refine rN ?_
 refine CW.ret ?_
 obtain rfl:=sI h
 exact rT
theorem t_impl_levelFault (x0:SPr) (x1:Int) (r:SFault) (h:f_impl_levelFault x0 x1 = some r):FnC Tryz.prog 137 [T.ro ((Pt eSPr) x0),I x1] [eSFault r] []:=by
 refine fB Tryz.func137 (fun St W w0 v => ?_)
 refine sR ?_
 refine a_alloc ?_
 refine rN ?_
 refine sR ?_
 refine a_mv ?_
 refine a_nilc ?_
 refine a_far ?_
 refine a_ldr ?_
 refine a_lenr ?_
 refine a_as ?_
 refine rN ?_
 refine sR ?_
 refine a_mv ?_
 refine a_as ?_
 refine rN ?_
 refine CW.seq ?_
 refine sR ?_
 refine a_mv ?_
 obtain ⟨v1,hv1,h⟩:=bd h
 refine a_add ?_
 refine a_as ?_
 refine rN ?_
 refine CW.block ?_
 obtain ⟨r12,hr12,h⟩:=bd h
 refine CW.lp (s:=v1) (l1_impl_levelFault x0 x1) (fun s1:Int => envL [(0,T.ro ((Pt eSPr) x0)),(1,I x1),(4,T.ptr (T.agg [I 0,I 0,I 0,I 0])),(5,I (x0.Orders.length:Int)),(6,I x1),(7,I s1)]) (fun (x:Unit ⊕ SFault) e E => match x with | (.inl r12) => e = .exit 0 ∧ Ghost ⟨St,W,w0,Tryz.f137.ntmps⟩ E (envL [(0,T.ro ((Pt eSPr) x0)),(1,I x1),(4,T.ptr (T.agg [I 0,I 0,I 0,I 0])),(5,I (x0.Orders.length:Int)),(6,I x1)]) | (.inr r12) => e = .ret ∧ RetG ⟨St,W,w0,Tryz.f137.ntmps⟩ Tryz.prog Tryz.f137.results [T.ro ((Pt eSPr) x0),I x1] [eSFault r12] [] .ret E) (.has ⟨rfl,rfl,rfl,rfl,rfl,rfl,trivial⟩) (fun s1 x h => ?_) hr12 (fun e E hq => ?_)
 refine CW.seq ?_
 refine sR ?_
 refine a_mv ?_
 refine a_mv ?_
 refine a_lss ?_
 refine rN ?_
 refine cn h (fun hc h => ?_) (fun hc h => ?_)
 refine CW.skip ?_
 refine nA ?_
 refine CW.seq ?_
 refine CW.block ?_
 refine CW.seq ?_
 obtain ⟨v2,hv2,h⟩:=bd h
 obtain ⟨v3,hv3,h⟩:=bd h
 obtain ⟨v4,hv4,h⟩:=bd h
 obtain ⟨v5,hv5,h⟩:=bd h
 obtain ⟨v6,hv6,h⟩:=bd h
 obtain ⟨r7,hr7,h⟩:=bd h
 obtain ⟨v8,hv8,h⟩:=bd h
 obtain ⟨r9,hr9,h⟩:=bd h
 obtain ⟨r10,hr10,h⟩:=bd h
 refine CW.dk ?_
 refine d_mv [(0,_)] ?_
 refine d_mv [(0,_)] ?_
 refine d_nilc [(27,_)] ?_
 refine d_far [(28,_)] ?_
 refine d_ldr [(29,_)] ?_
 refine d_mv [(1,_)] ?_
 refine d_ixr [(30,_),(31,_)] ?_
 refine d_ldr [(32,_)] ?_
 refine d_mv [(7,_)] ?_
 refine d_mv [(1,_)] ?_
 refine d_sub [(34,_),(35,_)] ?_
 refine d_sub [(36,_)] ?_
 refine d_ixr [(33,_),(37,_)] ?_
 refine d_ldr [(38,_)] ?_
 refine d_mv [(0,_)] ?_
 refine d_nilc [(40,_)] ?_
 refine d_far [(41,_)] ?_
 refine d_ldr [(42,_)] ?_
 refine d_mv [(7,_)] ?_
 refine d_ixr [(43,_),(44,_)] ?_
 refine d_ldr [(45,_)] ?_
 refine dC [(26,_),(39,_),(46,_)] Tryz.call143 (t_impl_power _ _ _ _ hr7) ?_
 refine d_mv [(0,_)] ?_
 refine d_mv [(1,_)] ?_
 refine d_mv [(0,_)] ?_
 refine d_nilc [(50,_)] ?_
 refine d_far [(51,_)] ?_
 refine d_ldr [(52,_)] ?_
 refine d_mv [(7,_)] ?_
 refine d_ixr [(53,_),(54,_)] ?_
 refine d_ldr [(55,_)] ?_
 refine dC [(48,_),(49,_),(56,_)] Tryz.call144 (t_impl_imageBy _ _ _ _ hr9) ?_
 refine dC [(47,_),(57,_)] Tryz.call106 (t_slices_Equal_int64_int64 _ _ _ hr10) ?_
 refine d_not [(58,_)] ?_
 refine dN ([] :: [] :: [1] :: [1,2] :: [1,2,3] :: [] :: [1,2,3,4,5] :: [1,2,3,4,5,6] :: [] :: [] :: [8,9] :: [8,9,10] :: [1,2,3,4,5,6,7,8,9,10,11] :: [1,2,3,4,5,6,7,8,9,10,11,12] :: [] :: [14] :: [14,15] :: [14,15,16] :: [] :: [14,15,16,17,18] :: [14,15,16,17,18,19] :: [0,1,2,3,4,5,6,7,8,9,10,11,12,13,14,15,16,17,18,19,20] :: [] :: [] :: [] :: [24] :: [24,25] :: [24,25,26] :: [] :: [24,25,26,27,28] :: [24,25,26,27,28,29] :: [0,1,2,3,4,5,6,7,8,9,10,11,12,13,14,15,16,17,18,19,20,21,22,23,24,25,26,27,28,29,30] :: [0,1,2,3,4,5,6,7,8,9,10,11,12,13,14,15,16,17,18,19,20,21,22,23,24,25,26,27,28,29,30,31] :: [0,1,2,3,4,5,6,7,8,9,10,11,12,13,14,15,16,17,18,19,20,21,22,23,24,25,26,27,28,29,30,31,32] :: []) mixedP ?_
 refine nA ?_
 refine cn h (fun hc h => ?_) (fun hc h => ?_)
 refine CW.seq ?_
 refine CW.to [(4,T.ptr (T.agg [I 0,I 0,I 0,I 0])),(6,I x1),(7,I s1)] ⟨rfl,rfl,rfl,trivial⟩ ?_
 refine CW.region ?_
 refine a_mv ?_
 refine a_mv ?_
 refine oP (x_build bld_129 [(0,.const _),(1,.tmp 60),(2,.tmp 61),(3,.const _)] [(0,.zero (I 1)),(1,.slot 60 (I x1)),(2,.slot 61 (I s1)),(3,.zero (I 0))] [.zero (I 1),.slot 60 (I x1),.slot 61 (I s1),.zero (I 0)] (pkZ rfl (pkS rfl (clean_of (Enc.clean (f:=I) _)) rfl (pkS rfl (clean_of (Enc.clean (f:=I) _)) rfl (pkZ rfl pkN)))) (bqC (.zero _ _ rfl) (bqC (.slot _ _) (bqC (.slot _ _) (bqC (.zero _ _ rfl) bqN)))) rfl) ?_
 refine oP (x_stp inf_129 rfl (locB rfl rfl) rfl rfl rfl rfl (clean_of (cleanA ⟨(Enc.clean (f:=I) _),(Enc.clean (f:=I) _),(Enc.clean (f:=I) _),(Enc.clean (f:=I) _),trivial⟩)) rfl) ?_
 refine rN ?_
 refine CW.ret ?_
 refine rB ?_
 refine rA ?_
 exact eX h ⟨rfl,⟨_,Ghost.refl,⟨.inl rfl,[(4,[0],T.agg [I 1,I x1,I s1,I 0])],⟨⟨rfl,rfl,rfl,(var_129.h _ rfl rfl).h⟩,trivial⟩,rfl,(by simp),(by simp),trivial⟩⟩⟩
 refine CW.skip ?_
 refine nB ?_
 refine nA ?_
 refine CW.to [(0,T.ro ((Pt eSPr) x0)),(1,I x1),(4,T.ptr (T.agg [I 0,I 0,I 0,I 0])),(5,I (x0.Orders.length:Int)),(6,I x1),(7,I s1)] ⟨rfl,rfl,rfl,rfl,rfl,rfl,trivial⟩ ?_
 refine CW.region ?_
 refine a_mv ?_
 obtain ⟨v11,hv11,h⟩:=bd h
 refine a_add ?_
 refine a_as ?_
 refine RW.nil ?_
 exact eN h
 refine CW.exit ?_
 refine xA ?_
 exact eX h
 rcases r12 with r12 | r12
 obtain ⟨rfl,hg⟩:=hq
 refine xB ?_
 refine nA ?_
 refine CW.ghost hg ?_
 refine CW.seq ?_
 refine sR ?_
 refine a_mv ?_
 obtain ⟨v13,hv13,h⟩:=bd h
 refine a_add ?_
 refine a_as ?_
 refine rN ?_
 refine CW.block ?_
 obtain ⟨r33,hr33,h⟩:=bd h
 refine CW.lp (s:=v13) (l3_impl_levelFault x0 x1) (fun s7:Int => envL [(0,T.ro ((Pt eSPr) x0)),(1,I x1),(4,T.ptr (T.agg [I 0,I 0,I 0,I 0])),(5,I (x0.Orders.length:Int)),(6,I x1),(8,I s7)]) (fun (x:Unit ⊕ SFault) e E => match x with | (.inl r33) => e = .exit 2 ∧ Ghost ⟨St,W,w0,Tryz.f137.ntmps⟩ E (envL [(0,T.ro ((Pt eSPr) x0)),(1,I x1),(4,T.ptr (T.agg [I 0,I 0,I 0,I 0])),(5,I (x0.Orders.length:Int)),(6,I x1)]) | (.inr r33) => e = .ret ∧ RetG ⟨St,W,w0,Tryz.f137.ntmps⟩ Tryz.prog Tryz.f137.results [T.ro ((Pt eSPr) x0),I x1] [eSFault r33] [] .ret E) (.has ⟨rfl,rfl,rfl,rfl,rfl,rfl,trivial⟩) (fun s7 x h => ?_) hr33 (fun e E hq => ?_)
 refine CW.seq ?_
 refine sR ?_
 refine a_mv ?_
 refine a_mv ?_
 refine a_lss ?_
 refine rN ?_
 refine cn h (fun hc h => ?_) (fun hc h => ?_)
 refine CW.skip ?_
 refine nA ?_
 refine CW.seq ?_
 refine CW.block ?_
 refine sR ?_
 refine a_mv ?_
 obtain ⟨v14,hv14,h⟩:=bd h
 refine a_add ?_
 refine a_as ?_
 refine rN ?_
 refine CW.block ?_
 obtain ⟨r31,hr31,h⟩:=bd h
 refine CW.lp (s:=v14) (l2_impl_levelFault x0 x1 s7) (fun s8:Int => envL [(0,T.ro ((Pt eSPr) x0)),(1,I x1),(4,T.ptr (T.agg [I 0,I 0,I 0,I 0])),(5,I (x0.Orders.length:Int)),(6,I x1),(8,I s7),(9,I s8)]) (fun (x:Unit ⊕ SFault) e E => match x with | (.inl r31) => e = .exit 4 ∧ Ghost ⟨St,W,w0,Tryz.f137.ntmps⟩ E (envL [(0,T.ro ((Pt eSPr) x0)),(1,I x1),(4,T.ptr (T.agg [I 0,I 0,I 0,I 0])),(5,I (x0.Orders.length:Int)),(6,I x1),(8,I s7)]) | (.inr r31) => e = .ret ∧ RetG ⟨St,W,w0,Tryz.f137.ntmps⟩ Tryz.prog Tryz.f137.results [T.ro ((Pt eSPr) x0),I x1] [eSFault r31] [] .ret E) (.has ⟨rfl,rfl,rfl,rfl,rfl,rfl,rfl,trivial⟩) (fun s8 x h => ?_) hr31 (fun e E hq => ?_)
 refine CW.seq ?_
 refine sR ?_
 refine a_mv ?_
 refine a_mv ?_
 refine a_lss ?_
 refine rN ?_
 refine cn h (fun hc h => ?_) (fun hc h => ?_)
 refine CW.skip ?_
 refine nA ?_
 refine CW.seq ?_
 refine CW.block ?_
 refine CW.seq ?_
 obtain ⟨v15,hv15,h⟩:=bd h
 obtain ⟨v16,hv16,h⟩:=bd h
 obtain ⟨v17,hv17,h⟩:=bd h
 obtain ⟨v18,hv18,h⟩:=bd h
 obtain ⟨v19,hv19,h⟩:=bd h
 obtain ⟨v20,hv20,h⟩:=bd h
 obtain ⟨v21,hv21,h⟩:=bd h
 obtain ⟨v22,hv22,h⟩:=bd h
 obtain ⟨r23,hr23,h⟩:=bd h
 obtain ⟨v24,hv24,h⟩:=bd h
 obtain ⟨v25,hv25,h⟩:=bd h
 obtain ⟨v26,hv26,h⟩:=bd h
 obtain ⟨v27,hv27,h⟩:=bd h
 obtain ⟨r28,hr28,h⟩:=bd h
 obtain ⟨r29,hr29,h⟩:=bd h
 refine CW.dk ?_
 refine d_mv [(0,_)] ?_
 refine d_mv [(0,_)] ?_
 refine d_nilc [(78,_)] ?_
 refine d_far [(79,_)] ?_
 refine d_ldr [(80,_)] ?_
 refine d_mv [(1,_)] ?_
 refine dG [(81,_),(82,_)] [([(83,some (T.ro ((Pt lM) v15)))],[(83,0)])] ⟨rfl,rfl,trivial⟩ (fun E h => IxOk.opE (x_ixr (f:=lM) row_24 hv15 (locB h.1 rfl) h.2.1 rfl) rfl) ?_
 refine d_ldr [(83,_)] ?_
 refine d_mv [(9,_)] ?_
 refine d_mv [(1,_)] ?_
 refine d_sub [(85,_),(86,_)] ?_
 refine d_sub [(87,_)] ?_
 refine d_ixr [(84,_),(88,_)] ?_
 refine d_ldr [(89,_)] ?_
 refine d_mv [(0,_)] ?_
 refine d_nilc [(91,_)] ?_
 refine d_far [(92,_)] ?_
 refine d_ldr [(93,_)] ?_
 refine d_mv [(1,_)] ?_
 refine dG [(94,_),(95,_)] [([(96,some (T.ro ((Pt lM) v19)))],[(96,0)])] ⟨rfl,rfl,trivial⟩ (fun E h => IxOk.opE (x_ixr (f:=lM) row_24 hv19 (locB h.1 rfl) h.2.1 rfl) rfl) ?_
 refine d_ldr [(96,_)] ?_
 refine d_mv [(8,_)] ?_
 refine d_mv [(1,_)] ?_
 refine d_sub [(98,_),(99,_)] ?_
 refine d_sub [(100,_)] ?_
 refine d_ixr [(97,_),(101,_)] ?_
 refine d_ldr [(102,_)] ?_
 refine dC [(77,_),(90,_),(103,_)] Tryz.call145 (t_impl_conjugate _ _ _ _ hr23) ?_
 refine d_mv [(0,_)] ?_
 refine d_mv [(1,_)] ?_
 refine d_mv [(0,_)] ?_
 refine d_nilc [(107,_)] ?_
 refine d_far [(108,_)] ?_
 refine d_ldr [(109,_)] ?_
 refine d_mv [(8,_)] ?_
 refine d_ixr [(110,_),(111,_)] ?_
 refine d_ldr [(112,_)] ?_
 refine d_mv [(9,_)] ?_
 refine d_mv [(8,_)] ?_
 refine d_sub [(114,_),(115,_)] ?_
 refine d_sub [(116,_)] ?_
 refine d_ixr [(113,_),(117,_)] ?_
 refine d_ldr [(118,_)] ?_
 refine dC [(105,_),(106,_),(119,_)] Tryz.call144 (t_impl_imageBy _ _ _ _ hr28) ?_
 refine dC [(104,_),(120,_)] Tryz.call106 (t_slices_Equal_int64_int64 _ _ _ hr29) ?_
 refine d_not [(121,_)] ?_
 refine dN ([] :: [] :: [1] :: [1,2] :: [1,2,3] :: [] :: [1,2,3,4,5] :: [1,2,3,4,5,6] :: [] :: [] :: [8,9] :: [8,9,10] :: [1,2,3,4,5,6,7,8,9,10,11] :: [1,2,3,4,5,6,7,8,9,10,11,12] :: [] :: [14] :: [14,15] :: [14,15,16] :: [] :: [14,15,16,17,18] :: [14,15,16,17,18,19] :: [] :: [] :: [21,22] :: [21,22,23] :: [14,15,16,17,18,19,20,21,22,23,24] :: [14,15,16,17,18,19,20,21,22,23,24,25] :: [0,1,2,3,4,5,6,7,8,9,10,11,12,13,14,15,16,17,18,19,20,21,22,23,24,25,26] :: [] :: [] :: [] :: [30] :: [30,31] :: [30,31,32] :: [] :: [30,31,32,33,34] :: [30,31,32,33,34,35] :: [] :: [] :: [37,38] :: [37,38,39] :: [30,31,32,33,34,35,36,37,38,39,40] :: [30,31,32,33,34,35,36,37,38,39,40,41] :: [0,1,2,3,4,5,6,7,8,9,10,11,12,13,14,15,16,17,18,19,20,21,22,23,24,25,26,27,28,29,30,31,32,33,34,35,36,37,38,39,40,41,42] :: [0,1,2,3,4,5,6,7,8,9,10,11,12,13,14,15,16,17,18,19,20,21,22,23,24,25,26,27,28,29,30,31,32,33,34,35,36,37,38,39,40,41,42,43] :: [0,1,2,3,4,5,6,7,8,9,10,11,12,13,14,15,16,17,18,19,20,21,22,23,24,25,26,27,28,29,30,31,32,33,34,35,36,37,38,39,40,41,42,43,44] :: []) mixedP ?_
 refine nA ?_
 refine cn h (fun hc h => ?_) (fun hc h => ?_)
 refine CW.seq ?_
 refine CW.to [(4,T.ptr (T.agg [I 0,I 0,I 0,I 0])),(6,I x1),(8,I s7),(9,I s8)] ⟨rfl,rfl,rfl,rfl,trivial⟩ ?_
 refine CW.region ?_
 refine a_mv ?_
 refine a_mv ?_
 refine a_mv ?_
 refine oP (x_build bld_129 [(0,.const _),(1,.tmp 123),(2,.tmp 124),(3,.tmp 125)] [(0,.zero (I 2)),(1,.slot 123 (I x1)),(2,.slot 124 (I s7)),(3,.slot 125 (I s8))] [.zero (I 2),.slot 123 (I x1),.slot 124 (I s7),.slot 125 (I s8)] (pkZ rfl (pkS rfl (clean_of (Enc.clean (f:=I) _)) rfl (pkS rfl (clean_of (Enc.clean (f:=I) _)) rfl (pkS rfl (clean_of (Enc.clean (f:=I) _)) rfl pkN)))) (bqC (.zero _ _ rfl) (bqC (.slot _ _) (bqC (.slot _ _) (bqC (.slot _ _) bqN)))) rfl) ?_
 refine oP (x_stp inf_129 rfl (locB rfl rfl) rfl rfl rfl rfl (clean_of (cleanA ⟨(Enc.clean (f:=I) _),(Enc.clean (f:=I) _),(Enc.clean (f:=I) _),(Enc.clean (f:=I) _),trivial⟩)) rfl) ?_
 refine rN ?_
 refine CW.ret ?_
 refine rB ?_
 refine rA ?_
 exact eX h ⟨rfl,⟨_,Ghost.refl,⟨.inl rfl,[(4,[0],T.agg [I 2,I x1,I s7,I s8])],⟨⟨rfl,rfl,rfl,(var_129.h _ rfl rfl).h⟩,trivial⟩,rfl,(by simp),(by simp),trivial⟩⟩⟩
 refine CW.skip ?_
 refine nB ?_
 refine nA ?_
 refine CW.to [(0,T.ro ((Pt eSPr) x0)),(1,I x1),(4,T.ptr (T.agg [I 0,I 0,I 0,I 0])),(5,I (x0.Orders.length:Int)),(6,I x1),(8,I s7),(9,I s8)] ⟨rfl,rfl,rfl,rfl,rfl,rfl,rfl,trivial⟩ ?_
 refine CW.region ?_
 refine a_mv ?_
 obtain ⟨v30,hv30,h⟩:=bd h
 refine a_add ?_
 refine a_as ?_
 refine RW.nil ?_
 exact eN h
 refine CW.exit ?_
 refine xA ?_
 exact eX h
 rcases r31 with r31 | r31
 obtain ⟨rfl,hg⟩:=hq
 refine xB ?_
 refine nB ?_
 refine nA ?_
 refine CW.ghost hg ?_
 refine CW.region ?_
 refine a_mv ?_
 obtain ⟨v32,hv32,h⟩:=bd h
 refine a_add ?_
 refine a_as ?_
 refine RW.nil ?_
 exact eN h
 obtain ⟨rfl,hq⟩:=hq
 refine rB ?_
 refine rB ?_
 refine rA ?_
 exact eX h ⟨rfl,hq⟩
 refine CW.exit ?_
 refine xA ?_
 exact eX h
 rcases r33 with r33 | r33
 obtain ⟨rfl,hg⟩:=hq
 refine xB ?_
 refine nA ?_
 refine CW.ghost hg ?_
 refine sR ?_
 refine a_mv ?_
 refine a_nilc ?_
 refine a_far ?_
 refine a_ldr ?_
 refine a_mv ?_
 obtain ⟨v34,hv34,h⟩:=bd h
 refine a_ixr ?_
 refine a_ldr ?_
 refine a_as ?_
 refine rN ?_
 refine CW.seq ?_
 refine sR ?_
 refine a_mv ?_
 refine a_mv ?_
 refine a_mv ?_
 obtain ⟨r35,hr35,h⟩:=bd h
 refine cA Tryz.call144 (t_impl_imageBy _ _ _ _ hr35) ?_
 refine a_mv ?_
 obtain ⟨r36,hr36,h⟩:=bd h
 refine cA Tryz.call106 (t_slices_Equal_int64_int64 _ _ _ hr36) ?_
 refine a_not ?_
 refine rN ?_
 refine cn h (fun hc h => ?_) (fun hc h => ?_)
 refine sR ?_
 refine a_mv ?_
 refine oP (x_build bld_129 [(0,.const _),(1,.tmp 141),(2,.const _),(3,.const _)] [(0,.zero (I 3)),(1,.slot 141 (I x1)),(2,.zero (I 0)),(3,.zero (I 0))] [.zero (I 3),.slot 141 (I x1),.zero (I 0),.zero (I 0)] (pkZ rfl (pkS rfl (clean_of (Enc.clean (f:=I) _)) rfl (pkZ rfl (pkZ rfl pkN)))) (bqC (.zero _ _ rfl) (bqC (.slot _ _) (bqC (.zero _ _ rfl) (bqC (.zero _ _ rfl) bqN)))) rfl) ?_
 refine oP (x_stp inf_129 rfl (locB rfl rfl) rfl rfl rfl rfl (clean_of (cleanA ⟨(Enc.clean (f:=I) _),(Enc.clean (f:=I) _),(Enc.clean (f:=I) _),(Enc.clean (f:=I) _),trivial⟩)) rfl) ?_
 refine rN ?_
 refine CW.ret ?_
 refine rA ?_
 obtain rfl:=sI h
 exact ⟨_,Ghost.refl,⟨.inl rfl,[(4,[0],T.agg [I 3,I x1,I 0,I 0])],⟨⟨rfl,rfl,rfl,(var_129.h _ rfl rfl).h⟩,trivial⟩,rfl,(by simp),(by simp),trivial⟩⟩
 refine CW.skip ?_
 refine nA ?_
 refine CW.seq ?_
 refine sR ?_
 refine a_mv ?_
 obtain ⟨v37,hv37,h⟩:=bd h
 refine a_add ?_
 refine a_as ?_
 refine rN ?_
 refine CW.block ?_
 obtain ⟨r47,hr47,h⟩:=bd h
 refine CW.lp (s:=v37) (l5_impl_levelFault x0 x1 v34) (fun s15:Int => envL [(0,T.ro ((Pt eSPr) x0)),(1,I x1),(4,T.ptr (T.agg [I 0,I 0,I 0,I 0])),(5,I (x0.Orders.length:Int)),(6,I x1),(10,T.ro (lV v34)),(11,I s15)]) (fun (x:Unit ⊕ SFault) e E => match x with | (.inl r47) => e = .exit 6 ∧ Ghost ⟨St,W,w0,Tryz.f137.ntmps⟩ E (envL [(4,T.ptr (T.agg [I 0,I 0,I 0,I 0]))]) | (.inr r47) => e = .ret ∧ RetG ⟨St,W,w0,Tryz.f137.ntmps⟩ Tryz.prog Tryz.f137.results [T.ro ((Pt eSPr) x0),I x1] [eSFault r47] [] .ret E) (.has ⟨rfl,rfl,rfl,rfl,rfl,rfl,rfl,trivial⟩) (fun s15 x h => ?_) hr47 (fun e E hq => ?_)
 refine CW.seq ?_
 refine sR ?_
 refine a_mv ?_
 refine a_mv ?_
 refine a_lss ?_
 refine rN ?_
 refine cn h (fun hc h => ?_) (fun hc h => ?_)
 refine CW.skip ?_
 refine nA ?_
 refine CW.seq ?_
 refine CW.block ?_
 refine sR ?_
 refine a_mv ?_
 refine a_mv ?_
 obtain ⟨r38,hr38,h⟩:=bd h
 refine cA Tryz.call70 (t_impl_unitVector _ _ _ hr38) ?_
 refine a_as ?_
 refine RW.ghost (Ghost.tr 12 152 _ rfl rfl (clean_of (cleanL (Enc.clean (f:=I)))) rfl) ?_
 refine rN ?_
 refine CW.seq ?_
 refine sR ?_
 refine a_mv ?_
 refine a_nilc ?_
 refine a_far ?_
 refine a_ldr ?_
 refine a_mv ?_
 obtain ⟨v39,hv39,h⟩:=bd h
 refine a_ixr ?_
 refine a_ldr ?_
 refine a_mv ?_
 refine rN ?_
 refine CW.block ?_
 obtain ⟨r42,hr42,h⟩:=bd h
 refine CW.lp (s:=(r38,0)) (l4_impl_levelFault x0 x1 v39) (fun s16:(List Int) × Int => envL [(0,T.ro ((Pt eSPr) x0)),(1,I x1),(4,T.ptr (T.agg [I 0,I 0,I 0,I 0])),(5,I (x0.Orders.length:Int)),(6,I x1),(10,T.ro (lV v34)),(11,I s15),(12,L 1 I s16.1),(159,I v39),(160,I s16.2)]) (fun (r42:(List Int)) e E => e = .exit 8 ∧ Ghost ⟨St,W,w0,Tryz.f137.ntmps⟩ E (envL [(0,T.ro ((Pt eSPr) x0)),(1,I x1),(4,T.ptr (T.agg [I 0,I 0,I 0,I 0])),(5,I (x0.Orders.length:Int)),(6,I x1),(10,T.ro (lV v34)),(11,I s15),(12,L 1 I r42)])) (.has ⟨rfl,rfl,rfl,rfl,rfl,rfl,rfl,rfl,rfl,rfl,trivial⟩) (fun s16 x h => ?_) hr42 (fun e E hq => ?_)
 refine sR ?_
 refine a_lss ?_
 refine rN ?_
 refine CW.seq ?_
 refine cn h (fun hc h => ?_) (fun hc h => ?_)
 refine CW.skip ?_
 refine nA ?_
 refine CW.seq ?_
 refine CW.block ?_
 refine CW.region ?_
 refine a_mv ?_
 refine a_mv ?_
 refine a_mv ?_
 obtain ⟨r40,hr40,h⟩:=bd h
 refine cA Tryz.call144 (t_impl_imageBy _ _ _ _ hr40) ?_
 refine a_as ?_
 refine RW.ghost (Ghost.tr 12 165 _ rfl rfl (clean_of (cleanL (Enc.clean (f:=I)))) rfl) ?_
 refine RW.nil ?_
 refine nB ?_
 refine nA ?_
 refine CW.region ?_
 obtain ⟨v41,hv41,h⟩:=bd h
 refine a_add ?_
 refine a_mv ?_
 refine RW.nil ?_
 exact eN h
 refine CW.exit ?_
 refine xA ?_
 exact eX h
 obtain ⟨rfl,hg⟩:=hq
 refine xB ?_
 refine nA ?_
 refine CW.ghost hg ?_
 refine sR ?_
 refine a_mv ?_
 refine a_mv ?_
 refine a_mv ?_
 refine a_mv ?_
 obtain ⟨r43,hr43,h⟩:=bd h
 refine cA Tryz.call70 (t_impl_unitVector _ _ _ hr43) ?_
 refine a_mv ?_
 obtain ⟨r44,hr44,h⟩:=bd h
 refine cA Tryz.call145 (t_impl_conjugate _ _ _ _ hr44) ?_
 obtain ⟨r45,hr45,h⟩:=bd h
 refine cA Tryz.call106 (t_slices_Equal_int64_int64 _ _ _ hr45) ?_
 refine a_not ?_
 refine rN ?_
 refine cn h (fun hc h => ?_) (fun hc h => ?_)
 refine sR ?_
 refine a_mv ?_
 refine a_mv ?_
 refine oP (x_build bld_129 [(0,.const _),(1,.tmp 176),(2,.tmp 177),(3,.const _)] [(0,.zero (I 4)),(1,.slot 176 (I x1)),(2,.slot 177 (I s15)),(3,.zero (I 0))] [.zero (I 4),.slot 176 (I x1),.slot 177 (I s15),.zero (I 0)] (pkZ rfl (pkS rfl (clean_of (Enc.clean (f:=I) _)) rfl (pkS rfl (clean_of (Enc.clean (f:=I) _)) rfl (pkZ rfl pkN)))) (bqC (.zero _ _ rfl) (bqC (.slot _ _) (bqC (.slot _ _) (bqC (.zero _ _ rfl) bqN)))) rfl) ?_
 refine oP (x_stp inf_129 rfl (locB rfl rfl) rfl rfl rfl rfl (clean_of (cleanA ⟨(Enc.clean (f:=I) _),(Enc.clean (f:=I) _),(Enc.clean (f:=I) _),(Enc.clean (f:=I) _),trivial⟩)) rfl) ?_
 refine rN ?_
 refine CW.ret ?_
 refine rB ?_
 refine rA ?_
 exact eX h ⟨rfl,⟨_,Ghost.refl,⟨.inl rfl,[(4,[0],T.agg [I 4,I x1,I s15,I 0])],⟨⟨rfl,rfl,rfl,(var_129.h _ rfl rfl).h⟩,trivial⟩,rfl,(by simp),(by simp),trivial⟩⟩⟩
 refine CW.skip ?_
 refine nB ?_
 refine nA ?_
 refine CW.region ?_
 refine a_mv ?_
 obtain ⟨v46,hv46,h⟩:=bd h
 refine a_add ?_
 refine a_as ?_
 refine RW.nil ?_
 exact eN h
 refine CW.exit ?_
 refine xA ?_
 exact eX h
 rcases r47 with r47 | r47
 obtain ⟨rfl,hg⟩:=hq
 refine xB ?_
 refine nA ?_
 refine CW.ghost hg ?_
 refine sR ?_
 refine oP (x_build bld_129 [] [] [.zero (I 0),.zero (I 0),.zero (I 0),.zero (I 0)] (pkZ rfl (pkZ rfl (pkZ rfl (pkZ rfl pkN)))) bqN rfl) ?_
 refine oP (x_stp inf_129 rfl (locB rfl rfl) rfl rfl rfl rfl (clean_of (cleanA ⟨(Enc.clean (f:=I) _),(Enc.clean (f:=I) _),(Enc.clean (f:=I) _),(Enc.clean (f:=I) _),trivial⟩)) rfl) ?_
 refine rN ?_
 refine CW.ret ?_
 obtain rfl:=sI h
 exact ⟨_,Ghost.refl,⟨.inl rfl,[(4,[0],T.agg [I 0,I 0,I 0,I 0])],⟨⟨rfl,rfl,rfl,(var_129.h _ rfl rfl).h⟩,trivial⟩,rfl,(by simp),(by simp),trivial⟩⟩
 obtain ⟨rfl,hq⟩:=hq
 refine rB ?_
 refine rA ?_
 obtain rfl:=sI h
 exact hq
 obtain ⟨rfl,hq⟩:=hq
 refine rB ?_
 refine rA ?_
 obtain rfl:=sI h
 exact hq
 obtain ⟨rfl,hq⟩:=hq
 refine rB ?_
 refine rA ?_
 obtain rfl:=sI h
 exact hq
theorem t_impl_consistentFrom (x0:SPr) (r:Int) (h:f_impl_consistentFrom x0 = some r):FnC Tryz.prog 101 [T.ro ((Pt eSPr) x0)] [I r] []:=by
 refine fB Tryz.func101 (fun St W w0 v => ?_)
 refine sR ?_
 refine a_as ?_
 refine rN ?_
 refine sR ?_
 refine a_mv ?_
 refine a_nilc ?_
 refine a_far ?_
 refine a_ldr ?_
 refine a_lenr ?_
 refine a_as ?_
 refine rN ?_
 refine CW.seq ?_
 refine CW.block ?_
 obtain ⟨r4,hr4,h⟩:=bd h
 refine CW.lp (s:=(x0.Orders.length:Int)) (l1_impl_consistentFrom x0) (fun s1:Int => envL [(0,T.ro ((Pt eSPr) x0)),(3,I s1)]) (fun (r4:Int) e E => e = .exit 0 ∧ Ghost ⟨St,W,w0,Tryz.f101.ntmps⟩ E (envL [(3,I r4)])) (.has ⟨rfl,rfl,trivial⟩) (fun s1 x h => ?_) hr4 (fun e E hq => ?_)
 refine CW.seq ?_
 refine sR ?_
 refine a_mv ?_
 refine a_gtr ?_
 refine a_mv ?_
 refine RW.cases 11 _ rfl (fun hc => ?_) (fun hc => ?_)
 have h:=cT hc h
 refine g_mv ?_
 refine g_mv ?_
 obtain ⟨v1,hv1,h⟩:=bd h
 refine RW.cons (IxOk.guard 2 true 11 (x_sub hv1 rfl rfl rfl)) ?_
 obtain ⟨r2,hr2,h⟩:=bd h
 refine RW.cons (IxOk.guard 2 true 11 (x_call (xs:=[.tmp 12,.tmp 14]) Tryz.call137 (t_impl_levelFault _ _ _ hr2) ⟨(agC _ rfl rfl rfl),⟨(agC _ rfl rfl rfl),trivial⟩⟩ (resC (f:=eSFault) inferInstance resN) rfl)) ?_
 refine RW.cons (IxOk.guard 2 true 11 (x_build bld_129 [] [] [.zero (I 0),.zero (I 0),.zero (I 0),.zero (I 0)] (pkZ rfl (pkZ rfl (pkZ rfl (pkZ rfl pkN)))) bqN rfl)) ?_
 refine RW.cons (IxOk.guard 2 true 11 (x_eqS4 eqs_129 rfl rfl rfl)) ?_
 refine a_pick ?_
 refine rN ?_
 refine cn h (fun hc h => ?_) (fun hc h => ?_)
 refine CW.skip ?_
 refine nA ?_
 refine CW.block ?_
 refine CW.region ?_
 refine a_mv ?_
 obtain ⟨v3,hv3,h⟩:=bd h
 refine oP (x_sub hv3 rfl rfl rfl) ?_
 refine a_as ?_
 refine RW.nil ?_
 refine nB ?_
 exact eN h
 refine CW.exit ?_
 refine xA ?_
 exact eX h
 have h:=cF hc h
 refine sk2 ?_
 refine sk2 ?_
 refine sk2 ?_
 refine sk2 ?_
 refine sk2 ?_
 refine sk2 ?_
 refine a_pick ?_
 refine rN ?_
 refine CW.condF rfl ?_
 refine CW.exit ?_
 refine xA ?_
 exact eX h
 obtain ⟨rfl,hg⟩:=hq
 refine xB ?_
 refine nA ?_
 refine CW.ghost hg ?_
 refine sR ?_
 refine a_mv ?_
 refine a_as ?_
 refine rN ?_
 refine CW.ret ?_
 obtain rfl:=sI h
 exact rT
theorem t_impl_IsConsistent (x0:SPr) (r:Bool) (h:f_impl_IsConsistent x0 = some r):FnC Tryz.prog 56 [qPr x0] [B r] []:=by
 refine fB Tryz.func56 (fun St W w0 v => ?_)
 refine sR ?_
 refine a_box ?_
 refine a_as ?_
 refine rN ?_
 refine sR ?_
 refine a_ldp ?_
 obtain ⟨r1,hr1,h⟩:=bd h
 refine cA Tryz.call92 (t_impl_IsPresentation _ _ hr1) ?_
 refine a_mv ?_
 refine RW.cases 5 _ rfl (fun hc => ?_) (fun hc => ?_)
 have h:=cT hc h
 obtain ⟨r2,hr2,h⟩:=bd h
 refine RW.cons (IxOk.guard 2 true 5 (x_call (xs:=[.tmp 1]) Tryz.call101 (t_impl_consistentFrom _ _ hr2) ⟨(agC _ rfl (cloP rfl) rfl),trivial⟩ (resC (f:=I) inferInstance resN) rfl)) ?_
 refine g_eql ?_
 refine a_pick ?_
 refine a_as ?_
 refine rN ?_
 refine CW.ret ?_
 obtain rfl:=sI h
 exact rT
 have h:=cF hc h
 refine sk2 ?_
 refine sk2 ?_
 refine a_pick ?_
 refine a_as ?_
 refine rN ?_
 refine CW.ret ?_
 obtain rfl:=sI h
 exact rT
theorem t_impl_actionAt (x0:SModule) (x1:Int) (r:SMatrix) (h:f_impl_actionAt x0 x1 = some r):FnC Tryz.prog 60 [T.ro ((Pt eSModule) x0),I x1] [(fun x => T.agg [I x.Prime,I x.Columns,(Ro lM) x.Rows]) r] []:=by
 refine fB Tryz.func60 (fun St W w0 v => ?_)
 refine sR ?_
 refine a_alloc ?_
 refine rN ?_
 refine CW.seq ?_
 obtain ⟨v1,hv1,h⟩:=bd h
 refine CW.dk ?_
 refine d_mv [(0,_)] ?_
 refine d_nilc [(5,_)] ?_
 refine d_far [(6,_)] ?_
 refine d_ldr [(7,_)] ?_
 refine d_mv [(0,_)] ?_
 refine d_nilc [(9,_)] ?_
 refine d_far [(10,_)] ?_
 refine d_ldr [(11,_)] ?_
 refine d_mv [(0,_)] ?_
 refine d_nilc [(13,_)] ?_
 refine d_far [(14,_)] ?_
 refine d_ldr [(15,_)] ?_
 refine d_mv [(1,_)] ?_
 refine d_ixr [(16,_),(17,_)] ?_
 refine d_ldr [(18,_)] ?_
 refine dG [(8,_),(12,_),(19,_)] [([(20,some (T.agg [I x0.Prime,I x0.Dim,T.ro (lM v1)]))],[(20,0)])] ⟨rfl,rfl,rfl,trivial⟩ (fun E h => IxOk.opE (x_build bld_73 [(0,.tmp 8),(1,.tmp 12),(2,.tmp 19)] [(0,.slot 8 (I x0.Prime)),(1,.slot 12 (I x0.Dim)),(2,.slot 19 (T.ro (lM v1)))] [.slot 8 (I x0.Prime),.slot 12 (I x0.Dim),.slot 19 (T.ro (lM v1))] (pkS h.1 (clean_of (Enc.clean (f:=I) _)) rfl (pkS h.2.1 (clean_of (Enc.clean (f:=I) _)) rfl (pkS h.2.2.1 (clean_of trivial) rfl pkN))) (bqC (.slot _ _) (bqC (.slot _ _) (bqC (.slot _ _) bqN))) rfl) rfl) ?_
 refine dG [(4,_),(20,_)] [([(4,some (T.ptr (T.agg [I x0.Prime,I x0.Dim,T.ro (lM v1)]))),(20,some (T.agg [I x0.Prime,I x0.Dim,T.ro (lM v1)]))],[(4,1),(20,1)])] ⟨rfl,rfl,trivial⟩ (fun E h => IxOk.opE (x_stp inf_73 rfl (locB h.1 rfl) h.1 rfl rfl h.2.1 (clean_of (cleanA ⟨(Enc.clean (f:=I) _),(Enc.clean (f:=I) _),trivial,trivial⟩)) rfl) rfl) ?_
 refine dNA mixedP ?_
 refine nA ?_
 refine CW.ret ?_
 obtain rfl:=sI h
 exact ⟨_,Ghost.refl,⟨.inl rfl,[(4,[0],T.agg [I x0.Prime,I x0.Dim,T.ro (lM v1)])],⟨⟨rfl,rfl,rfl,(var_73.h _ rfl rfl).h⟩,trivial⟩,rfl,(by simp),(by simp),trivial⟩⟩
theorem t_impl_isVector (x0:List Int) (x1:Int) (x2:Int) (r:Bool) (h:f_impl_isVector x0 x1 x2 = some r):FnC Tryz.prog 102 [T.ro (lV x0),I x1,I x2] [B r] []:=by
 refine fB Tryz.func102 (fun St W w0 v => ?_)
 refine sR ?_
 refine a_as ?_
 refine rN ?_
 refine CW.seq ?_
 refine sR ?_
 refine a_mv ?_
 refine a_lenr ?_
 refine a_mv ?_
 refine a_neq ?_
 refine rN ?_
 refine cn h (fun hc h => ?_) (fun hc h => ?_)
 refine sR ?_
 refine a_as ?_
 refine rN ?_
 refine CW.ret ?_
 refine rA ?_
 obtain rfl:=sI h
 exact rT
 refine CW.skip ?_
 refine nA ?_
 refine CW.seq ?_
 refine sR ?_
 refine a_mv ?_
 refine a_lenr ?_
 refine a_mv ?_
 refine rN ?_
 refine CW.block ?_
 obtain ⟨r5,hr5,h⟩:=bd h
 refine CW.lp (s:=0) (l1_impl_isVector x0 x1) (fun s1:Int => envL [(1,I x1),(13,T.ro (lV x0)),(14,I (x0.length:Int)),(15,I s1)]) (fun (x:Unit ⊕ Bool) e E => match x with | (.inl r5) => e = .exit 0 ∧ Ghost ⟨St,W,w0,Tryz.f102.ntmps⟩ E (envL []) | (.inr r5) => e = .ret ∧ RetG ⟨St,W,w0,Tryz.f102.ntmps⟩ Tryz.prog Tryz.f102.results [T.ro (lV x0),I x1,I x2] [B r5] [] .ret E) (.has ⟨rfl,rfl,rfl,rfl,trivial⟩) (fun s1 x h => ?_) hr5 (fun e E hq => ?_)
 refine sR ?_
 refine a_lss ?_
 refine rN ?_
 refine CW.seq ?_
 refine cn h (fun hc h => ?_) (fun hc h => ?_)
 refine CW.skip ?_
 refine nA ?_
 refine CW.seq ?_
 refine CW.block ?_
 refine sR ?_
 obtain ⟨v1,hv1,h⟩:=bd h
 refine a_ixr ?_
 refine a_ldr ?_
 refine a_as ?_
 refine rN ?_
 refine sR ?_
 refine a_mv ?_
 refine a_mv ?_
 obtain ⟨v2,hv2,h⟩:=bd h
 refine a_sub ?_
 obtain ⟨r3,hr3,h⟩:=bd h
 refine cA Tryz.call58 (t_impl_inside _ _ _ _ hr3) ?_
 refine a_not ?_
 refine rN ?_
 refine cn h (fun hc h => ?_) (fun hc h => ?_)
 refine sR ?_
 refine a_as ?_
 refine rN ?_
 refine CW.ret ?_
 refine rB ?_
 refine rA ?_
 exact eX h
 refine CW.skip ?_
 refine nB ?_
 refine nA ?_
 refine CW.region ?_
 obtain ⟨v4,hv4,h⟩:=bd h
 refine a_add ?_
 refine a_mv ?_
 refine RW.nil ?_
 exact eN h
 refine CW.exit ?_
 refine xA ?_
 exact eX h
 rcases r5 with r5 | r5
 obtain ⟨rfl,hg⟩:=hq
 refine xB ?_
 refine nA ?_
 refine CW.ghost hg ?_
 refine sR ?_
 refine a_as ?_
 refine rN ?_
 refine CW.ret ?_
 obtain rfl:=sI h
 exact rT
 obtain ⟨rfl,hq⟩:=hq
 refine rB ?_
 refine rA ?_
 obtain rfl:=sI h
 exact hq
theorem t_impl_IsMatrix (x0:SMatrix) (r:Bool) (h:f_impl_IsMatrix x0 = some r):FnC Tryz.prog 59 [qMatrix x0] [B r] []:=by
 refine fB Tryz.func59 (fun St W w0 v => ?_)
 refine sR ?_
 refine a_box ?_
 refine a_as ?_
 refine rN ?_
 refine CW.seq ?_
 refine sR ?_
 refine a_fa ?_
 refine a_ld ?_
 obtain ⟨r1,hr1,h⟩:=bd h
 refine cA Tryz.call57 (t_impl_IsGroupPrime _ _ hr1) ?_
 refine a_not ?_
 refine a_mv ?_
 refine RW.cases 9 _ rfl (fun hc => ?_) (fun hc => ?_)
 have h:=cT hc h
 refine sk2 ?_
 refine sk2 ?_
 refine sk2 ?_
 refine sk2 ?_
 refine a_pick ?_
 refine a_mv ?_
 refine sk2 ?_
 refine sk2 ?_
 refine sk2 ?_
 refine sk2 ?_
 refine a_pick ?_
 refine rN ?_
 refine CW.condT rfl ?_
 refine sR ?_
 refine a_as ?_
 refine rN ?_
 refine CW.ret ?_
 refine rA ?_
 obtain rfl:=sI h
 exact rT
 have h:=cF hc h
 refine g_fa ?_
 refine g_ld ?_
 obtain ⟨r2,hr2,h⟩:=bd h
 refine RW.cons (IxOk.guard 4 false 9 (x_call (xs:=[.tmp 11,.const _,.const _]) Tryz.call58 (t_impl_inside _ _ _ _ hr2) ⟨(agC _ rfl rfl rfl),⟨(agC _ rfl rfl rfl),⟨(agC _ rfl rfl rfl),trivial⟩⟩⟩ (resC (f:=B) inferInstance resN) rfl)) ?_
 refine g_not ?_
 refine a_pick ?_
 refine a_mv ?_
 refine RW.cases 15 _ rfl (fun hc => ?_) (fun hc => ?_)
 have h:=cT hc h
 refine sk2 ?_
 refine sk2 ?_
 refine sk2 ?_
 refine sk2 ?_
 refine a_pick ?_
 refine rN ?_
 refine CW.condT rfl ?_
 refine sR ?_
 refine a_as ?_
 refine rN ?_
 refine CW.ret ?_
 refine rA ?_
 obtain rfl:=sI h
 exact rT
 have h:=cF hc h
 refine g_fa ?_
 refine g_ld ?_
 refine g_lenr ?_
 refine g_gtr ?_
 refine a_pick ?_
 refine rN ?_
 refine cn h (fun hc h => ?_) (fun hc h => ?_)
 refine sR ?_
 refine a_as ?_
 refine rN ?_
 refine CW.ret ?_
 refine rA ?_
 obtain rfl:=sI h
 exact rT
 refine CW.skip ?_
 refine nA ?_
 refine CW.seq ?_
 refine sR ?_
 refine a_fa ?_
 refine a_ld ?_
 refine a_lenr ?_
 refine a_mv ?_
 refine rN ?_
 refine CW.block ?_
 obtain ⟨r6,hr6,h⟩:=bd h
 refine CW.lp (s:=0) (l1_impl_IsMatrix x0) (fun s1:Int => envL [(1,T.ptr (qMatrix x0)),(22,T.ro (lM x0.Rows)),(23,I (x0.Rows.length:Int)),(24,I s1)]) (fun (x:Unit ⊕ Bool) e E => match x with | (.inl r6) => e = .exit 0 ∧ Ghost ⟨St,W,w0,Tryz.f59.ntmps⟩ E (envL []) | (.inr r6) => e = .ret ∧ RetG ⟨St,W,w0,Tryz.f59.ntmps⟩ Tryz.prog Tryz.f59.results [qMatrix x0] [B r6] [] .ret E) (.has ⟨rfl,rfl,rfl,rfl,trivial⟩) (fun s1 x h => ?_) hr6 (fun e E hq => ?_)
 refine sR ?_
 refine a_lss ?_
 refine rN ?_
 refine CW.seq ?_
 refine cn h (fun hc h => ?_) (fun hc h => ?_)
 refine CW.skip ?_
 refine nA ?_
 refine CW.seq ?_
 refine CW.block ?_
 refine sR ?_
 obtain ⟨v3,hv3,h⟩:=bd h
 refine a_ixr ?_
 refine a_ldr ?_
 refine a_as ?_
 refine rN ?_
 refine sR ?_
 refine a_mv ?_
 refine a_fa ?_
 refine a_ld ?_
 refine a_fa ?_
 refine a_ld ?_
 obtain ⟨r4,hr4,h⟩:=bd h
 refine cA Tryz.call102 (t_impl_isVector _ _ _ _ hr4) ?_
 refine a_not ?_
 refine rN ?_
 refine cn h (fun hc h => ?_) (fun hc h => ?_)
 refine sR ?_
 refine a_as ?_
 refine rN ?_
 refine CW.ret ?_
 refine rB ?_
 refine rA ?_
 exact eX h
 refine CW.skip ?_
 refine nB ?_
 refine nA ?_
 refine CW.region ?_
 obtain ⟨v5,hv5,h⟩:=bd h
 refine a_add ?_
 refine a_mv ?_
 refine RW.nil ?_
 exact eN h
 refine CW.exit ?_
 refine xA ?_
 exact eX h
 rcases r6 with r6 | r6
 obtain ⟨rfl,hg⟩:=hq
 refine xB ?_
 refine nA ?_
 refine CW.ghost hg ?_
 refine sR ?_
 refine a_as ?_
 refine rN ?_
 refine CW.ret ?_
 obtain rfl:=sI h
 exact rT
 obtain ⟨rfl,hq⟩:=hq
 refine rB ?_
 refine rA ?_
 obtain rfl:=sI h
 exact hq
theorem t_math_bits_Mul64 (x0:Int) (x1:Int) (r:Int × Int) (h:f_math_bits_Mul64 x0 x1 = some r):FnC Tryz.prog 147 [(IK .u64) x0,(IK .u64) x1] [(IK .u64) r.1,(IK .u64) r.2] []:=by
 refine fB Tryz.func147 (fun St W w0 v => ?_)
 refine sR ?_
 refine a_as ?_
 refine a_as ?_
 refine rN ?_
 refine sR ?_
 refine a_mv ?_
 refine oP (x_andU rfl rfl rfl) ?_
 refine a_as ?_
 refine rN ?_
 refine sR ?_
 refine a_mv ?_
 refine oP (x_shrU (by decide) rfl rfl rfl) ?_
 refine a_as ?_
 refine rN ?_
 refine sR ?_
 refine a_mv ?_
 refine oP (x_andU rfl rfl rfl) ?_
 refine a_as ?_
 refine rN ?_
 refine sR ?_
 refine a_mv ?_
 refine oP (x_shrU (by decide) rfl rfl rfl) ?_
 refine a_as ?_
 refine rN ?_
 refine sR ?_
 refine a_mv ?_
 refine a_mv ?_
 refine oP (x_mulU rfl rfl rfl) ?_
 refine a_as ?_
 refine rN ?_
 refine sR ?_
 refine a_mv ?_
 refine a_mv ?_
 refine oP (x_mulU rfl rfl rfl) ?_
 refine a_mv ?_
 refine oP (x_shrU (by decide) rfl rfl rfl) ?_
 refine oP (x_addU rfl rfl rfl) ?_
 refine a_as ?_
 refine rN ?_
 refine CW.seq ?_
 refine CW.to [(0,(IK .u64) x0),(1,(IK .u64) x1),(6,(IK .u64) (andU .u64 x0 4294967295)),(7,(IK .u64) (Int.fdiv x0 (2 ^ (min (32:Int).toNat (IntKind.bits .u64))))),(9,(IK .u64) (Int.fdiv x1 (2 ^ (min (32:Int).toNat (IntKind.bits .u64))))),(11,(IK .u64) (IntKind.wrap .u64 ((IntKind.wrap .u64 ((Int.fdiv x0 (2 ^ (min (32:Int).toNat (IntKind.bits .u64)))) * (andU .u64 x1 4294967295))) + (Int.fdiv (IntKind.wrap .u64 ((andU .u64 x0 4294967295) * (andU .u64 x1 4294967295))) (2 ^ (min (32:Int).toNat (IntKind.bits .u64)))))))] ⟨rfl,rfl,rfl,rfl,rfl,rfl,trivial⟩ ?_
 refine CW.region ?_
 refine a_mv ?_
 refine oP (x_andU rfl rfl rfl) ?_
 refine a_as ?_
 refine rN ?_
 refine sR ?_
 refine a_mv ?_
 refine oP (x_shrU (by decide) rfl rfl rfl) ?_
 refine a_as ?_
 refine rN ?_
 refine sR ?_
 refine a_mv ?_
 refine a_mv ?_
 refine a_mv ?_
 refine oP (x_mulU rfl rfl rfl) ?_
 refine oP (x_addU rfl rfl rfl) ?_
 refine a_as ?_
 refine rN ?_
 refine sR ?_
 refine a_mv ?_
 refine a_mv ?_
 refine oP (x_mulU rfl rfl rfl) ?_
 refine a_mv ?_
 refine oP (x_addU rfl rfl rfl) ?_
 refine a_mv ?_
 refine oP (x_shrU (by decide) rfl rfl rfl) ?_
 refine oP (x_addU rfl rfl rfl) ?_
 refine a_as ?_
 refine rN ?_
 refine sR ?_
 refine a_mv ?_
 refine a_mv ?_
 refine oP (x_mulU rfl rfl rfl) ?_
 refine a_as ?_
 refine rN ?_
 refine CW.ret ?_
 obtain rfl:=sI h
 exact rT
theorem t_math_bits_Mul (x0:Int) (x1:Int) (r:Int × Int) (h:f_math_bits_Mul x0 x1 = some r):FnC Tryz.prog 138 [(IK .u64) x0,(IK .u64) x1] [(IK .u64) r.1,(IK .u64) r.2] []:=by
 refine fB Tryz.func138 (fun St W w0 v => ?_)
 refine sR ?_
 refine a_as ?_
 refine a_as ?_
 refine rN ?_
 refine CW.seq ?_
 refine CW.condF rfl ?_
 refine CW.skip ?_
 refine nA ?_
 refine sR ?_
 refine a_mv ?_
 refine a_mv ?_
 obtain ⟨r1,hr1,h⟩:=bd h
 refine cA Tryz.call147 (t_math_bits_Mul64 _ _ _ hr1) ?_
 refine a_mvT ?_
 refine a_ext ?_
 refine a_ext ?_
 refine a_as ?_
 refine a_as ?_
 refine rN ?_
 refine sR ?_
 refine a_mv ?_
 refine a_mv ?_
 refine a_as ?_
 refine a_as ?_
 refine rN ?_
 refine CW.ret ?_
 obtain rfl:=sI h
 exact rT
theorem t_slices_Repeat_int64_int64 (x0:List Int) (x1:Int) (r:(List Int)) (h:f_slices_Repeat_int64_int64 x0 x1 = some r):FnC Tryz.prog 103 [T.ro (lV x0),I x1] [lV r] []:=by
 refine fB Tryz.func103 (fun St W w0 v => ?_)
 refine sR ?_
 refine oP (x_nil 1 rfl) ?_
 refine rN ?_
 refine CW.seq ?_
 refine sR ?_
 refine a_mv ?_
 refine a_lss ?_
 refine rN ?_
 refine cn h (fun hc h => ?_) (fun hc h => ?_)
 ·refine CW.region ?_
  cases h
 ·refine CW.skip ?_
  refine nA ?_
  refine sR ?_
  refine a_mv ?_
  refine a_lenr ?_
  refine oP (x_convU Tryz.underlying3 Tryz.underlying133 rfl rfl) ?_
  refine a_mv ?_
  refine oP (x_convU Tryz.underlying3 Tryz.underlying133 rfl rfl) ?_
  obtain ⟨r1,hr1,h⟩:=bd h
  refine cA Tryz.call138 (t_math_bits_Mul _ _ _ hr1) ?_
  refine a_mvT ?_
  refine a_ext ?_
  refine a_ext ?_
  refine a_as ?_
  refine a_as ?_
  refine rN ?_
  refine CW.seq ?_
  refine sR ?_
  refine a_mv ?_
  refine oP (x_gtrU rfl rfl rfl) ?_
  refine a_mv ?_
  refine RW.cases 23 _ rfl (fun hc => ?_) (fun hc => ?_)
  ·have h:=cT hc h
   refine sk2 ?_
   refine sk2 ?_
   refine a_pick ?_
   refine rN ?_
   refine CW.condT rfl ?_
   refine CW.region ?_
   cases h
  ·have h:=cF hc h
   refine g_mv ?_
   refine RW.cons (IxOk.guard 2 false 23 (x_gtrU rfl rfl rfl)) ?_
   refine a_pick ?_
   refine rN ?_
   refine cn h (fun hc h => ?_) (fun hc h => ?_)
   ·refine CW.region ?_
    cases h
   ·refine CW.skip ?_
    refine nA ?_
    refine sR ?_
    refine a_mv ?_
    refine oP (x_convU Tryz.underlying133 Tryz.underlying3 rfl rfl) ?_
    obtain ⟨m2,hm2,h⟩:=bd h
    refine oP (x_makeL (f:=I) (z:=0) elt_22 (rfl) hm2 rfl rfl rfl) ?_
    refine a_as ?_
    refine RW.ghost (Ghost.tr 7 30 _ rfl rfl (clean_of (cleanL (Enc.clean (f:=I)))) rfl) ?_
    refine rN ?_
    refine CW.seq ?_
    refine CW.to [(0,T.ro (lV x0)),(7,L 1 I (List.replicate m2 (0:Int)))] ⟨rfl,rfl,trivial⟩ ?_
    refine CW.region ?_
    refine a_mv ?_
    refine a_mv ?_
    refine oP (x_copyI elt_22 rfl (fun _ => (DstOf.same rfl rfl)) (fun _ => (SrcOf.ro (locB rfl rfl))) (Nat.zero_le _) (Nat.le_refl _) rfl) ?_
    refine a_as ?_
    refine rN ?_
    refine CW.seq ?_
    refine CW.block ?_
    obtain ⟨r6,hr6,h⟩:=bd h
    refine CW.lp (s:=(splice (List.replicate m2 (0:Int)) 0 (x0.take (((List.replicate m2 (0:Int)).length) - 0)),((min x0.length (((List.replicate m2 (0:Int)).length) - 0):Nat):Int))) l1_slices_Repeat_int64_int64 (fun s1:(List Int) × Int => envL [(7,L 1 I s1.1),(8,I s1.2)]) (fun (r6:(List Int)) e E => e = .exit 0 ∧ Ghost ⟨St,W,w0,Tryz.f103.ntmps⟩ E (envL [(7,L 1 I r6)])) (.has ⟨rfl,rfl,trivial⟩) (fun s1 x h => ?_) hr6 (fun e E hq => ?_)
    ·refine CW.seq ?_
     refine sR ?_
     refine a_mv ?_
     refine a_mv ?_
     refine a_len ?_
     refine a_lss ?_
     refine rN ?_
     refine cn h (fun hc h => ?_) (fun hc h => ?_)
     ·refine CW.skip ?_
      refine nA ?_
      refine CW.block ?_
      obtain ⟨v3,hv3,h⟩:=bd h
      obtain ⟨v4,hv4,h⟩:=bd h
      obtain ⟨v5,hv5,h⟩:=bd h
      refine CW.dk ?_
      refine d_mv [(8,_)] ?_
      refine d_mv [(7,_)] ?_
      refine d_mv [(8,_)] ?_
      refine dG [(39,_),(7,_),(40,_)] [([(41,some (T.sub 7 [] 1 ((s1.2:Int).toNat) ((s1.1.length:Int).toNat)))],[(41,0)])] ⟨rfl,rfl,rfl,trivial⟩ (fun E h => IxOk.opE (x_slo row_22 hv3 (locA h.1 h.2.1 rfl rfl) (optS (sliceO_lo hv3) h.2.2.1) optN rfl) rfl) ?_
      refine d_mv [(7,_)] ?_
      refine d_mv [(8,_)] ?_
      refine dG [(42,_),(7,_),(43,_)] [([(44,some (T.sub 7 [] 1 ((0:Int).toNat) ((s1.2:Int).toNat)))],[(44,0)])] ⟨rfl,rfl,rfl,trivial⟩ (fun E h => IxOk.opE (x_slo row_22 hv4 (locA h.1 h.2.1 rfl rfl) optN0 (optS (sliceO_hi hv4) h.2.2.1) rfl) rfl) ?_
      refine dG [(41,_),(7,_),(44,_)] [([(7,some (L 1 I (splice s1.1 ((s1.2:Int).toNat) (v4.take (((s1.1.length:Int).toNat) - ((s1.2:Int).toNat))))))],[(7,1)]),([(45,some (I ((min v4.length (((s1.1.length:Int).toNat) - ((s1.2:Int).toNat)):Nat):Int)))],[(45,0)])] ⟨rfl,rfl,rfl,trivial⟩ (fun E h => IxOk.opE (x_copyI elt_22 h.2.1 (fun _ => (DstOf.sub h.1)) (fun _ => (SrcOf.sub h.2.2.1 h.2.1 rfl hv4)) (sliceO_le hv3) (sliceO_ub hv3) rfl) rfl) ?_
      refine d_add [(38,_),(45,_)] ?_
      refine d_as [(46,_)] ?_
      refine dNA mixedP ?_
      refine nB ?_
      exact eN h
     ·refine CW.exit ?_
      refine xA ?_
      exact eX h
    ·obtain ⟨rfl,hg⟩:=hq
     refine xB ?_
     refine nA ?_
     refine CW.ghost hg ?_
     refine sR ?_
     refine a_mv ?_
     refine a_as ?_
     refine RW.ghost (Ghost.tr 4 7 _ rfl rfl (clean_of (cleanL (Enc.clean (f:=I)))) rfl) ?_
     refine rN ?_
     refine CW.ret ?_
     obtain rfl:=sI h
     exact rT
theorem t_impl_normalWord (x0:List Int) (r:(List Int)) (h:f_impl_normalWord x0 = some r):FnC Tryz.prog 104 [T.ro (lV x0)] [lV r] []:=by
 refine fB Tryz.func104 (fun St W w0 v => ?_)
 refine sR ?_
 refine oP (x_nil 1 rfl) ?_
 refine rN ?_
 refine sR ?_
 refine oP (x_nil 1 rfl) ?_
 refine rN ?_
 refine CW.seq ?_
 refine sR ?_
 refine a_mv ?_
 refine a_lenr ?_
 refine a_mv ?_
 refine rN ?_
 refine CW.block ?_
 obtain ⟨r7,hr7,h⟩:=bd h
 refine CW.lp (s:=([],0)) (l2_impl_normalWord x0) (fun s5:(List Int) × Int => envL [(3,L 1 I s5.1),(6,T.ro (lV x0)),(7,I (x0.length:Int)),(8,I s5.2)]) (fun (r7:(List Int)) e E => e = .exit 0 ∧ Ghost ⟨St,W,w0,Tryz.f104.ntmps⟩ E (envL [(3,L 1 I r7)])) (.has ⟨rfl,rfl,rfl,rfl,trivial⟩) (fun s5 x h => ?_) hr7 (fun e E hq => ?_)
 refine sR ?_
 refine a_lss ?_
 refine rN ?_
 refine CW.seq ?_
 refine cn h (fun hc h => ?_) (fun hc h => ?_)
 refine CW.skip ?_
 refine nA ?_
 refine CW.seq ?_
 refine CW.block ?_
 refine sR ?_
 refine a_mv ?_
 obtain ⟨v1,hv1,h⟩:=bd h
 refine a_ixr ?_
 refine a_ldr ?_
 refine a_as ?_
 refine a_as ?_
 refine rN ?_
 refine sR ?_
 refine a_mv ?_
 refine a_mv ?_
 refine rN ?_
 refine CW.block ?_
 obtain ⟨r5,hr5,h⟩:=bd h
 refine CW.lp (s:=(s5.1,0)) (l1_impl_normalWord s5 v1) (fun s6:(List Int) × Int => envL [(3,L 1 I s6.1),(4,I s5.2),(6,T.ro (lV x0)),(7,I (x0.length:Int)),(8,I s5.2),(13,I v1),(14,I s6.2)]) (fun (r5:(List Int)) e E => e = .exit 2 ∧ Ghost ⟨St,W,w0,Tryz.f104.ntmps⟩ E (envL [(3,L 1 I r5),(6,T.ro (lV x0)),(7,I (x0.length:Int)),(8,I s5.2)])) (.has ⟨rfl,rfl,rfl,rfl,rfl,rfl,rfl,trivial⟩) (fun s6 x h => ?_) hr5 (fun e E hq => ?_)
 refine sR ?_
 refine a_lss ?_
 refine rN ?_
 refine CW.seq ?_
 refine cn h (fun hc h => ?_) (fun hc h => ?_)
 refine CW.skip ?_
 refine nA ?_
 refine CW.seq ?_
 refine CW.block ?_
 refine CW.region ?_
 refine a_mv ?_
 refine a_mv ?_
 obtain ⟨v2,hv2,h⟩:=bd h
 refine oP (x_add hv2 rfl rfl rfl) ?_
 refine oP (x_bs elt_22 [.tmp 18] [.slot 18 (I v2)] [v2] I ⟨.slot _ _,trivial⟩ (pkS rfl (clean_of (Enc.clean (f:=I) _)) rfl pkN) rfl rfl) ?_
 refine RW.ghost (Ghost.tr 16 3 _ rfl rfl (clean_of (cleanL (Enc.clean (f:=I)))) rfl) ?_
 obtain ⟨v3,hv3,h⟩:=bd h
 refine oP (x_appc (f:=I) elt_22 (fun _ => rfl) hv3 rfl (locB rfl rfl) rfl) ?_
 refine a_as ?_
 refine RW.ghost (Ghost.tr 3 20 _ rfl rfl (clean_of (cleanL (Enc.clean (f:=I)))) rfl) ?_
 refine RW.nil ?_
 refine nB ?_
 refine nA ?_
 refine CW.region ?_
 obtain ⟨v4,hv4,h⟩:=bd h
 refine oP (x_add hv4 rfl rfl rfl) ?_
 refine a_mv ?_
 refine RW.nil ?_
 exact eN h
 refine CW.exit ?_
 refine xA ?_
 exact eX h
 obtain ⟨rfl,hg⟩:=hq
 refine xB ?_
 refine nB ?_
 refine nA ?_
 refine CW.ghost hg ?_
 refine CW.region ?_
 obtain ⟨v6,hv6,h⟩:=bd h
 refine a_add ?_
 refine a_mv ?_
 refine RW.nil ?_
 exact eN h
 refine CW.exit ?_
 refine xA ?_
 exact eX h
 obtain ⟨rfl,hg⟩:=hq
 refine xB ?_
 refine nA ?_
 refine CW.ghost hg ?_
 refine sR ?_
 refine a_mv ?_
 refine a_as ?_
 refine RW.ghost (Ghost.tr 2 3 _ rfl rfl (clean_of (cleanL (Enc.clean (f:=I)))) rfl) ?_
 refine rN ?_
 refine CW.ret ?_
 obtain rfl:=sI h
 exact rT
theorem t_impl_relationSides (x0:SPr) (r:(List ((List Int) × (List Int)))) (h:f_impl_relationSides x0 = some r):FnC Tryz.prog 61 [T.ro ((Pt eSPr) x0)] [(L 2 (A2 lV)) r] []:=by
 refine fB Tryz.func61 (fun St W w0 v => ?_)
 refine sR ?_
 refine oP (x_nil 2 rfl) ?_
 refine rN ?_
 refine sR ?_
 refine oP (x_nil 2 rfl) ?_
 refine rN ?_
 refine CW.seq ?_
 refine sR ?_
 refine a_mv ?_
 refine a_nilc ?_
 refine a_far ?_
 refine a_ldr ?_
 refine a_lenr ?_
 refine a_mv ?_
 refine rN ?_
 refine CW.block ?_
 obtain ⟨r8,hr8,h⟩:=bd h
 refine CW.lp (s:=([],0)) (l1_impl_relationSides x0) (fun s1:(List ((List Int) × (List Int))) × Int => envL [(0,T.ro ((Pt eSPr) x0)),(3,L 2 (A2 lV) s1.1),(14,T.ro (lV x0.Orders)),(15,I (x0.Orders.length:Int)),(16,I s1.2)]) (fun (r8:(List ((List Int) × (List Int)))) e E => e = .exit 0 ∧ Ghost ⟨St,W,w0,Tryz.f61.ntmps⟩ E (envL [(0,T.ro ((Pt eSPr) x0)),(3,L 2 (A2 lV) r8)])) (.has ⟨rfl,rfl,rfl,rfl,rfl,trivial⟩) (fun s1 x h => ?_) hr8 (fun e E hq => ?_)
 refine sR ?_
 refine a_lss ?_
 refine rN ?_
 refine CW.seq ?_
 refine cn h (fun hc h => ?_) (fun hc h => ?_)
 refine CW.skip ?_
 refine nA ?_
 refine CW.seq ?_
 refine CW.block ?_
 refine sR ?_
 refine a_mv ?_
 obtain ⟨v1,hv1,h⟩:=bd h
 refine a_ixr ?_
 refine a_ldr ?_
 refine a_as ?_
 refine a_as ?_
 refine rN ?_
 obtain ⟨v2,hv2,h⟩:=bd h
 obtain ⟨r3,hr3,h⟩:=bd h
 obtain ⟨v4,hv4,h⟩:=bd h
 obtain ⟨r5,hr5,h⟩:=bd h
 obtain ⟨v6,hv6,h⟩:=bd h
 refine CW.dk ?_
 refine d_mv [(3,_)] ?_
 refine d_mv [(4,_)] ?_
 refine dG [(22,_)] [([(23,some (I v2))],[(23,0)])] ⟨rfl,trivial⟩ (fun E h => IxOk.opE (x_add hv2 h.1 rfl rfl) rfl) ?_
 refine dG [(23,_)] [([(24,some (L 1 I [v2]))],[(24,0)])] ⟨rfl,trivial⟩ (fun E h => IxOk.opE (x_bs elt_22 [.tmp 23] [.slot 23 (I v2)] [v2] I ⟨.slot _ _,trivial⟩ (pkS h.1 (clean_of (Enc.clean (f:=I) _)) rfl pkN) rfl rfl) rfl) ?_
 refine d_mv [(5,_)] ?_
 refine dC [(24,_),(25,_)] Tryz.call103 (t_slices_Repeat_int64_int64 _ _ _ hr3) ?_
 refine d_mv [(0,_)] ?_
 refine d_nilc [(27,_)] ?_
 refine d_far [(28,_)] ?_
 refine d_ldr [(29,_)] ?_
 refine d_mv [(4,_)] ?_
 refine d_ixr [(30,_),(31,_)] ?_
 refine d_ldr [(32,_)] ?_
 refine dC [(33,_)] Tryz.call104 (t_impl_normalWord _ _ hr5) ?_
 refine dG [(26,_),(34,_)] [([(35,some (T.agg [L 1 I r3,L 1 I r5])),(26,some (T.same 35 [0])),(34,some (T.same 35 [1]))],[(35,0),(26,1),(34,1)])] ⟨rfl,rfl,trivial⟩ (fun E h => IxOk.opE (x_build bld_77 [(0,.tmp 26),(1,.tmp 34)] [(0,.slot 26 (L 1 I r3)),(1,.slot 34 (L 1 I r5))] [.slot 26 (L 1 I r3),.slot 34 (L 1 I r5)] (pkS h.1 (clean_of (cleanL (Enc.clean (f:=I)))) rfl (pkS h.2.1 (clean_of (cleanL (Enc.clean (f:=I)))) rfl pkN)) (bqC (.slot _ _) (bqC (.slot _ _) bqN)) rfl) rfl) ?_
 refine dG [(35,_)] [([(36,some (L 2 (A2 lV) [(r3,r5)])),(35,some (T.agg [T.same 36 [0,0],T.same 36 [1,0]]))],[(36,0),(35,1)])] ⟨rfl,trivial⟩ (fun E h => IxOk.opE (x_bs elt_75 [.tmp 35] [.slot 35 (T.agg [L 1 I r3,L 1 I r5])] [(r3,r5)] (A2 lV) ⟨.slot _ _,trivial⟩ (pkS h.1 (clean_of (cleanA ⟨(cleanL (Enc.clean (f:=I))),(cleanL (Enc.clean (f:=I))),trivial⟩)) rfl pkN) rfl rfl) rfl) ?_
 refine dG [(21,T.same 3 []),(3,L 2 (A2 lV) s1.1),(36,L 2 (A2 lV) [(r3,r5)])] [([(21,some (L 2 (A2 lV) s1.1)),(3,some (T.same 21 []))],[(21,1),(3,1)]),([(37,some (L 2 (A2 lV) v6)),(21,some T.any),(36,some T.any)],[(37,0),(21,1),(36,1)])] ⟨rfl,rfl,rfl,trivial⟩ (fun E h => IxOk.gh (Ghost.tr 21 3 _ h.1 h.2.1 (clean_of (cleanL (Enc.clean (f:=(A2 lV))))) rfl) <| IxOk.opE (x_appm (f:=(A2 lV)) elt_75 hv6 rfl (keepE h.2.2.1) rfl) rfl) ?_
 refine d_as [(37,_)] ?_
 refine dNA mixedP ?_
 refine nB ?_
 refine nA ?_
 refine CW.to [(0,T.ro ((Pt eSPr) x0)),(3,T.same 37 []),(14,T.ro (lV x0.Orders)),(15,I (x0.Orders.length:Int)),(16,I s1.2),(37,L 2 (A2 lV) v6)] ⟨rfl,rfl,rfl,rfl,rfl,rfl,trivial⟩ ?_
 refine CW.region ?_
 obtain ⟨v7,hv7,h⟩:=bd h
 refine oP (x_add hv7 rfl rfl rfl) ?_
 refine a_mv ?_
 refine RW.ghost (Ghost.tr 3 37 _ rfl rfl (clean_of (cleanL (Enc.clean (f:=(A2 lV))))) rfl) ?_
 refine RW.nil ?_
 exact eN h
 refine CW.exit ?_
 refine xA ?_
 exact eX h
 obtain ⟨rfl,hg⟩:=hq
 refine xB ?_
 refine nA ?_
 refine CW.ghost hg ?_
 refine CW.seq ?_
 refine sR ?_
 refine a_mv ?_
 refine a_nilc ?_
 refine a_far ?_
 refine a_ldr ?_
 refine a_lenr ?_
 refine a_mv ?_
 refine rN ?_
 refine CW.block ?_
 obtain ⟨r20,hr20,h⟩:=bd h
 refine CW.lp (s:=(r8,0)) (l3_impl_relationSides x0) (fun s7:(List ((List Int) × (List Int))) × Int => envL [(0,T.ro ((Pt eSPr) x0)),(3,L 2 (A2 lV) s7.1),(43,I (x0.Orders.length:Int)),(44,I s7.2)]) (fun (r20:(List ((List Int) × (List Int)))) e E => e = .exit 2 ∧ Ghost ⟨St,W,w0,Tryz.f61.ntmps⟩ E (envL [(3,L 2 (A2 lV) r20)])) (.has ⟨rfl,rfl,rfl,rfl,trivial⟩) (fun s7 x h => ?_) hr20 (fun e E hq => ?_)
 refine sR ?_
 refine a_lss ?_
 refine rN ?_
 refine CW.seq ?_
 refine cn h (fun hc h => ?_) (fun hc h => ?_)
 refine CW.skip ?_
 refine nA ?_
 refine CW.seq ?_
 refine CW.block ?_
 refine sR ?_
 refine a_mv ?_
 refine a_as ?_
 refine rN ?_
 refine sR ?_
 refine a_mv ?_
 refine a_nilc ?_
 refine a_far ?_
 refine a_ldr ?_
 refine a_mv ?_
 obtain ⟨v9,hv9,h⟩:=bd h
 refine a_ixr ?_
 refine a_ldr ?_
 refine a_lenr ?_
 refine a_mv ?_
 refine rN ?_
 refine CW.block ?_
 obtain ⟨r18,hr18,h⟩:=bd h
 refine CW.lp (s:=(s7.1,0)) (l2_impl_relationSides s7 v9) (fun s8:(List ((List Int) × (List Int))) × Int => envL [(0,T.ro ((Pt eSPr) x0)),(3,L 2 (A2 lV) s8.1),(6,I s7.2),(43,I (x0.Orders.length:Int)),(44,I s7.2),(53,T.ro (lM v9)),(54,I (v9.length:Int)),(55,I s8.2)]) (fun (r18:(List ((List Int) × (List Int)))) e E => e = .exit 4 ∧ Ghost ⟨St,W,w0,Tryz.f61.ntmps⟩ E (envL [(0,T.ro ((Pt eSPr) x0)),(3,L 2 (A2 lV) r18),(43,I (x0.Orders.length:Int)),(44,I s7.2)])) (.has ⟨rfl,rfl,rfl,rfl,rfl,rfl,rfl,rfl,trivial⟩) (fun s8 x h => ?_) hr18 (fun e E hq => ?_)
 refine sR ?_
 refine a_lss ?_
 refine rN ?_
 refine CW.seq ?_
 refine cn h (fun hc h => ?_) (fun hc h => ?_)
 refine CW.skip ?_
 refine nA ?_
 refine CW.seq ?_
 refine CW.block ?_
 refine sR ?_
 refine a_mv ?_
 obtain ⟨v10,hv10,h⟩:=bd h
 refine a_ixr ?_
 refine a_ldr ?_
 refine a_as ?_
 refine a_as ?_
 refine rN ?_
 refine sR ?_
 refine a_mv ?_
 obtain ⟨v11,hv11,h⟩:=bd h
 refine oP (x_add hv11 rfl rfl rfl) ?_
 refine a_mv ?_
 refine a_mv ?_
 obtain ⟨v12,hv12,h⟩:=bd h
 refine a_add ?_
 obtain ⟨v13,hv13,h⟩:=bd h
 refine a_add ?_
 refine a_as ?_
 refine a_as ?_
 refine rN ?_
 refine CW.region ?_
 refine a_mv ?_
 refine a_mv ?_
 refine a_mv ?_
 refine oP (x_bs elt_22 [.tmp 67,.tmp 68] [.slot 67 (I v13),.slot 68 (I v11)] [v13,v11] I ⟨.slot _ _,.slot _ _,trivial⟩ (pkS rfl (clean_of (Enc.clean (f:=I) _)) rfl (pkS rfl (clean_of (Enc.clean (f:=I) _)) rfl pkN)) rfl rfl) ?_
 refine a_mv ?_
 refine oP (x_bs elt_22 [.tmp 70] [.slot 70 (I v11)] [v11] I ⟨.slot _ _,trivial⟩ (pkS rfl (clean_of (Enc.clean (f:=I) _)) rfl pkN) rfl rfl) ?_
 refine a_mv ?_
 obtain ⟨r14,hr14,h⟩:=bd h
 refine cA Tryz.call104 (t_impl_normalWord _ _ hr14) ?_
 obtain ⟨v15,hv15,h⟩:=bd h
 refine oP (x_appc (f:=I) elt_22 (fun _ => rfl) hv15 rfl (locB rfl rfl) rfl) ?_
 refine oP (x_build bld_77 [(0,.tmp 69),(1,.tmp 74)] [(0,.slot 69 (L 1 I [v13,v11])),(1,.slot 74 (L 1 I v15))] [.slot 69 (L 1 I [v13,v11]),.slot 74 (L 1 I v15)] (pkS rfl (clean_of (cleanL (Enc.clean (f:=I)))) rfl (pkS rfl (clean_of (cleanL (Enc.clean (f:=I)))) rfl pkN)) (bqC (.slot _ _) (bqC (.slot _ _) bqN)) rfl) ?_
 refine oP (x_bs elt_75 [.tmp 75] [.slot 75 (T.agg [L 1 I [v13,v11],L 1 I v15])] [([v13,v11],v15)] (A2 lV) ⟨.slot _ _,trivial⟩ (pkS rfl (clean_of (cleanA ⟨(cleanL (Enc.clean (f:=I))),(cleanL (Enc.clean (f:=I))),trivial⟩)) rfl pkN) rfl rfl) ?_
 refine RW.ghost (Ghost.tr 66 3 _ rfl rfl (clean_of (cleanL (Enc.clean (f:=(A2 lV))))) rfl) ?_
 obtain ⟨v16,hv16,h⟩:=bd h
 refine oP (x_appm (f:=(A2 lV)) elt_75 hv16 rfl rfl rfl) ?_
 refine a_as ?_
 refine RW.ghost (Ghost.tr 3 77 _ rfl rfl (clean_of (cleanL (Enc.clean (f:=(A2 lV))))) rfl) ?_
 refine RW.nil ?_
 refine nB ?_
 refine nA ?_
 refine CW.to [(0,T.ro ((Pt eSPr) x0)),(3,L 2 (A2 lV) v16),(6,I s7.2),(43,I (x0.Orders.length:Int)),(44,I s7.2),(53,T.ro (lM v9)),(54,I (v9.length:Int)),(55,I s8.2)] ⟨rfl,rfl,rfl,rfl,rfl,rfl,rfl,rfl,trivial⟩ ?_
 refine CW.region ?_
 obtain ⟨v17,hv17,h⟩:=bd h
 refine oP (x_add hv17 rfl rfl rfl) ?_
 refine a_mv ?_
 refine RW.nil ?_
 exact eN h
 refine CW.exit ?_
 refine xA ?_
 exact eX h
 obtain ⟨rfl,hg⟩:=hq
 refine xB ?_
 refine nB ?_
 refine nA ?_
 refine CW.ghost hg ?_
 refine CW.region ?_
 obtain ⟨v19,hv19,h⟩:=bd h
 refine a_add ?_
 refine a_mv ?_
 refine RW.nil ?_
 exact eN h
 refine CW.exit ?_
 refine xA ?_
 exact eX h
 obtain ⟨rfl,hg⟩:=hq
 refine xB ?_
 refine nA ?_
 refine CW.ghost hg ?_
 refine sR ?_
 refine a_mv ?_
 refine a_as ?_
 refine RW.ghost (Ghost.tr 2 3 _ rfl rfl (clean_of (cleanL (Enc.clean (f:=(A2 lV))))) rfl) ?_
 refine rN ?_
 refine CW.ret ?_
 obtain rfl:=sI h
 exact rT
theorem t_impl_identityOf (x0:Int) (x1:Int) (r:SMatrix) (h:f_impl_identityOf x0 x1 = some r):FnC Tryz.prog 107 [I x0,I x1] [eSMatrix r] []:=by
 refine fB Tryz.func107 (fun St W w0 v => ?_)
 refine sR ?_
 refine a_alloc ?_
 refine rN ?_
 refine sR ?_
 refine a_mv ?_
 refine a_mv ?_
 refine oP (x_build bld_73 [(0,.tmp 8),(1,.tmp 9)] [(0,.slot 8 (I x0)),(1,.slot 9 (I x1))] [.slot 8 (I x0),.slot 9 (I x1),.zero (L 1 lV [])] (pkS rfl (clean_of (Enc.clean (f:=I) _)) rfl (pkS rfl (clean_of (Enc.clean (f:=I) _)) rfl (pkZ rfl pkN))) (bqC (.slot _ _) (bqC (.slot _ _) bqN)) rfl) ?_
 refine a_alloc ?_
 refine oP (x_stp inf_73 rfl (locB rfl rfl) rfl rfl rfl rfl (clean_of (cleanA ⟨(Enc.clean (f:=I) _),(Enc.clean (f:=I) _),trivial,trivial⟩)) rfl) ?_
 refine rN ?_
 refine CW.seq ?_
 refine sR ?_
 refine a_mv ?_
 refine a_mv ?_
 refine rN ?_
 refine CW.block ?_
 obtain ⟨r5,hr5,h⟩:=bd h
 refine CW.lp (s:=([],0)) (l1_impl_identityOf x1) (fun s1:(List (List Int)) × Int => envL [(1,I x1),(4,T.ptr (T.agg [I 0,I 0,L 1 lV []])),(5,T.ptr (T.agg [I x0,I x1,L 1 lV s1.1])),(11,I x1),(12,I s1.2)]) (fun (r5:(List (List Int))) e E => e = .exit 0 ∧ Ghost ⟨St,W,w0,Tryz.f107.ntmps⟩ E (envL [(4,T.ptr (T.agg [I 0,I 0,L 1 lV []])),(5,T.ptr (T.agg [I x0,I x1,L 1 lV r5]))])) (.has ⟨rfl,rfl,rfl,rfl,rfl,trivial⟩) (fun s1 x h => ?_) hr5 (fun e E hq => ?_)
 refine sR ?_
 refine a_lss ?_
 refine rN ?_
 refine CW.seq ?_
 refine cn h (fun hc h => ?_) (fun hc h => ?_)
 refine CW.skip ?_
 refine nA ?_
 refine CW.seq ?_
 refine CW.block ?_
 refine sR ?_
 refine a_mv ?_
 refine a_as ?_
 refine rN ?_
 refine sR ?_
 refine a_mv ?_
 obtain ⟨m1,hm1,h⟩:=bd h
 refine oP (x_makeL (f:=I) (z:=0) elt_22 (rfl) hm1 rfl rfl rfl) ?_
 refine a_as ?_
 refine RW.ghost (Ghost.tr 7 16 _ rfl rfl (clean_of (cleanL (Enc.clean (f:=I)))) rfl) ?_
 refine rN ?_
 refine sR ?_
 refine a_mv ?_
 refine a_mv ?_
 obtain ⟨v2,hv2,h⟩:=bd h
 refine a_ix ?_
 refine oP (x_stcT inf_2 rfl rfl rfl (getc hv2 rfl) (setc hv2 rfl) rfl rfl) ?_
 refine rN ?_
 refine CW.region ?_
 refine a_fa ?_
 refine a_ld ?_
 refine a_mv ?_
 refine RW.ghost (Ghost.tr 22 7 _ rfl rfl (clean_of (cleanL (Enc.clean (f:=I)))) rfl) ?_
 refine oP (x_bs elt_23 [.tmp 22] [.slot 22 (L 1 I ((List.replicate m1 (0:Int)).set s1.2.toNat 1))] [(List.replicate m1 (0:Int)).set s1.2.toNat 1] lV ⟨.slot _ _,trivial⟩ (pkS rfl (clean_of (cleanL (Enc.clean (f:=I)))) rfl pkN) rfl rfl) ?_
 refine RW.ghost (Ghost.trq 21 5 [2,0] rfl rfl rfl (clean_of (cleanL (Enc.clean (f:=lV)))) rfl) ?_
 obtain ⟨v3,hv3,h⟩:=bd h
 refine oP (x_appm (f:=lV) elt_23 hv3 rfl rfl rfl) ?_
 refine a_fa ?_
 refine oP (x_st inf_23 rfl rfl rfl rfl rfl rfl (clean_of (cleanL (Enc.clean (f:=lV)))) rfl) ?_
 refine RW.nil ?_
 refine nB ?_
 refine nA ?_
 refine CW.region ?_
 obtain ⟨v4,hv4,h⟩:=bd h
 refine a_add ?_
 refine a_mv ?_
 refine RW.nil ?_
 exact eN h
 refine CW.exit ?_
 refine xA ?_
 exact eX h
 obtain ⟨rfl,hg⟩:=hq
 refine xB ?_
 refine nA ?_
 refine CW.ghost hg ?_
 refine sR ?_
 refine a_ldp ?_
 refine RW.ghost (Ghost.trf 27 [2] 5 [2,0] _ _ rfl rfl rfl rfl rfl (clean_of (cleanL (Enc.clean (f:=lV)))) rfl) ?_
 refine oP (x_stp inf_73 rfl (locB rfl rfl) rfl rfl rfl rfl (clean_of (cleanA ⟨(Enc.clean (f:=I) _),(Enc.clean (f:=I) _),(cleanL (Enc.clean (f:=lV))),trivial⟩)) rfl) ?_
 refine rN ?_
 refine CW.ret ?_
 obtain rfl:=sI h
 exact ⟨_,Ghost.refl,⟨.inl rfl,[(4,[0],T.agg [I x0,I x1,L 1 lV r5])],⟨⟨rfl,rfl,rfl,(var_73.h _ rfl rfl).h⟩,trivial⟩,rfl,(by simp),(by simp),trivial⟩⟩
theorem t_impl_residue (x0:Int) (x1:Int) (r:Int) (h:f_impl_residue x0 x1 = some r):FnC Tryz.prog 110 [I x0,I x1] [I r] []:=by
 refine fB Tryz.func110 (fun St W w0 v => ?_)
 refine sR ?_
 refine a_as ?_
 refine rN ?_
 refine sR ?_
 refine a_mv ?_
 refine a_mv ?_
 obtain ⟨v1,hv1,h⟩:=bd h
 refine a_rem ?_
 refine a_mv ?_
 obtain ⟨v2,hv2,h⟩:=bd h
 refine a_add ?_
 refine a_mv ?_
 obtain ⟨v3,hv3,h⟩:=bd h
 refine a_rem ?_
 refine a_as ?_
 refine rN ?_
 refine CW.ret ?_
 obtain rfl:=sI h
 exact rT
theorem t_impl_addMultiple (x0:List Int) (x1:List Int) (x2:Int) (x3:Int) (r:(List Int)) (h:f_impl_addMultiple x0 x1 x2 x3 = some r):FnC Tryz.prog 66 [L 1 I x0,T.ro (lV x1),I x2,I x3] [] [(0,lV r)]:=by
 refine fB Tryz.func66 (fun St W w0 v => ?_)
 refine sR ?_
 refine a_mv ?_
 refine a_len ?_
 refine a_mv ?_
 refine rN ?_
 refine CW.block ?_
 obtain ⟨r8,hr8,h⟩:=bd h
 refine CW.lp (s:=(x0,0)) (l1_impl_addMultiple x0 x1 x2 x3) (fun s1:(List Int) × Int => envL [(0,L 1 I s1.1),(1,T.ro (lV x1)),(2,I x2),(3,I x3),(10,I (x0.length:Int)),(11,I s1.2)]) (fun (r8:(List Int)) e E => e = .exit 0 ∧ Ghost ⟨St,W,w0,Tryz.f66.ntmps⟩ E (envL [(0,L 1 I r8)])) (.has ⟨rfl,rfl,rfl,rfl,rfl,rfl,trivial⟩) (fun s1 x h => ?_) hr8 (fun e E hq => ?_)
 refine sR ?_
 refine a_lss ?_
 refine rN ?_
 refine CW.seq ?_
 refine cn h (fun hc h => ?_) (fun hc h => ?_)
 refine CW.skip ?_
 refine nA ?_
 refine CW.seq ?_
 refine CW.block ?_
 refine sR ?_
 refine a_mv ?_
 refine a_as ?_
 refine rN ?_
 obtain ⟨v1,hv1,h⟩:=bd h
 obtain ⟨v2,hv2,h⟩:=bd h
 obtain ⟨v3,hv3,h⟩:=bd h
 obtain ⟨v4,hv4,h⟩:=bd h
 obtain ⟨r5,hr5,h⟩:=bd h
 obtain ⟨v6,hv6,h⟩:=bd h
 refine CW.dk ?_
 refine d_mv [(0,_)] ?_
 refine d_mv [(8,_)] ?_
 refine d_mv [(0,_)] ?_
 refine d_mv [(8,_)] ?_
 refine dG [(16,_),(0,_),(17,_)] [([(18,some (T.addr 0 [s1.2.toNat]))],[(18,0)])] ⟨rfl,rfl,rfl,trivial⟩ (fun E h => IxOk.opE (x_ix (f:=I) row_22 hv1 (locA h.1 h.2.1 rfl rfl) h.2.2.1 rfl) rfl) ?_
 refine dG [(18,_),(0,_)] [([(19,some (I v1))],[(19,0)])] ⟨rfl,rfl,trivial⟩ (fun E h => IxOk.opE (x_ld (var_2.h _ rfl rfl) h.1 h.2.1 (getc hv1 rfl) rfl) rfl) ?_
 refine d_mv [(2,_)] ?_
 refine d_mv [(1,_)] ?_
 refine d_mv [(8,_)] ?_
 refine d_ixr [(21,_),(22,_)] ?_
 refine d_ldr [(23,_)] ?_
 refine d_mul [(20,_),(24,_)] ?_
 refine d_add [(19,_),(25,_)] ?_ (h:=fun _ h => (x_add hv4 h.1 h.2.1 rfl))
 refine d_mv [(3,_)] ?_
 refine dC [(26,_),(27,_)] Tryz.call110 (t_impl_residue _ _ _ hr5) ?_
 refine dG [(14,_),(0,_),(15,_)] [([(29,some (T.addr 0 [s1.2.toNat]))],[(29,0)])] ⟨rfl,rfl,rfl,trivial⟩ (fun E h => IxOk.opE (x_ix (f:=I) row_22 hv6 (locA h.1 h.2.1 rfl rfl) h.2.2.1 rfl) rfl) ?_
 refine dG [(29,_),(0,_),(28,_)] [([(0,some (L 1 I (s1.1.set s1.2.toNat r5)))],[(0,1)])] ⟨rfl,rfl,rfl,trivial⟩ (fun E h => IxOk.opE (x_st inf_2 rfl h.1 h.2.1 (getc hv6 rfl) (setc hv6 rfl) h.2.2.1 (clean_of (Enc.clean (f:=I) _)) rfl) rfl) ?_
 refine dNA mixedP ?_
 refine nB ?_
 refine nA ?_
 refine CW.region ?_
 obtain ⟨v7,hv7,h⟩:=bd h
 refine a_add ?_
 refine a_mv ?_
 refine RW.nil ?_
 exact eN h
 refine CW.exit ?_
 refine xA ?_
 exact eX h
 obtain ⟨rfl,hg⟩:=hq
 refine xB ?_
 obtain rfl:=sI h
 exact rTg hg rT
theorem t_impl_vectorTimes (x0:List Int) (x1:SMatrix) (r:(List Int)) (h:f_impl_vectorTimes x0 x1 = some r):FnC Tryz.prog 139 [T.ro (lV x0),qMatrix x1] [lV r] []:=by
 refine fB Tryz.func139 (fun St W w0 v => ?_)
 refine sR ?_
 refine a_box ?_
 refine oP (x_nil 1 rfl) ?_
 refine rN ?_
 refine sR ?_
 refine a_fa ?_
 refine a_ld ?_
 obtain ⟨m1,hm1,h⟩:=bd h
 refine oP (x_makeL (f:=I) (z:=0) elt_22 (rfl) hm1 rfl rfl rfl) ?_
 refine a_as ?_
 refine RW.ghost (Ghost.tr 5 10 _ rfl rfl (clean_of (cleanL (Enc.clean (f:=I)))) rfl) ?_
 refine rN ?_
 refine CW.seq ?_
 refine sR ?_
 refine a_mv ?_
 refine a_lenr ?_
 refine a_mv ?_
 refine rN ?_
 refine CW.block ?_
 obtain ⟨r6,hr6,h⟩:=bd h
 refine CW.lp (s:=(List.replicate m1 (0:Int),0)) (l1_impl_vectorTimes x0 x1) (fun s1:(List Int) × Int => envL [(3,T.ptr (qMatrix x1)),(5,L 1 I s1.1),(11,T.ro (lV x0)),(12,I (x0.length:Int)),(13,I s1.2)]) (fun (r6:(List Int)) e E => e = .exit 0 ∧ Ghost ⟨St,W,w0,Tryz.f139.ntmps⟩ E (envL [(5,L 1 I r6)])) (.has ⟨rfl,rfl,rfl,rfl,rfl,trivial⟩) (fun s1 x h => ?_) hr6 (fun e E hq => ?_)
 refine sR ?_
 refine a_lss ?_
 refine rN ?_
 refine CW.seq ?_
 refine cn h (fun hc h => ?_) (fun hc h => ?_)
 refine CW.skip ?_
 refine nA ?_
 refine CW.seq ?_
 refine CW.block ?_
 refine sR ?_
 refine a_mv ?_
 obtain ⟨v2,hv2,h⟩:=bd h
 refine a_ixr ?_
 refine a_ldr ?_
 refine a_as ?_
 refine a_as ?_
 refine rN ?_
 obtain ⟨v3,hv3,h⟩:=bd h
 obtain ⟨r4,hr4,h⟩:=bd h
 refine CW.dk ?_
 refine d_mv [(5,_)] ?_
 refine d_fa [(3,_)] ?_
 refine d_ld [(19,_),(3,_)] ?_
 refine d_mv [(6,_)] ?_
 refine d_ixr [(20,_),(21,_)] ?_
 refine d_ldr [(22,_)] ?_
 refine d_mv [(7,_)] ?_
 refine d_fa [(3,_)] ?_
 refine d_ld [(25,_),(3,_)] ?_
 refine dG [(18,_),(5,_),(23,_),(24,_),(26,_)] [([(18,some (L 1 I s1.1)),(5,some (T.same 18 []))],[(18,1),(5,1)]),([(27,some (T.tup [])),(18,some (L 1 I r4))],[(27,0),(18,1)]),([(5,some (L 1 I r4)),(18,some (T.same 5 []))],[(5,1),(18,1)])] ⟨rfl,rfl,rfl,rfl,rfl,trivial⟩ (fun E h => IxOk.opE (x_callM (xs:=[.tmp 18,.tmp 23,.tmp 24,.tmp 26]) 0 18 5 [] Tryz.call66 (t_impl_addMultiple _ _ _ _ _ hr4) h.1 h.2.1 rfl (clean_of (cleanL (Enc.clean (f:=I)))) (clean_of (cleanL (Enc.clean (f:=I)))) (Enc.rofree (f:=L 1 I) _) (Enc.rofree (f:=L 1 I) _) ⟨(agLd rfl (clean_of (cleanL (Enc.clean (f:=I)))) (Enc.rofree (f:=L 1 I) _)),⟨(agM _ (keepL h.2.2.1) rfl rfl),⟨(agM _ (keepL h.2.2.2.1) rfl rfl),⟨(agM _ (keepL h.2.2.2.2.1) rfl rfl),trivial⟩⟩⟩⟩ resN rfl rfl rfl rfl) rfl) ?_
 refine dNA mixedP ?_
 refine nB ?_
 refine nA ?_
 refine CW.region ?_
 obtain ⟨v5,hv5,h⟩:=bd h
 refine a_add ?_
 refine a_mv ?_
 refine RW.nil ?_
 exact eN h
 refine CW.exit ?_
 refine xA ?_
 exact eX h
 obtain ⟨rfl,hg⟩:=hq
 refine xB ?_
 refine nA ?_
 refine CW.ghost hg ?_
 refine sR ?_
 refine a_mv ?_
 refine a_as ?_
 refine RW.ghost (Ghost.tr 4 5 _ rfl rfl (clean_of (cleanL (Enc.clean (f:=I)))) rfl) ?_
 refine rN ?_
 refine CW.ret ?_
 obtain rfl:=sI h
 exact rT
theorem t_impl_product (x0:SMatrix) (x1:SMatrix) (r:SMatrix) (h:f_impl_product x0 x1 = some r):FnC Tryz.prog 108 [qMatrix x0,qMatrix x1] [eSMatrix r] []:=by
 refine fB Tryz.func108 (fun St W w0 v => ?_)
 refine sR ?_
 refine a_box ?_
 refine a_box ?_
 refine a_alloc ?_
 refine rN ?_
 refine sR ?_
 refine a_fa ?_
 refine a_ld ?_
 refine a_fa ?_
 refine a_ld ?_
 refine oP (x_build bld_73 [(0,.tmp 9),(1,.tmp 11)] [(0,.slot 9 (I x0.Prime)),(1,.slot 11 (I x1.Columns))] [.slot 9 (I x0.Prime),.slot 11 (I x1.Columns),.zero (L 1 lV [])] (pkS rfl (clean_of (Enc.clean (f:=I) _)) rfl (pkS rfl (clean_of (Enc.clean (f:=I) _)) rfl (pkZ rfl pkN))) (bqC (.slot _ _) (bqC (.slot _ _) bqN)) rfl) ?_
 refine a_alloc ?_
 refine oP (x_stp inf_73 rfl (locB rfl rfl) rfl rfl rfl rfl (clean_of (cleanA ⟨(Enc.clean (f:=I) _),(Enc.clean (f:=I) _),trivial,trivial⟩)) rfl) ?_
 refine rN ?_
 refine CW.seq ?_
 refine sR ?_
 refine a_fa ?_
 refine a_ld ?_
 refine a_lenr ?_
 refine a_mv ?_
 refine rN ?_
 refine CW.block ?_
 obtain ⟨r5,hr5,h⟩:=bd h
 refine CW.lp (s:=([],0)) (l1_impl_product x0 x1) (fun s1:(List (List Int)) × Int => envL [(3,T.ptr (qMatrix x1)),(4,T.ptr (T.agg [I 0,I 0,L 1 lV []])),(5,T.ptr (T.agg [I x0.Prime,I x1.Columns,L 1 lV s1.1])),(14,T.ro (lM x0.Rows)),(15,I (x0.Rows.length:Int)),(16,I s1.2)]) (fun (r5:(List (List Int))) e E => e = .exit 0 ∧ Ghost ⟨St,W,w0,Tryz.f108.ntmps⟩ E (envL [(4,T.ptr (T.agg [I 0,I 0,L 1 lV []])),(5,T.ptr (T.agg [I x0.Prime,I x1.Columns,L 1 lV r5]))])) (.has ⟨rfl,rfl,rfl,rfl,rfl,rfl,trivial⟩) (fun s1 x h => ?_) hr5 (fun e E hq => ?_)
 refine sR ?_
 refine a_lss ?_
 refine rN ?_
 refine CW.seq ?_
 refine cn h (fun hc h => ?_) (fun hc h => ?_)
 refine CW.skip ?_
 refine nA ?_
 refine CW.seq ?_
 refine CW.block ?_
 refine sR ?_
 obtain ⟨v1,hv1,h⟩:=bd h
 refine a_ixr ?_
 refine a_ldr ?_
 refine a_as ?_
 refine rN ?_
 obtain ⟨r2,hr2,h⟩:=bd h
 obtain ⟨v3,hv3,h⟩:=bd h
 refine CW.dk ?_
 refine d_fa [(5,_)] ?_
 refine d_ld [(20,_),(5,_)] ?_
 refine d_mv [(7,_)] ?_
 refine d_ldp [(3,_)] ?_
 refine dC [(22,_),(23,_)] Tryz.call139 (t_impl_vectorTimes _ _ _ hr2) ?_
 refine dG [(24,_)] [([(25,some (L 1 lV [r2])),(24,some (T.same 25 [0]))],[(25,0),(24,1)])] ⟨rfl,trivial⟩ (fun E h => IxOk.opE (x_bs elt_23 [.tmp 24] [.slot 24 (L 1 I r2)] [r2] lV ⟨.slot _ _,trivial⟩ (pkS h.1 (clean_of (cleanL (Enc.clean (f:=I)))) rfl pkN) rfl rfl) rfl) ?_
 refine dG [(21,T.same 5 [2,0]),(5,T.ptr (T.agg [I x0.Prime,I x1.Columns,L 1 lV s1.1])),(25,L 1 lV [r2])] [([(21,some (L 1 lV s1.1)),(5,some (T.ptr (T.agg [I x0.Prime,I x1.Columns,T.any])))],[(21,1),(5,3)]),([(26,some (L 1 lV v3)),(21,some T.any),(25,some T.any)],[(26,0),(21,1),(25,1)])] ⟨rfl,rfl,rfl,trivial⟩ (fun E h => IxOk.gh (Ghost.trq 21 5 [2,0] h.1 h.2.1 rfl (clean_of (cleanL (Enc.clean (f:=lV)))) rfl) <| IxOk.opE (x_appm (f:=lV) elt_23 hv3 rfl (keepE h.2.2.1) rfl) rfl) ?_
 refine d_fa [(5,_)] ?_
 refine dG [(27,_),(5,_),(26,_)] [([(5,some (T.ptr (T.agg [I x0.Prime,I x1.Columns,L 1 lV v3]))),(26,some (T.same 5 [2,0]))],[(5,2),(26,1)])] ⟨rfl,rfl,rfl,trivial⟩ (fun E h => IxOk.opE (x_st inf_23 rfl h.1 h.2.1 rfl rfl h.2.2.1 (clean_of (cleanL (Enc.clean (f:=lV)))) rfl) rfl) ?_
 refine dNA mixedP ?_
 refine nB ?_
 refine nA ?_
 refine CW.region ?_
 obtain ⟨v4,hv4,h⟩:=bd h
 refine a_add ?_
 refine a_mv ?_
 refine RW.nil ?_
 exact eN h
 refine CW.exit ?_
 refine xA ?_
 exact eX h
 obtain ⟨rfl,hg⟩:=hq
 refine xB ?_
 refine nA ?_
 refine CW.ghost hg ?_
 refine sR ?_
 refine a_ldp ?_
 refine RW.ghost (Ghost.trf 29 [2] 5 [2,0] _ _ rfl rfl rfl rfl rfl (clean_of (cleanL (Enc.clean (f:=lV)))) rfl) ?_
 refine oP (x_stp inf_73 rfl (locB rfl rfl) rfl rfl rfl rfl (clean_of (cleanA ⟨(Enc.clean (f:=I) _),(Enc.clean (f:=I) _),(cleanL (Enc.clean (f:=lV))),trivial⟩)) rfl) ?_
 refine rN ?_
 refine CW.ret ?_
 obtain rfl:=sI h
 exact ⟨_,Ghost.refl,⟨.inl rfl,[(4,[0],T.agg [I x0.Prime,I x1.Columns,L 1 lV r5])],⟨⟨rfl,rfl,rfl,(var_73.h _ rfl rfl).h⟩,trivial⟩,rfl,(by simp),(by simp),trivial⟩⟩
end Go.Wk
