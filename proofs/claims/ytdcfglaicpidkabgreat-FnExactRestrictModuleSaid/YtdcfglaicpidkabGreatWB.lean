/- The program and the reference return the same modules restricted to submodules, for all arguments (FnExactRestrictModule). This file is a part of the proof. -/
import Derived.Test.YtdcfglaicpidkabGreatWA
namespace Go.Wk
open Go Go.Proofs Go.Ab
set_option maxRecDepth 100000
theorem tN_impl_timesGenerator:∀ n,(∀ (x0:SPresentation) (x1:List Int) (x2:Int) r,fN_impl_timesGenerator n x0 x1 x2 = some r → FnC Tryz.prog 163 [T.ro ((Pt eSPresentation) x0),L 1 I x1,I x2] [] [(1,lV r)]) ∧ (∀ (x0:SPresentation) (x1:List Int) (x2:List Int) r,fN_impl_timesVector n x0 x1 x2 = some r → FnC Tryz.prog 160 [T.ro ((Pt eSPresentation) x0),L 1 I x1,T.ro (lV x2)] [] [(1,lV r)]):=by
  intro n
  induction n with
  | zero => exact ⟨(fun _ _ _ r h => by simp [fN_impl_timesGenerator] at h),(fun _ _ _ r h => by simp [fN_impl_timesVector] at h)⟩
  | succ n ih => exact ⟨(fun x0 x1 x2 r h => tb_impl_timesGenerator ih.2 x0 x1 x2 r (by simpa [fN_impl_timesGenerator] using h)),(fun x0 x1 x2 r h => tb_impl_timesVector ih.1 x0 x1 x2 r (by simpa [fN_impl_timesVector] using h))⟩
theorem t_impl_timesGenerator (x0:SPresentation) (x1:List Int) (x2:Int) (r:(List Int)) (h:f_impl_timesGenerator x0 x1 x2 = some r):FnC Tryz.prog 163 [T.ro ((Pt eSPresentation) x0),L 1 I x1,I x2] [] [(1,lV r)]:=by
 obtain ⟨n,hn⟩:=fuelO_some h
 exact (tN_impl_timesGenerator n).1 x0 x1 x2 r hn
theorem t_impl_timesVector (x0:SPresentation) (x1:List Int) (x2:List Int) (r:(List Int)) (h:f_impl_timesVector x0 x1 x2 = some r):FnC Tryz.prog 160 [T.ro ((Pt eSPresentation) x0),L 1 I x1,T.ro (lV x2)] [] [(1,lV r)]:=by
 obtain ⟨n,hn⟩:=fuelO_some h
 exact (tN_impl_timesGenerator n).2 x0 x1 x2 r hn
theorem t_impl_power (x0:SPresentation) (x1:List Int) (x2:Int) (r:(List Int)) (h:f_impl_power x0 x1 x2 = some r):FnC Tryz.prog 151 [T.ro ((Pt eSPresentation) x0),T.ro (lV x1),I x2] [lV r] []:=by
 refine fB Tryz.func151 (fun St W w0 v => ?_)
 refine sR ?_
 refine oP (x_nil 1 rfl) ?_
 refine rN ?_
 refine sR ?_
 refine a_mv ?_
 refine a_lenr ?_
 obtain ⟨m1,hm1,h⟩:=bd h
 refine oP (x_makeL (f:=I) (z:=0) elt_22 (rfl) hm1 rfl rfl rfl) ?_
 refine a_as ?_
 refine RW.ghost (Ghost.tr 7 10 _ rfl rfl (clean_of (cleanL (Enc.clean (f:=I)))) rfl) ?_
 refine rN ?_
 refine CW.seq ?_
 refine sR ?_
 refine a_mv ?_
 refine a_mv ?_
 refine rN ?_
 refine CW.block ?_
 obtain ⟨r4,hr4,h⟩:=bd h
 refine CW.lp (s:=(List.replicate m1 (0:Int),0)) (l1_impl_power x0 x1 x2) (fun s1:(List Int) × Int => envL [(0,T.ro ((Pt eSPresentation) x0)),(1,T.ro (lV x1)),(7,L 1 I s1.1),(11,I x2),(12,I s1.2)]) (fun (r4:(List Int)) e E => e = .exit 0 ∧ Ghost ⟨St,W,w0,Tryz.f151.ntmps⟩ E (envL [(7,L 1 I r4)])) (.has ⟨rfl,rfl,rfl,rfl,rfl,trivial⟩) (fun s1 x h => ?_) hr4 (fun e E hq => ?_)
 refine sR ?_
 refine a_lss ?_
 refine rN ?_
 refine CW.seq ?_
 refine cn h (fun hc h => ?_) (fun hc h => ?_)
 refine CW.skip ?_
 refine nA ?_
 refine CW.seq ?_
 refine CW.block ?_
 refine CW.region ?_
 refine a_mv ?_
 refine a_mv ?_
 refine a_mv ?_
 obtain ⟨r2,hr2,h⟩:=bd h
 refine oP (x_callM (xs:=[.tmp 14,.tmp 15,.tmp 16]) 1 15 7 [] Tryz.call160 (t_impl_timesVector _ _ _ _ hr2) rfl rfl rfl (clean_of (cleanL (Enc.clean (f:=I)))) (clean_of (cleanL (Enc.clean (f:=I)))) (Enc.rofree (f:=L 1 I) _) (Enc.rofree (f:=L 1 I) _) ⟨(agM _ rfl rfl rfl),⟨(agLd rfl (clean_of (cleanL (Enc.clean (f:=I)))) (Enc.rofree (f:=L 1 I) _)),⟨(agM _ rfl rfl rfl),trivial⟩⟩⟩ resN rfl rfl rfl rfl) ?_
 refine RW.nil ?_
 refine nB ?_
 refine nA ?_
 refine CW.region ?_
 obtain ⟨v3,hv3,h⟩:=bd h
 refine a_add ?_
 refine a_mv ?_
 refine RW.nil ?_
 exact eN h
 refine CW.exit ?_
 refine xA ?_
 exact eX h
 obtain ⟨rfl,hg⟩:=hq
 refine xB ?_
 refine nA ?_
 refine CW.ghost hg ?_
 refine sR ?_
 refine a_mv ?_
 refine a_as ?_
 refine RW.ghost (Ghost.tr 6 7 _ rfl rfl (clean_of (cleanL (Enc.clean (f:=I)))) rfl) ?_
 refine rN ?_
 refine CW.ret ?_
 obtain rfl:=sI h
 exact rT
theorem t_impl_imageBy (x0:SPresentation) (x1:Int) (x2:List Int) (r:(List Int)) (h:f_impl_imageBy x0 x1 x2 = some r):FnC Tryz.prog 152 [T.ro ((Pt eSPresentation) x0),I x1,T.ro (lV x2)] [lV r] []:=by
 refine fB Tryz.func152 (fun St W w0 v => ?_)
 refine sR ?_
 refine oP (x_nil 1 rfl) ?_
 refine rN ?_
 refine sR ?_
 refine a_mv ?_
 refine a_lenr ?_
 obtain ⟨m1,hm1,h⟩:=bd h
 refine oP (x_makeL (f:=I) (z:=0) elt_22 (rfl) hm1 rfl rfl rfl) ?_
 refine a_as ?_
 refine RW.ghost (Ghost.tr 7 12 _ rfl rfl (clean_of (cleanL (Enc.clean (f:=I)))) rfl) ?_
 refine rN ?_
 refine CW.seq ?_
 refine sR ?_
 refine a_mv ?_
 refine a_nilc ?_
 refine a_far ?_
 refine a_ldr ?_
 refine a_mv ?_
 obtain ⟨v2,hv2,h⟩:=bd h
 refine a_ixr ?_
 refine a_ldr ?_
 refine a_lenr ?_
 refine a_mv ?_
 refine rN ?_
 refine CW.block ?_
 obtain ⟨r11,hr11,h⟩:=bd h
 refine CW.lp (s:=(List.replicate m1 (0:Int),0)) (l2_impl_imageBy x0 x1 x2 v2) (fun s5:(List Int) × Int => envL [(0,T.ro ((Pt eSPresentation) x0)),(1,I x1),(2,T.ro (lV x2)),(7,L 1 I s5.1),(19,T.ro (lM v2)),(20,I (v2.length:Int)),(21,I s5.2)]) (fun (r11:(List Int)) e E => e = .exit 0 ∧ Ghost ⟨St,W,w0,Tryz.f152.ntmps⟩ E (envL [(7,L 1 I r11)])) (.has ⟨rfl,rfl,rfl,rfl,rfl,rfl,rfl,trivial⟩) (fun s5 x h => ?_) hr11 (fun e E hq => ?_)
 refine sR ?_
 refine a_lss ?_
 refine rN ?_
 refine CW.seq ?_
 refine cn h (fun hc h => ?_) (fun hc h => ?_)
 refine CW.skip ?_
 refine nA ?_
 refine CW.seq ?_
 refine CW.block ?_
 refine sR ?_
 refine a_mv ?_
 obtain ⟨v3,hv3,h⟩:=bd h
 refine a_ixr ?_
 refine a_ldr ?_
 refine a_as ?_
 refine a_as ?_
 refine rN ?_
 refine sR ?_
 refine a_mv ?_
 refine a_mv ?_
 obtain ⟨v4,hv4,h⟩:=bd h
 refine a_add ?_
 refine a_mv ?_
 obtain ⟨v5,hv5,h⟩:=bd h
 refine a_add ?_
 obtain ⟨v6,hv6,h⟩:=bd h
 refine a_ixr ?_
 refine a_ldr ?_
 refine a_mv ?_
 refine rN ?_
 refine CW.block ?_
 obtain ⟨r9,hr9,h⟩:=bd h
 refine CW.lp (s:=(s5.1,0)) (l1_impl_imageBy x0 v3 v6) (fun s6:(List Int) × Int => envL [(0,T.ro ((Pt eSPresentation) x0)),(1,I x1),(2,T.ro (lV x2)),(7,L 1 I s6.1),(9,T.ro (lV v3)),(19,T.ro (lM v2)),(20,I (v2.length:Int)),(21,I s5.2),(32,I v6),(33,I s6.2)]) (fun (r9:(List Int)) e E => e = .exit 2 ∧ Ghost ⟨St,W,w0,Tryz.f152.ntmps⟩ E (envL [(0,T.ro ((Pt eSPresentation) x0)),(1,I x1),(2,T.ro (lV x2)),(7,L 1 I r9),(19,T.ro (lM v2)),(20,I (v2.length:Int)),(21,I s5.2)])) (.has ⟨rfl,rfl,rfl,rfl,rfl,rfl,rfl,rfl,rfl,rfl,trivial⟩) (fun s6 x h => ?_) hr9 (fun e E hq => ?_)
 refine sR ?_
 refine a_lss ?_
 refine rN ?_
 refine CW.seq ?_
 refine cn h (fun hc h => ?_) (fun hc h => ?_)
 refine CW.skip ?_
 refine nA ?_
 refine CW.seq ?_
 refine CW.block ?_
 refine CW.region ?_
 refine a_mv ?_
 refine a_mv ?_
 refine a_mv ?_
 obtain ⟨r7,hr7,h⟩:=bd h
 refine oP (x_callM (xs:=[.tmp 35,.tmp 36,.tmp 37]) 1 36 7 [] Tryz.call160 (t_impl_timesVector _ _ _ _ hr7) rfl rfl rfl (clean_of (cleanL (Enc.clean (f:=I)))) (clean_of (cleanL (Enc.clean (f:=I)))) (Enc.rofree (f:=L 1 I) _) (Enc.rofree (f:=L 1 I) _) ⟨(agM _ rfl rfl rfl),⟨(agLd rfl (clean_of (cleanL (Enc.clean (f:=I)))) (Enc.rofree (f:=L 1 I) _)),⟨(agM _ rfl rfl rfl),trivial⟩⟩⟩ resN rfl rfl rfl rfl) ?_
 refine RW.nil ?_
 refine nB ?_
 refine nA ?_
 refine CW.region ?_
 obtain ⟨v8,hv8,h⟩:=bd h
 refine a_add ?_
 refine a_mv ?_
 refine RW.nil ?_
 exact eN h
 refine CW.exit ?_
 refine xA ?_
 exact eX h
 obtain ⟨rfl,hg⟩:=hq
 refine xB ?_
 refine nB ?_
 refine nA ?_
 refine CW.ghost hg ?_
 refine CW.region ?_
 obtain ⟨v10,hv10,h⟩:=bd h
 refine a_add ?_
 refine a_mv ?_
 refine RW.nil ?_
 exact eN h
 refine CW.exit ?_
 refine xA ?_
 exact eX h
 obtain ⟨rfl,hg⟩:=hq
 refine xB ?_
 refine nA ?_
 refine CW.ghost hg ?_
 refine sR ?_
 refine a_mv ?_
 refine a_as ?_
 refine RW.ghost (Ghost.tr 6 7 _ rfl rfl (clean_of (cleanL (Enc.clean (f:=I)))) rfl) ?_
 refine rN ?_
 refine CW.ret ?_
 obtain rfl:=sI h
 exact rT
theorem t_slices_Equal_int64_int64 (x0:List Int) (x1:List Int) (r:Bool) (h:f_slices_Equal_int64_int64 x0 x1 = some r):FnC Tryz.prog 129 [T.ro (lV x0),T.ro (lV x1)] [B r] []:=by
 refine fB Tryz.func129 (fun St W w0 v => ?_)
 refine sR ?_
 refine a_as ?_
 refine rN ?_
 refine CW.seq ?_
 refine sR ?_
 refine a_mv ?_
 refine a_lenr ?_
 refine a_mv ?_
 refine a_lenr ?_
 refine a_neq ?_
 refine rN ?_
 refine cn h (fun hc h => ?_) (fun hc h => ?_)
 refine sR ?_
 refine a_as ?_
 refine rN ?_
 refine CW.ret ?_
 refine rA ?_
 obtain rfl:=sI h
 exact rT
 refine CW.skip ?_
 refine nA ?_
 refine CW.seq ?_
 refine sR ?_
 refine a_mv ?_
 refine a_lenr ?_
 refine a_mv ?_
 refine rN ?_
 refine CW.block ?_
 obtain ⟨r4,hr4,h⟩:=bd h
 refine CW.lp (s:=0) (l1_slices_Equal_int64_int64 x0 x1) (fun s1:Int => envL [(0,T.ro (lV x0)),(1,T.ro (lV x1)),(12,I (x0.length:Int)),(13,I s1)]) (fun (x:Unit ⊕ Bool) e E => match x with | (.inl r4) => e = .exit 0 ∧ Ghost ⟨St,W,w0,Tryz.f129.ntmps⟩ E (envL []) | (.inr r4) => e = .ret ∧ RetG ⟨St,W,w0,Tryz.f129.ntmps⟩ Tryz.prog Tryz.f129.results [T.ro (lV x0),T.ro (lV x1)] [B r4] [] .ret E) (.has ⟨rfl,rfl,rfl,rfl,trivial⟩) (fun s1 x h => ?_) hr4 (fun e E hq => ?_)
 refine sR ?_
 refine a_lss ?_
 refine rN ?_
 refine CW.seq ?_
 refine cn h (fun hc h => ?_) (fun hc h => ?_)
 refine CW.skip ?_
 refine nA ?_
 refine CW.seq ?_
 refine CW.block ?_
 refine sR ?_
 refine a_mv ?_
 refine a_as ?_
 refine rN ?_
 refine CW.seq ?_
 obtain ⟨v1,hv1,h⟩:=bd h
 obtain ⟨v2,hv2,h⟩:=bd h
 refine CW.dk ?_
 refine d_mv [(0,_)] ?_
 refine d_mv [(5,_)] ?_
 refine d_ixr [(16,_),(17,_)] ?_
 refine d_ldr [(18,_)] ?_
 refine d_mv [(1,_)] ?_
 refine d_mv [(5,_)] ?_
 refine d_ixr [(20,_),(21,_)] ?_
 refine d_ldr [(22,_)] ?_
 refine d_neq [(19,_),(23,_)] ?_
 refine dNA mixedP ?_
 refine nA ?_
 refine cn h (fun hc h => ?_) (fun hc h => ?_)
 refine sR ?_
 refine a_as ?_
 refine rN ?_
 refine CW.ret ?_
 refine rB ?_
 refine rA ?_
 exact eX h
 refine CW.skip ?_
 refine nB ?_
 refine nA ?_
 refine CW.region ?_
 obtain ⟨v3,hv3,h⟩:=bd h
 refine a_add ?_
 refine a_mv ?_
 refine RW.nil ?_
 exact eN h
 refine CW.exit ?_
 refine xA ?_
 exact eX h
 rcases r4 with r4 | r4
 obtain ⟨rfl,hg⟩:=hq
 refine xB ?_
 refine nA ?_
 refine CW.ghost hg ?_
 refine sR ?_
 refine a_as ?_
 refine rN ?_
 refine CW.ret ?_
 obtain rfl:=sI h
 exact rT
 obtain ⟨rfl,hq⟩:=hq
 refine rB ?_
 refine rA ?_
 obtain rfl:=sI h
 exact hq
theorem t_impl_invert (x0:SPresentation) (x1:List Int) (r:(List Int)) (h:f_impl_invert x0 x1 = some r):FnC Tryz.prog 162 [T.ro ((Pt eSPresentation) x0),T.ro (lV x1)] [lV r] []:=by
 refine fB Tryz.func162 (fun St W w0 v => ?_)
 refine sR ?_
 refine oP (x_nil 1 rfl) ?_
 refine rN ?_
 refine sR ?_
 refine a_mv ?_
 obtain ⟨r1,hr1,h⟩:=bd h
 refine cA Tryz.call90 (t_slices_Clone_int64_int64 _ _ hr1) ?_
 refine a_as ?_
 refine RW.ghost (Ghost.tr 5 9 _ rfl rfl (clean_of (cleanL (Enc.clean (f:=I)))) rfl) ?_
 refine rN ?_
 refine sR ?_
 refine a_mv ?_
 refine a_lenr ?_
 obtain ⟨m2,hm2,h⟩:=bd h
 refine oP (x_makeL (f:=I) (z:=0) elt_22 (rfl) hm2 rfl rfl rfl) ?_
 refine a_as ?_
 refine RW.ghost (Ghost.tr 6 12 _ rfl rfl (clean_of (cleanL (Enc.clean (f:=I)))) rfl) ?_
 refine rN ?_
 refine CW.seq ?_
 refine sR ?_
 refine a_mv ?_
 refine a_len ?_
 refine a_mv ?_
 refine rN ?_
 refine CW.block ?_
 obtain ⟨r8,hr8,h⟩:=bd h
 refine CW.lp (s:=(r1,List.replicate m2 (0:Int),0)) (l2_impl_invert x0 r1) (fun s5:(List Int) × (List Int) × Int => envL [(0,T.ro ((Pt eSPresentation) x0)),(5,L 1 I s5.1),(6,L 1 I s5.2.1),(14,I (r1.length:Int)),(15,I s5.2.2)]) (fun (r8:(List Int)) e E => e = .exit 0 ∧ Ghost ⟨St,W,w0,Tryz.f162.ntmps⟩ E (envL [(6,L 1 I r8)])) (.has ⟨rfl,rfl,rfl,rfl,rfl,trivial⟩) (fun s5 x h => ?_) hr8 (fun e E hq => ?_)
 refine sR ?_
 refine a_lss ?_
 refine rN ?_
 refine CW.seq ?_
 refine cn h (fun hc h => ?_) (fun hc h => ?_)
 refine CW.skip ?_
 refine nA ?_
 refine CW.seq ?_
 refine CW.block ?_
 refine sR ?_
 refine a_mv ?_
 refine a_as ?_
 refine rN ?_
 refine CW.block ?_
 obtain ⟨r6,hr6,h⟩:=bd h
 refine CW.lp (s:=(s5.1,s5.2.1)) (l1_impl_invert x0 s5) (fun s6:(List Int) × (List Int) => envL [(0,T.ro ((Pt eSPresentation) x0)),(5,L 1 I s6.1),(6,L 1 I s6.2),(7,I s5.2.2),(14,I (r1.length:Int)),(15,I s5.2.2)]) (fun (r6:((List Int) × (List Int))) e E => e = .exit 2 ∧ Ghost ⟨St,W,w0,Tryz.f162.ntmps⟩ E (envL [(0,T.ro ((Pt eSPresentation) x0)),(5,L 1 I r6.1),(6,L 1 I r6.2),(14,I (r1.length:Int)),(15,I s5.2.2)])) (.has ⟨rfl,rfl,rfl,rfl,rfl,rfl,trivial⟩) (fun s6 x h => ?_) hr6 (fun e E hq => ?_)
 refine CW.seq ?_
 refine sR ?_
 refine a_mv ?_
 refine a_mv ?_
 obtain ⟨v3,hv3,h⟩:=bd h
 refine a_ix ?_
 refine a_ld ?_
 refine a_neq ?_
 refine rN ?_
 refine cn h (fun hc h => ?_) (fun hc h => ?_)
 refine CW.skip ?_
 refine nA ?_
 refine CW.block ?_
 refine sR ?_
 refine a_mv ?_
 refine a_mv ?_
 refine a_mv ?_
 obtain ⟨r4,hr4,h⟩:=bd h
 refine oP (x_callM (xs:=[.tmp 23,.tmp 24,.tmp 25]) 1 24 5 [] Tryz.call163 (t_impl_timesGenerator _ _ _ _ hr4) rfl rfl rfl (clean_of (cleanL (Enc.clean (f:=I)))) (clean_of (cleanL (Enc.clean (f:=I)))) (Enc.rofree (f:=L 1 I) _) (Enc.rofree (f:=L 1 I) _) ⟨(agM _ rfl rfl rfl),⟨(agLd rfl (clean_of (cleanL (Enc.clean (f:=I)))) (Enc.rofree (f:=L 1 I) _)),⟨(agM _ rfl rfl rfl),trivial⟩⟩⟩ resN rfl rfl rfl rfl) ?_
 refine rN ?_
 refine CW.region ?_
 refine a_mv ?_
 refine a_mv ?_
 refine a_mv ?_
 obtain ⟨r5,hr5,h⟩:=bd h
 refine oP (x_callM (xs:=[.tmp 27,.tmp 28,.tmp 29]) 1 28 6 [] Tryz.call163 (t_impl_timesGenerator _ _ _ _ hr5) rfl rfl rfl (clean_of (cleanL (Enc.clean (f:=I)))) (clean_of (cleanL (Enc.clean (f:=I)))) (Enc.rofree (f:=L 1 I) _) (Enc.rofree (f:=L 1 I) _) ⟨(agM _ rfl rfl rfl),⟨(agLd rfl (clean_of (cleanL (Enc.clean (f:=I)))) (Enc.rofree (f:=L 1 I) _)),⟨(agM _ rfl rfl rfl),trivial⟩⟩⟩ resN rfl rfl rfl rfl) ?_
 refine RW.nil ?_
 refine nB ?_
 exact eN h
 refine CW.exit ?_
 refine xA ?_
 exact eX h
 obtain ⟨rfl,hg⟩:=hq
 refine xB ?_
 refine nB ?_
 refine nA ?_
 refine CW.ghost hg ?_
 refine CW.region ?_
 obtain ⟨v7,hv7,h⟩:=bd h
 refine a_add ?_
 refine a_mv ?_
 refine RW.nil ?_
 exact eN h
 refine CW.exit ?_
 refine xA ?_
 exact eX h
 obtain ⟨rfl,hg⟩:=hq
 refine xB ?_
 refine nA ?_
 refine CW.ghost hg ?_
 refine sR ?_
 refine a_mv ?_
 refine a_as ?_
 refine RW.ghost (Ghost.tr 4 6 _ rfl rfl (clean_of (cleanL (Enc.clean (f:=I)))) rfl) ?_
 refine rN ?_
 refine CW.ret ?_
 obtain rfl:=sI h
 exact rT
theorem t_impl_multiply (x0:SPresentation) (x1:List Int) (x2:List Int) (r:(List Int)) (h:f_impl_multiply x0 x1 x2 = some r):FnC Tryz.prog 161 [T.ro ((Pt eSPresentation) x0),T.ro (lV x1),T.ro (lV x2)] [lV r] []:=by
 refine fB Tryz.func161 (fun St W w0 v => ?_)
 refine sR ?_
 refine oP (x_nil 1 rfl) ?_
 refine rN ?_
 refine sR ?_
 refine a_mv ?_
 obtain ⟨r1,hr1,h⟩:=bd h
 refine cA Tryz.call90 (t_slices_Clone_int64_int64 _ _ hr1) ?_
 refine a_as ?_
 refine RW.ghost (Ghost.tr 7 9 _ rfl rfl (clean_of (cleanL (Enc.clean (f:=I)))) rfl) ?_
 refine rN ?_
 refine sR ?_
 refine a_mv ?_
 refine a_mv ?_
 refine a_mv ?_
 obtain ⟨r2,hr2,h⟩:=bd h
 refine oP (x_callM (xs:=[.tmp 10,.tmp 11,.tmp 12]) 1 11 7 [] Tryz.call160 (t_impl_timesVector _ _ _ _ hr2) rfl rfl rfl (clean_of (cleanL (Enc.clean (f:=I)))) (clean_of (cleanL (Enc.clean (f:=I)))) (Enc.rofree (f:=L 1 I) _) (Enc.rofree (f:=L 1 I) _) ⟨(agM _ rfl rfl rfl),⟨(agLd rfl (clean_of (cleanL (Enc.clean (f:=I)))) (Enc.rofree (f:=L 1 I) _)),⟨(agM _ rfl rfl rfl),trivial⟩⟩⟩ resN rfl rfl rfl rfl) ?_
 refine rN ?_
 refine sR ?_
 refine a_mv ?_
 refine a_as ?_
 refine RW.ghost (Ghost.tr 6 7 _ rfl rfl (clean_of (cleanL (Enc.clean (f:=I)))) rfl) ?_
 refine rN ?_
 refine CW.ret ?_
 obtain rfl:=sI h
 exact rT
theorem t_impl_conjugate (x0:SPresentation) (x1:List Int) (x2:List Int) (r:(List Int)) (h:f_impl_conjugate x0 x1 x2 = some r):FnC Tryz.prog 153 [T.ro ((Pt eSPresentation) x0),T.ro (lV x1),T.ro (lV x2)] [lV r] []:=by
 refine fB Tryz.func153 (fun St W w0 v => ?_)
 refine sR ?_
 refine oP (x_nil 1 rfl) ?_
 refine rN ?_
 refine sR ?_
 refine a_mv ?_
 refine a_mv ?_
 refine a_mv ?_
 obtain ⟨r1,hr1,h⟩:=bd h
 refine cA Tryz.call162 (t_impl_invert _ _ _ hr1) ?_
 refine a_mv ?_
 refine a_mv ?_
 refine a_mv ?_
 obtain ⟨r2,hr2,h⟩:=bd h
 refine cA Tryz.call161 (t_impl_multiply _ _ _ _ hr2) ?_
 obtain ⟨r3,hr3,h⟩:=bd h
 refine cA Tryz.call161 (t_impl_multiply _ _ _ _ hr3) ?_
 refine a_as ?_
 refine RW.ghost (Ghost.tr 6 15 _ rfl rfl (clean_of (cleanL (Enc.clean (f:=I)))) rfl) ?_
 refine rN ?_
 refine CW.ret ?_
 obtain rfl:=sI h
 exact rT
theorem t_impl_unitVector (x0:Int) (x1:Int) (r:(List Int)) (h:f_impl_unitVector x0 x1 = some r):FnC Tryz.prog 106 [I x0,I x1] [lV r] []:=by
 refine fB Tryz.func106 (fun St W w0 v => ?_)
 refine sR ?_
 refine oP (x_nil 1 rfl) ?_
 refine rN ?_
 refine sR ?_
 refine a_mv ?_
 obtain ⟨m1,hm1,h⟩:=bd h
 refine oP (x_makeL (f:=I) (z:=0) elt_22 (rfl) hm1 rfl rfl rfl) ?_
 refine a_as ?_
 refine RW.ghost (Ghost.tr 5 7 _ rfl rfl (clean_of (cleanL (Enc.clean (f:=I)))) rfl) ?_
 refine rN ?_
 refine sR ?_
 refine a_mv ?_
 refine a_mv ?_
 obtain ⟨v2,hv2,h⟩:=bd h
 refine a_ix ?_
 refine oP (x_stcT inf_2 rfl rfl rfl (getc hv2 rfl) (setc hv2 rfl) rfl rfl) ?_
 refine rN ?_
 refine sR ?_
 refine a_mv ?_
 refine a_as ?_
 refine RW.ghost (Ghost.tr 4 5 _ rfl rfl (clean_of (cleanL (Enc.clean (f:=I)))) rfl) ?_
 refine rN ?_
 refine CW.ret ?_
 obtain rfl:=sI h
 exact rT
theorem t_impl_levelFault (x0:SPresentation) (x1:Int) (r:SFault) (h:f_impl_levelFault x0 x1 = some r):FnC Tryz.prog 145 [T.ro ((Pt eSPresentation) x0),I x1] [eSFault r] []:=by
 refine fB Tryz.func145 (fun St W w0 v => ?_)
 refine sR ?_
 refine a_alloc ?_
 refine rN ?_
 refine sR ?_
 refine a_mv ?_
 refine a_nilc ?_
 refine a_far ?_
 refine a_ldr ?_
 refine a_lenr ?_
 refine a_as ?_
 refine rN ?_
 refine sR ?_
 refine a_mv ?_
 refine a_as ?_
 refine rN ?_
 refine CW.seq ?_
 refine sR ?_
 refine a_mv ?_
 obtain ⟨v1,hv1,h⟩:=bd h
 refine a_add ?_
 refine a_as ?_
 refine rN ?_
 refine CW.block ?_
 obtain ⟨r12,hr12,h⟩:=bd h
 refine CW.lp (s:=v1) (l1_impl_levelFault x0 x1) (fun s1:Int => envL [(0,T.ro ((Pt eSPresentation) x0)),(1,I x1),(4,T.ptr (T.agg [I 0,I 0,I 0,I 0])),(5,I (x0.Orders.length:Int)),(6,I x1),(7,I s1)]) (fun (x:Unit ⊕ SFault) e E => match x with | (.inl r12) => e = .exit 0 ∧ Ghost ⟨St,W,w0,Tryz.f145.ntmps⟩ E (envL [(0,T.ro ((Pt eSPresentation) x0)),(1,I x1),(4,T.ptr (T.agg [I 0,I 0,I 0,I 0])),(5,I (x0.Orders.length:Int)),(6,I x1)]) | (.inr r12) => e = .ret ∧ RetG ⟨St,W,w0,Tryz.f145.ntmps⟩ Tryz.prog Tryz.f145.results [T.ro ((Pt eSPresentation) x0),I x1] [eSFault r12] [] .ret E) (.has ⟨rfl,rfl,rfl,rfl,rfl,rfl,trivial⟩) (fun s1 x h => ?_) hr12 (fun e E hq => ?_)
 refine CW.seq ?_
 refine sR ?_
 refine a_mv ?_
 refine a_mv ?_
 refine a_lss ?_
 refine rN ?_
 refine cn h (fun hc h => ?_) (fun hc h => ?_)
 refine CW.skip ?_
 refine nA ?_
 refine CW.seq ?_
 refine CW.block ?_
 refine CW.seq ?_
 obtain ⟨v2,hv2,h⟩:=bd h
 obtain ⟨v3,hv3,h⟩:=bd h
 obtain ⟨v4,hv4,h⟩:=bd h
 obtain ⟨v5,hv5,h⟩:=bd h
 obtain ⟨v6,hv6,h⟩:=bd h
 obtain ⟨r7,hr7,h⟩:=bd h
 obtain ⟨v8,hv8,h⟩:=bd h
 obtain ⟨r9,hr9,h⟩:=bd h
 obtain ⟨r10,hr10,h⟩:=bd h
 refine CW.dk ?_
 refine d_mv [(0,_)] ?_
 refine d_mv [(0,_)] ?_
 refine d_nilc [(27,_)] ?_
 refine d_far [(28,_)] ?_
 refine d_ldr [(29,_)] ?_
 refine d_mv [(1,_)] ?_
 refine d_ixr [(30,_),(31,_)] ?_
 refine d_ldr [(32,_)] ?_
 refine d_mv [(7,_)] ?_
 refine d_mv [(1,_)] ?_
 refine d_sub [(34,_),(35,_)] ?_
 refine d_sub [(36,_)] ?_
 refine d_ixr [(33,_),(37,_)] ?_
 refine d_ldr [(38,_)] ?_
 refine d_mv [(0,_)] ?_
 refine d_nilc [(40,_)] ?_
 refine d_far [(41,_)] ?_
 refine d_ldr [(42,_)] ?_
 refine d_mv [(7,_)] ?_
 refine d_ixr [(43,_),(44,_)] ?_
 refine d_ldr [(45,_)] ?_
 refine dC [(26,_),(39,_),(46,_)] Tryz.call151 (t_impl_power _ _ _ _ hr7) ?_
 refine d_mv [(0,_)] ?_
 refine d_mv [(1,_)] ?_
 refine d_mv [(0,_)] ?_
 refine d_nilc [(50,_)] ?_
 refine d_far [(51,_)] ?_
 refine d_ldr [(52,_)] ?_
 refine d_mv [(7,_)] ?_
 refine d_ixr [(53,_),(54,_)] ?_
 refine d_ldr [(55,_)] ?_
 refine dC [(48,_),(49,_),(56,_)] Tryz.call152 (t_impl_imageBy _ _ _ _ hr9) ?_
 refine dC [(47,_),(57,_)] Tryz.call129 (t_slices_Equal_int64_int64 _ _ _ hr10) ?_
 refine d_not [(58,_)] ?_
 refine dN ([] :: [] :: [1] :: [1,2] :: [1,2,3] :: [] :: [1,2,3,4,5] :: [1,2,3,4,5,6] :: [] :: [] :: [8,9] :: [8,9,10] :: [1,2,3,4,5,6,7,8,9,10,11] :: [1,2,3,4,5,6,7,8,9,10,11,12] :: [] :: [14] :: [14,15] :: [14,15,16] :: [] :: [14,15,16,17,18] :: [14,15,16,17,18,19] :: [0,1,2,3,4,5,6,7,8,9,10,11,12,13,14,15,16,17,18,19,20] :: [] :: [] :: [] :: [24] :: [24,25] :: [24,25,26] :: [] :: [24,25,26,27,28] :: [24,25,26,27,28,29] :: [0,1,2,3,4,5,6,7,8,9,10,11,12,13,14,15,16,17,18,19,20,21,22,23,24,25,26,27,28,29,30] :: [0,1,2,3,4,5,6,7,8,9,10,11,12,13,14,15,16,17,18,19,20,21,22,23,24,25,26,27,28,29,30,31] :: [0,1,2,3,4,5,6,7,8,9,10,11,12,13,14,15,16,17,18,19,20,21,22,23,24,25,26,27,28,29,30,31,32] :: []) mixedP ?_
 refine nA ?_
 refine cn h (fun hc h => ?_) (fun hc h => ?_)
 refine CW.seq ?_
 refine CW.to [(4,T.ptr (T.agg [I 0,I 0,I 0,I 0])),(6,I x1),(7,I s1)] ⟨rfl,rfl,rfl,trivial⟩ ?_
 refine CW.region ?_
 refine a_mv ?_
 refine a_mv ?_
 refine oP (x_build bld_136 [(0,.const _),(1,.tmp 60),(2,.tmp 61),(3,.const _)] [(0,.zero (I 1)),(1,.slot 60 (I x1)),(2,.slot 61 (I s1)),(3,.zero (I 0))] [.zero (I 1),.slot 60 (I x1),.slot 61 (I s1),.zero (I 0)] (pkZ rfl (pkS rfl (clean_of (Enc.clean (f:=I) _)) rfl (pkS rfl (clean_of (Enc.clean (f:=I) _)) rfl (pkZ rfl pkN)))) (bqC (.zero _ _ rfl) (bqC (.slot _ _) (bqC (.slot _ _) (bqC (.zero _ _ rfl) bqN)))) rfl) ?_
 refine oP (x_stp inf_136 rfl (locB rfl rfl) rfl rfl rfl rfl (clean_of (cleanA ⟨(Enc.clean (f:=I) _),(Enc.clean (f:=I) _),(Enc.clean (f:=I) _),(Enc.clean (f:=I) _),trivial⟩)) rfl) ?_
 refine rN ?_
 refine CW.ret ?_
 refine rB ?_
 refine rA ?_
 exact eX h ⟨rfl,⟨_,Ghost.refl,⟨.inl rfl,[(4,[0],T.agg [I 1,I x1,I s1,I 0])],⟨⟨rfl,rfl,rfl,(var_136.h _ rfl rfl).h⟩,trivial⟩,rfl,(by simp),(by simp),trivial⟩⟩⟩
 refine CW.skip ?_
 refine nB ?_
 refine nA ?_
 refine CW.to [(0,T.ro ((Pt eSPresentation) x0)),(1,I x1),(4,T.ptr (T.agg [I 0,I 0,I 0,I 0])),(5,I (x0.Orders.length:Int)),(6,I x1),(7,I s1)] ⟨rfl,rfl,rfl,rfl,rfl,rfl,trivial⟩ ?_
 refine CW.region ?_
 refine a_mv ?_
 obtain ⟨v11,hv11,h⟩:=bd h
 refine a_add ?_
 refine a_as ?_
 refine RW.nil ?_
 exact eN h
 refine CW.exit ?_
 refine xA ?_
 exact eX h
 rcases r12 with r12 | r12
 obtain ⟨rfl,hg⟩:=hq
 refine xB ?_
 refine nA ?_
 refine CW.ghost hg ?_
 refine CW.seq ?_
 refine sR ?_
 refine a_mv ?_
 obtain ⟨v13,hv13,h⟩:=bd h
 refine a_add ?_
 refine a_as ?_
 refine rN ?_
 refine CW.block ?_
 obtain ⟨r33,hr33,h⟩:=bd h
 refine CW.lp (s:=v13) (l3_impl_levelFault x0 x1) (fun s7:Int => envL [(0,T.ro ((Pt eSPresentation) x0)),(1,I x1),(4,T.ptr (T.agg [I 0,I 0,I 0,I 0])),(5,I (x0.Orders.length:Int)),(6,I x1),(8,I s7)]) (fun (x:Unit ⊕ SFault) e E => match x with | (.inl r33) => e = .exit 2 ∧ Ghost ⟨St,W,w0,Tryz.f145.ntmps⟩ E (envL [(0,T.ro ((Pt eSPresentation) x0)),(1,I x1),(4,T.ptr (T.agg [I 0,I 0,I 0,I 0])),(5,I (x0.Orders.length:Int)),(6,I x1)]) | (.inr r33) => e = .ret ∧ RetG ⟨St,W,w0,Tryz.f145.ntmps⟩ Tryz.prog Tryz.f145.results [T.ro ((Pt eSPresentation) x0),I x1] [eSFault r33] [] .ret E) (.has ⟨rfl,rfl,rfl,rfl,rfl,rfl,trivial⟩) (fun s7 x h => ?_) hr33 (fun e E hq => ?_)
 refine CW.seq ?_
 refine sR ?_
 refine a_mv ?_
 refine a_mv ?_
 refine a_lss ?_
 refine rN ?_
 refine cn h (fun hc h => ?_) (fun hc h => ?_)
 refine CW.skip ?_
 refine nA ?_
 refine CW.seq ?_
 refine CW.block ?_
 refine sR ?_
 refine a_mv ?_
 obtain ⟨v14,hv14,h⟩:=bd h
 refine a_add ?_
 refine a_as ?_
 refine rN ?_
 refine CW.block ?_
 obtain ⟨r31,hr31,h⟩:=bd h
 refine CW.lp (s:=v14) (l2_impl_levelFault x0 x1 s7) (fun s8:Int => envL [(0,T.ro ((Pt eSPresentation) x0)),(1,I x1),(4,T.ptr (T.agg [I 0,I 0,I 0,I 0])),(5,I (x0.Orders.length:Int)),(6,I x1),(8,I s7),(9,I s8)]) (fun (x:Unit ⊕ SFault) e E => match x with | (.inl r31) => e = .exit 4 ∧ Ghost ⟨St,W,w0,Tryz.f145.ntmps⟩ E (envL [(0,T.ro ((Pt eSPresentation) x0)),(1,I x1),(4,T.ptr (T.agg [I 0,I 0,I 0,I 0])),(5,I (x0.Orders.length:Int)),(6,I x1),(8,I s7)]) | (.inr r31) => e = .ret ∧ RetG ⟨St,W,w0,Tryz.f145.ntmps⟩ Tryz.prog Tryz.f145.results [T.ro ((Pt eSPresentation) x0),I x1] [eSFault r31] [] .ret E) (.has ⟨rfl,rfl,rfl,rfl,rfl,rfl,rfl,trivial⟩) (fun s8 x h => ?_) hr31 (fun e E hq => ?_)
 refine CW.seq ?_
 refine sR ?_
 refine a_mv ?_
 refine a_mv ?_
 refine a_lss ?_
 refine rN ?_
 refine cn h (fun hc h => ?_) (fun hc h => ?_)
 refine CW.skip ?_
 refine nA ?_
 refine CW.seq ?_
 refine CW.block ?_
 refine CW.seq ?_
 obtain ⟨v15,hv15,h⟩:=bd h
 obtain ⟨v16,hv16,h⟩:=bd h
 obtain ⟨v17,hv17,h⟩:=bd h
 obtain ⟨v18,hv18,h⟩:=bd h
 obtain ⟨v19,hv19,h⟩:=bd h
 obtain ⟨v20,hv20,h⟩:=bd h
 obtain ⟨v21,hv21,h⟩:=bd h
 obtain ⟨v22,hv22,h⟩:=bd h
 obtain ⟨r23,hr23,h⟩:=bd h
 obtain ⟨v24,hv24,h⟩:=bd h
 obtain ⟨v25,hv25,h⟩:=bd h
 obtain ⟨v26,hv26,h⟩:=bd h
 obtain ⟨v27,hv27,h⟩:=bd h
 obtain ⟨r28,hr28,h⟩:=bd h
 obtain ⟨r29,hr29,h⟩:=bd h
 refine CW.dk ?_
 refine d_mv [(0,_)] ?_
 refine d_mv [(0,_)] ?_
 refine d_nilc [(78,_)] ?_
 refine d_far [(79,_)] ?_
 refine d_ldr [(80,_)] ?_
 refine d_mv [(1,_)] ?_
 refine dG [(81,_),(82,_)] [([(83,some (T.ro ((Pt lM) v15)))],[(83,0)])] ⟨rfl,rfl,trivial⟩ (fun E h => IxOk.opE (x_ixr (f:=lM) row_24 hv15 (locB h.1 rfl) h.2.1 rfl) rfl) ?_
 refine d_ldr [(83,_)] ?_
 refine d_mv [(9,_)] ?_
 refine d_mv [(1,_)] ?_
 refine d_sub [(85,_),(86,_)] ?_
 refine d_sub [(87,_)] ?_
 refine d_ixr [(84,_),(88,_)] ?_
 refine d_ldr [(89,_)] ?_
 refine d_mv [(0,_)] ?_
 refine d_nilc [(91,_)] ?_
 refine d_far [(92,_)] ?_
 refine d_ldr [(93,_)] ?_
 refine d_mv [(1,_)] ?_
 refine dG [(94,_),(95,_)] [([(96,some (T.ro ((Pt lM) v19)))],[(96,0)])] ⟨rfl,rfl,trivial⟩ (fun E h => IxOk.opE (x_ixr (f:=lM) row_24 hv19 (locB h.1 rfl) h.2.1 rfl) rfl) ?_
 refine d_ldr [(96,_)] ?_
 refine d_mv [(8,_)] ?_
 refine d_mv [(1,_)] ?_
 refine d_sub [(98,_),(99,_)] ?_
 refine d_sub [(100,_)] ?_
 refine d_ixr [(97,_),(101,_)] ?_
 refine d_ldr [(102,_)] ?_
 refine dC [(77,_),(90,_),(103,_)] Tryz.call153 (t_impl_conjugate _ _ _ _ hr23) ?_
 refine d_mv [(0,_)] ?_
 refine d_mv [(1,_)] ?_
 refine d_mv [(0,_)] ?_
 refine d_nilc [(107,_)] ?_
 refine d_far [(108,_)] ?_
 refine d_ldr [(109,_)] ?_
 refine d_mv [(8,_)] ?_
 refine d_ixr [(110,_),(111,_)] ?_
 refine d_ldr [(112,_)] ?_
 refine d_mv [(9,_)] ?_
 refine d_mv [(8,_)] ?_
 refine d_sub [(114,_),(115,_)] ?_
 refine d_sub [(116,_)] ?_
 refine d_ixr [(113,_),(117,_)] ?_
 refine d_ldr [(118,_)] ?_
 refine dC [(105,_),(106,_),(119,_)] Tryz.call152 (t_impl_imageBy _ _ _ _ hr28) ?_
 refine dC [(104,_),(120,_)] Tryz.call129 (t_slices_Equal_int64_int64 _ _ _ hr29) ?_
 refine d_not [(121,_)] ?_
 refine dN ([] :: [] :: [1] :: [1,2] :: [1,2,3] :: [] :: [1,2,3,4,5] :: [1,2,3,4,5,6] :: [] :: [] :: [8,9] :: [8,9,10] :: [1,2,3,4,5,6,7,8,9,10,11] :: [1,2,3,4,5,6,7,8,9,10,11,12] :: [] :: [14] :: [14,15] :: [14,15,16] :: [] :: [14,15,16,17,18] :: [14,15,16,17,18,19] :: [] :: [] :: [21,22] :: [21,22,23] :: [14,15,16,17,18,19,20,21,22,23,24] :: [14,15,16,17,18,19,20,21,22,23,24,25] :: [0,1,2,3,4,5,6,7,8,9,10,11,12,13,14,15,16,17,18,19,20,21,22,23,24,25,26] :: [] :: [] :: [] :: [30] :: [30,31] :: [30,31,32] :: [] :: [30,31,32,33,34] :: [30,31,32,33,34,35] :: [] :: [] :: [37,38] :: [37,38,39] :: [30,31,32,33,34,35,36,37,38,39,40] :: [30,31,32,33,34,35,36,37,38,39,40,41] :: [0,1,2,3,4,5,6,7,8,9,10,11,12,13,14,15,16,17,18,19,20,21,22,23,24,25,26,27,28,29,30,31,32,33,34,35,36,37,38,39,40,41,42] :: [0,1,2,3,4,5,6,7,8,9,10,11,12,13,14,15,16,17,18,19,20,21,22,23,24,25,26,27,28,29,30,31,32,33,34,35,36,37,38,39,40,41,42,43] :: [0,1,2,3,4,5,6,7,8,9,10,11,12,13,14,15,16,17,18,19,20,21,22,23,24,25,26,27,28,29,30,31,32,33,34,35,36,37,38,39,40,41,42,43,44] :: []) mixedP ?_
 refine nA ?_
 refine cn h (fun hc h => ?_) (fun hc h => ?_)
 refine CW.seq ?_
 refine CW.to [(4,T.ptr (T.agg [I 0,I 0,I 0,I 0])),(6,I x1),(8,I s7),(9,I s8)] ⟨rfl,rfl,rfl,rfl,trivial⟩ ?_
 refine CW.region ?_
 refine a_mv ?_
 refine a_mv ?_
 refine a_mv ?_
 refine oP (x_build bld_136 [(0,.const _),(1,.tmp 123),(2,.tmp 124),(3,.tmp 125)] [(0,.zero (I 2)),(1,.slot 123 (I x1)),(2,.slot 124 (I s7)),(3,.slot 125 (I s8))] [.zero (I 2),.slot 123 (I x1),.slot 124 (I s7),.slot 125 (I s8)] (pkZ rfl (pkS rfl (clean_of (Enc.clean (f:=I) _)) rfl (pkS rfl (clean_of (Enc.clean (f:=I) _)) rfl (pkS rfl (clean_of (Enc.clean (f:=I) _)) rfl pkN)))) (bqC (.zero _ _ rfl) (bqC (.slot _ _) (bqC (.slot _ _) (bqC (.slot _ _) bqN)))) rfl) ?_
 refine oP (x_stp inf_136 rfl (locB rfl rfl) rfl rfl rfl rfl (clean_of (cleanA ⟨(Enc.clean (f:=I) _),(Enc.clean (f:=I) _),(Enc.clean (f:=I) _),(Enc.clean (f:=I) _),trivial⟩)) rfl) ?_
 refine rN ?_
 refine CW.ret ?_
 refine rB ?_
 refine rA ?_
 exact eX h ⟨rfl,⟨_,Ghost.refl,⟨.inl rfl,[(4,[0],T.agg [I 2,I x1,I s7,I s8])],⟨⟨rfl,rfl,rfl,(var_136.h _ rfl rfl).h⟩,trivial⟩,rfl,(by simp),(by simp),trivial⟩⟩⟩
 refine CW.skip ?_
 refine nB ?_
 refine nA ?_
 refine CW.to [(0,T.ro ((Pt eSPresentation) x0)),(1,I x1),(4,T.ptr (T.agg [I 0,I 0,I 0,I 0])),(5,I (x0.Orders.length:Int)),(6,I x1),(8,I s7),(9,I s8)] ⟨rfl,rfl,rfl,rfl,rfl,rfl,rfl,trivial⟩ ?_
 refine CW.region ?_
 refine a_mv ?_
 obtain ⟨v30,hv30,h⟩:=bd h
 refine a_add ?_
 refine a_as ?_
 refine RW.nil ?_
 exact eN h
 refine CW.exit ?_
 refine xA ?_
 exact eX h
 rcases r31 with r31 | r31
 obtain ⟨rfl,hg⟩:=hq
 refine xB ?_
 refine nB ?_
 refine nA ?_
 refine CW.ghost hg ?_
 refine CW.region ?_
 refine a_mv ?_
 obtain ⟨v32,hv32,h⟩:=bd h
 refine a_add ?_
 refine a_as ?_
 refine RW.nil ?_
 exact eN h
 obtain ⟨rfl,hq⟩:=hq
 refine rB ?_
 refine rB ?_
 refine rA ?_
 exact eX h ⟨rfl,hq⟩
 refine CW.exit ?_
 refine xA ?_
 exact eX h
 rcases r33 with r33 | r33
 obtain ⟨rfl,hg⟩:=hq
 refine xB ?_
 refine nA ?_
 refine CW.ghost hg ?_
 refine sR ?_
 refine a_mv ?_
 refine a_nilc ?_
 refine a_far ?_
 refine a_ldr ?_
 refine a_mv ?_
 obtain ⟨v34,hv34,h⟩:=bd h
 refine a_ixr ?_
 refine a_ldr ?_
 refine a_as ?_
 refine rN ?_
 refine CW.seq ?_
 refine sR ?_
 refine a_mv ?_
 refine a_mv ?_
 refine a_mv ?_
 obtain ⟨r35,hr35,h⟩:=bd h
 refine cA Tryz.call152 (t_impl_imageBy _ _ _ _ hr35) ?_
 refine a_mv ?_
 obtain ⟨r36,hr36,h⟩:=bd h
 refine cA Tryz.call129 (t_slices_Equal_int64_int64 _ _ _ hr36) ?_
 refine a_not ?_
 refine rN ?_
 refine cn h (fun hc h => ?_) (fun hc h => ?_)
 refine sR ?_
 refine a_mv ?_
 refine oP (x_build bld_136 [(0,.const _),(1,.tmp 141),(2,.const _),(3,.const _)] [(0,.zero (I 3)),(1,.slot 141 (I x1)),(2,.zero (I 0)),(3,.zero (I 0))] [.zero (I 3),.slot 141 (I x1),.zero (I 0),.zero (I 0)] (pkZ rfl (pkS rfl (clean_of (Enc.clean (f:=I) _)) rfl (pkZ rfl (pkZ rfl pkN)))) (bqC (.zero _ _ rfl) (bqC (.slot _ _) (bqC (.zero _ _ rfl) (bqC (.zero _ _ rfl) bqN)))) rfl) ?_
 refine oP (x_stp inf_136 rfl (locB rfl rfl) rfl rfl rfl rfl (clean_of (cleanA ⟨(Enc.clean (f:=I) _),(Enc.clean (f:=I) _),(Enc.clean (f:=I) _),(Enc.clean (f:=I) _),trivial⟩)) rfl) ?_
 refine rN ?_
 refine CW.ret ?_
 refine rA ?_
 obtain rfl:=sI h
 exact ⟨_,Ghost.refl,⟨.inl rfl,[(4,[0],T.agg [I 3,I x1,I 0,I 0])],⟨⟨rfl,rfl,rfl,(var_136.h _ rfl rfl).h⟩,trivial⟩,rfl,(by simp),(by simp),trivial⟩⟩
 refine CW.skip ?_
 refine nA ?_
 refine CW.seq ?_
 refine sR ?_
 refine a_mv ?_
 obtain ⟨v37,hv37,h⟩:=bd h
 refine a_add ?_
 refine a_as ?_
 refine rN ?_
 refine CW.block ?_
 obtain ⟨r47,hr47,h⟩:=bd h
 refine CW.lp (s:=v37) (l5_impl_levelFault x0 x1 v34) (fun s15:Int => envL [(0,T.ro ((Pt eSPresentation) x0)),(1,I x1),(4,T.ptr (T.agg [I 0,I 0,I 0,I 0])),(5,I (x0.Orders.length:Int)),(6,I x1),(10,T.ro (lV v34)),(11,I s15)]) (fun (x:Unit ⊕ SFault) e E => match x with | (.inl r47) => e = .exit 6 ∧ Ghost ⟨St,W,w0,Tryz.f145.ntmps⟩ E (envL [(4,T.ptr (T.agg [I 0,I 0,I 0,I 0]))]) | (.inr r47) => e = .ret ∧ RetG ⟨St,W,w0,Tryz.f145.ntmps⟩ Tryz.prog Tryz.f145.results [T.ro ((Pt eSPresentation) x0),I x1] [eSFault r47] [] .ret E) (.has ⟨rfl,rfl,rfl,rfl,rfl,rfl,rfl,trivial⟩) (fun s15 x h => ?_) hr47 (fun e E hq => ?_)
 refine CW.seq ?_
 refine sR ?_
 refine a_mv ?_
 refine a_mv ?_
 refine a_lss ?_
 refine rN ?_
 refine cn h (fun hc h => ?_) (fun hc h => ?_)
 refine CW.skip ?_
 refine nA ?_
 refine CW.seq ?_
 refine CW.block ?_
 refine sR ?_
 refine a_mv ?_
 refine a_mv ?_
 obtain ⟨r38,hr38,h⟩:=bd h
 refine cA Tryz.call106 (t_impl_unitVector _ _ _ hr38) ?_
 refine a_as ?_
 refine RW.ghost (Ghost.tr 12 152 _ rfl rfl (clean_of (cleanL (Enc.clean (f:=I)))) rfl) ?_
 refine rN ?_
 refine CW.seq ?_
 refine sR ?_
 refine a_mv ?_
 refine a_nilc ?_
 refine a_far ?_
 refine a_ldr ?_
 refine a_mv ?_
 obtain ⟨v39,hv39,h⟩:=bd h
 refine a_ixr ?_
 refine a_ldr ?_
 refine a_mv ?_
 refine rN ?_
 refine CW.block ?_
 obtain ⟨r42,hr42,h⟩:=bd h
 refine CW.lp (s:=(r38,0)) (l4_impl_levelFault x0 x1 v39) (fun s16:(List Int) × Int => envL [(0,T.ro ((Pt eSPresentation) x0)),(1,I x1),(4,T.ptr (T.agg [I 0,I 0,I 0,I 0])),(5,I (x0.Orders.length:Int)),(6,I x1),(10,T.ro (lV v34)),(11,I s15),(12,L 1 I s16.1),(159,I v39),(160,I s16.2)]) (fun (r42:(List Int)) e E => e = .exit 8 ∧ Ghost ⟨St,W,w0,Tryz.f145.ntmps⟩ E (envL [(0,T.ro ((Pt eSPresentation) x0)),(1,I x1),(4,T.ptr (T.agg [I 0,I 0,I 0,I 0])),(5,I (x0.Orders.length:Int)),(6,I x1),(10,T.ro (lV v34)),(11,I s15),(12,L 1 I r42)])) (.has ⟨rfl,rfl,rfl,rfl,rfl,rfl,rfl,rfl,rfl,rfl,trivial⟩) (fun s16 x h => ?_) hr42 (fun e E hq => ?_)
 refine sR ?_
 refine a_lss ?_
 refine rN ?_
 refine CW.seq ?_
 refine cn h (fun hc h => ?_) (fun hc h => ?_)
 refine CW.skip ?_
 refine nA ?_
 refine CW.seq ?_
 refine CW.block ?_
 refine CW.region ?_
 refine a_mv ?_
 refine a_mv ?_
 refine a_mv ?_
 obtain ⟨r40,hr40,h⟩:=bd h
 refine cA Tryz.call152 (t_impl_imageBy _ _ _ _ hr40) ?_
 refine a_as ?_
 refine RW.ghost (Ghost.tr 12 165 _ rfl rfl (clean_of (cleanL (Enc.clean (f:=I)))) rfl) ?_
 refine RW.nil ?_
 refine nB ?_
 refine nA ?_
 refine CW.region ?_
 obtain ⟨v41,hv41,h⟩:=bd h
 refine a_add ?_
 refine a_mv ?_
 refine RW.nil ?_
 exact eN h
 refine CW.exit ?_
 refine xA ?_
 exact eX h
 obtain ⟨rfl,hg⟩:=hq
 refine xB ?_
 refine nA ?_
 refine CW.ghost hg ?_
 refine sR ?_
 refine a_mv ?_
 refine a_mv ?_
 refine a_mv ?_
 refine a_mv ?_
 obtain ⟨r43,hr43,h⟩:=bd h
 refine cA Tryz.call106 (t_impl_unitVector _ _ _ hr43) ?_
 refine a_mv ?_
 obtain ⟨r44,hr44,h⟩:=bd h
 refine cA Tryz.call153 (t_impl_conjugate _ _ _ _ hr44) ?_
 obtain ⟨r45,hr45,h⟩:=bd h
 refine cA Tryz.call129 (t_slices_Equal_int64_int64 _ _ _ hr45) ?_
 refine a_not ?_
 refine rN ?_
 refine cn h (fun hc h => ?_) (fun hc h => ?_)
 refine sR ?_
 refine a_mv ?_
 refine a_mv ?_
 refine oP (x_build bld_136 [(0,.const _),(1,.tmp 176),(2,.tmp 177),(3,.const _)] [(0,.zero (I 4)),(1,.slot 176 (I x1)),(2,.slot 177 (I s15)),(3,.zero (I 0))] [.zero (I 4),.slot 176 (I x1),.slot 177 (I s15),.zero (I 0)] (pkZ rfl (pkS rfl (clean_of (Enc.clean (f:=I) _)) rfl (pkS rfl (clean_of (Enc.clean (f:=I) _)) rfl (pkZ rfl pkN)))) (bqC (.zero _ _ rfl) (bqC (.slot _ _) (bqC (.slot _ _) (bqC (.zero _ _ rfl) bqN)))) rfl) ?_
 refine oP (x_stp inf_136 rfl (locB rfl rfl) rfl rfl rfl rfl (clean_of (cleanA ⟨(Enc.clean (f:=I) _),(Enc.clean (f:=I) _),(Enc.clean (f:=I) _),(Enc.clean (f:=I) _),trivial⟩)) rfl) ?_
 refine rN ?_
 refine CW.ret ?_
 refine rB ?_
 refine rA ?_
 exact eX h ⟨rfl,⟨_,Ghost.refl,⟨.inl rfl,[(4,[0],T.agg [I 4,I x1,I s15,I 0])],⟨⟨rfl,rfl,rfl,(var_136.h _ rfl rfl).h⟩,trivial⟩,rfl,(by simp),(by simp),trivial⟩⟩⟩
 refine CW.skip ?_
 refine nB ?_
 refine nA ?_
 refine CW.region ?_
 refine a_mv ?_
 obtain ⟨v46,hv46,h⟩:=bd h
 refine a_add ?_
 refine a_as ?_
 refine RW.nil ?_
 exact eN h
 refine CW.exit ?_
 refine xA ?_
 exact eX h
 rcases r47 with r47 | r47
 obtain ⟨rfl,hg⟩:=hq
 refine xB ?_
 refine nA ?_
 refine CW.ghost hg ?_
 refine sR ?_
 refine oP (x_build bld_136 [] [] [.zero (I 0),.zero (I 0),.zero (I 0),.zero (I 0)] (pkZ rfl (pkZ rfl (pkZ rfl (pkZ rfl pkN)))) bqN rfl) ?_
 refine oP (x_stp inf_136 rfl (locB rfl rfl) rfl rfl rfl rfl (clean_of (cleanA ⟨(Enc.clean (f:=I) _),(Enc.clean (f:=I) _),(Enc.clean (f:=I) _),(Enc.clean (f:=I) _),trivial⟩)) rfl) ?_
 refine rN ?_
 refine CW.ret ?_
 obtain rfl:=sI h
 exact ⟨_,Ghost.refl,⟨.inl rfl,[(4,[0],T.agg [I 0,I 0,I 0,I 0])],⟨⟨rfl,rfl,rfl,(var_136.h _ rfl rfl).h⟩,trivial⟩,rfl,(by simp),(by simp),trivial⟩⟩
 obtain ⟨rfl,hq⟩:=hq
 refine rB ?_
 refine rA ?_
 obtain rfl:=sI h
 exact hq
 obtain ⟨rfl,hq⟩:=hq
 refine rB ?_
 refine rA ?_
 obtain rfl:=sI h
 exact hq
 obtain ⟨rfl,hq⟩:=hq
 refine rB ?_
 refine rA ?_
 obtain rfl:=sI h
 exact hq
theorem t_impl_consistentFrom (x0:SPresentation) (r:Int) (h:f_impl_consistentFrom x0 = some r):FnC Tryz.prog 124 [T.ro ((Pt eSPresentation) x0)] [I r] []:=by
 refine fB Tryz.func124 (fun St W w0 v => ?_)
 refine sR ?_
 refine a_as ?_
 refine rN ?_
 refine sR ?_
 refine a_mv ?_
 refine a_nilc ?_
 refine a_far ?_
 refine a_ldr ?_
 refine a_lenr ?_
 refine a_as ?_
 refine rN ?_
 refine CW.seq ?_
 refine CW.block ?_
 obtain ⟨r4,hr4,h⟩:=bd h
 refine CW.lp (s:=(x0.Orders.length:Int)) (l1_impl_consistentFrom x0) (fun s1:Int => envL [(0,T.ro ((Pt eSPresentation) x0)),(3,I s1)]) (fun (r4:Int) e E => e = .exit 0 ∧ Ghost ⟨St,W,w0,Tryz.f124.ntmps⟩ E (envL [(3,I r4)])) (.has ⟨rfl,rfl,trivial⟩) (fun s1 x h => ?_) hr4 (fun e E hq => ?_)
 refine CW.seq ?_
 refine sR ?_
 refine a_mv ?_
 refine a_gtr ?_
 refine a_mv ?_
 refine RW.cases 11 _ rfl (fun hc => ?_) (fun hc => ?_)
 have h:=cT hc h
 refine g_mv ?_
 refine g_mv ?_
 obtain ⟨v1,hv1,h⟩:=bd h
 refine RW.cons (IxOk.guard 2 true 11 (x_sub hv1 rfl rfl rfl)) ?_
 obtain ⟨r2,hr2,h⟩:=bd h
 refine RW.cons (IxOk.guard 2 true 11 (x_call (xs:=[.tmp 12,.tmp 14]) Tryz.call145 (t_impl_levelFault _ _ _ hr2) ⟨(agC _ rfl rfl rfl),⟨(agC _ rfl rfl rfl),trivial⟩⟩ (resC (f:=eSFault) inferInstance resN) rfl)) ?_
 refine RW.cons (IxOk.guard 2 true 11 (x_build bld_136 [] [] [.zero (I 0),.zero (I 0),.zero (I 0),.zero (I 0)] (pkZ rfl (pkZ rfl (pkZ rfl (pkZ rfl pkN)))) bqN rfl)) ?_
 refine RW.cons (IxOk.guard 2 true 11 (x_eqS4 eqs_136 rfl rfl rfl)) ?_
 refine a_pick ?_
 refine rN ?_
 refine cn h (fun hc h => ?_) (fun hc h => ?_)
 refine CW.skip ?_
 refine nA ?_
 refine CW.block ?_
 refine CW.region ?_
 refine a_mv ?_
 obtain ⟨v3,hv3,h⟩:=bd h
 refine oP (x_sub hv3 rfl rfl rfl) ?_
 refine a_as ?_
 refine RW.nil ?_
 refine nB ?_
 exact eN h
 refine CW.exit ?_
 refine xA ?_
 exact eX h
 have h:=cF hc h
 refine sk2 ?_
 refine sk2 ?_
 refine sk2 ?_
 refine sk2 ?_
 refine sk2 ?_
 refine sk2 ?_
 refine a_pick ?_
 refine rN ?_
 refine CW.condF rfl ?_
 refine CW.exit ?_
 refine xA ?_
 exact eX h
 obtain ⟨rfl,hg⟩:=hq
 refine xB ?_
 refine nA ?_
 refine CW.ghost hg ?_
 refine sR ?_
 refine a_mv ?_
 refine a_as ?_
 refine rN ?_
 refine CW.ret ?_
 obtain rfl:=sI h
 exact rT
theorem t_impl_IsConsistent (x0:SPresentation) (r:Bool) (h:f_impl_IsConsistent x0 = some r):FnC Tryz.prog 78 [qPresentation x0] [B r] []:=by
 refine fB Tryz.func78 (fun St W w0 v => ?_)
 refine sR ?_
 refine a_box ?_
 refine a_as ?_
 refine rN ?_
 refine sR ?_
 refine a_ldp ?_
 obtain ⟨r1,hr1,h⟩:=bd h
 refine cA Tryz.call123 (t_impl_IsPresentation _ _ hr1) ?_
 refine a_mv ?_
 refine RW.cases 5 _ rfl (fun hc => ?_) (fun hc => ?_)
 have h:=cT hc h
 obtain ⟨r2,hr2,h⟩:=bd h
 refine RW.cons (IxOk.guard 2 true 5 (x_call (xs:=[.tmp 1]) Tryz.call124 (t_impl_consistentFrom _ _ hr2) ⟨(agC _ rfl (cloP rfl) rfl),trivial⟩ (resC (f:=I) inferInstance resN) rfl)) ?_
 refine g_eql ?_
 refine a_pick ?_
 refine a_as ?_
 refine rN ?_
 refine CW.ret ?_
 obtain rfl:=sI h
 exact rT
 have h:=cF hc h
 refine sk2 ?_
 refine sk2 ?_
 refine a_pick ?_
 refine a_as ?_
 refine rN ?_
 refine CW.ret ?_
 obtain rfl:=sI h
 exact rT
theorem t_impl_actionAt (x0:SModule) (x1:Int) (r:SMatrix) (h:f_impl_actionAt x0 x1 = some r):FnC Tryz.prog 58 [T.ro ((Pt eSModule) x0),I x1] [(fun x => T.agg [I x.Prime,I x.Columns,(Ro lM) x.Rows]) r] []:=by
 refine fB Tryz.func58 (fun St W w0 v => ?_)
 refine sR ?_
 refine a_alloc ?_
 refine rN ?_
 refine CW.seq ?_
 obtain ⟨v1,hv1,h⟩:=bd h
 refine CW.dk ?_
 refine d_mv [(0,_)] ?_
 refine d_nilc [(5,_)] ?_
 refine d_far [(6,_)] ?_
 refine d_ldr [(7,_)] ?_
 refine d_mv [(0,_)] ?_
 refine d_nilc [(9,_)] ?_
 refine d_far [(10,_)] ?_
 refine d_ldr [(11,_)] ?_
 refine d_mv [(0,_)] ?_
 refine d_nilc [(13,_)] ?_
 refine d_far [(14,_)] ?_
 refine d_ldr [(15,_)] ?_
 refine d_mv [(1,_)] ?_
 refine d_ixr [(16,_),(17,_)] ?_
 refine d_ldr [(18,_)] ?_
 refine dG [(8,_),(12,_),(19,_)] [([(20,some (T.agg [I x0.Prime,I x0.Dim,T.ro (lM v1)]))],[(20,0)])] ⟨rfl,rfl,rfl,trivial⟩ (fun E h => IxOk.opE (x_build bld_40 [(0,.tmp 8),(1,.tmp 12),(2,.tmp 19)] [(0,.slot 8 (I x0.Prime)),(1,.slot 12 (I x0.Dim)),(2,.slot 19 (T.ro (lM v1)))] [.slot 8 (I x0.Prime),.slot 12 (I x0.Dim),.slot 19 (T.ro (lM v1))] (pkS h.1 (clean_of (Enc.clean (f:=I) _)) rfl (pkS h.2.1 (clean_of (Enc.clean (f:=I) _)) rfl (pkS h.2.2.1 (clean_of trivial) rfl pkN))) (bqC (.slot _ _) (bqC (.slot _ _) (bqC (.slot _ _) bqN))) rfl) rfl) ?_
 refine dG [(4,_),(20,_)] [([(4,some (T.ptr (T.agg [I x0.Prime,I x0.Dim,T.ro (lM v1)]))),(20,some (T.agg [I x0.Prime,I x0.Dim,T.ro (lM v1)]))],[(4,1),(20,1)])] ⟨rfl,rfl,trivial⟩ (fun E h => IxOk.opE (x_stp inf_40 rfl (locB h.1 rfl) h.1 rfl rfl h.2.1 (clean_of (cleanA ⟨(Enc.clean (f:=I) _),(Enc.clean (f:=I) _),trivial,trivial⟩)) rfl) rfl) ?_
 refine dNA mixedP ?_
 refine nA ?_
 refine CW.ret ?_
 obtain rfl:=sI h
 exact ⟨_,Ghost.refl,⟨.inl rfl,[(4,[0],T.agg [I x0.Prime,I x0.Dim,T.ro (lM v1)])],⟨⟨rfl,rfl,rfl,(var_40.h _ rfl rfl).h⟩,trivial⟩,rfl,(by simp),(by simp),trivial⟩⟩
theorem t_impl_isVector (x0:List Int) (x1:Int) (x2:Int) (r:Bool) (h:f_impl_isVector x0 x1 x2 = some r):FnC Tryz.prog 125 [T.ro (lV x0),I x1,I x2] [B r] []:=by
 refine fB Tryz.func125 (fun St W w0 v => ?_)
 refine sR ?_
 refine a_as ?_
 refine rN ?_
 refine CW.seq ?_
 refine sR ?_
 refine a_mv ?_
 refine a_lenr ?_
 refine a_mv ?_
 refine a_neq ?_
 refine rN ?_
 refine cn h (fun hc h => ?_) (fun hc h => ?_)
 refine sR ?_
 refine a_as ?_
 refine rN ?_
 refine CW.ret ?_
 refine rA ?_
 obtain rfl:=sI h
 exact rT
 refine CW.skip ?_
 refine nA ?_
 refine CW.seq ?_
 refine sR ?_
 refine a_mv ?_
 refine a_lenr ?_
 refine a_mv ?_
 refine rN ?_
 refine CW.block ?_
 obtain ⟨r5,hr5,h⟩:=bd h
 refine CW.lp (s:=0) (l1_impl_isVector x0 x1) (fun s1:Int => envL [(1,I x1),(13,T.ro (lV x0)),(14,I (x0.length:Int)),(15,I s1)]) (fun (x:Unit ⊕ Bool) e E => match x with | (.inl r5) => e = .exit 0 ∧ Ghost ⟨St,W,w0,Tryz.f125.ntmps⟩ E (envL []) | (.inr r5) => e = .ret ∧ RetG ⟨St,W,w0,Tryz.f125.ntmps⟩ Tryz.prog Tryz.f125.results [T.ro (lV x0),I x1,I x2] [B r5] [] .ret E) (.has ⟨rfl,rfl,rfl,rfl,trivial⟩) (fun s1 x h => ?_) hr5 (fun e E hq => ?_)
 refine sR ?_
 refine a_lss ?_
 refine rN ?_
 refine CW.seq ?_
 refine cn h (fun hc h => ?_) (fun hc h => ?_)
 refine CW.skip ?_
 refine nA ?_
 refine CW.seq ?_
 refine CW.block ?_
 refine sR ?_
 obtain ⟨v1,hv1,h⟩:=bd h
 refine a_ixr ?_
 refine a_ldr ?_
 refine a_as ?_
 refine rN ?_
 refine sR ?_
 refine a_mv ?_
 refine a_mv ?_
 obtain ⟨v2,hv2,h⟩:=bd h
 refine a_sub ?_
 obtain ⟨r3,hr3,h⟩:=bd h
 refine cA Tryz.call80 (t_impl_inside _ _ _ _ hr3) ?_
 refine a_not ?_
 refine rN ?_
 refine cn h (fun hc h => ?_) (fun hc h => ?_)
 refine sR ?_
 refine a_as ?_
 refine rN ?_
 refine CW.ret ?_
 refine rB ?_
 refine rA ?_
 exact eX h
 refine CW.skip ?_
 refine nB ?_
 refine nA ?_
 refine CW.region ?_
 obtain ⟨v4,hv4,h⟩:=bd h
 refine a_add ?_
 refine a_mv ?_
 refine RW.nil ?_
 exact eN h
 refine CW.exit ?_
 refine xA ?_
 exact eX h
 rcases r5 with r5 | r5
 obtain ⟨rfl,hg⟩:=hq
 refine xB ?_
 refine nA ?_
 refine CW.ghost hg ?_
 refine sR ?_
 refine a_as ?_
 refine rN ?_
 refine CW.ret ?_
 obtain rfl:=sI h
 exact rT
 obtain ⟨rfl,hq⟩:=hq
 refine rB ?_
 refine rA ?_
 obtain rfl:=sI h
 exact hq
theorem t_impl_IsMatrix (x0:SMatrix) (r:Bool) (h:f_impl_IsMatrix x0 = some r):FnC Tryz.prog 81 [qMatrix x0] [B r] []:=by
 refine fB Tryz.func81 (fun St W w0 v => ?_)
 refine sR ?_
 refine a_box ?_
 refine a_as ?_
 refine rN ?_
 refine CW.seq ?_
 refine sR ?_
 refine a_fa ?_
 refine a_ld ?_
 obtain ⟨r1,hr1,h⟩:=bd h
 refine cA Tryz.call79 (t_impl_IsGroupPrime _ _ hr1) ?_
 refine a_not ?_
 refine a_mv ?_
 refine RW.cases 9 _ rfl (fun hc => ?_) (fun hc => ?_)
 have h:=cT hc h
 refine sk2 ?_
 refine sk2 ?_
 refine sk2 ?_
 refine sk2 ?_
 refine a_pick ?_
 refine a_mv ?_
 refine sk2 ?_
 refine sk2 ?_
 refine sk2 ?_
 refine sk2 ?_
 refine a_pick ?_
 refine rN ?_
 refine CW.condT rfl ?_
 refine sR ?_
 refine a_as ?_
 refine rN ?_
 refine CW.ret ?_
 refine rA ?_
 obtain rfl:=sI h
 exact rT
 have h:=cF hc h
 refine g_fa ?_
 refine g_ld ?_
 obtain ⟨r2,hr2,h⟩:=bd h
 refine RW.cons (IxOk.guard 4 false 9 (x_call (xs:=[.tmp 11,.const _,.const _]) Tryz.call80 (t_impl_inside _ _ _ _ hr2) ⟨(agC _ rfl rfl rfl),⟨(agC _ rfl rfl rfl),⟨(agC _ rfl rfl rfl),trivial⟩⟩⟩ (resC (f:=B) inferInstance resN) rfl)) ?_
 refine g_not ?_
 refine a_pick ?_
 refine a_mv ?_
 refine RW.cases 15 _ rfl (fun hc => ?_) (fun hc => ?_)
 have h:=cT hc h
 refine sk2 ?_
 refine sk2 ?_
 refine sk2 ?_
 refine sk2 ?_
 refine a_pick ?_
 refine rN ?_
 refine CW.condT rfl ?_
 refine sR ?_
 refine a_as ?_
 refine rN ?_
 refine CW.ret ?_
 refine rA ?_
 obtain rfl:=sI h
 exact rT
 have h:=cF hc h
 refine g_fa ?_
 refine g_ld ?_
 refine g_lenr ?_
 refine g_gtr ?_
 refine a_pick ?_
 refine rN ?_
 refine cn h (fun hc h => ?_) (fun hc h => ?_)
 refine sR ?_
 refine a_as ?_
 refine rN ?_
 refine CW.ret ?_
 refine rA ?_
 obtain rfl:=sI h
 exact rT
 refine CW.skip ?_
 refine nA ?_
 refine CW.seq ?_
 refine sR ?_
 refine a_fa ?_
 refine a_ld ?_
 refine a_lenr ?_
 refine a_mv ?_
 refine rN ?_
 refine CW.block ?_
 obtain ⟨r6,hr6,h⟩:=bd h
 refine CW.lp (s:=0) (l1_impl_IsMatrix x0) (fun s1:Int => envL [(1,T.ptr (qMatrix x0)),(22,T.ro (lM x0.Rows)),(23,I (x0.Rows.length:Int)),(24,I s1)]) (fun (x:Unit ⊕ Bool) e E => match x with | (.inl r6) => e = .exit 0 ∧ Ghost ⟨St,W,w0,Tryz.f81.ntmps⟩ E (envL []) | (.inr r6) => e = .ret ∧ RetG ⟨St,W,w0,Tryz.f81.ntmps⟩ Tryz.prog Tryz.f81.results [qMatrix x0] [B r6] [] .ret E) (.has ⟨rfl,rfl,rfl,rfl,trivial⟩) (fun s1 x h => ?_) hr6 (fun e E hq => ?_)
 refine sR ?_
 refine a_lss ?_
 refine rN ?_
 refine CW.seq ?_
 refine cn h (fun hc h => ?_) (fun hc h => ?_)
 refine CW.skip ?_
 refine nA ?_
 refine CW.seq ?_
 refine CW.block ?_
 refine sR ?_
 obtain ⟨v3,hv3,h⟩:=bd h
 refine a_ixr ?_
 refine a_ldr ?_
 refine a_as ?_
 refine rN ?_
 refine sR ?_
 refine a_mv ?_
 refine a_fa ?_
 refine a_ld ?_
 refine a_fa ?_
 refine a_ld ?_
 obtain ⟨r4,hr4,h⟩:=bd h
 refine cA Tryz.call125 (t_impl_isVector _ _ _ _ hr4) ?_
 refine a_not ?_
 refine rN ?_
 refine cn h (fun hc h => ?_) (fun hc h => ?_)
 refine sR ?_
 refine a_as ?_
 refine rN ?_
 refine CW.ret ?_
 refine rB ?_
 refine rA ?_
 exact eX h
 refine CW.skip ?_
 refine nB ?_
 refine nA ?_
 refine CW.region ?_
 obtain ⟨v5,hv5,h⟩:=bd h
 refine a_add ?_
 refine a_mv ?_
 refine RW.nil ?_
 exact eN h
 refine CW.exit ?_
 refine xA ?_
 exact eX h
 rcases r6 with r6 | r6
 obtain ⟨rfl,hg⟩:=hq
 refine xB ?_
 refine nA ?_
 refine CW.ghost hg ?_
 refine sR ?_
 refine a_as ?_
 refine rN ?_
 refine CW.ret ?_
 obtain rfl:=sI h
 exact rT
 obtain ⟨rfl,hq⟩:=hq
 refine rB ?_
 refine rA ?_
 obtain rfl:=sI h
 exact hq
theorem t_math_bits_Mul64 (x0:Int) (x1:Int) (r:Int × Int) (h:f_math_bits_Mul64 x0 x1 = some r):FnC Tryz.prog 155 [(IK .u64) x0,(IK .u64) x1] [(IK .u64) r.1,(IK .u64) r.2] []:=by
 refine fB Tryz.func155 (fun St W w0 v => ?_)
 refine sR ?_
 refine a_as ?_
 refine a_as ?_
 refine rN ?_
 refine sR ?_
 refine a_mv ?_
 refine oP (x_andU rfl rfl rfl) ?_
 refine a_as ?_
 refine rN ?_
 refine sR ?_
 refine a_mv ?_
 refine oP (x_shrU (by decide) rfl rfl rfl) ?_
 refine a_as ?_
 refine rN ?_
 refine sR ?_
 refine a_mv ?_
 refine oP (x_andU rfl rfl rfl) ?_
 refine a_as ?_
 refine rN ?_
 refine sR ?_
 refine a_mv ?_
 refine oP (x_shrU (by decide) rfl rfl rfl) ?_
 refine a_as ?_
 refine rN ?_
 refine sR ?_
 refine a_mv ?_
 refine a_mv ?_
 refine oP (x_mulU rfl rfl rfl) ?_
 refine a_as ?_
 refine rN ?_
 refine sR ?_
 refine a_mv ?_
 refine a_mv ?_
 refine oP (x_mulU rfl rfl rfl) ?_
 refine a_mv ?_
 refine oP (x_shrU (by decide) rfl rfl rfl) ?_
 refine oP (x_addU rfl rfl rfl) ?_
 refine a_as ?_
 refine rN ?_
 refine CW.seq ?_
 refine CW.to [(0,(IK .u64) x0),(1,(IK .u64) x1),(6,(IK .u64) (andU .u64 x0 4294967295)),(7,(IK .u64) (Int.fdiv x0 (2 ^ (min (32:Int).toNat (IntKind.bits .u64))))),(9,(IK .u64) (Int.fdiv x1 (2 ^ (min (32:Int).toNat (IntKind.bits .u64))))),(11,(IK .u64) (IntKind.wrap .u64 ((IntKind.wrap .u64 ((Int.fdiv x0 (2 ^ (min (32:Int).toNat (IntKind.bits .u64)))) * (andU .u64 x1 4294967295))) + (Int.fdiv (IntKind.wrap .u64 ((andU .u64 x0 4294967295) * (andU .u64 x1 4294967295))) (2 ^ (min (32:Int).toNat (IntKind.bits .u64)))))))] ⟨rfl,rfl,rfl,rfl,rfl,rfl,trivial⟩ ?_
 refine CW.region ?_
 refine a_mv ?_
 refine oP (x_andU rfl rfl rfl) ?_
 refine a_as ?_
 refine rN ?_
 refine sR ?_
 refine a_mv ?_
 refine oP (x_shrU (by decide) rfl rfl rfl) ?_
 refine a_as ?_
 refine rN ?_
 refine sR ?_
 refine a_mv ?_
 refine a_mv ?_
 refine a_mv ?_
 refine oP (x_mulU rfl rfl rfl) ?_
 refine oP (x_addU rfl rfl rfl) ?_
 refine a_as ?_
 refine rN ?_
 refine sR ?_
 refine a_mv ?_
 refine a_mv ?_
 refine oP (x_mulU rfl rfl rfl) ?_
 refine a_mv ?_
 refine oP (x_addU rfl rfl rfl) ?_
 refine a_mv ?_
 refine oP (x_shrU (by decide) rfl rfl rfl) ?_
 refine oP (x_addU rfl rfl rfl) ?_
 refine a_as ?_
 refine rN ?_
 refine sR ?_
 refine a_mv ?_
 refine a_mv ?_
 refine oP (x_mulU rfl rfl rfl) ?_
 refine a_as ?_
 refine rN ?_
 refine CW.ret ?_
 obtain rfl:=sI h
 exact rT
theorem t_math_bits_Mul (x0:Int) (x1:Int) (r:Int × Int) (h:f_math_bits_Mul x0 x1 = some r):FnC Tryz.prog 146 [(IK .u64) x0,(IK .u64) x1] [(IK .u64) r.1,(IK .u64) r.2] []:=by
 refine fB Tryz.func146 (fun St W w0 v => ?_)
 refine sR ?_
 refine a_as ?_
 refine a_as ?_
 refine rN ?_
 refine CW.seq ?_
 refine CW.condF rfl ?_
 refine CW.skip ?_
 refine nA ?_
 refine sR ?_
 refine a_mv ?_
 refine a_mv ?_
 obtain ⟨r1,hr1,h⟩:=bd h
 refine cA Tryz.call155 (t_math_bits_Mul64 _ _ _ hr1) ?_
 refine a_mvT ?_
 refine a_ext ?_
 refine a_ext ?_
 refine a_as ?_
 refine a_as ?_
 refine rN ?_
 refine sR ?_
 refine a_mv ?_
 refine a_mv ?_
 refine a_as ?_
 refine a_as ?_
 refine rN ?_
 refine CW.ret ?_
 obtain rfl:=sI h
 exact rT
theorem t_slices_Repeat_int64_int64 (x0:List Int) (x1:Int) (r:(List Int)) (h:f_slices_Repeat_int64_int64 x0 x1 = some r):FnC Tryz.prog 126 [T.ro (lV x0),I x1] [lV r] []:=by
 refine fB Tryz.func126 (fun St W w0 v => ?_)
 refine sR ?_
 refine oP (x_nil 1 rfl) ?_
 refine rN ?_
 refine CW.seq ?_
 refine sR ?_
 refine a_mv ?_
 refine a_lss ?_
 refine rN ?_
 refine cn h (fun hc h => ?_) (fun hc h => ?_)
 ·refine CW.region ?_
  cases h
 ·refine CW.skip ?_
  refine nA ?_
  refine sR ?_
  refine a_mv ?_
  refine a_lenr ?_
  refine oP (x_convU Tryz.underlying3 Tryz.underlying141 rfl rfl) ?_
  refine a_mv ?_
  refine oP (x_convU Tryz.underlying3 Tryz.underlying141 rfl rfl) ?_
  obtain ⟨r1,hr1,h⟩:=bd h
  refine cA Tryz.call146 (t_math_bits_Mul _ _ _ hr1) ?_
  refine a_mvT ?_
  refine a_ext ?_
  refine a_ext ?_
  refine a_as ?_
  refine a_as ?_
  refine rN ?_
  refine CW.seq ?_
  refine sR ?_
  refine a_mv ?_
  refine oP (x_gtrU rfl rfl rfl) ?_
  refine a_mv ?_
  refine RW.cases 23 _ rfl (fun hc => ?_) (fun hc => ?_)
  ·have h:=cT hc h
   refine sk2 ?_
   refine sk2 ?_
   refine a_pick ?_
   refine rN ?_
   refine CW.condT rfl ?_
   refine CW.region ?_
   cases h
  ·have h:=cF hc h
   refine g_mv ?_
   refine RW.cons (IxOk.guard 2 false 23 (x_gtrU rfl rfl rfl)) ?_
   refine a_pick ?_
   refine rN ?_
   refine cn h (fun hc h => ?_) (fun hc h => ?_)
   ·refine CW.region ?_
    cases h
   ·refine CW.skip ?_
    refine nA ?_
    refine sR ?_
    refine a_mv ?_
    refine oP (x_convU Tryz.underlying141 Tryz.underlying3 rfl rfl) ?_
    obtain ⟨m2,hm2,h⟩:=bd h
    refine oP (x_makeL (f:=I) (z:=0) elt_22 (rfl) hm2 rfl rfl rfl) ?_
    refine a_as ?_
    refine RW.ghost (Ghost.tr 7 30 _ rfl rfl (clean_of (cleanL (Enc.clean (f:=I)))) rfl) ?_
    refine rN ?_
    refine CW.seq ?_
    refine CW.to [(0,T.ro (lV x0)),(7,L 1 I (List.replicate m2 (0:Int)))] ⟨rfl,rfl,trivial⟩ ?_
    refine CW.region ?_
    refine a_mv ?_
    refine a_mv ?_
    refine oP (x_copyI elt_22 rfl (fun _ => (DstOf.same rfl rfl)) (fun _ => (SrcOf.ro (locB rfl rfl))) (Nat.zero_le _) (Nat.le_refl _) rfl) ?_
    refine a_as ?_
    refine rN ?_
    refine CW.seq ?_
    refine CW.block ?_
    obtain ⟨r6,hr6,h⟩:=bd h
    refine CW.lp (s:=(splice (List.replicate m2 (0:Int)) 0 (x0.take (((List.replicate m2 (0:Int)).length) - 0)),((min x0.length (((List.replicate m2 (0:Int)).length) - 0):Nat):Int))) l1_slices_Repeat_int64_int64 (fun s1:(List Int) × Int => envL [(7,L 1 I s1.1),(8,I s1.2)]) (fun (r6:(List Int)) e E => e = .exit 0 ∧ Ghost ⟨St,W,w0,Tryz.f126.ntmps⟩ E (envL [(7,L 1 I r6)])) (.has ⟨rfl,rfl,trivial⟩) (fun s1 x h => ?_) hr6 (fun e E hq => ?_)
    ·refine CW.seq ?_
     refine sR ?_
     refine a_mv ?_
     refine a_mv ?_
     refine a_len ?_
     refine a_lss ?_
     refine rN ?_
     refine cn h (fun hc h => ?_) (fun hc h => ?_)
     ·refine CW.skip ?_
      refine nA ?_
      refine CW.block ?_
      obtain ⟨v3,hv3,h⟩:=bd h
      obtain ⟨v4,hv4,h⟩:=bd h
      obtain ⟨v5,hv5,h⟩:=bd h
      refine CW.dk ?_
      refine d_mv [(8,_)] ?_
      refine d_mv [(7,_)] ?_
      refine d_mv [(8,_)] ?_
      refine dG [(39,_),(7,_),(40,_)] [([(41,some (T.sub 7 [] 1 ((s1.2:Int).toNat) ((s1.1.length:Int).toNat)))],[(41,0)])] ⟨rfl,rfl,rfl,trivial⟩ (fun E h => IxOk.opE (x_slo row_22 hv3 (locA h.1 h.2.1 rfl rfl) (optS (sliceO_lo hv3) h.2.2.1) optN rfl) rfl) ?_
      refine d_mv [(7,_)] ?_
      refine d_mv [(8,_)] ?_
      refine dG [(42,_),(7,_),(43,_)] [([(44,some (T.sub 7 [] 1 ((0:Int).toNat) ((s1.2:Int).toNat)))],[(44,0)])] ⟨rfl,rfl,rfl,trivial⟩ (fun E h => IxOk.opE (x_slo row_22 hv4 (locA h.1 h.2.1 rfl rfl) optN0 (optS (sliceO_hi hv4) h.2.2.1) rfl) rfl) ?_
      refine dG [(41,_),(7,_),(44,_)] [([(7,some (L 1 I (splice s1.1 ((s1.2:Int).toNat) (v4.take (((s1.1.length:Int).toNat) - ((s1.2:Int).toNat))))))],[(7,1)]),([(45,some (I ((min v4.length (((s1.1.length:Int).toNat) - ((s1.2:Int).toNat)):Nat):Int)))],[(45,0)])] ⟨rfl,rfl,rfl,trivial⟩ (fun E h => IxOk.opE (x_copyI elt_22 h.2.1 (fun _ => (DstOf.sub h.1)) (fun _ => (SrcOf.sub h.2.2.1 h.2.1 rfl hv4)) (sliceO_le hv3) (sliceO_ub hv3) rfl) rfl) ?_
      refine d_add [(38,_),(45,_)] ?_
      refine d_as [(46,_)] ?_
      refine dNA mixedP ?_
      refine nB ?_
      exact eN h
     ·refine CW.exit ?_
      refine xA ?_
      exact eX h
    ·obtain ⟨rfl,hg⟩:=hq
     refine xB ?_
     refine nA ?_
     refine CW.ghost hg ?_
     refine sR ?_
     refine a_mv ?_
     refine a_as ?_
     refine RW.ghost (Ghost.tr 4 7 _ rfl rfl (clean_of (cleanL (Enc.clean (f:=I)))) rfl) ?_
     refine rN ?_
     refine CW.ret ?_
     obtain rfl:=sI h
     exact rT
theorem t_impl_normalWord (x0:List Int) (r:(List Int)) (h:f_impl_normalWord x0 = some r):FnC Tryz.prog 127 [T.ro (lV x0)] [lV r] []:=by
 refine fB Tryz.func127 (fun St W w0 v => ?_)
 refine sR ?_
 refine oP (x_nil 1 rfl) ?_
 refine rN ?_
 refine sR ?_
 refine oP (x_nil 1 rfl) ?_
 refine rN ?_
 refine CW.seq ?_
 refine sR ?_
 refine a_mv ?_
 refine a_lenr ?_
 refine a_mv ?_
 refine rN ?_
 refine CW.block ?_
 obtain ⟨r7,hr7,h⟩:=bd h
 refine CW.lp (s:=([],0)) (l2_impl_normalWord x0) (fun s5:(List Int) × Int => envL [(3,L 1 I s5.1),(6,T.ro (lV x0)),(7,I (x0.length:Int)),(8,I s5.2)]) (fun (r7:(List Int)) e E => e = .exit 0 ∧ Ghost ⟨St,W,w0,Tryz.f127.ntmps⟩ E (envL [(3,L 1 I r7)])) (.has ⟨rfl,rfl,rfl,rfl,trivial⟩) (fun s5 x h => ?_) hr7 (fun e E hq => ?_)
 refine sR ?_
 refine a_lss ?_
 refine rN ?_
 refine CW.seq ?_
 refine cn h (fun hc h => ?_) (fun hc h => ?_)
 refine CW.skip ?_
 refine nA ?_
 refine CW.seq ?_
 refine CW.block ?_
 refine sR ?_
 refine a_mv ?_
 obtain ⟨v1,hv1,h⟩:=bd h
 refine a_ixr ?_
 refine a_ldr ?_
 refine a_as ?_
 refine a_as ?_
 refine rN ?_
 refine sR ?_
 refine a_mv ?_
 refine a_mv ?_
 refine rN ?_
 refine CW.block ?_
 obtain ⟨r5,hr5,h⟩:=bd h
 refine CW.lp (s:=(s5.1,0)) (l1_impl_normalWord s5 v1) (fun s6:(List Int) × Int => envL [(3,L 1 I s6.1),(4,I s5.2),(6,T.ro (lV x0)),(7,I (x0.length:Int)),(8,I s5.2),(13,I v1),(14,I s6.2)]) (fun (r5:(List Int)) e E => e = .exit 2 ∧ Ghost ⟨St,W,w0,Tryz.f127.ntmps⟩ E (envL [(3,L 1 I r5),(6,T.ro (lV x0)),(7,I (x0.length:Int)),(8,I s5.2)])) (.has ⟨rfl,rfl,rfl,rfl,rfl,rfl,rfl,trivial⟩) (fun s6 x h => ?_) hr5 (fun e E hq => ?_)
 refine sR ?_
 refine a_lss ?_
 refine rN ?_
 refine CW.seq ?_
 refine cn h (fun hc h => ?_) (fun hc h => ?_)
 refine CW.skip ?_
 refine nA ?_
 refine CW.seq ?_
 refine CW.block ?_
 refine CW.region ?_
 refine a_mv ?_
 refine a_mv ?_
 obtain ⟨v2,hv2,h⟩:=bd h
 refine oP (x_add hv2 rfl rfl rfl) ?_
 refine oP (x_bs elt_22 [.tmp 18] [.slot 18 (I v2)] [v2] I ⟨.slot _ _,trivial⟩ (pkS rfl (clean_of (Enc.clean (f:=I) _)) rfl pkN) rfl rfl) ?_
 refine RW.ghost (Ghost.tr 16 3 _ rfl rfl (clean_of (cleanL (Enc.clean (f:=I)))) rfl) ?_
 obtain ⟨v3,hv3,h⟩:=bd h
 refine oP (x_appc (f:=I) elt_22 (fun _ => rfl) hv3 rfl (locB rfl rfl) rfl) ?_
 refine a_as ?_
 refine RW.ghost (Ghost.tr 3 20 _ rfl rfl (clean_of (cleanL (Enc.clean (f:=I)))) rfl) ?_
 refine RW.nil ?_
 refine nB ?_
 refine nA ?_
 refine CW.region ?_
 obtain ⟨v4,hv4,h⟩:=bd h
 refine oP (x_add hv4 rfl rfl rfl) ?_
 refine a_mv ?_
 refine RW.nil ?_
 exact eN h
 refine CW.exit ?_
 refine xA ?_
 exact eX h
 obtain ⟨rfl,hg⟩:=hq
 refine xB ?_
 refine nB ?_
 refine nA ?_
 refine CW.ghost hg ?_
 refine CW.region ?_
 obtain ⟨v6,hv6,h⟩:=bd h
 refine a_add ?_
 refine a_mv ?_
 refine RW.nil ?_
 exact eN h
 refine CW.exit ?_
 refine xA ?_
 exact eX h
 obtain ⟨rfl,hg⟩:=hq
 refine xB ?_
 refine nA ?_
 refine CW.ghost hg ?_
 refine sR ?_
 refine a_mv ?_
 refine a_as ?_
 refine RW.ghost (Ghost.tr 2 3 _ rfl rfl (clean_of (cleanL (Enc.clean (f:=I)))) rfl) ?_
 refine rN ?_
 refine CW.ret ?_
 obtain rfl:=sI h
 exact rT
theorem t_impl_relationSides (x0:SPresentation) (r:(List ((List Int) × (List Int)))) (h:f_impl_relationSides x0 = some r):FnC Tryz.prog 82 [T.ro ((Pt eSPresentation) x0)] [(L 2 (A2 lV)) r] []:=by
 refine fB Tryz.func82 (fun St W w0 v => ?_)
 refine sR ?_
 refine oP (x_nil 2 rfl) ?_
 refine rN ?_
 refine sR ?_
 refine oP (x_nil 2 rfl) ?_
 refine rN ?_
 refine CW.seq ?_
 refine sR ?_
 refine a_mv ?_
 refine a_nilc ?_
 refine a_far ?_
 refine a_ldr ?_
 refine a_lenr ?_
 refine a_mv ?_
 refine rN ?_
 refine CW.block ?_
 obtain ⟨r8,hr8,h⟩:=bd h
 refine CW.lp (s:=([],0)) (l1_impl_relationSides x0) (fun s1:(List ((List Int) × (List Int))) × Int => envL [(0,T.ro ((Pt eSPresentation) x0)),(3,L 2 (A2 lV) s1.1),(14,T.ro (lV x0.Orders)),(15,I (x0.Orders.length:Int)),(16,I s1.2)]) (fun (r8:(List ((List Int) × (List Int)))) e E => e = .exit 0 ∧ Ghost ⟨St,W,w0,Tryz.f82.ntmps⟩ E (envL [(0,T.ro ((Pt eSPresentation) x0)),(3,L 2 (A2 lV) r8)])) (.has ⟨rfl,rfl,rfl,rfl,rfl,trivial⟩) (fun s1 x h => ?_) hr8 (fun e E hq => ?_)
 refine sR ?_
 refine a_lss ?_
 refine rN ?_
 refine CW.seq ?_
 refine cn h (fun hc h => ?_) (fun hc h => ?_)
 refine CW.skip ?_
 refine nA ?_
 refine CW.seq ?_
 refine CW.block ?_
 refine sR ?_
 refine a_mv ?_
 obtain ⟨v1,hv1,h⟩:=bd h
 refine a_ixr ?_
 refine a_ldr ?_
 refine a_as ?_
 refine a_as ?_
 refine rN ?_
 obtain ⟨v2,hv2,h⟩:=bd h
 obtain ⟨r3,hr3,h⟩:=bd h
 obtain ⟨v4,hv4,h⟩:=bd h
 obtain ⟨r5,hr5,h⟩:=bd h
 obtain ⟨v6,hv6,h⟩:=bd h
 refine CW.dk ?_
 refine d_mv [(3,_)] ?_
 refine d_mv [(4,_)] ?_
 refine dG [(22,_)] [([(23,some (I v2))],[(23,0)])] ⟨rfl,trivial⟩ (fun E h => IxOk.opE (x_add hv2 h.1 rfl rfl) rfl) ?_
 refine dG [(23,_)] [([(24,some (L 1 I [v2]))],[(24,0)])] ⟨rfl,trivial⟩ (fun E h => IxOk.opE (x_bs elt_22 [.tmp 23] [.slot 23 (I v2)] [v2] I ⟨.slot _ _,trivial⟩ (pkS h.1 (clean_of (Enc.clean (f:=I) _)) rfl pkN) rfl rfl) rfl) ?_
 refine d_mv [(5,_)] ?_
 refine dC [(24,_),(25,_)] Tryz.call126 (t_slices_Repeat_int64_int64 _ _ _ hr3) ?_
 refine d_mv [(0,_)] ?_
 refine d_nilc [(27,_)] ?_
 refine d_far [(28,_)] ?_
 refine d_ldr [(29,_)] ?_
 refine d_mv [(4,_)] ?_
 refine d_ixr [(30,_),(31,_)] ?_
 refine d_ldr [(32,_)] ?_
 refine dC [(33,_)] Tryz.call127 (t_impl_normalWord _ _ hr5) ?_
 refine dG [(26,_),(34,_)] [([(35,some (T.agg [L 1 I r3,L 1 I r5])),(26,some (T.same 35 [0])),(34,some (T.same 35 [1]))],[(35,0),(26,1),(34,1)])] ⟨rfl,rfl,trivial⟩ (fun E h => IxOk.opE (x_build bld_102 [(0,.tmp 26),(1,.tmp 34)] [(0,.slot 26 (L 1 I r3)),(1,.slot 34 (L 1 I r5))] [.slot 26 (L 1 I r3),.slot 34 (L 1 I r5)] (pkS h.1 (clean_of (cleanL (Enc.clean (f:=I)))) rfl (pkS h.2.1 (clean_of (cleanL (Enc.clean (f:=I)))) rfl pkN)) (bqC (.slot _ _) (bqC (.slot _ _) bqN)) rfl) rfl) ?_
 refine dG [(35,_)] [([(36,some (L 2 (A2 lV) [(r3,r5)])),(35,some (T.agg [T.same 36 [0,0],T.same 36 [1,0]]))],[(36,0),(35,1)])] ⟨rfl,trivial⟩ (fun E h => IxOk.opE (x_bs elt_100 [.tmp 35] [.slot 35 (T.agg [L 1 I r3,L 1 I r5])] [(r3,r5)] (A2 lV) ⟨.slot _ _,trivial⟩ (pkS h.1 (clean_of (cleanA ⟨(cleanL (Enc.clean (f:=I))),(cleanL (Enc.clean (f:=I))),trivial⟩)) rfl pkN) rfl rfl) rfl) ?_
 refine dG [(21,T.same 3 []),(3,L 2 (A2 lV) s1.1),(36,L 2 (A2 lV) [(r3,r5)])] [([(21,some (L 2 (A2 lV) s1.1)),(3,some (T.same 21 []))],[(21,1),(3,1)]),([(37,some (L 2 (A2 lV) v6)),(21,some T.any),(36,some T.any)],[(37,0),(21,1),(36,1)])] ⟨rfl,rfl,rfl,trivial⟩ (fun E h => IxOk.gh (Ghost.tr 21 3 _ h.1 h.2.1 (clean_of (cleanL (Enc.clean (f:=(A2 lV))))) rfl) <| IxOk.opE (x_appm (f:=(A2 lV)) elt_100 hv6 rfl (keepE h.2.2.1) rfl) rfl) ?_
 refine d_as [(37,_)] ?_
 refine dNA mixedP ?_
 refine nB ?_
 refine nA ?_
 refine CW.to [(0,T.ro ((Pt eSPresentation) x0)),(3,T.same 37 []),(14,T.ro (lV x0.Orders)),(15,I (x0.Orders.length:Int)),(16,I s1.2),(37,L 2 (A2 lV) v6)] ⟨rfl,rfl,rfl,rfl,rfl,rfl,trivial⟩ ?_
 refine CW.region ?_
 obtain ⟨v7,hv7,h⟩:=bd h
 refine oP (x_add hv7 rfl rfl rfl) ?_
 refine a_mv ?_
 refine RW.ghost (Ghost.tr 3 37 _ rfl rfl (clean_of (cleanL (Enc.clean (f:=(A2 lV))))) rfl) ?_
 refine RW.nil ?_
 exact eN h
 refine CW.exit ?_
 refine xA ?_
 exact eX h
 obtain ⟨rfl,hg⟩:=hq
 refine xB ?_
 refine nA ?_
 refine CW.ghost hg ?_
 refine CW.seq ?_
 refine sR ?_
 refine a_mv ?_
 refine a_nilc ?_
 refine a_far ?_
 refine a_ldr ?_
 refine a_lenr ?_
 refine a_mv ?_
 refine rN ?_
 refine CW.block ?_
 obtain ⟨r20,hr20,h⟩:=bd h
 refine CW.lp (s:=(r8,0)) (l3_impl_relationSides x0) (fun s7:(List ((List Int) × (List Int))) × Int => envL [(0,T.ro ((Pt eSPresentation) x0)),(3,L 2 (A2 lV) s7.1),(43,I (x0.Orders.length:Int)),(44,I s7.2)]) (fun (r20:(List ((List Int) × (List Int)))) e E => e = .exit 2 ∧ Ghost ⟨St,W,w0,Tryz.f82.ntmps⟩ E (envL [(3,L 2 (A2 lV) r20)])) (.has ⟨rfl,rfl,rfl,rfl,trivial⟩) (fun s7 x h => ?_) hr20 (fun e E hq => ?_)
 refine sR ?_
 refine a_lss ?_
 refine rN ?_
 refine CW.seq ?_
 refine cn h (fun hc h => ?_) (fun hc h => ?_)
 refine CW.skip ?_
 refine nA ?_
 refine CW.seq ?_
 refine CW.block ?_
 refine sR ?_
 refine a_mv ?_
 refine a_as ?_
 refine rN ?_
 refine sR ?_
 refine a_mv ?_
 refine a_nilc ?_
 refine a_far ?_
 refine a_ldr ?_
 refine a_mv ?_
 obtain ⟨v9,hv9,h⟩:=bd h
 refine a_ixr ?_
 refine a_ldr ?_
 refine a_lenr ?_
 refine a_mv ?_
 refine rN ?_
 refine CW.block ?_
 obtain ⟨r18,hr18,h⟩:=bd h
 refine CW.lp (s:=(s7.1,0)) (l2_impl_relationSides s7 v9) (fun s8:(List ((List Int) × (List Int))) × Int => envL [(0,T.ro ((Pt eSPresentation) x0)),(3,L 2 (A2 lV) s8.1),(6,I s7.2),(43,I (x0.Orders.length:Int)),(44,I s7.2),(53,T.ro (lM v9)),(54,I (v9.length:Int)),(55,I s8.2)]) (fun (r18:(List ((List Int) × (List Int)))) e E => e = .exit 4 ∧ Ghost ⟨St,W,w0,Tryz.f82.ntmps⟩ E (envL [(0,T.ro ((Pt eSPresentation) x0)),(3,L 2 (A2 lV) r18),(43,I (x0.Orders.length:Int)),(44,I s7.2)])) (.has ⟨rfl,rfl,rfl,rfl,rfl,rfl,rfl,rfl,trivial⟩) (fun s8 x h => ?_) hr18 (fun e E hq => ?_)
 refine sR ?_
 refine a_lss ?_
 refine rN ?_
 refine CW.seq ?_
 refine cn h (fun hc h => ?_) (fun hc h => ?_)
 refine CW.skip ?_
 refine nA ?_
 refine CW.seq ?_
 refine CW.block ?_
 refine sR ?_
 refine a_mv ?_
 obtain ⟨v10,hv10,h⟩:=bd h
 refine a_ixr ?_
 refine a_ldr ?_
 refine a_as ?_
 refine a_as ?_
 refine rN ?_
 refine sR ?_
 refine a_mv ?_
 obtain ⟨v11,hv11,h⟩:=bd h
 refine oP (x_add hv11 rfl rfl rfl) ?_
 refine a_mv ?_
 refine a_mv ?_
 obtain ⟨v12,hv12,h⟩:=bd h
 refine a_add ?_
 obtain ⟨v13,hv13,h⟩:=bd h
 refine a_add ?_
 refine a_as ?_
 refine a_as ?_
 refine rN ?_
 refine CW.region ?_
 refine a_mv ?_
 refine a_mv ?_
 refine a_mv ?_
 refine oP (x_bs elt_22 [.tmp 67,.tmp 68] [.slot 67 (I v13),.slot 68 (I v11)] [v13,v11] I ⟨.slot _ _,.slot _ _,trivial⟩ (pkS rfl (clean_of (Enc.clean (f:=I) _)) rfl (pkS rfl (clean_of (Enc.clean (f:=I) _)) rfl pkN)) rfl rfl) ?_
 refine a_mv ?_
 refine oP (x_bs elt_22 [.tmp 70] [.slot 70 (I v11)] [v11] I ⟨.slot _ _,trivial⟩ (pkS rfl (clean_of (Enc.clean (f:=I) _)) rfl pkN) rfl rfl) ?_
 refine a_mv ?_
 obtain ⟨r14,hr14,h⟩:=bd h
 refine cA Tryz.call127 (t_impl_normalWord _ _ hr14) ?_
 obtain ⟨v15,hv15,h⟩:=bd h
 refine oP (x_appc (f:=I) elt_22 (fun _ => rfl) hv15 rfl (locB rfl rfl) rfl) ?_
 refine oP (x_build bld_102 [(0,.tmp 69),(1,.tmp 74)] [(0,.slot 69 (L 1 I [v13,v11])),(1,.slot 74 (L 1 I v15))] [.slot 69 (L 1 I [v13,v11]),.slot 74 (L 1 I v15)] (pkS rfl (clean_of (cleanL (Enc.clean (f:=I)))) rfl (pkS rfl (clean_of (cleanL (Enc.clean (f:=I)))) rfl pkN)) (bqC (.slot _ _) (bqC (.slot _ _) bqN)) rfl) ?_
 refine oP (x_bs elt_100 [.tmp 75] [.slot 75 (T.agg [L 1 I [v13,v11],L 1 I v15])] [([v13,v11],v15)] (A2 lV) ⟨.slot _ _,trivial⟩ (pkS rfl (clean_of (cleanA ⟨(cleanL (Enc.clean (f:=I))),(cleanL (Enc.clean (f:=I))),trivial⟩)) rfl pkN) rfl rfl) ?_
 refine RW.ghost (Ghost.tr 66 3 _ rfl rfl (clean_of (cleanL (Enc.clean (f:=(A2 lV))))) rfl) ?_
 obtain ⟨v16,hv16,h⟩:=bd h
 refine oP (x_appm (f:=(A2 lV)) elt_100 hv16 rfl rfl rfl) ?_
 refine a_as ?_
 refine RW.ghost (Ghost.tr 3 77 _ rfl rfl (clean_of (cleanL (Enc.clean (f:=(A2 lV))))) rfl) ?_
 refine RW.nil ?_
 refine nB ?_
 refine nA ?_
 refine CW.to [(0,T.ro ((Pt eSPresentation) x0)),(3,L 2 (A2 lV) v16),(6,I s7.2),(43,I (x0.Orders.length:Int)),(44,I s7.2),(53,T.ro (lM v9)),(54,I (v9.length:Int)),(55,I s8.2)] ⟨rfl,rfl,rfl,rfl,rfl,rfl,rfl,rfl,trivial⟩ ?_
 refine CW.region ?_
 obtain ⟨v17,hv17,h⟩:=bd h
 refine oP (x_add hv17 rfl rfl rfl) ?_
 refine a_mv ?_
 refine RW.nil ?_
 exact eN h
 refine CW.exit ?_
 refine xA ?_
 exact eX h
 obtain ⟨rfl,hg⟩:=hq
 refine xB ?_
 refine nB ?_
 refine nA ?_
 refine CW.ghost hg ?_
 refine CW.region ?_
 obtain ⟨v19,hv19,h⟩:=bd h
 refine a_add ?_
 refine a_mv ?_
 refine RW.nil ?_
 exact eN h
 refine CW.exit ?_
 refine xA ?_
 exact eX h
 obtain ⟨rfl,hg⟩:=hq
 refine xB ?_
 refine nA ?_
 refine CW.ghost hg ?_
 refine sR ?_
 refine a_mv ?_
 refine a_as ?_
 refine RW.ghost (Ghost.tr 2 3 _ rfl rfl (clean_of (cleanL (Enc.clean (f:=(A2 lV))))) rfl) ?_
 refine rN ?_
 refine CW.ret ?_
 obtain rfl:=sI h
 exact rT
theorem t_impl_identityOf (x0:Int) (x1:Int) (r:SMatrix) (h:f_impl_identityOf x0 x1 = some r):FnC Tryz.prog 130 [I x0,I x1] [eSMatrix r] []:=by
 refine fB Tryz.func130 (fun St W w0 v => ?_)
 refine sR ?_
 refine a_alloc ?_
 refine rN ?_
 refine sR ?_
 refine a_mv ?_
 refine a_mv ?_
 refine oP (x_build bld_40 [(0,.tmp 8),(1,.tmp 9)] [(0,.slot 8 (I x0)),(1,.slot 9 (I x1))] [.slot 8 (I x0),.slot 9 (I x1),.zero (L 1 lV [])] (pkS rfl (clean_of (Enc.clean (f:=I) _)) rfl (pkS rfl (clean_of (Enc.clean (f:=I) _)) rfl (pkZ rfl pkN))) (bqC (.slot _ _) (bqC (.slot _ _) bqN)) rfl) ?_
 refine a_alloc ?_
 refine oP (x_stp inf_40 rfl (locB rfl rfl) rfl rfl rfl rfl (clean_of (cleanA ⟨(Enc.clean (f:=I) _),(Enc.clean (f:=I) _),trivial,trivial⟩)) rfl) ?_
 refine rN ?_
 refine CW.seq ?_
 refine sR ?_
 refine a_mv ?_
 refine a_mv ?_
 refine rN ?_
 refine CW.block ?_
 obtain ⟨r5,hr5,h⟩:=bd h
 refine CW.lp (s:=([],0)) (l1_impl_identityOf x1) (fun s1:(List (List Int)) × Int => envL [(1,I x1),(4,T.ptr (T.agg [I 0,I 0,L 1 lV []])),(5,T.ptr (T.agg [I x0,I x1,L 1 lV s1.1])),(11,I x1),(12,I s1.2)]) (fun (r5:(List (List Int))) e E => e = .exit 0 ∧ Ghost ⟨St,W,w0,Tryz.f130.ntmps⟩ E (envL [(4,T.ptr (T.agg [I 0,I 0,L 1 lV []])),(5,T.ptr (T.agg [I x0,I x1,L 1 lV r5]))])) (.has ⟨rfl,rfl,rfl,rfl,rfl,trivial⟩) (fun s1 x h => ?_) hr5 (fun e E hq => ?_)
 refine sR ?_
 refine a_lss ?_
 refine rN ?_
 refine CW.seq ?_
 refine cn h (fun hc h => ?_) (fun hc h => ?_)
 refine CW.skip ?_
 refine nA ?_
 refine CW.seq ?_
 refine CW.block ?_
 refine sR ?_
 refine a_mv ?_
 refine a_as ?_
 refine rN ?_
 refine sR ?_
 refine a_mv ?_
 obtain ⟨m1,hm1,h⟩:=bd h
 refine oP (x_makeL (f:=I) (z:=0) elt_22 (rfl) hm1 rfl rfl rfl) ?_
 refine a_as ?_
 refine RW.ghost (Ghost.tr 7 16 _ rfl rfl (clean_of (cleanL (Enc.clean (f:=I)))) rfl) ?_
 refine rN ?_
 refine sR ?_
 refine a_mv ?_
 refine a_mv ?_
 obtain ⟨v2,hv2,h⟩:=bd h
 refine a_ix ?_
 refine oP (x_stcT inf_2 rfl rfl rfl (getc hv2 rfl) (setc hv2 rfl) rfl rfl) ?_
 refine rN ?_
 refine CW.region ?_
 refine a_fa ?_
 refine a_ld ?_
 refine a_mv ?_
 refine RW.ghost (Ghost.tr 22 7 _ rfl rfl (clean_of (cleanL (Enc.clean (f:=I)))) rfl) ?_
 refine oP (x_bs elt_23 [.tmp 22] [.slot 22 (L 1 I ((List.replicate m1 (0:Int)).set s1.2.toNat 1))] [(List.replicate m1 (0:Int)).set s1.2.toNat 1] lV ⟨.slot _ _,trivial⟩ (pkS rfl (clean_of (cleanL (Enc.clean (f:=I)))) rfl pkN) rfl rfl) ?_
 refine RW.ghost (Ghost.trq 21 5 [2,0] rfl rfl rfl (clean_of (cleanL (Enc.clean (f:=lV)))) rfl) ?_
 obtain ⟨v3,hv3,h⟩:=bd h
 refine oP (x_appm (f:=lV) elt_23 hv3 rfl rfl rfl) ?_
 refine a_fa ?_
 refine oP (x_st inf_23 rfl rfl rfl rfl rfl rfl (clean_of (cleanL (Enc.clean (f:=lV)))) rfl) ?_
 refine RW.nil ?_
 refine nB ?_
 refine nA ?_
 refine CW.region ?_
 obtain ⟨v4,hv4,h⟩:=bd h
 refine a_add ?_
 refine a_mv ?_
 refine RW.nil ?_
 exact eN h
 refine CW.exit ?_
 refine xA ?_
 exact eX h
 obtain ⟨rfl,hg⟩:=hq
 refine xB ?_
 refine nA ?_
 refine CW.ghost hg ?_
 refine sR ?_
 refine a_ldp ?_
 refine RW.ghost (Ghost.trf 27 [2] 5 [2,0] _ _ rfl rfl rfl rfl rfl (clean_of (cleanL (Enc.clean (f:=lV)))) rfl) ?_
 refine oP (x_stp inf_40 rfl (locB rfl rfl) rfl rfl rfl rfl (clean_of (cleanA ⟨(Enc.clean (f:=I) _),(Enc.clean (f:=I) _),(cleanL (Enc.clean (f:=lV))),trivial⟩)) rfl) ?_
 refine rN ?_
 refine CW.ret ?_
 obtain rfl:=sI h
 exact ⟨_,Ghost.refl,⟨.inl rfl,[(4,[0],T.agg [I x0,I x1,L 1 lV r5])],⟨⟨rfl,rfl,rfl,(var_40.h _ rfl rfl).h⟩,trivial⟩,rfl,(by simp),(by simp),trivial⟩⟩
theorem t_impl_residue (x0:Int) (x1:Int) (r:Int) (h:f_impl_residue x0 x1 = some r):FnC Tryz.prog 110 [I x0,I x1] [I r] []:=by
 refine fB Tryz.func110 (fun St W w0 v => ?_)
 refine sR ?_
 refine a_as ?_
 refine rN ?_
 refine sR ?_
 refine a_mv ?_
 refine a_mv ?_
 obtain ⟨v1,hv1,h⟩:=bd h
 refine a_rem ?_
 refine a_mv ?_
 obtain ⟨v2,hv2,h⟩:=bd h
 refine a_add ?_
 refine a_mv ?_
 obtain ⟨v3,hv3,h⟩:=bd h
 refine a_rem ?_
 refine a_as ?_
 refine rN ?_
 refine CW.ret ?_
 obtain rfl:=sI h
 exact rT
theorem t_impl_addMultiple (x0:List Int) (x1:List Int) (x2:Int) (x3:Int) (r:(List Int)) (h:f_impl_addMultiple x0 x1 x2 x3 = some r):FnC Tryz.prog 91 [L 1 I x0,T.ro (lV x1),I x2,I x3] [] [(0,lV r)]:=by
 refine fB Tryz.func91 (fun St W w0 v => ?_)
 refine sR ?_
 refine a_mv ?_
 refine a_len ?_
 refine a_mv ?_
 refine rN ?_
 refine CW.block ?_
 obtain ⟨r8,hr8,h⟩:=bd h
 refine CW.lp (s:=(x0,0)) (l1_impl_addMultiple x0 x1 x2 x3) (fun s1:(List Int) × Int => envL [(0,L 1 I s1.1),(1,T.ro (lV x1)),(2,I x2),(3,I x3),(10,I (x0.length:Int)),(11,I s1.2)]) (fun (r8:(List Int)) e E => e = .exit 0 ∧ Ghost ⟨St,W,w0,Tryz.f91.ntmps⟩ E (envL [(0,L 1 I r8)])) (.has ⟨rfl,rfl,rfl,rfl,rfl,rfl,trivial⟩) (fun s1 x h => ?_) hr8 (fun e E hq => ?_)
 refine sR ?_
 refine a_lss ?_
 refine rN ?_
 refine CW.seq ?_
 refine cn h (fun hc h => ?_) (fun hc h => ?_)
 refine CW.skip ?_
 refine nA ?_
 refine CW.seq ?_
 refine CW.block ?_
 refine sR ?_
 refine a_mv ?_
 refine a_as ?_
 refine rN ?_
 obtain ⟨v1,hv1,h⟩:=bd h
 obtain ⟨v2,hv2,h⟩:=bd h
 obtain ⟨v3,hv3,h⟩:=bd h
 obtain ⟨v4,hv4,h⟩:=bd h
 obtain ⟨r5,hr5,h⟩:=bd h
 obtain ⟨v6,hv6,h⟩:=bd h
 refine CW.dk ?_
 refine d_mv [(0,_)] ?_
 refine d_mv [(8,_)] ?_
 refine d_mv [(0,_)] ?_
 refine d_mv [(8,_)] ?_
 refine dG [(16,_),(0,_),(17,_)] [([(18,some (T.addr 0 [s1.2.toNat]))],[(18,0)])] ⟨rfl,rfl,rfl,trivial⟩ (fun E h => IxOk.opE (x_ix (f:=I) row_22 hv1 (locA h.1 h.2.1 rfl rfl) h.2.2.1 rfl) rfl) ?_
 refine dG [(18,_),(0,_)] [([(19,some (I v1))],[(19,0)])] ⟨rfl,rfl,trivial⟩ (fun E h => IxOk.opE (x_ld (var_2.h _ rfl rfl) h.1 h.2.1 (getc hv1 rfl) rfl) rfl) ?_
 refine d_mv [(2,_)] ?_
 refine d_mv [(1,_)] ?_
 refine d_mv [(8,_)] ?_
 refine d_ixr [(21,_),(22,_)] ?_
 refine d_ldr [(23,_)] ?_
 refine d_mul [(20,_),(24,_)] ?_
 refine d_add [(19,_),(25,_)] ?_ (h:=fun _ h => (x_add hv4 h.1 h.2.1 rfl))
 refine d_mv [(3,_)] ?_
 refine dC [(26,_),(27,_)] Tryz.call110 (t_impl_residue _ _ _ hr5) ?_
 refine dG [(14,_),(0,_),(15,_)] [([(29,some (T.addr 0 [s1.2.toNat]))],[(29,0)])] ⟨rfl,rfl,rfl,trivial⟩ (fun E h => IxOk.opE (x_ix (f:=I) row_22 hv6 (locA h.1 h.2.1 rfl rfl) h.2.2.1 rfl) rfl) ?_
 refine dG [(29,_),(0,_),(28,_)] [([(0,some (L 1 I (s1.1.set s1.2.toNat r5)))],[(0,1)])] ⟨rfl,rfl,rfl,trivial⟩ (fun E h => IxOk.opE (x_st inf_2 rfl h.1 h.2.1 (getc hv6 rfl) (setc hv6 rfl) h.2.2.1 (clean_of (Enc.clean (f:=I) _)) rfl) rfl) ?_
 refine dNA mixedP ?_
 refine nB ?_
 refine nA ?_
 refine CW.region ?_
 obtain ⟨v7,hv7,h⟩:=bd h
 refine a_add ?_
 refine a_mv ?_
 refine RW.nil ?_
 exact eN h
 refine CW.exit ?_
 refine xA ?_
 exact eX h
 obtain ⟨rfl,hg⟩:=hq
 refine xB ?_
 obtain rfl:=sI h
 exact rTg hg rT
theorem t_impl_vectorTimes (x0:List Int) (x1:SMatrix) (r:(List Int)) (h:f_impl_vectorTimes x0 x1 = some r):FnC Tryz.prog 96 [T.ro (lV x0),qMatrix x1] [lV r] []:=by
 refine fB Tryz.func96 (fun St W w0 v => ?_)
 refine sR ?_
 refine a_box ?_
 refine oP (x_nil 1 rfl) ?_
 refine rN ?_
 refine sR ?_
 refine a_fa ?_
 refine a_ld ?_
 obtain ⟨m1,hm1,h⟩:=bd h
 refine oP (x_makeL (f:=I) (z:=0) elt_22 (rfl) hm1 rfl rfl rfl) ?_
 refine a_as ?_
 refine RW.ghost (Ghost.tr 5 10 _ rfl rfl (clean_of (cleanL (Enc.clean (f:=I)))) rfl) ?_
 refine rN ?_
 refine CW.seq ?_
 refine sR ?_
 refine a_mv ?_
 refine a_lenr ?_
 refine a_mv ?_
 refine rN ?_
 refine CW.block ?_
 obtain ⟨r6,hr6,h⟩:=bd h
 refine CW.lp (s:=(List.replicate m1 (0:Int),0)) (l1_impl_vectorTimes x0 x1) (fun s1:(List Int) × Int => envL [(3,T.ptr (qMatrix x1)),(5,L 1 I s1.1),(11,T.ro (lV x0)),(12,I (x0.length:Int)),(13,I s1.2)]) (fun (r6:(List Int)) e E => e = .exit 0 ∧ Ghost ⟨St,W,w0,Tryz.f96.ntmps⟩ E (envL [(5,L 1 I r6)])) (.has ⟨rfl,rfl,rfl,rfl,rfl,trivial⟩) (fun s1 x h => ?_) hr6 (fun e E hq => ?_)
 refine sR ?_
 refine a_lss ?_
 refine rN ?_
 refine CW.seq ?_
 refine cn h (fun hc h => ?_) (fun hc h => ?_)
 refine CW.skip ?_
 refine nA ?_
 refine CW.seq ?_
 refine CW.block ?_
 refine sR ?_
 refine a_mv ?_
 obtain ⟨v2,hv2,h⟩:=bd h
 refine a_ixr ?_
 refine a_ldr ?_
 refine a_as ?_
 refine a_as ?_
 refine rN ?_
 obtain ⟨v3,hv3,h⟩:=bd h
 obtain ⟨r4,hr4,h⟩:=bd h
 refine CW.dk ?_
 refine d_mv [(5,_)] ?_
 refine d_fa [(3,_)] ?_
 refine d_ld [(19,_),(3,_)] ?_
 refine d_mv [(6,_)] ?_
 refine d_ixr [(20,_),(21,_)] ?_
 refine d_ldr [(22,_)] ?_
 refine d_mv [(7,_)] ?_
 refine d_fa [(3,_)] ?_
 refine d_ld [(25,_),(3,_)] ?_
 refine dG [(18,_),(5,_),(23,_),(24,_),(26,_)] [([(18,some (L 1 I s1.1)),(5,some (T.same 18 []))],[(18,1),(5,1)]),([(27,some (T.tup [])),(18,some (L 1 I r4))],[(27,0),(18,1)]),([(5,some (L 1 I r4)),(18,some (T.same 5 []))],[(5,1),(18,1)])] ⟨rfl,rfl,rfl,rfl,rfl,trivial⟩ (fun E h => IxOk.opE (x_callM (xs:=[.tmp 18,.tmp 23,.tmp 24,.tmp 26]) 0 18 5 [] Tryz.call91 (t_impl_addMultiple _ _ _ _ _ hr4) h.1 h.2.1 rfl (clean_of (cleanL (Enc.clean (f:=I)))) (clean_of (cleanL (Enc.clean (f:=I)))) (Enc.rofree (f:=L 1 I) _) (Enc.rofree (f:=L 1 I) _) ⟨(agLd rfl (clean_of (cleanL (Enc.clean (f:=I)))) (Enc.rofree (f:=L 1 I) _)),⟨(agM _ (keepL h.2.2.1) rfl rfl),⟨(agM _ (keepL h.2.2.2.1) rfl rfl),⟨(agM _ (keepL h.2.2.2.2.1) rfl rfl),trivial⟩⟩⟩⟩ resN rfl rfl rfl rfl) rfl) ?_
 refine dNA mixedP ?_
 refine nB ?_
 refine nA ?_
 refine CW.region ?_
 obtain ⟨v5,hv5,h⟩:=bd h
 refine a_add ?_
 refine a_mv ?_
 refine RW.nil ?_
 exact eN h
 refine CW.exit ?_
 refine xA ?_
 exact eX h
 obtain ⟨rfl,hg⟩:=hq
 refine xB ?_
 refine nA ?_
 refine CW.ghost hg ?_
 refine sR ?_
 refine a_mv ?_
 refine a_as ?_
 refine RW.ghost (Ghost.tr 4 5 _ rfl rfl (clean_of (cleanL (Enc.clean (f:=I)))) rfl) ?_
 refine rN ?_
 refine CW.ret ?_
 obtain rfl:=sI h
 exact rT
end Go.Wk

namespace Go.Wk
open Go Go.Proofs Go.Ab
set_option maxRecDepth 100000
theorem t_impl_product (x0:SMatrix) (x1:SMatrix) (r:SMatrix) (h:f_impl_product x0 x1 = some r):FnC Tryz.prog 57 [qMatrix x0,qMatrix x1] [eSMatrix r] []:=by
 refine fB Tryz.func57 (fun St W w0 v => ?_)
 refine sR ?_
 refine a_box ?_
 refine a_box ?_
 refine a_alloc ?_
 refine rN ?_
 refine sR ?_
 refine a_fa ?_
 refine a_ld ?_
 refine a_fa ?_
 refine a_ld ?_
 refine oP (x_build bld_40 [(0,.tmp 9),(1,.tmp 11)] [(0,.slot 9 (I x0.Prime)),(1,.slot 11 (I x1.Columns))] [.slot 9 (I x0.Prime),.slot 11 (I x1.Columns),.zero (L 1 lV [])] (pkS rfl (clean_of (Enc.clean (f:=I) _)) rfl (pkS rfl (clean_of (Enc.clean (f:=I) _)) rfl (pkZ rfl pkN))) (bqC (.slot _ _) (bqC (.slot _ _) bqN)) rfl) ?_
 refine a_alloc ?_
 refine oP (x_stp inf_40 rfl (locB rfl rfl) rfl rfl rfl rfl (clean_of (cleanA ⟨(Enc.clean (f:=I) _),(Enc.clean (f:=I) _),trivial,trivial⟩)) rfl) ?_
 refine rN ?_
 refine CW.seq ?_
 refine sR ?_
 refine a_fa ?_
 refine a_ld ?_
 refine a_lenr ?_
 refine a_mv ?_
 refine rN ?_
 refine CW.block ?_
 obtain ⟨r5,hr5,h⟩:=bd h
 refine CW.lp (s:=([],0)) (l1_impl_product x0 x1) (fun s1:(List (List Int)) × Int => envL [(3,T.ptr (qMatrix x1)),(4,T.ptr (T.agg [I 0,I 0,L 1 lV []])),(5,T.ptr (T.agg [I x0.Prime,I x1.Columns,L 1 lV s1.1])),(14,T.ro (lM x0.Rows)),(15,I (x0.Rows.length:Int)),(16,I s1.2)]) (fun (r5:(List (List Int))) e E => e = .exit 0 ∧ Ghost ⟨St,W,w0,Tryz.f57.ntmps⟩ E (envL [(4,T.ptr (T.agg [I 0,I 0,L 1 lV []])),(5,T.ptr (T.agg [I x0.Prime,I x1.Columns,L 1 lV r5]))])) (.has ⟨rfl,rfl,rfl,rfl,rfl,rfl,trivial⟩) (fun s1 x h => ?_) hr5 (fun e E hq => ?_)
 refine sR ?_
 refine a_lss ?_
 refine rN ?_
 refine CW.seq ?_
 refine cn h (fun hc h => ?_) (fun hc h => ?_)
 refine CW.skip ?_
 refine nA ?_
 refine CW.seq ?_
 refine CW.block ?_
 refine sR ?_
 obtain ⟨v1,hv1,h⟩:=bd h
 refine a_ixr ?_
 refine a_ldr ?_
 refine a_as ?_
 refine rN ?_
 obtain ⟨r2,hr2,h⟩:=bd h
 obtain ⟨v3,hv3,h⟩:=bd h
 refine CW.dk ?_
 refine d_fa [(5,_)] ?_
 refine d_ld [(20,_),(5,_)] ?_
 refine d_mv [(7,_)] ?_
 refine d_ldp [(3,_)] ?_
 refine dC [(22,_),(23,_)] Tryz.call96 (t_impl_vectorTimes _ _ _ hr2) ?_
 refine dG [(24,_)] [([(25,some (L 1 lV [r2])),(24,some (T.same 25 [0]))],[(25,0),(24,1)])] ⟨rfl,trivial⟩ (fun E h => IxOk.opE (x_bs elt_23 [.tmp 24] [.slot 24 (L 1 I r2)] [r2] lV ⟨.slot _ _,trivial⟩ (pkS h.1 (clean_of (cleanL (Enc.clean (f:=I)))) rfl pkN) rfl rfl) rfl) ?_
 refine dG [(21,T.same 5 [2,0]),(5,T.ptr (T.agg [I x0.Prime,I x1.Columns,L 1 lV s1.1])),(25,L 1 lV [r2])] [([(21,some (L 1 lV s1.1)),(5,some (T.ptr (T.agg [I x0.Prime,I x1.Columns,T.any])))],[(21,1),(5,3)]),([(26,some (L 1 lV v3)),(21,some T.any),(25,some T.any)],[(26,0),(21,1),(25,1)])] ⟨rfl,rfl,rfl,trivial⟩ (fun E h => IxOk.gh (Ghost.trq 21 5 [2,0] h.1 h.2.1 rfl (clean_of (cleanL (Enc.clean (f:=lV)))) rfl) <| IxOk.opE (x_appm (f:=lV) elt_23 hv3 rfl (keepE h.2.2.1) rfl) rfl) ?_
 refine d_fa [(5,_)] ?_
 refine dG [(27,_),(5,_),(26,_)] [([(5,some (T.ptr (T.agg [I x0.Prime,I x1.Columns,L 1 lV v3]))),(26,some (T.same 5 [2,0]))],[(5,2),(26,1)])] ⟨rfl,rfl,rfl,trivial⟩ (fun E h => IxOk.opE (x_st inf_23 rfl h.1 h.2.1 rfl rfl h.2.2.1 (clean_of (cleanL (Enc.clean (f:=lV)))) rfl) rfl) ?_
 refine dNA mixedP ?_
 refine nB ?_
 refine nA ?_
 refine CW.region ?_
 obtain ⟨v4,hv4,h⟩:=bd h
 refine a_add ?_
 refine a_mv ?_
 refine RW.nil ?_
 exact eN h
 refine CW.exit ?_
 refine xA ?_
 exact eX h
 obtain ⟨rfl,hg⟩:=hq
 refine xB ?_
 refine nA ?_
 refine CW.ghost hg ?_
 refine sR ?_
 refine a_ldp ?_
 refine RW.ghost (Ghost.trf 29 [2] 5 [2,0] _ _ rfl rfl rfl rfl rfl (clean_of (cleanL (Enc.clean (f:=lV)))) rfl) ?_
 refine oP (x_stp inf_40 rfl (locB rfl rfl) rfl rfl rfl rfl (clean_of (cleanA ⟨(Enc.clean (f:=I) _),(Enc.clean (f:=I) _),(cleanL (Enc.clean (f:=lV))),trivial⟩)) rfl) ?_
 refine rN ?_
 refine CW.ret ?_
 obtain rfl:=sI h
 exact ⟨_,Ghost.refl,⟨.inl rfl,[(4,[0],T.agg [I x0.Prime,I x1.Columns,L 1 lV r5])],⟨⟨rfl,rfl,rfl,(var_40.h _ rfl rfl).h⟩,trivial⟩,rfl,(by simp),(by simp),trivial⟩⟩
theorem t_impl_actionOf (x0:SModule) (x1:List Int) (r:SMatrix) (h:f_impl_actionOf x0 x1 = some r):FnC Tryz.prog 84 [T.ro ((Pt eSModule) x0),T.ro (lV x1)] [eSMatrix r] []:=by
 refine fB Tryz.func84 (fun St W w0 v => ?_)
 refine sR ?_
 refine a_alloc ?_
 refine rN ?_
 refine CW.seq ?_
 obtain ⟨r1,hr1,h⟩:=bd h
 refine CW.dk ?_
 refine d_mv [(0,_)] ?_
 refine d_nilc [(8,_)] ?_
 refine d_far [(9,_)] ?_
 refine d_ldr [(10,_)] ?_
 refine d_mv [(0,_)] ?_
 refine d_nilc [(12,_)] ?_
 refine d_far [(13,_)] ?_
 refine d_ldr [(14,_)] ?_
 refine dC [(11,_),(15,_)] Tryz.call130 (t_impl_identityOf _ _ _ hr1) ?_
 refine d_alloc [] ?_
 refine dG [(5,_),(16,_)] [([(5,some (T.ptr (eSMatrix r1))),(16,some (T.agg [I r1.Prime,I r1.Columns,T.same 5 [2,0]]))],[(5,1),(16,1)])] ⟨rfl,rfl,trivial⟩ (fun E h => IxOk.opE (x_stp inf_40 rfl (locB h.1 rfl) h.1 rfl rfl h.2.1 (clean_of (cleanA ⟨(Enc.clean (f:=I) _),(Enc.clean (f:=I) _),(cleanL (Enc.clean (f:=lV))),trivial⟩)) rfl) rfl) ?_
 refine dNA mixedP ?_
 refine nA ?_
 refine CW.seq ?_
 refine sR ?_
 refine a_mv ?_
 refine a_lenr ?_
 refine a_mv ?_
 refine rN ?_
 refine CW.block ?_
 obtain ⟨r7,hr7,h⟩:=bd h
 refine CW.lp (s:=(r1.Prime,r1.Columns,r1.Rows,0)) (l1_impl_actionOf x0 x1) (fun s1:Int × Int × (List (List Int)) × Int => envL [(0,T.ro ((Pt eSModule) x0)),(4,T.ptr (T.agg [I 0,I 0,L 1 lV []])),(5,T.ptr (T.agg [I s1.1,I s1.2.1,L 1 lV s1.2.2.1])),(17,T.ro (lV x1)),(18,I (x1.length:Int)),(19,I s1.2.2.2)]) (fun (r7:(Int × Int × (List (List Int)))) e E => e = .exit 0 ∧ Ghost ⟨St,W,w0,Tryz.f84.ntmps⟩ E (envL [(4,T.ptr (T.agg [I 0,I 0,L 1 lV []])),(5,T.ptr (T.agg [I r7.1,I r7.2.1,L 1 lV r7.2.2]))])) (.has ⟨rfl,rfl,rfl,rfl,rfl,rfl,trivial⟩) (fun s1 x h => ?_) hr7 (fun e E hq => ?_)
 refine sR ?_
 refine a_lss ?_
 refine rN ?_
 refine CW.seq ?_
 refine cn h (fun hc h => ?_) (fun hc h => ?_)
 refine CW.skip ?_
 refine nA ?_
 refine CW.seq ?_
 refine CW.block ?_
 refine sR ?_
 obtain ⟨v2,hv2,h⟩:=bd h
 refine a_ixr ?_
 refine a_ldr ?_
 refine a_as ?_
 refine rN ?_
 obtain ⟨v3,hv3,h⟩:=bd h
 obtain ⟨r4,hr4,h⟩:=bd h
 obtain ⟨r5,hr5,h⟩:=bd h
 refine CW.dk ?_
 refine d_ldp [(5,_)] ?_
 refine d_mv [(0,_)] ?_
 refine d_mv [(7,_)] ?_
 refine d_sub [(25,_)] ?_
 refine dG [(24,_),(26,_)] [([(27,some (qMatrix r4))],[(27,0)])] ⟨rfl,rfl,trivial⟩ (fun E h => IxOk.opE (x_callF (xs:=[.tmp 24,.tmp 26]) Tryz.call58 (t_impl_actionAt _ _ _ hr4) (afC h.1 rfl (afC h.2.1 rfl afN)) rfl ⟨(cleanA ⟨(Enc.clean (f:=I) _),(Enc.clean (f:=I) _),trivial,trivial⟩),trivial⟩ rfl rfl) rfl) ?_
 refine dG [(23,_),(5,_),(27,_)] [([(28,some (eSMatrix r5))],[(28,0)])] ⟨rfl,rfl,rfl,trivial⟩ (fun E h => IxOk.opE (x_call (xs:=[.tmp 23,.tmp 27]) Tryz.call57 (t_impl_product _ _ _ hr5) ⟨(agC _ h.1 (cloA (cloC rfl (cloC rfl (cloC (cloS h.2.1 rfl inferInstance) cloN)))) rfl),⟨(agC _ h.2.2.1 rfl rfl),trivial⟩⟩ (resC (f:=eSMatrix) inferInstance resN) rfl) rfl) ?_
 refine dG [(5,_),(28,_)] [([(5,some (T.ptr (eSMatrix r5))),(28,some (T.agg [I r5.Prime,I r5.Columns,T.same 5 [2,0]]))],[(5,1),(28,1)])] ⟨rfl,rfl,trivial⟩ (fun E h => IxOk.opE (x_stp inf_40 rfl (locB h.1 rfl) h.1 rfl rfl h.2.1 (clean_of (cleanA ⟨(Enc.clean (f:=I) _),(Enc.clean (f:=I) _),(cleanL (Enc.clean (f:=lV))),trivial⟩)) rfl) rfl) ?_
 refine dNA mixedP ?_
 refine nB ?_
 refine nA ?_
 refine CW.region ?_
 obtain ⟨v6,hv6,h⟩:=bd h
 refine a_add ?_
 refine a_mv ?_
 refine RW.nil ?_
 exact eN h
 refine CW.exit ?_
 refine xA ?_
 exact eX h
 obtain ⟨rfl,hg⟩:=hq
 refine xB ?_
 refine nA ?_
 refine CW.ghost hg ?_
 refine sR ?_
 refine a_ldp ?_
 refine RW.ghost (Ghost.trf 30 [2] 5 [2,0] _ _ rfl rfl rfl rfl rfl (clean_of (cleanL (Enc.clean (f:=lV)))) rfl) ?_
 refine oP (x_stp inf_40 rfl (locB rfl rfl) rfl rfl rfl rfl (clean_of (cleanA ⟨(Enc.clean (f:=I) _),(Enc.clean (f:=I) _),(cleanL (Enc.clean (f:=lV))),trivial⟩)) rfl) ?_
 refine rN ?_
 refine CW.ret ?_
 obtain rfl:=sI h
 exact ⟨_,Ghost.refl,⟨.inl rfl,[(4,[0],T.agg [I r7.1,I r7.2.1,L 1 lV r7.2.2])],⟨⟨rfl,rfl,rfl,(var_40.h _ rfl rfl).h⟩,trivial⟩,rfl,(by simp),(by simp),trivial⟩⟩
theorem t_slices_EqualFunc_int64_int64_int64_int64 (x0:List (List Int)) (x1:List (List Int)) (r:Bool) (h:f_slices_EqualFunc_int64_int64_int64_int64 x0 x1 = some r):FnC Tryz.prog 128 [T.ro (lM x0),T.ro (lM x1),T.lit (.func (.func 129) #[] #[])] [B r] []:=by
 refine fB Tryz.func128 (fun St W w0 v => ?_)
 refine sR ?_
 refine a_as ?_
 refine rN ?_
 refine CW.seq ?_
 refine sR ?_
 refine a_mv ?_
 refine a_lenr ?_
 refine a_mv ?_
 refine a_lenr ?_
 refine a_neq ?_
 refine rN ?_
 refine cn h (fun hc h => ?_) (fun hc h => ?_)
 refine sR ?_
 refine a_as ?_
 refine rN ?_
 refine CW.ret ?_
 refine rA ?_
 obtain rfl:=sI h
 exact rT
 refine CW.skip ?_
 refine nA ?_
 refine CW.seq ?_
 refine sR ?_
 refine a_mv ?_
 refine a_lenr ?_
 refine a_mv ?_
 refine rN ?_
 refine CW.block ?_
 obtain ⟨r5,hr5,h⟩:=bd h
 refine CW.lp (s:=0) (l1_slices_EqualFunc_int64_int64_int64_int64 x0 x1) (fun s1:Int => envL [(1,T.ro (lM x1)),(2,T.lit (.func (.func 129) #[] #[])),(15,T.ro (lM x0)),(16,I (x0.length:Int)),(17,I s1)]) (fun (x:Unit ⊕ Bool) e E => match x with | (.inl r5) => e = .exit 0 ∧ Ghost ⟨St,W,w0,Tryz.f128.ntmps⟩ E (envL []) | (.inr r5) => e = .ret ∧ RetG ⟨St,W,w0,Tryz.f128.ntmps⟩ Tryz.prog Tryz.f128.results [T.ro (lM x0),T.ro (lM x1),T.lit (.func (.func 129) #[] #[])] [B r5] [] .ret E) (.has ⟨rfl,rfl,rfl,rfl,rfl,trivial⟩) (fun s1 x h => ?_) hr5 (fun e E hq => ?_)
 refine sR ?_
 refine a_lss ?_
 refine rN ?_
 refine CW.seq ?_
 refine cn h (fun hc h => ?_) (fun hc h => ?_)
 refine CW.skip ?_
 refine nA ?_
 refine CW.seq ?_
 refine CW.block ?_
 refine sR ?_
 refine a_mv ?_
 obtain ⟨v1,hv1,h⟩:=bd h
 refine a_ixr ?_
 refine a_ldr ?_
 refine a_as ?_
 refine a_as ?_
 refine rN ?_
 refine sR ?_
 refine a_mv ?_
 refine a_mv ?_
 obtain ⟨v2,hv2,h⟩:=bd h
 refine a_ixr ?_
 refine a_ldr ?_
 refine a_as ?_
 refine rN ?_
 refine sR ?_
 refine a_mv ?_
 refine a_mv ?_
 refine a_mv ?_
 obtain ⟨r3,hr3,h⟩:=bd h
 refine oP (x_callV (xs:=[.tmp 27,.tmp 28]) rfl Tryz.call129 (t_slices_Equal_int64_int64 _ _ _ hr3) ⟨(agC _ rfl rfl rfl),⟨(agC _ rfl rfl rfl),trivial⟩⟩ (resC (f:=B) inferInstance resN) rfl) ?_
 refine a_not ?_
 refine rN ?_
 refine cn h (fun hc h => ?_) (fun hc h => ?_)
 refine sR ?_
 refine a_as ?_
 refine rN ?_
 refine CW.ret ?_
 refine rB ?_
 refine rA ?_
 exact eX h
 refine CW.skip ?_
 refine nB ?_
 refine nA ?_
 refine CW.region ?_
 obtain ⟨v4,hv4,h⟩:=bd h
 refine a_add ?_
 refine a_mv ?_
 refine RW.nil ?_
 exact eN h
 refine CW.exit ?_
 refine xA ?_
 exact eX h
 rcases r5 with r5 | r5
 obtain ⟨rfl,hg⟩:=hq
 refine xB ?_
 refine nA ?_
 refine CW.ghost hg ?_
 refine sR ?_
 refine a_as ?_
 refine rN ?_
 refine CW.ret ?_
 obtain rfl:=sI h
 exact rT
 obtain ⟨rfl,hq⟩:=hq
 refine rB ?_
 refine rA ?_
 obtain rfl:=sI h
 exact hq
theorem t_impl_sameRows (x0:List (List Int)) (x1:List (List Int)) (r:Bool) (h:f_impl_sameRows x0 x1 = some r):FnC Tryz.prog 83 [T.ro (lM x0),T.ro (lM x1)] [B r] []:=by
 refine fB Tryz.func83 (fun St W w0 v => ?_)
 refine sR ?_
 refine a_as ?_
 refine rN ?_
 refine sR ?_
 refine a_mv ?_
 refine a_mv ?_
 obtain ⟨r1,hr1,h⟩:=bd h
 refine cA Tryz.call128 (t_slices_EqualFunc_int64_int64_int64_int64 _ _ _ hr1) ?_
 refine a_as ?_
 refine rN ?_
 refine CW.ret ?_
 obtain rfl:=sI h
 exact rT
theorem t_impl_isModule (x0:SPresentation) (x1:SModule) (r:Bool) (h:f_impl_isModule x0 x1 = some r):FnC Tryz.prog 46 [T.ro ((Pt eSPresentation) x0),T.ro ((Pt eSModule) x1)] [B r] []:=by
 refine fB Tryz.func46 (fun St W w0 v => ?_)
 refine sR ?_
 refine a_as ?_
 refine rN ?_
 refine CW.seq ?_
 refine CW.seq ?_
 obtain ⟨r1,hr1,h⟩:=bd h
 refine CW.casesB (!r1) (fun hc0 => ?_) (fun hc0 => ?_)
 have h:=cT hc0 h
 refine CW.dk ?_
 refine d_mv [(0,_)] ?_
 refine d_nilc [(9,_)] ?_
 refine d_ldr [(10,_)] ?_
 refine dC [(11,_)] Tryz.call78 (t_impl_IsConsistent _ _ hr1) ?_
 refine dG [(12,_)] [([(13,some (B true))],[(13,0)])] ⟨rfl,trivial⟩ (fun E h => IxOk.opE (okB_eq hc0 (x_not h.1 rfl)) rfl) ?_
 refine d_mv [(13,_)] ?_
 refine dsk2 ?_
 refine dsk2 ?_
 refine dsk2 ?_
 refine dsk2 ?_
 refine dsk2 ?_
 refine dsk2 ?_
 refine d_pick [(14,_)] ?_
 refine d_mv [(21,_)] ?_
 refine dsk2 ?_
 refine dsk2 ?_
 refine dsk2 ?_
 refine dsk2 ?_
 refine dsk2 ?_
 refine dsk2 ?_
 refine d_pick [(22,_)] ?_
 refine d_mv [(29,_)] ?_
 refine dsk2 ?_
 refine dsk2 ?_
 refine dsk2 ?_
 refine dsk2 ?_
 refine dsk2 ?_
 refine dsk2 ?_
 refine dsk2 ?_
 refine dsk2 ?_
 refine dsk2 ?_
 refine dsk2 ?_
 refine dsk2 ?_
 refine d_pick [(30,_)] ?_
 refine dN ([] :: [0] :: [0,1] :: [0,1,2] :: [0,1,2,3] :: [0,1,2,3,4] :: [0,1,2,3,4,5] :: [0,1,2,3,4,5,6] :: [0,1,2,3,4,5,6,7] :: [0,1,2,3,4,5,6,7,8] :: [0,1,2,3,4,5,6,7,8,9] :: [0,1,2,3,4,5,6,7,8,9,10] :: [0,1,2,3,4,5,6,7,8,9,10,11] :: [0,1,2,3,4,5,6,7,8,9,10,11,12] :: [0,1,2,3,4,5,6,7,8,9,10,11,12,13] :: [0,1,2,3,4,5,6,7,8,9,10,11,12,13,14] :: [0,1,2,3,4,5,6,7,8,9,10,11,12,13,14,15] :: [0,1,2,3,4,5,6,7,8,9,10,11,12,13,14,15,16] :: [0,1,2,3,4,5,6,7,8,9,10,11,12,13,14,15,16,17] :: [0,1,2,3,4,5,6,7,8,9,10,11,12,13,14,15,16,17,18] :: [0,1,2,3,4,5,6,7,8,9,10,11,12,13,14,15,16,17,18,19] :: [0,1,2,3,4,5,6,7,8,9,10,11,12,13,14,15,16,17,18,19,20] :: [0,1,2,3,4,5,6,7,8,9,10,11,12,13,14,15,16,17,18,19,20,21] :: [0,1,2,3,4,5,6,7,8,9,10,11,12,13,14,15,16,17,18,19,20,21,22] :: [0,1,2,3,4,5,6,7,8,9,10,11,12,13,14,15,16,17,18,19,20,21,22,23] :: [0,1,2,3,4,5,6,7,8,9,10,11,12,13,14,15,16,17,18,19,20,21,22,23,24] :: [0,1,2,3,4,5,6,7,8,9,10,11,12,13,14,15,16,17,18,19,20,21,22,23,24,25] :: [0,1,2,3,4,5,6,7,8,9,10,11,12,13,14,15,16,17,18,19,20,21] :: [0,1,2,3,4,5,6,7,8,9,10,11,12,13,14,15,16,17,18,19,20,21,27] :: [0,1,2,3,4,5,6,7,8,9,10,11,12,13,14,15,16,17,18,19,20,21,27,28] :: [0,1,2,3,4,5,6,7,8,9,10,11,12,13,14,15,16,17,18,19,20,21,27,28,29] :: [0,1,2,3,4,5,6,7,8,9,10,11,12,13,14,15,16,17,18,19,20,21,27,28,29,30] :: [0,1,2,3,4,5,6,7,8,9,10,11,12,13,14,15,16,17,18,19,20,21,22,23,24,25,26,27,28,29,30,31] :: [0,1,2,3,4,5,6,7,8,9,10,11,12,13,14,15,16,17,18,19,20,21,22,23,24,25,26,27,28,29,30,31,32] :: []) mixedP ?_
 refine nA ?_
 refine CW.condT rfl ?_
 refine CW.seq ?_
 refine CW.to [] trivial ?_
 refine CW.region ?_
 refine a_as ?_
 refine rN ?_
 refine CW.ret ?_
 refine rA ?_
 obtain rfl:=sI h
 exact rT
 have h:=cF hc0 h
 obtain ⟨r2,hr2,h⟩:=bd h
 refine CW.casesB (!r2) (fun hc1 => ?_) (fun hc1 => ?_)
 have h:=cT hc1 h
 refine CW.dk ?_
 refine d_mv [(0,_)] ?_
 refine d_nilc [(9,_)] ?_
 refine d_ldr [(10,_)] ?_
 refine dC [(11,_)] Tryz.call78 (t_impl_IsConsistent _ _ hr1) ?_
 refine dG [(12,_)] [([(13,some (B false))],[(13,0)])] ⟨rfl,trivial⟩ (fun E h => IxOk.opE (okB_eq hc0 (x_not h.1 rfl)) rfl) ?_
 refine d_mv [(13,_)] ?_
 refine e_mv [(1,_),(14,_)] ?_
 refine e_nilc [(15,_),(14,_)] ?_
 refine e_far [(16,_),(14,_)] ?_
 refine e_ldr [(17,_),(14,_)] ?_
 refine dG [(18,_),(14,_)] [([(19,some (B r2))],[(19,0)])] ⟨rfl,rfl,trivial⟩ (fun E h => IxOk.guardE 5 false 14 (x_call (xs:=[.tmp 18]) Tryz.call79 (t_impl_IsGroupPrime _ _ hr2) ⟨(agC _ h.1 rfl rfl),trivial⟩ (resC (f:=B) inferInstance resN) rfl) rfl rfl h.2.1 rfl) ?_
 refine dG [(19,_),(14,_)] [([(20,some (B true))],[(20,0)])] ⟨rfl,rfl,trivial⟩ (fun E h => IxOk.guardE 5 false 14 (okB_eq hc1 (x_not h.1 rfl)) rfl rfl h.2.1 rfl) ?_
 refine d_pick [(14,_),(20,_)] ?_
 refine d_mv [(21,_)] ?_
 refine dsk2 ?_
 refine dsk2 ?_
 refine dsk2 ?_
 refine dsk2 ?_
 refine dsk2 ?_
 refine dsk2 ?_
 refine d_pick [(22,_)] ?_
 refine d_mv [(29,_)] ?_
 refine dsk2 ?_
 refine dsk2 ?_
 refine dsk2 ?_
 refine dsk2 ?_
 refine dsk2 ?_
 refine dsk2 ?_
 refine dsk2 ?_
 refine dsk2 ?_
 refine dsk2 ?_
 refine dsk2 ?_
 refine dsk2 ?_
 refine d_pick [(30,_)] ?_
 refine dN ([] :: [0] :: [0,1] :: [0,1,2] :: [0,1,2,3] :: [0,1,2,3,4] :: [0,1,2,3,4,5] :: [0,1,2,3,4,5,6] :: [0,1,2,3,4,5,6,7] :: [0,1,2,3,4,5,6,7,8] :: [0,1,2,3,4,5,6,7,8,9] :: [0,1,2,3,4,5,6,7,8,9,10] :: [0,1,2,3,4,5,6,7,8,9,10,11] :: [0,1,2,3,4,5,6,7,8,9,10,11,12] :: [0,1,2,3,4,5,6,7,8,9,10,11,12,13] :: [0,1,2,3,4,5,6,7,8,9,10,11,12,13,14] :: [0,1,2,3,4,5,6,7,8,9,10,11,12,13,14,15] :: [0,1,2,3,4,5,6,7,8,9,10,11,12,13,14,15,16] :: [0,1,2,3,4,5,6,7,8,9,10,11,12,13,14,15,16,17] :: [0,1,2,3,4,5,6,7,8,9,10,11,12,13,14,15,16,17,18] :: [0,1,2,3,4,5,6,7,8,9,10,11,12,13,14,15,16,17,18,19] :: [0,1,2,3,4,5,6,7,8,9,10,11,12,13,14,15,16,17,18,19,20] :: [0,1,2,3,4,5,6,7,8,9,10,11,12,13,14,15,16,17,18,19,20,21] :: [0,1,2,3,4,5,6,7,8,9,10,11,12,13,14,15,16,17,18,19,20,21,22] :: [0,1,2,3,4,5,6,7,8,9,10,11,12,13,14,15,16,17,18,19,20,21,22,23] :: [0,1,2,3,4,5,6,7,8,9,10,11,12,13,14,15,16,17,18,19,20,21,22,23,24] :: [0,1,2,3,4,5,6,7,8,9,10,11,12,13,14,15,16,17,18,19,20,21,22,23,24,25] :: [0,1,2,3,4,5,6,7,8,9,10,11,12,13,14,15,16,17,18,19,20,21] :: [0,1,2,3,4,5,6,7,8,9,10,11,12,13,14,15,16,17,18,19,20,21,27] :: [0,1,2,3,4,5,6,7,8,9,10,11,12,13,14,15,16,17,18,19,20,21,27,28] :: [0,1,2,3,4,5,6,7,8,9,10,11,12,13,14,15,16,17,18,19,20,21,27,28,29] :: [0,1,2,3,4,5,6,7,8,9,10,11,12,13,14,15,16,17,18,19,20,21,27,28,29,30] :: [0,1,2,3,4,5,6,7,8,9,10,11,12,13,14,15,16,17,18,19,20,21,22,23,24,25,26,27,28,29,30,31] :: [0,1,2,3,4,5,6,7,8,9,10,11,12,13,14,15,16,17,18,19,20,21,22,23,24,25,26,27,28,29,30,31,32] :: []) mixedP ?_
 refine nA ?_
 refine CW.condT rfl ?_
 refine CW.seq ?_
 refine CW.to [] trivial ?_
 refine CW.region ?_
 refine a_as ?_
 refine rN ?_
 refine CW.ret ?_
 refine rA ?_
 obtain rfl:=sI h
 exact rT
 have h:=cF hc1 h
 obtain ⟨r3,hr3,h⟩:=bd h
 refine CW.casesB (!r3) (fun hc2 => ?_) (fun hc2 => ?_)
 have h:=cT hc2 h
 refine CW.dk ?_
 refine d_mv [(0,_)] ?_
 refine d_nilc [(9,_)] ?_
 refine d_ldr [(10,_)] ?_
 refine dC [(11,_)] Tryz.call78 (t_impl_IsConsistent _ _ hr1) ?_
 refine dG [(12,_)] [([(13,some (B false))],[(13,0)])] ⟨rfl,trivial⟩ (fun E h => IxOk.opE (okB_eq hc0 (x_not h.1 rfl)) rfl) ?_
 refine d_mv [(13,_)] ?_
 refine e_mv [(1,_),(14,_)] ?_
 refine e_nilc [(15,_),(14,_)] ?_
 refine e_far [(16,_),(14,_)] ?_
 refine e_ldr [(17,_),(14,_)] ?_
 refine dG [(18,_),(14,_)] [([(19,some (B r2))],[(19,0)])] ⟨rfl,rfl,trivial⟩ (fun E h => IxOk.guardE 5 false 14 (x_call (xs:=[.tmp 18]) Tryz.call79 (t_impl_IsGroupPrime _ _ hr2) ⟨(agC _ h.1 rfl rfl),trivial⟩ (resC (f:=B) inferInstance resN) rfl) rfl rfl h.2.1 rfl) ?_
 refine dG [(19,_),(14,_)] [([(20,some (B false))],[(20,0)])] ⟨rfl,rfl,trivial⟩ (fun E h => IxOk.guardE 5 false 14 (okB_eq hc1 (x_not h.1 rfl)) rfl rfl h.2.1 rfl) ?_
 refine d_pick [(14,_),(20,_)] ?_
 refine d_mv [(21,_)] ?_
 refine e_mv [(1,_),(22,_)] ?_
 refine e_nilc [(23,_),(22,_)] ?_
 refine e_far [(24,_),(22,_)] ?_
 refine e_ldr [(25,_),(22,_)] ?_
 refine dG [(26,_),(22,_)] [([(27,some (B r3))],[(27,0)])] ⟨rfl,rfl,trivial⟩ (fun E h => IxOk.guardE 13 false 22 (x_call (xs:=[.tmp 26,.const _,.const _]) Tryz.call80 (t_impl_inside _ _ _ _ hr3) ⟨(agC _ h.1 rfl rfl),⟨(agC _ rfl rfl rfl),⟨(agC _ rfl rfl rfl),trivial⟩⟩⟩ (resC (f:=B) inferInstance resN) rfl) rfl rfl h.2.1 rfl) ?_
 refine dG [(27,_),(22,_)] [([(28,some (B true))],[(28,0)])] ⟨rfl,rfl,trivial⟩ (fun E h => IxOk.guardE 13 false 22 (okB_eq hc2 (x_not h.1 rfl)) rfl rfl h.2.1 rfl) ?_
 refine d_pick [(22,_),(28,_)] ?_
 refine d_mv [(29,_)] ?_
 refine dsk2 ?_
 refine dsk2 ?_
 refine dsk2 ?_
 refine dsk2 ?_
 refine dsk2 ?_
 refine dsk2 ?_
 refine dsk2 ?_
 refine dsk2 ?_
 refine dsk2 ?_
 refine dsk2 ?_
 refine dsk2 ?_
 refine d_pick [(30,_)] ?_
 refine dN ([] :: [0] :: [0,1] :: [0,1,2] :: [0,1,2,3] :: [0,1,2,3,4] :: [0,1,2,3,4,5] :: [0,1,2,3,4,5,6] :: [0,1,2,3,4,5,6,7] :: [0,1,2,3,4,5,6,7,8] :: [0,1,2,3,4,5,6,7,8,9] :: [0,1,2,3,4,5,6,7,8,9,10] :: [0,1,2,3,4,5,6,7,8,9,10,11] :: [0,1,2,3,4,5,6,7,8,9,10,11,12] :: [0,1,2,3,4,5,6,7,8,9,10,11,12,13] :: [0,1,2,3,4,5,6,7,8,9,10,11,12,13,14] :: [0,1,2,3,4,5,6,7,8,9,10,11,12,13,14,15] :: [0,1,2,3,4,5,6,7,8,9,10,11,12,13,14,15,16] :: [0,1,2,3,4,5,6,7,8,9,10,11,12,13,14,15,16,17] :: [0,1,2,3,4,5,6,7,8,9,10,11,12,13,14,15,16,17,18] :: [0,1,2,3,4,5,6,7,8,9,10,11,12,13,14,15,16,17,18,19] :: [0,1,2,3,4,5,6,7,8,9,10,11,12,13,14,15,16,17,18,19,20] :: [0,1,2,3,4,5,6,7,8,9,10,11,12,13,14,15,16,17,18,19,20,21] :: [0,1,2,3,4,5,6,7,8,9,10,11,12,13,14,15,16,17,18,19,20,21,22] :: [0,1,2,3,4,5,6,7,8,9,10,11,12,13,14,15,16,17,18,19,20,21,22,23] :: [0,1,2,3,4,5,6,7,8,9,10,11,12,13,14,15,16,17,18,19,20,21,22,23,24] :: [0,1,2,3,4,5,6,7,8,9,10,11,12,13,14,15,16,17,18,19,20,21,22,23,24,25] :: [0,1,2,3,4,5,6,7,8,9,10,11,12,13,14,15,16,17,18,19,20,21] :: [0,1,2,3,4,5,6,7,8,9,10,11,12,13,14,15,16,17,18,19,20,21,27] :: [0,1,2,3,4,5,6,7,8,9,10,11,12,13,14,15,16,17,18,19,20,21,27,28] :: [0,1,2,3,4,5,6,7,8,9,10,11,12,13,14,15,16,17,18,19,20,21,27,28,29] :: [0,1,2,3,4,5,6,7,8,9,10,11,12,13,14,15,16,17,18,19,20,21,27,28,29,30] :: [0,1,2,3,4,5,6,7,8,9,10,11,12,13,14,15,16,17,18,19,20,21,22,23,24,25,26,27,28,29,30,31] :: [0,1,2,3,4,5,6,7,8,9,10,11,12,13,14,15,16,17,18,19,20,21,22,23,24,25,26,27,28,29,30,31,32] :: []) mixedP ?_
 refine nA ?_
 refine CW.condT rfl ?_
 refine CW.seq ?_
 refine CW.to [] trivial ?_
 refine CW.region ?_
 refine a_as ?_
 refine rN ?_
 refine CW.ret ?_
 refine rA ?_
 obtain rfl:=sI h
 exact rT
 have h:=cF hc2 h
 refine CW.dk ?_
 refine d_mv [(0,_)] ?_
 refine d_nilc [(9,_)] ?_
 refine d_ldr [(10,_)] ?_
 refine dC [(11,_)] Tryz.call78 (t_impl_IsConsistent _ _ hr1) ?_
 refine dG [(12,_)] [([(13,some (B false))],[(13,0)])] ⟨rfl,trivial⟩ (fun E h => IxOk.opE (okB_eq hc0 (x_not h.1 rfl)) rfl) ?_
 refine d_mv [(13,_)] ?_
 refine e_mv [(1,_),(14,_)] ?_
 refine e_nilc [(15,_),(14,_)] ?_
 refine e_far [(16,_),(14,_)] ?_
 refine e_ldr [(17,_),(14,_)] ?_
 refine dG [(18,_),(14,_)] [([(19,some (B r2))],[(19,0)])] ⟨rfl,rfl,trivial⟩ (fun E h => IxOk.guardE 5 false 14 (x_call (xs:=[.tmp 18]) Tryz.call79 (t_impl_IsGroupPrime _ _ hr2) ⟨(agC _ h.1 rfl rfl),trivial⟩ (resC (f:=B) inferInstance resN) rfl) rfl rfl h.2.1 rfl) ?_
 refine dG [(19,_),(14,_)] [([(20,some (B false))],[(20,0)])] ⟨rfl,rfl,trivial⟩ (fun E h => IxOk.guardE 5 false 14 (okB_eq hc1 (x_not h.1 rfl)) rfl rfl h.2.1 rfl) ?_
 refine d_pick [(14,_),(20,_)] ?_
 refine d_mv [(21,_)] ?_
 refine e_mv [(1,_),(22,_)] ?_
 refine e_nilc [(23,_),(22,_)] ?_
 refine e_far [(24,_),(22,_)] ?_
 refine e_ldr [(25,_),(22,_)] ?_
 refine dG [(26,_),(22,_)] [([(27,some (B r3))],[(27,0)])] ⟨rfl,rfl,trivial⟩ (fun E h => IxOk.guardE 13 false 22 (x_call (xs:=[.tmp 26,.const _,.const _]) Tryz.call80 (t_impl_inside _ _ _ _ hr3) ⟨(agC _ h.1 rfl rfl),⟨(agC _ rfl rfl rfl),⟨(agC _ rfl rfl rfl),trivial⟩⟩⟩ (resC (f:=B) inferInstance resN) rfl) rfl rfl h.2.1 rfl) ?_
 refine dG [(27,_),(22,_)] [([(28,some (B false))],[(28,0)])] ⟨rfl,rfl,trivial⟩ (fun E h => IxOk.guardE 13 false 22 (okB_eq hc2 (x_not h.1 rfl)) rfl rfl h.2.1 rfl) ?_
 refine d_pick [(22,_),(28,_)] ?_
 refine d_mv [(29,_)] ?_
 refine e_mv [(1,_),(30,_)] ?_
 refine e_nilc [(31,_),(30,_)] ?_
 refine e_far [(32,_),(30,_)] ?_
 refine e_ldr [(33,_),(30,_)] ?_
 refine e_lenr [(34,_),(30,_)] ?_
 refine e_mv [(0,_),(30,_)] ?_
 refine e_nilc [(36,_),(30,_)] ?_
 refine e_far [(37,_),(30,_)] ?_
 refine e_ldr [(38,_),(30,_)] ?_
 refine e_lenr [(39,_),(30,_)] ?_
 refine e_neq [(35,_),(40,_),(30,_)] ?_
 refine d_pick [(30,_),(41,_)] ?_
 refine dN ([] :: [0] :: [0,1] :: [0,1,2] :: [0,1,2,3] :: [0,1,2,3,4] :: [0,1,2,3,4,5] :: [0,1,2,3,4,5,6] :: [0,1,2,3,4,5,6,7] :: [0,1,2,3,4,5,6,7,8] :: [0,1,2,3,4,5,6,7,8,9] :: [0,1,2,3,4,5,6,7,8,9,10] :: [0,1,2,3,4,5,6,7,8,9,10,11] :: [0,1,2,3,4,5,6,7,8,9,10,11,12] :: [0,1,2,3,4,5,6,7,8,9,10,11,12,13] :: [0,1,2,3,4,5,6,7,8,9,10,11,12,13,14] :: [0,1,2,3,4,5,6,7,8,9,10,11,12,13,14,15] :: [0,1,2,3,4,5,6,7,8,9,10,11,12,13,14,15,16] :: [0,1,2,3,4,5,6,7,8,9,10,11,12,13,14,15,16,17] :: [0,1,2,3,4,5,6,7,8,9,10,11,12,13,14,15,16,17,18] :: [0,1,2,3,4,5,6,7,8,9,10,11,12,13,14,15,16,17,18,19] :: [0,1,2,3,4,5,6,7,8,9,10,11,12,13,14,15,16,17,18,19,20] :: [0,1,2,3,4,5,6,7,8,9,10,11,12,13,14,15,16,17,18,19,20,21] :: [0,1,2,3,4,5,6,7,8,9,10,11,12,13,14,15,16,17,18,19,20,21,22] :: [0,1,2,3,4,5,6,7,8,9,10,11,12,13,14,15,16,17,18,19,20,21,22,23] :: [0,1,2,3,4,5,6,7,8,9,10,11,12,13,14,15,16,17,18,19,20,21,22,23,24] :: [0,1,2,3,4,5,6,7,8,9,10,11,12,13,14,15,16,17,18,19,20,21,22,23,24,25] :: [0,1,2,3,4,5,6,7,8,9,10,11,12,13,14,15,16,17,18,19,20,21] :: [0,1,2,3,4,5,6,7,8,9,10,11,12,13,14,15,16,17,18,19,20,21,27] :: [0,1,2,3,4,5,6,7,8,9,10,11,12,13,14,15,16,17,18,19,20,21,27,28] :: [0,1,2,3,4,5,6,7,8,9,10,11,12,13,14,15,16,17,18,19,20,21,27,28,29] :: [0,1,2,3,4,5,6,7,8,9,10,11,12,13,14,15,16,17,18,19,20,21,27,28,29,30] :: [0,1,2,3,4,5,6,7,8,9,10,11,12,13,14,15,16,17,18,19,20,21,22,23,24,25,26,27,28,29,30,31] :: [0,1,2,3,4,5,6,7,8,9,10,11,12,13,14,15,16,17,18,19,20,21,22,23,24,25,26,27,28,29,30,31,32] :: []) mixedP ?_
 refine nA ?_
 refine cn h (fun hc h => ?_) (fun hc h => ?_)
 refine CW.seq ?_
 refine CW.to [] trivial ?_
 refine CW.region ?_
 refine a_as ?_
 refine rN ?_
 refine CW.ret ?_
 refine rA ?_
 obtain rfl:=sI h
 exact rT
 refine CW.skip ?_
 refine nA ?_
 refine CW.seq ?_
 refine CW.seq ?_
 refine CW.to [(0,T.ro ((Pt eSPresentation) x0)),(1,T.ro ((Pt eSModule) x1))] ⟨rfl,rfl,trivial⟩ ?_
 refine CW.region ?_
 refine a_mv ?_
 refine a_nilc ?_
 refine a_far ?_
 refine a_ldr ?_
 refine a_lenr ?_
 refine a_mv ?_
 refine rN ?_
 refine CW.block ?_
 obtain ⟨r8,hr8,h⟩:=bd h
 refine CW.lp (s:=0) (l1_impl_isModule x1) (fun s1:Int => envL [(0,T.ro ((Pt eSPresentation) x0)),(1,T.ro ((Pt eSModule) x1)),(46,T.ro (lC x1.Actions)),(47,I (x1.Actions.length:Int)),(48,I s1)]) (fun (x:Unit ⊕ Bool) e E => match x with | (.inl r8) => e = .exit 0 ∧ Ghost ⟨St,W,w0,Tryz.f46.ntmps⟩ E (envL [(0,T.ro ((Pt eSPresentation) x0)),(1,T.ro ((Pt eSModule) x1))]) | (.inr r8) => e = .ret ∧ RetG ⟨St,W,w0,Tryz.f46.ntmps⟩ Tryz.prog Tryz.f46.results [T.ro ((Pt eSPresentation) x0),T.ro ((Pt eSModule) x1)] [B r8] [] .ret E) (.has ⟨rfl,rfl,rfl,rfl,rfl,trivial⟩) (fun s1 x h => ?_) hr8 (fun e E hq => ?_)
 refine sR ?_
 refine a_lss ?_
 refine rN ?_
 refine CW.seq ?_
 refine cn h (fun hc h => ?_) (fun hc h => ?_)
 refine CW.skip ?_
 refine nA ?_
 refine CW.seq ?_
 refine CW.block ?_
 refine sR ?_
 refine a_mv ?_
 obtain ⟨v4,hv4,h⟩:=bd h
 refine a_ixr ?_
 refine a_ldr ?_
 refine a_as ?_
 refine a_as ?_
 refine rN ?_
 refine sR ?_
 refine a_mv ?_
 refine a_lenr ?_
 refine a_mv ?_
 refine a_nilc ?_
 refine a_far ?_
 refine a_ldr ?_
 refine a_neq ?_
 refine a_mv ?_
 refine RW.cases 60 _ rfl (fun hc => ?_) (fun hc => ?_)
 have h:=cT hc h
 refine sk2 ?_
 refine sk2 ?_
 refine sk2 ?_
 refine sk2 ?_
 refine sk2 ?_
 refine a_pick ?_
 refine rN ?_
 refine CW.condT rfl ?_
 refine sR ?_
 refine a_as ?_
 refine rN ?_
 refine CW.ret ?_
 refine rB ?_
 refine rA ?_
 exact eX h
 have h:=cF hc h
 refine g_mv ?_
 refine g_mv ?_
 obtain ⟨r5,hr5,h⟩:=bd h
 refine RW.cons (IxOk.guard 7 false 60 (x_callF (xs:=[.tmp 61,.tmp 62]) Tryz.call58 (t_impl_actionAt _ _ _ hr5) (afC rfl rfl (afC rfl rfl afN)) rfl ⟨(cleanA ⟨(Enc.clean (f:=I) _),(Enc.clean (f:=I) _),trivial,trivial⟩),trivial⟩ rfl rfl)) ?_
 obtain ⟨r6,hr6,h⟩:=bd h
 refine RW.cons (IxOk.guard 7 false 60 (x_call (xs:=[.tmp 63]) Tryz.call81 (t_impl_IsMatrix _ _ hr6) ⟨(agC _ rfl rfl rfl),trivial⟩ (resC (f:=B) inferInstance resN) rfl)) ?_
 refine g_not ?_
 refine a_pick ?_
 refine rN ?_
 refine cn h (fun hc h => ?_) (fun hc h => ?_)
 refine sR ?_
 refine a_as ?_
 refine rN ?_
 refine CW.ret ?_
 refine rB ?_
 refine rA ?_
 exact eX h
 refine CW.skip ?_
 refine nB ?_
 refine nA ?_
 refine CW.region ?_
 obtain ⟨v7,hv7,h⟩:=bd h
 refine a_add ?_
 refine a_mv ?_
 refine RW.nil ?_
 exact eN h
 refine CW.exit ?_
 refine xA ?_
 exact eX h
 rcases r8 with r8 | r8
 obtain ⟨rfl,hg⟩:=hq
 refine xB ?_
 refine nA ?_
 refine CW.ghost hg ?_
 refine CW.seq ?_
 refine sR ?_
 refine a_mv ?_
 obtain ⟨r9,hr9,h⟩:=bd h
 refine cA Tryz.call82 (t_impl_relationSides _ _ hr9) ?_
 refine RW.ghost (Ghost.frz 69 (k:=2) (f:=(A2 lV)) (g:=(A2 lV)) r9 rfl inferInstance) ?_
 refine a_lenr ?_
 refine a_mv ?_
 refine rN ?_
 refine CW.block ?_
 obtain ⟨r15,hr15,h⟩:=bd h
 refine CW.lp (s:=0) (l2_impl_isModule x1 r9) (fun s3:Int => envL [(1,T.ro ((Pt eSModule) x1)),(69,T.ro ((L 2 (A2 lV)) r9)),(70,I (r9.length:Int)),(71,I s3)]) (fun (x:Unit ⊕ Bool) e E => match x with | (.inl r15) => e = .exit 2 ∧ Ghost ⟨St,W,w0,Tryz.f46.ntmps⟩ E (envL []) | (.inr r15) => e = .ret ∧ RetG ⟨St,W,w0,Tryz.f46.ntmps⟩ Tryz.prog Tryz.f46.results [T.ro ((Pt eSPresentation) x0),T.ro ((Pt eSModule) x1)] [B r15] [] .ret E) (.has ⟨rfl,rfl,rfl,rfl,trivial⟩) (fun s3 x h => ?_) hr15 (fun e E hq => ?_)
 refine sR ?_
 refine a_lss ?_
 refine rN ?_
 refine CW.seq ?_
 refine cn h (fun hc h => ?_) (fun hc h => ?_)
 refine CW.skip ?_
 refine nA ?_
 refine CW.seq ?_
 refine CW.block ?_
 refine sR ?_
 obtain ⟨v10,hv10,h⟩:=bd h
 refine a_ixr ?_
 refine a_ldr ?_
 refine a_alloc ?_
 refine oP (x_stp inf_102 rfl (locB rfl rfl) rfl rfl rfl rfl (clean_of (cleanA ⟨trivial,trivial,trivial⟩)) rfl) ?_
 refine rN ?_
 refine CW.seq ?_
 obtain ⟨r11,hr11,h⟩:=bd h
 obtain ⟨r12,hr12,h⟩:=bd h
 obtain ⟨r13,hr13,h⟩:=bd h
 refine CW.dk ?_
 refine d_mv [(1,_)] ?_
 refine dG [(8,_)] [([(76,some (T.addr 8 [0,0]))],[(76,0)])] ⟨rfl,trivial⟩ (fun E h => IxOk.opE (x_ixA 0 arr_102 (locB h.1 rfl) rfl rfl rfl) rfl) ?_
 refine d_ld [(76,_),(8,_)] ?_
 refine dC [(75,_),(77,_)] Tryz.call84 (t_impl_actionOf _ _ _ hr11) ?_
 refine dG [(78,_)] [([(79,some (T.same 78 [2]))],[(79,0)])] ⟨rfl,trivial⟩ (fun E h => IxOk.opE (x_fld fld_40_2 (fldv_40_2 rfl rfl) h.1 rfl rfl rfl) rfl) ?_
 refine d_mv [(1,_)] ?_
 refine dG [(8,_)] [([(81,some (T.addr 8 [1,0]))],[(81,0)])] ⟨rfl,trivial⟩ (fun E h => IxOk.opE (x_ixA 1 arr_102 (locB h.1 rfl) rfl rfl rfl) rfl) ?_
 refine d_ld [(81,_),(8,_)] ?_
 refine dC [(80,_),(82,_)] Tryz.call84 (t_impl_actionOf _ _ _ hr12) ?_
 refine dG [(83,_)] [([(84,some (T.same 83 [2]))],[(84,0)])] ⟨rfl,trivial⟩ (fun E h => IxOk.opE (x_fld fld_40_2 (fldv_40_2 rfl rfl) h.1 rfl rfl rfl) rfl) ?_
 refine dC [(79,_),(78,_),(84,_),(83,_)] Tryz.call83 (t_impl_sameRows _ _ _ hr13) ?_
 refine d_not [(85,_)] ?_
 refine dNA mixedP ?_
 refine nA ?_
 refine cn h (fun hc h => ?_) (fun hc h => ?_)
 refine sR ?_
 refine a_as ?_
 refine rN ?_
 refine CW.ret ?_
 refine rB ?_
 refine rA ?_
 exact eX h
 refine CW.skip ?_
 refine nB ?_
 refine nA ?_
 refine CW.region ?_
 obtain ⟨v14,hv14,h⟩:=bd h
 refine a_add ?_
 refine a_mv ?_
 refine RW.nil ?_
 exact eN h
 refine CW.exit ?_
 refine xA ?_
 exact eX h
 rcases r15 with r15 | r15
 obtain ⟨rfl,hg⟩:=hq
 refine xB ?_
 refine nA ?_
 refine CW.ghost hg ?_
 refine sR ?_
 refine a_as ?_
 refine rN ?_
 refine CW.ret ?_
 obtain rfl:=sI h
 exact rT
 obtain ⟨rfl,hq⟩:=hq
 refine rB ?_
 refine rA ?_
 obtain rfl:=sI h
 exact hq
 obtain ⟨rfl,hq⟩:=hq
 refine rB ?_
 refine rA ?_
 obtain rfl:=sI h
 exact hq
theorem t_impl_copyRows (x0:List (List Int)) (r:(List (List Int))) (h:f_impl_copyRows x0 = some r):FnC Tryz.prog 136 [T.ro (lM x0)] [lM r] []:=by
 refine fB Tryz.func136 (fun St W w0 v => ?_)
 refine sR ?_
 refine oP (x_nil 1 rfl) ?_
 refine rN ?_
 refine sR ?_
 refine oP (x_nil 1 rfl) ?_
 refine rN ?_
 refine CW.seq ?_
 refine sR ?_
 refine a_mv ?_
 refine a_lenr ?_
 refine a_mv ?_
 refine rN ?_
 refine CW.block ?_
 obtain ⟨r5,hr5,h⟩:=bd h
 refine CW.lp (s:=([],0)) (l1_impl_copyRows x0) (fun s1:(List (List Int)) × Int => envL [(3,L 1 lV s1.1),(6,T.ro (lM x0)),(7,I (x0.length:Int)),(8,I s1.2)]) (fun (r5:(List (List Int))) e E => e = .exit 0 ∧ Ghost ⟨St,W,w0,Tryz.f136.ntmps⟩ E (envL [(3,L 1 lV r5)])) (.has ⟨rfl,rfl,rfl,rfl,trivial⟩) (fun s1 x h => ?_) hr5 (fun e E hq => ?_)
 refine sR ?_
 refine a_lss ?_
 refine rN ?_
 refine CW.seq ?_
 refine cn h (fun hc h => ?_) (fun hc h => ?_)
 refine CW.skip ?_
 refine nA ?_
 refine CW.seq ?_
 refine CW.block ?_
 refine sR ?_
 obtain ⟨v1,hv1,h⟩:=bd h
 refine a_ixr ?_
 refine a_ldr ?_
 refine a_as ?_
 refine rN ?_
 refine CW.region ?_
 refine a_mv ?_
 refine a_mv ?_
 obtain ⟨r2,hr2,h⟩:=bd h
 refine cA Tryz.call90 (t_slices_Clone_int64_int64 _ _ hr2) ?_
 refine oP (x_bs elt_23 [.tmp 14] [.slot 14 (L 1 I r2)] [r2] lV ⟨.slot _ _,trivial⟩ (pkS rfl (clean_of (cleanL (Enc.clean (f:=I)))) rfl pkN) rfl rfl) ?_
 refine RW.ghost (Ghost.tr 12 3 _ rfl rfl (clean_of (cleanL (Enc.clean (f:=lV)))) rfl) ?_
 obtain ⟨v3,hv3,h⟩:=bd h
 refine oP (x_appm (f:=lV) elt_23 hv3 rfl rfl rfl) ?_
 refine a_as ?_
 refine RW.ghost (Ghost.tr 3 16 _ rfl rfl (clean_of (cleanL (Enc.clean (f:=lV)))) rfl) ?_
 refine RW.nil ?_
 refine nB ?_
 refine nA ?_
 refine CW.region ?_
 obtain ⟨v4,hv4,h⟩:=bd h
 refine a_add ?_
 refine a_mv ?_
 refine RW.nil ?_
 exact eN h
 refine CW.exit ?_
 refine xA ?_
 exact eX h
 obtain ⟨rfl,hg⟩:=hq
 refine xB ?_
 refine nA ?_
 refine CW.ghost hg ?_
 refine sR ?_
 refine a_mv ?_
 refine a_as ?_
 refine RW.ghost (Ghost.tr 2 3 _ rfl rfl (clean_of (cleanL (Enc.clean (f:=lV)))) rfl) ?_
 refine rN ?_
 refine CW.ret ?_
 obtain rfl:=sI h
 exact rT
theorem t_impl_inverseMod (x0:Int) (x1:Int) (r:Int × Bool) (h:f_impl_inverseMod x0 x1 = some r):FnC Tryz.prog 137 [I x0,I x1] [I r.1,B r.2] []:=by
 refine fB Tryz.func137 (fun St W w0 v => ?_)
 refine sR ?_
 refine a_as ?_
 refine a_as ?_
 refine rN ?_
 refine sR ?_
 refine a_mv ?_
 refine a_mv ?_
 refine a_as ?_
 refine a_as ?_
 refine a_as ?_
 refine a_as ?_
 refine rN ?_
 refine CW.seq ?_
 refine CW.block ?_
 obtain ⟨r6,hr6,h⟩:=bd h
 refine CW.lp (s:=(x1,x0,0,1)) l1_impl_inverseMod (fun s1:Int × Int × Int × Int => envL [(1,I x1),(6,I s1.1),(7,I s1.2.1),(8,I s1.2.2.1),(9,I s1.2.2.2)]) (fun (r6:(Int × Int)) e E => e = .exit 0 ∧ Ghost ⟨St,W,w0,Tryz.f137.ntmps⟩ E (envL [(1,I x1),(6,I r6.1),(8,I r6.2)])) (.has ⟨rfl,rfl,rfl,rfl,rfl,trivial⟩) (fun s1 x h => ?_) hr6 (fun e E hq => ?_)
 refine CW.seq ?_
 refine sR ?_
 refine a_mv ?_
 refine a_neq ?_
 refine rN ?_
 refine cn h (fun hc h => ?_) (fun hc h => ?_)
 refine CW.skip ?_
 refine nA ?_
 refine CW.block ?_
 refine sR ?_
 refine a_mv ?_
 refine a_mv ?_
 obtain ⟨v1,hv1,h⟩:=bd h
 refine a_quo ?_
 refine a_as ?_
 refine rN ?_
 refine sR ?_
 refine a_mv ?_
 refine a_mv ?_
 refine a_mv ?_
 refine a_mv ?_
 obtain ⟨v2,hv2,h⟩:=bd h
 refine a_mul ?_
 obtain ⟨v3,hv3,h⟩:=bd h
 refine a_sub ?_
 refine a_as ?_
 refine a_as ?_
 refine rN ?_
 refine CW.region ?_
 refine a_mv ?_
 refine a_mv ?_
 refine a_mv ?_
 refine a_mv ?_
 obtain ⟨v4,hv4,h⟩:=bd h
 refine a_mul ?_
 obtain ⟨v5,hv5,h⟩:=bd h
 refine a_sub ?_
 refine a_as ?_
 refine a_as ?_
 refine RW.nil ?_
 refine nB ?_
 exact eN h
 refine CW.exit ?_
 refine xA ?_
 exact eX h
 obtain ⟨rfl,hg⟩:=hq
 refine xB ?_
 refine nA ?_
 refine CW.ghost hg ?_
 refine sR ?_
 refine a_mv ?_
 refine a_mv ?_
 obtain ⟨r7,hr7,h⟩:=bd h
 refine cA Tryz.call110 (t_impl_residue _ _ _ hr7) ?_
 refine a_mv ?_
 refine a_eql ?_
 refine a_as ?_
 refine a_as ?_
 refine rN ?_
 refine CW.ret ?_
 obtain rfl:=sI h
 exact rT
theorem t_impl_reduceRows (x0:Int) (x1:List (List Int)) (r:(List (List Int))) (h:f_impl_reduceRows x0 x1 = some r):FnC Tryz.prog 104 [I x0,T.ro (lM x1)] [lM r] []:=by
 refine fB Tryz.func104 (fun St W w0 v => ?_)
 refine sR ?_
 refine oP (x_nil 1 rfl) ?_
 refine rN ?_
 refine sR ?_
 refine a_mv ?_
 obtain ⟨r1,hr1,h⟩:=bd h
 refine cA Tryz.call136 (t_impl_copyRows _ _ hr1) ?_
 refine a_as ?_
 refine RW.ghost (Ghost.tr 1 13 _ rfl rfl (clean_of (cleanL (Enc.clean (f:=lV)))) rfl) ?_
 refine rN ?_
 refine sR ?_
 refine a_as ?_
 refine rN ?_
 refine CW.seq ?_
 refine sR ?_
 refine a_as ?_
 refine rN ?_
 refine CW.block ?_
 obtain ⟨r33,hr33,h⟩:=bd h
 refine CW.lp (s:=(r1,0,0)) (l4_impl_reduceRows x0) (fun s13:(List (List Int)) × Int × Int => envL [(0,I x0),(1,L 1 lV s13.1),(5,I s13.2.1),(6,I s13.2.2)]) (fun (r33:((List (List Int)) × Int)) e E => e = .exit 0 ∧ Ghost ⟨St,W,w0,Tryz.f104.ntmps⟩ E (envL [(1,L 1 lV r33.1),(5,I r33.2)])) (.has ⟨rfl,rfl,rfl,rfl,trivial⟩) (fun s13 x h => ?_) hr33 (fun e E hq => ?_)
 refine CW.seq ?_
 refine sR ?_
 refine a_mv ?_
 refine a_len ?_
 refine a_gtr ?_
 refine a_mv ?_
 refine RW.cases 17 _ rfl (fun hc => ?_) (fun hc => ?_)
 have h:=cT hc h
 refine g_mv ?_
 refine g_mv ?_
 obtain ⟨v2,hv2,h⟩:=bd h
 refine g_ix ?_
 refine g_ld ?_
 refine g_len ?_
 refine g_lss ?_
 refine a_pick ?_
 refine a_mv ?_
 refine RW.cases 25 _ rfl (fun hc => ?_) (fun hc => ?_)
 have h:=cT hc h
 refine g_mv ?_
 refine g_mv ?_
 refine g_len ?_
 refine g_lss ?_
 refine a_pick ?_
 refine rN ?_
 refine cn h (fun hc h => ?_) (fun hc h => ?_)
 refine CW.skip ?_
 refine nA ?_
 refine CW.seq ?_
 refine CW.block ?_
 refine sR ?_
 refine a_mv ?_
 refine a_as ?_
 refine rN ?_
 refine CW.seq ?_
 refine CW.block ?_
 obtain ⟨r6,hr6,h⟩:=bd h
 refine CW.lp (s:=s13.2.1) (l1_impl_reduceRows s13) (fun s14:Int => envL [(0,I x0),(1,L 1 lV s13.1),(5,I s13.2.1),(6,I s13.2.2),(7,I s14)]) (fun (r6:Int) e E => e = .exit 2 ∧ Ghost ⟨St,W,w0,Tryz.f104.ntmps⟩ E (envL [(0,I x0),(1,L 1 lV s13.1),(5,I s13.2.1),(6,I s13.2.2),(7,I r6)])) (.has ⟨rfl,rfl,rfl,rfl,rfl,trivial⟩) (fun s14 x h => ?_) hr6 (fun e E hq => ?_)
 refine CW.seq ?_
 refine sR ?_
 refine a_mv ?_
 refine a_mv ?_
 refine a_len ?_
 refine a_lss ?_
 refine a_mv ?_
 refine RW.cases 38 _ rfl (fun hc => ?_) (fun hc => ?_)
 have h:=cT hc h
 refine g_mv ?_
 refine g_mv ?_
 obtain ⟨v3,hv3,h⟩:=bd h
 refine g_ix ?_
 refine g_ld ?_
 refine g_mv ?_
 obtain ⟨v4,hv4,h⟩:=bd h
 refine g_ix ?_
 refine g_ld ?_
 refine g_eql ?_
 refine a_pick ?_
 refine rN ?_
 refine cn h (fun hc h => ?_) (fun hc h => ?_)
 refine CW.skip ?_
 refine nA ?_
 refine CW.block ?_
 refine CW.region ?_
 refine a_mv ?_
 obtain ⟨v5,hv5,h⟩:=bd h
 refine a_add ?_
 refine a_as ?_
 refine RW.nil ?_
 refine nB ?_
 exact eN h
 refine CW.exit ?_
 refine xA ?_
 exact eX h
 have h:=cF hc h
 refine sk2 ?_
 refine sk2 ?_
 refine sk2 ?_
 refine sk2 ?_
 refine sk2 ?_
 refine sk2 ?_
 refine sk2 ?_
 refine sk2 ?_
 refine a_pick ?_
 refine rN ?_
 refine CW.condF rfl ?_
 refine CW.exit ?_
 refine xA ?_
 exact eX h
 obtain ⟨rfl,hg⟩:=hq
 refine xB ?_
 refine nA ?_
 refine CW.ghost hg ?_
 refine CW.seq ?_
 refine sR ?_
 refine a_mv ?_
 refine a_mv ?_
 refine a_len ?_
 refine a_eql ?_
 refine rN ?_
 refine cn h (fun hc h => ?_) (fun hc h => ?_)
 refine CW.exit ?_
 refine xA ?_
 refine xB ?_
 refine nA ?_
 refine CW.region ?_
 refine a_mv ?_
 obtain ⟨v7,hv7,h⟩:=bd h
 refine a_add ?_
 refine a_as ?_
 refine RW.nil ?_
 exact eN h
 refine CW.skip ?_
 refine nA ?_
 refine CW.seq ?_
 obtain ⟨v8,hv8,h⟩:=bd h
 obtain ⟨v9,hv9,h⟩:=bd h
 refine CW.midA [(0,I x0),(1,L 1 lV (swapL s13.1 s13.2.1 r6 v8 v9)),(5,I s13.2.1),(6,I s13.2.2)] ?_ ?_
 refine CW.casesB (r6 == s13.2.1) (fun hc => ?_) (fun hc => ?_)
 have hij:(r6:Int) = s13.2.1:=by simpa using hc
 refine CW.dkS [1] ?_
 refine d_mvS 1 ?_
 refine d_mv [(5,_)] ?_
 refine d_mvS 1 ?_
 refine d_mv [(7,_)] ?_
 refine d_mvS 1 ?_
 refine d_mv [(7,_)] ?_
 refine d_ix [(58,_),(1,_),(59,_)] ?_
 refine d_ld [(60,_),(1,_)] ?_
 refine d_mvS 1 ?_
 refine d_mv [(5,_)] ?_
 refine d_ix [(62,_),(1,_),(63,_)] ?_
 refine d_ld [(64,_),(1,_)] ?_
 refine d_ix [(54,_),(1,_),(55,_)] ?_
 refine sw1e (V:=65) inf_22 rfl hv8 hij ?_
 refine dG [(56,_),(1,_),(57,_)] [([(67,some (T.addr 1 [(r6:Int).toNat]))],[(67,0)])] ⟨rfl,rfl,rfl,trivial⟩ (fun E h => IxOk.opE (y_ixG (locA h.1 h.2.1 rfl rfl) h.2.2.1 (ixLen hv8 (by simp)) rfl) rfl) ?_
 refine sw2e (U:=61) inf_22 rfl hv8 hv9 hij ?_
 refine dNA mixedP ?_
 exact ⟨rfl,.has ⟨rfl,rfl,rfl,rfl,trivial⟩⟩
 have hn:=toNat_ne hv8 hv9 hc
 refine CW.dkS [1] ?_
 refine d_mvS 1 ?_
 refine d_mv [(5,_)] ?_
 refine d_mvS 1 ?_
 refine d_mv [(7,_)] ?_
 refine d_mvS 1 ?_
 refine d_mv [(7,_)] ?_
 refine d_ix [(58,_),(1,_),(59,_)] ?_
 refine d_ld [(60,_),(1,_)] ?_
 refine d_mvS 1 ?_
 refine d_mv [(5,_)] ?_
 refine d_ix [(62,_),(1,_),(63,_)] ?_
 refine d_ld [(64,_),(1,_)] ?_
 refine d_ix [(54,_),(1,_),(55,_)] ?_
 refine sw1n (V:=65) inf_22 rfl hv8 hv9 hn ?_
 refine dG [(56,_),(1,_),(57,_)] [([(67,some (T.addr 1 [(r6:Int).toNat]))],[(67,0)])] ⟨rfl,rfl,rfl,trivial⟩ (fun E h => IxOk.opE (y_ixG (locA h.1 h.2.1 rfl rfl) h.2.2.1 (ixLen hv8 (by simp)) rfl) rfl) ?_
 refine sw2n inf_22 rfl hv8 hv9 hn ?_
 refine dNA mixedP ?_
 exact ⟨rfl,.has ⟨rfl,rfl,rfl,rfl,trivial⟩⟩
 refine sR ?_
 refine a_mv ?_
 refine a_mv ?_
 obtain ⟨v10,hv10,h⟩:=bd h
 refine oP (x_ix (f:=lV) row_23 hv10 (locA rfl rfl rfl rfl) rfl rfl) ?_
 refine oP (x_ld (var_22.h _ rfl rfl) rfl rfl (getc hv10 rfl) rfl) ?_
 refine a_mv ?_
 obtain ⟨v11,hv11,h⟩:=bd h
 refine oP (x_ix (f:=I) row_22 hv11 (locA rfl rfl (getc hv10 rfl) rfl) rfl rfl) ?_
 refine oP (x_ld (var_2.h _ rfl rfl) rfl rfl (getc hv10 (getc hv11 rfl)) rfl) ?_
 refine a_mv ?_
 obtain ⟨r12,hr12,h⟩:=bd h
 refine cA Tryz.call137 (t_impl_inverseMod _ _ _ hr12) ?_
 refine a_mvT ?_
 refine a_ext ?_
 refine a_ext ?_
 refine a_as ?_
 refine a_as ?_
 refine rN ?_
 refine CW.seq ?_
 refine sR ?_
 refine a_mv ?_
 refine a_mv ?_
 obtain ⟨v13,hv13,h⟩:=bd h
 refine oP (x_ix (f:=lV) row_23 hv13 (locA rfl rfl rfl rfl) rfl rfl) ?_
 refine oP (x_ld (var_22.h _ rfl rfl) rfl rfl (getc hv13 rfl) rfl) ?_
 refine oP (x_len Tryz.underlying22 (locA rfl rfl (getc hv13 rfl) rfl) rfl) ?_
 refine a_mv ?_
 refine rN ?_
 refine CW.block ?_
 obtain ⟨r21,hr21,h⟩:=bd h
 refine CW.lp (s:=(swapL s13.1 s13.2.1 r6 v8 v9,0)) (l2_impl_reduceRows x0 s13 r12 v13) (fun s16:(List (List Int)) × Int => envL [(0,I x0),(1,L 1 lV s16.1),(5,I s13.2.1),(6,I s13.2.2),(8,I r12.1),(84,I (v13.length:Int)),(85,I s16.2)]) (fun (r21:(List (List Int))) e E => e = .exit 4 ∧ Ghost ⟨St,W,w0,Tryz.f104.ntmps⟩ E (envL [(0,I x0),(1,L 1 lV r21),(5,I s13.2.1),(6,I s13.2.2)])) (.has ⟨rfl,rfl,rfl,rfl,rfl,rfl,rfl,trivial⟩) (fun s16 x h => ?_) hr21 (fun e E hq => ?_)
 refine sR ?_
 refine a_lss ?_
 refine rN ?_
 refine CW.seq ?_
 refine cn h (fun hc h => ?_) (fun hc h => ?_)
 refine CW.skip ?_
 refine nA ?_
 refine CW.seq ?_
 refine CW.block ?_
 refine sR ?_
 refine a_mv ?_
 refine a_as ?_
 refine rN ?_
 obtain ⟨v14,hv14,h⟩:=bd h
 obtain ⟨v15,hv15,h⟩:=bd h
 obtain ⟨v16,hv16,h⟩:=bd h
 obtain ⟨v17,hv17,h⟩:=bd h
 obtain ⟨v18,hv18,h⟩:=bd h
 obtain ⟨v19,hv19,h⟩:=bd h
 refine CW.dk ?_
 refine d_mv [(1,_)] ?_
 refine d_mv [(5,_)] ?_
 refine dG [(88,_),(1,_),(89,_)] [([(90,some (T.addr 1 [s13.2.1.toNat]))],[(90,0)])] ⟨rfl,rfl,rfl,trivial⟩ (fun E h => IxOk.opE (x_ix (f:=lV) row_23 hv14 (locA h.1 h.2.1 rfl rfl) h.2.2.1 rfl) rfl) ?_
 refine dG [(90,_),(1,_)] [([(91,some (T.same 1 [s13.2.1.toNat]))],[(91,0)])] ⟨rfl,rfl,trivial⟩ (fun E h => IxOk.opE (x_ld (var_22.h _ rfl rfl) h.1 h.2.1 (getc hv14 rfl) rfl) rfl) ?_
 refine d_mv [(10,_)] ?_
 refine d_mv [(1,_)] ?_
 refine d_mv [(5,_)] ?_
 refine dG [(93,_),(1,_),(94,_)] [([(95,some (T.addr 1 [s13.2.1.toNat]))],[(95,0)])] ⟨rfl,rfl,rfl,trivial⟩ (fun E h => IxOk.opE (x_ix (f:=lV) row_23 hv15 (locA h.1 h.2.1 rfl rfl) h.2.2.1 rfl) rfl) ?_
 refine dG [(95,_),(1,_)] [([(96,some (T.same 1 [s13.2.1.toNat]))],[(96,0)])] ⟨rfl,rfl,trivial⟩ (fun E h => IxOk.opE (x_ld (var_22.h _ rfl rfl) h.1 h.2.1 (getc hv15 rfl) rfl) rfl) ?_
 refine d_mv [(10,_)] ?_
 refine dG [(96,_),(1,_),(97,_)] [([(98,some (T.addr 1 [s16.2.toNat,s13.2.1.toNat]))],[(98,0)])] ⟨rfl,rfl,rfl,trivial⟩ (fun E h => IxOk.opE (x_ix (f:=I) row_22 hv16 (locA h.1 h.2.1 (getc hv15 rfl) rfl) h.2.2.1 rfl) rfl) ?_
 refine dG [(98,_),(1,_)] [([(99,some (I v16))],[(99,0)])] ⟨rfl,rfl,trivial⟩ (fun E h => IxOk.opE (x_ld (var_2.h _ rfl rfl) h.1 h.2.1 (getc hv15 (getc hv16 rfl)) rfl) rfl) ?_
 refine d_mv [(8,_)] ?_
 refine d_mul [(99,_),(100,_)] ?_
 refine d_mv [(0,_)] ?_
 refine d_rem [(101,_),(102,_)] ?_
 refine dG [(91,_),(1,_),(92,_)] [([(104,some (T.addr 1 [s16.2.toNat,s13.2.1.toNat]))],[(104,0)])] ⟨rfl,rfl,rfl,trivial⟩ (fun E h => IxOk.opE (x_ix (f:=I) row_22 hv19 (locA h.1 h.2.1 (getc hv14 rfl) rfl) h.2.2.1 rfl) rfl) ?_
 refine dG [(104,_),(1,_),(103,_)] [([(1,some (L 1 lV (s16.1.set s13.2.1.toNat (v14.set s16.2.toNat v18))))],[(1,2)])] ⟨rfl,rfl,rfl,trivial⟩ (fun E h => IxOk.opE (x_st inf_2 rfl h.1 h.2.1 (getc hv14 (getc hv19 rfl)) (setc hv14 (setc hv19 rfl)) h.2.2.1 (clean_of (Enc.clean (f:=I) _)) rfl) rfl) ?_
 refine dNA mixedP ?_
 refine nB ?_
 refine nA ?_
 refine CW.region ?_
 obtain ⟨v20,hv20,h⟩:=bd h
 refine a_add ?_
 refine a_mv ?_
 refine RW.nil ?_
 exact eN h
 refine CW.exit ?_
 refine xA ?_
 exact eX h
 obtain ⟨rfl,hg⟩:=hq
 refine xB ?_
 refine nA ?_
 refine CW.ghost hg ?_
 refine CW.seq ?_
 refine sR ?_
 refine a_mv ?_
 refine a_len ?_
 refine a_mv ?_
 refine rN ?_
 refine CW.block ?_
 obtain ⟨r30,hr30,h⟩:=bd h
 refine CW.lp (s:=(r21,0)) (l3_impl_reduceRows x0 s13 r21) (fun s18:(List (List Int)) × Int => envL [(0,I x0),(1,L 1 lV s18.1),(5,I s13.2.1),(6,I s13.2.2),(107,I (r21.length:Int)),(108,I s18.2)]) (fun (r30:(List (List Int))) e E => e = .exit 6 ∧ Ghost ⟨St,W,w0,Tryz.f104.ntmps⟩ E (envL [(0,I x0),(1,L 1 lV r30),(5,I s13.2.1),(6,I s13.2.2)])) (.has ⟨rfl,rfl,rfl,rfl,rfl,rfl,trivial⟩) (fun s18 x h => ?_) hr30 (fun e E hq => ?_)
 refine sR ?_
 refine a_lss ?_
 refine rN ?_
 refine CW.seq ?_
 refine cn h (fun hc h => ?_) (fun hc h => ?_)
 refine CW.skip ?_
 refine nA ?_
 refine CW.seq ?_
 refine CW.block ?_
 refine sR ?_
 refine a_mv ?_
 refine a_as ?_
 refine rN ?_
 refine sR ?_
 refine a_mv ?_
 refine a_mv ?_
 refine a_neq ?_
 refine rN ?_
 refine cn h (fun hc h => ?_) (fun hc h => ?_)
 obtain ⟨v22,hv22,h⟩:=bd h
 obtain ⟨v23,hv23,h⟩:=bd h
 obtain ⟨v24,hv24,h⟩:=bd h
 obtain ⟨v25,hv25,h⟩:=bd h
 obtain ⟨v26,hv26,h⟩:=bd h
 obtain ⟨r27,hr27,h⟩:=bd h
 refine CW.dk ?_
 refine d_mv [(1,_)] ?_
 refine d_mv [(11,_)] ?_
 refine dG [(114,_),(1,_),(115,_)] [([(116,some (T.addr 1 [s18.2.toNat]))],[(116,0)])] ⟨rfl,rfl,rfl,trivial⟩ (fun E h => IxOk.opE (x_ix (f:=lV) row_23 hv22 (locA h.1 h.2.1 rfl rfl) h.2.2.1 rfl) rfl) ?_
 refine dG [(116,_),(1,_)] [([(117,some (T.same 1 [s18.2.toNat]))],[(117,0)])] ⟨rfl,rfl,trivial⟩ (fun E h => IxOk.opE (x_ld (var_22.h _ rfl rfl) h.1 h.2.1 (getc hv22 rfl) rfl) rfl) ?_
 refine d_mv [(1,_)] ?_
 refine d_mv [(5,_)] ?_
 refine dG [(118,_),(1,_),(119,_)] [([(120,some (T.addr 1 [s13.2.1.toNat]))],[(120,0)])] ⟨rfl,rfl,rfl,trivial⟩ (fun E h => IxOk.opE (x_ix (f:=lV) row_23 hv23 (locA h.1 h.2.1 rfl rfl) h.2.2.1 rfl) rfl) ?_
 refine dG [(120,_),(1,_)] [([(121,some (T.same 1 [s13.2.1.toNat]))],[(121,0)])] ⟨rfl,rfl,trivial⟩ (fun E h => IxOk.opE (x_ld (var_22.h _ rfl rfl) h.1 h.2.1 (getc hv23 rfl) rfl) rfl) ?_
 refine d_mv [(1,_)] ?_
 refine d_mv [(11,_)] ?_
 refine dG [(122,_),(1,_),(123,_)] [([(124,some (T.addr 1 [s18.2.toNat]))],[(124,0)])] ⟨rfl,rfl,rfl,trivial⟩ (fun E h => IxOk.opE (x_ix (f:=lV) row_23 hv24 (locA h.1 h.2.1 rfl rfl) h.2.2.1 rfl) rfl) ?_
 refine dG [(124,_),(1,_)] [([(125,some (T.same 1 [s18.2.toNat]))],[(125,0)])] ⟨rfl,rfl,trivial⟩ (fun E h => IxOk.opE (x_ld (var_22.h _ rfl rfl) h.1 h.2.1 (getc hv24 rfl) rfl) rfl) ?_
 refine d_mv [(6,_)] ?_
 refine dG [(125,_),(1,_),(126,_)] [([(127,some (T.addr 1 [s13.2.2.toNat,s18.2.toNat]))],[(127,0)])] ⟨rfl,rfl,rfl,trivial⟩ (fun E h => IxOk.opE (x_ix (f:=I) row_22 hv25 (locA h.1 h.2.1 (getc hv24 rfl) rfl) h.2.2.1 rfl) rfl) ?_
 refine dG [(127,_),(1,_)] [([(128,some (I v25))],[(128,0)])] ⟨rfl,rfl,trivial⟩ (fun E h => IxOk.opE (x_ld (var_2.h _ rfl rfl) h.1 h.2.1 (getc hv24 (getc hv25 rfl)) rfl) rfl) ?_
 refine d_neg [(128,_)] ?_
 refine d_mv [(0,_)] ?_
 refine dG [(117,_),(1,_),(121,_),(129,_),(130,_)] [([(117,some (L 1 I v22)),(1,some ((L 1 lV s18.1).set [s18.2.toNat] T.any))],[(117,1),(1,2)]),([(131,some (T.tup [])),(117,some (L 1 I r27))],[(131,0),(117,1)]),([(1,some (L 1 lV (s18.1.set s18.2.toNat r27))),(117,some (T.same 1 [s18.2.toNat]))],[(1,2),(117,1)])] ⟨rfl,rfl,rfl,rfl,rfl,trivial⟩ (fun E h => IxOk.opE (x_callM (xs:=[.tmp 117,.tmp 121,.tmp 129,.tmp 130]) 0 117 1 [s18.2.toNat] Tryz.call91 (t_impl_addMultiple _ _ _ _ _ hr27) h.1 h.2.1 (getc hv22 rfl) (clean_of (cleanL (Enc.clean (f:=I)))) (clean_of (cleanL (Enc.clean (f:=I)))) (Enc.rofree (f:=L 1 I) _) (Enc.rofree (f:=L 1 I) _) ⟨(agLd rfl (clean_of (cleanL (Enc.clean (f:=I)))) (Enc.rofree (f:=L 1 I) _)),⟨(agM _ (keepL h.2.2.1) (cloS rfl (getHole hv22 hv23 (by assumption)) inferInstance) (argClS rfl (getHole hv22 hv23 (by assumption)) rfl rfl)),⟨(agM _ (keepL h.2.2.2.1) rfl rfl),⟨(agM _ (keepL h.2.2.2.2.1) rfl rfl),trivial⟩⟩⟩⟩ resN (setc hv22 rfl) rfl rfl rfl) rfl) ?_
 refine dNA mixedP ?_
 refine nB ?_
 refine nA ?_
 refine CW.to [(0,I x0),(1,L 1 lV (s18.1.set s18.2.toNat r27)),(5,I s13.2.1),(6,I s13.2.2),(107,I (r21.length:Int)),(108,I s18.2)] ⟨rfl,rfl,rfl,rfl,rfl,rfl,trivial⟩ ?_
 refine CW.region ?_
 obtain ⟨v28,hv28,h⟩:=bd h
 refine a_add ?_
 refine a_mv ?_
 refine RW.nil ?_
 exact eN h
 refine CW.skip ?_
 refine nB ?_
 refine nA ?_
 refine CW.region ?_
 obtain ⟨v29,hv29,h⟩:=bd h
 refine a_add ?_
 refine a_mv ?_
 refine RW.nil ?_
 exact eN h
 refine CW.exit ?_
 refine xA ?_
 exact eX h
 obtain ⟨rfl,hg⟩:=hq
 refine xB ?_
 refine nA ?_
 refine CW.ghost hg ?_
 refine CW.region ?_
 refine a_mv ?_
 obtain ⟨v31,hv31,h⟩:=bd h
 refine oP (x_add hv31 rfl rfl rfl) ?_
 refine a_as ?_
 refine RW.nil ?_
 refine nB ?_
 refine nA ?_
 refine CW.region ?_
 refine a_mv ?_
 obtain ⟨v32,hv32,h⟩:=bd h
 refine oP (x_add hv32 rfl rfl rfl) ?_
 refine a_as ?_
 refine RW.nil ?_
 exact eN h
 refine CW.exit ?_
 refine xA ?_
 exact eX h
 have h:=cF hc h
 refine sk2 ?_
 refine sk2 ?_
 refine sk2 ?_
 refine sk2 ?_
 refine a_pick ?_
 refine rN ?_
 refine CW.condF rfl ?_
 refine CW.exit ?_
 refine xA ?_
 exact eX h
 have h:=cF hc h
 refine sk2 ?_
 refine sk2 ?_
 refine sk2 ?_
 refine sk2 ?_
 refine sk2 ?_
 refine sk2 ?_
 refine a_pick ?_
 refine a_mv ?_
 refine sk2 ?_
 refine sk2 ?_
 refine sk2 ?_
 refine sk2 ?_
 refine a_pick ?_
 refine rN ?_
 refine CW.condF rfl ?_
 refine CW.exit ?_
 refine xA ?_
 exact eX h
 obtain ⟨rfl,hg⟩:=hq
 refine xB ?_
 refine nA ?_
 refine CW.ghost hg ?_
 refine sR ?_
 refine a_mv ?_
 refine a_mv ?_
 refine a_mv ?_
 refine RW.ghost (Ghost.tr 135 1 _ rfl rfl (clean_of (cleanL (Enc.clean (f:=lV)))) rfl) ?_
 obtain ⟨v34,hv34,h⟩:=bd h
 refine oP (x_cut (f:=lV) elt_23 hv34 rfl rfl (.inr ⟨_,rfl,rfl⟩) rfl) ?_
 refine a_as ?_
 refine RW.ghost (Ghost.tr 4 138 _ rfl rfl (clean_of (cleanL (Enc.clean (f:=lV)))) rfl) ?_
 refine rN ?_
 refine CW.ret ?_
 obtain rfl:=sI h
 exact rT
theorem t_impl_spanOf (x0:Int) (x1:Int) (x2:List (List Int)) (r:SMatrix) (h:f_impl_spanOf x0 x1 x2 = some r):FnC Tryz.prog 65 [I x0,I x1,T.ro (lM x2)] [eSMatrix r] []:=by
 refine fB Tryz.func65 (fun St W w0 v => ?_)
 refine sR ?_
 refine a_alloc ?_
 refine rN ?_
 refine sR ?_
 refine a_mv ?_
 refine a_mv ?_
 refine a_mv ?_
 refine a_mv ?_
 obtain ⟨r1,hr1,h⟩:=bd h
 refine cA Tryz.call104 (t_impl_reduceRows _ _ _ hr1) ?_
 refine oP (x_build bld_40 [(0,.tmp 7),(1,.tmp 8),(2,.tmp 11)] [(0,.slot 7 (I x0)),(1,.slot 8 (I x1)),(2,.slot 11 (L 1 lV r1))] [.slot 7 (I x0),.slot 8 (I x1),.slot 11 (L 1 lV r1)] (pkS rfl (clean_of (Enc.clean (f:=I) _)) rfl (pkS rfl (clean_of (Enc.clean (f:=I) _)) rfl (pkS rfl (clean_of (cleanL (Enc.clean (f:=lV)))) rfl pkN))) (bqC (.slot _ _) (bqC (.slot _ _) (bqC (.slot _ _) bqN))) rfl) ?_
 refine oP (x_stp inf_40 rfl (locB rfl rfl) rfl rfl rfl rfl (clean_of (cleanA ⟨(Enc.clean (f:=I) _),(Enc.clean (f:=I) _),(cleanL (Enc.clean (f:=lV))),trivial⟩)) rfl) ?_
 refine rN ?_
 refine CW.ret ?_
 obtain rfl:=sI h
 exact ⟨_,Ghost.refl,⟨.inl rfl,[(6,[0],T.agg [I x0,I x1,L 1 lV r1])],⟨⟨rfl,rfl,rfl,(var_40.h _ rfl rfl).h⟩,trivial⟩,rfl,(by simp),(by simp),trivial⟩⟩
theorem t_impl_reduced (x0:SMatrix) (r:SMatrix) (h:f_impl_reduced x0 = some r):FnC Tryz.prog 131 [qMatrix x0] [eSMatrix r] []:=by
 refine fB Tryz.func131 (fun St W w0 v => ?_)
 refine sR ?_
 refine a_box ?_
 refine a_alloc ?_
 refine rN ?_
 refine sR ?_
 refine a_fa ?_
 refine a_ld ?_
 refine a_fa ?_
 refine a_ld ?_
 refine a_fa ?_
 refine a_ld ?_
 obtain ⟨r1,hr1,h⟩:=bd h
 refine cA Tryz.call65 (t_impl_spanOf _ _ _ _ hr1) ?_
 refine oP (x_stp inf_40 rfl (locB rfl rfl) rfl rfl rfl rfl (clean_of (cleanA ⟨(Enc.clean (f:=I) _),(Enc.clean (f:=I) _),(cleanL (Enc.clean (f:=lV))),trivial⟩)) rfl) ?_
 refine rN ?_
 refine CW.ret ?_
 obtain rfl:=sI h
 exact ⟨_,Ghost.refl,⟨.inl rfl,[(2,[0],eSMatrix r1)],⟨⟨rfl,rfl,rfl,(var_40.h _ rfl rfl).h⟩,trivial⟩,rfl,(by simp),(by simp),trivial⟩⟩
theorem t_impl_IsSubspace (x0:SMatrix) (r:Bool) (h:f_impl_IsSubspace x0 = some r):FnC Tryz.prog 85 [qMatrix x0] [B r] []:=by
 refine fB Tryz.func85 (fun St W w0 v => ?_)
 refine sR ?_
 refine a_box ?_
 refine a_as ?_
 refine rN ?_
 refine CW.seq ?_
 obtain ⟨r1,hr1,h⟩:=bd h
 refine CW.casesB r1 (fun hc0 => ?_) (fun hc0 => ?_)
 have h:=cT hc0 h
 obtain ⟨r2,hr2,h⟩:=bd h
 obtain ⟨r3,hr3,h⟩:=bd h
 refine CW.dk ?_
 refine d_ldp [(1,_)] ?_
 refine dG [(3,_)] [([(4,some (B true))],[(4,0)])] ⟨rfl,trivial⟩ (fun E h => IxOk.opE (okB_eq hc0 (x_call (xs:=[.tmp 3]) Tryz.call81 (t_impl_IsMatrix _ _ hr1) ⟨(agC _ h.1 rfl rfl),trivial⟩ (resC (f:=B) inferInstance resN) rfl)) rfl) ?_
 refine d_mv [(4,_)] ?_
 refine e_ldp [(1,_),(5,_)] ?_
 refine dG [(6,_),(5,_)] [([(7,some (eSMatrix r2))],[(7,0)])] ⟨rfl,rfl,trivial⟩ (fun E h => IxOk.guardE 2 true 5 (x_call (xs:=[.tmp 6]) Tryz.call131 (t_impl_reduced _ _ hr2) ⟨(agC _ h.1 rfl rfl),trivial⟩ (resC (f:=eSMatrix) inferInstance resN) rfl) rfl rfl h.2.1 rfl) ?_
 refine dG [(7,_),(5,_)] [([(8,some (T.same 7 [2]))],[(8,0)])] ⟨rfl,rfl,trivial⟩ (fun E h => IxOk.guardE 2 true 5 (x_fld fld_40_2 (fldv_40_2 rfl rfl) h.1 rfl rfl rfl) rfl rfl h.2.1 rfl) ?_
 refine e_fa [(1,_),(5,_)] ?_
 refine e_ld [(9,_),(1,_),(5,_)] ?_
 refine dG [(8,_),(7,_),(10,_),(5,_)] [([(11,some (B r3))],[(11,0)])] ⟨rfl,rfl,rfl,rfl,trivial⟩ (fun E h => IxOk.guardE 2 true 5 (x_call (xs:=[.tmp 8,.tmp 10]) Tryz.call83 (t_impl_sameRows _ _ _ hr3) ⟨(agC _ h.1 (cloS h.2.1 rfl inferInstance) rfl),⟨(agC _ h.2.2.1 rfl rfl),trivial⟩⟩ (resC (f:=B) inferInstance resN) rfl) rfl rfl h.2.2.2.1 rfl) ?_
 refine d_pick [(5,_),(11,_)] ?_
 refine d_as [(12,_)] ?_
 refine dNA mixedP ?_
 refine nA ?_
 refine CW.ret ?_
 obtain rfl:=sI h
 exact rT
 have h:=cF hc0 h
 refine CW.dk ?_
 refine d_ldp [(1,_)] ?_
 refine dG [(3,_)] [([(4,some (B false))],[(4,0)])] ⟨rfl,trivial⟩ (fun E h => IxOk.opE (okB_eq hc0 (x_call (xs:=[.tmp 3]) Tryz.call81 (t_impl_IsMatrix _ _ hr1) ⟨(agC _ h.1 rfl rfl),trivial⟩ (resC (f:=B) inferInstance resN) rfl)) rfl) ?_
 refine d_mv [(4,_)] ?_
 refine dsk2 ?_
 refine dsk2 ?_
 refine dsk2 ?_
 refine dsk2 ?_
 refine dsk2 ?_
 refine dsk2 ?_
 refine d_pick [(5,_)] ?_
 refine d_as [(12,_)] ?_
 refine dNA mixedP ?_
 refine nA ?_
 refine CW.ret ?_
 obtain rfl:=sI h
 exact rT
theorem t_impl_fitsModule (x0:SModule) (x1:SMatrix) (r:Bool) (h:f_impl_fitsModule x0 x1 = some r):FnC Tryz.prog 47 [T.ro ((Pt eSModule) x0),qMatrix x1] [B r] []:=by
 refine fB Tryz.func47 (fun St W w0 v => ?_)
 refine sR ?_
 refine a_box ?_
 refine a_as ?_
 refine rN ?_
 refine CW.seq ?_
 obtain ⟨r1,hr1,h⟩:=bd h
 refine CW.casesB r1 (fun hc0 => ?_) (fun hc0 => ?_)
 have h:=cT hc0 h
 refine CW.casesB (x1.Prime == x0.Prime) (fun hc1 => ?_) (fun hc1 => ?_)
 have h:=cT hc1 h
 refine CW.dk ?_
 refine d_ldp [(3,_)] ?_
 refine dG [(5,_)] [([(6,some (B true))],[(6,0)])] ⟨rfl,trivial⟩ (fun E h => IxOk.opE (okB_eq hc0 (x_call (xs:=[.tmp 5]) Tryz.call85 (t_impl_IsSubspace _ _ hr1) ⟨(agC _ h.1 rfl rfl),trivial⟩ (resC (f:=B) inferInstance resN) rfl)) rfl) ?_
 refine d_mv [(6,_)] ?_
 refine e_fa [(3,_),(7,_)] ?_
 refine e_ld [(8,_),(3,_),(7,_)] ?_
 refine e_mv [(0,_),(7,_)] ?_
 refine e_nilc [(10,_),(7,_)] ?_
 refine e_far [(11,_),(7,_)] ?_
 refine e_ldr [(12,_),(7,_)] ?_
 refine dG [(9,_),(13,_),(7,_)] [([(14,some (B true))],[(14,0)])] ⟨rfl,rfl,rfl,trivial⟩ (fun E h => IxOk.guardE 2 true 7 (okB_eq hc1 (x_eql h.1 h.2.1 rfl)) rfl rfl h.2.2.1 rfl) ?_
 refine d_pick [(7,_),(14,_)] ?_
 refine d_mv [(15,_)] ?_
 refine e_fa [(3,_),(16,_)] ?_
 refine e_ld [(17,_),(3,_),(16,_)] ?_
 refine e_mv [(0,_),(16,_)] ?_
 refine e_nilc [(19,_),(16,_)] ?_
 refine e_far [(20,_),(16,_)] ?_
 refine e_ldr [(21,_),(16,_)] ?_
 refine e_eql [(18,_),(22,_),(16,_)] ?_
 refine d_pick [(16,_),(23,_)] ?_
 refine d_as [(24,_)] ?_
 refine dNA mixedP ?_
 refine nA ?_
 refine CW.ret ?_
 obtain rfl:=sI h
 exact rT
 have h:=cF hc1 h
 refine CW.dk ?_
 refine d_ldp [(3,_)] ?_
 refine dG [(5,_)] [([(6,some (B true))],[(6,0)])] ⟨rfl,trivial⟩ (fun E h => IxOk.opE (okB_eq hc0 (x_call (xs:=[.tmp 5]) Tryz.call85 (t_impl_IsSubspace _ _ hr1) ⟨(agC _ h.1 rfl rfl),trivial⟩ (resC (f:=B) inferInstance resN) rfl)) rfl) ?_
 refine d_mv [(6,_)] ?_
 refine e_fa [(3,_),(7,_)] ?_
 refine e_ld [(8,_),(3,_),(7,_)] ?_
 refine e_mv [(0,_),(7,_)] ?_
 refine e_nilc [(10,_),(7,_)] ?_
 refine e_far [(11,_),(7,_)] ?_
 refine e_ldr [(12,_),(7,_)] ?_
 refine dG [(9,_),(13,_),(7,_)] [([(14,some (B false))],[(14,0)])] ⟨rfl,rfl,rfl,trivial⟩ (fun E h => IxOk.guardE 2 true 7 (okB_eq hc1 (x_eql h.1 h.2.1 rfl)) rfl rfl h.2.2.1 rfl) ?_
 refine d_pick [(7,_),(14,_)] ?_
 refine d_mv [(15,_)] ?_
 refine dsk2 ?_
 refine dsk2 ?_
 refine dsk2 ?_
 refine dsk2 ?_
 refine dsk2 ?_
 refine dsk2 ?_
 refine dsk2 ?_
 refine d_pick [(16,_)] ?_
 refine d_as [(24,_)] ?_
 refine dNA mixedP ?_
 refine nA ?_
 refine CW.ret ?_
 obtain rfl:=sI h
 exact rT
 have h:=cF hc0 h
 refine CW.dk ?_
 refine d_ldp [(3,_)] ?_
 refine dG [(5,_)] [([(6,some (B false))],[(6,0)])] ⟨rfl,trivial⟩ (fun E h => IxOk.opE (okB_eq hc0 (x_call (xs:=[.tmp 5]) Tryz.call85 (t_impl_IsSubspace _ _ hr1) ⟨(agC _ h.1 rfl rfl),trivial⟩ (resC (f:=B) inferInstance resN) rfl)) rfl) ?_
 refine d_mv [(6,_)] ?_
 refine dsk2 ?_
 refine dsk2 ?_
 refine dsk2 ?_
 refine dsk2 ?_
 refine dsk2 ?_
 refine dsk2 ?_
 refine dsk2 ?_
 refine d_pick [(7,_)] ?_
 refine d_mv [(15,_)] ?_
 refine dsk2 ?_
 refine dsk2 ?_
 refine dsk2 ?_
 refine dsk2 ?_
 refine dsk2 ?_
 refine dsk2 ?_
 refine dsk2 ?_
 refine d_pick [(16,_)] ?_
 refine d_as [(24,_)] ?_
 refine dNA mixedP ?_
 refine nA ?_
 refine CW.ret ?_
 obtain rfl:=sI h
 exact rT
theorem t_impl_pivots_1 (x0:Int) (r:Bool) (h:f_impl_pivots_1 x0 = some r):FnC Tryz.prog 89 [I x0] [B r] []:=by
 refine fB Tryz.func89 (fun St W w0 v => ?_)
 refine sR ?_
 refine a_as ?_
 refine rN ?_
 refine sR ?_
 refine a_mv ?_
 refine a_neq ?_
 refine a_as ?_
 refine rN ?_
 refine CW.ret ?_
 obtain rfl:=sI h
 exact rT
theorem t_slices_IndexFunc_int64_int64 (x0:List Int) (r:Int) (h:f_slices_IndexFunc_int64_int64 x0 = some r):FnC Tryz.prog 88 [T.ro (lV x0),T.lit (.func (.func 89) #[] #[])] [I r] []:=by
 refine fB Tryz.func88 (fun St W w0 v => ?_)
 refine sR ?_
 refine a_as ?_
 refine rN ?_
 refine CW.seq ?_
 refine sR ?_
 refine a_mv ?_
 refine a_lenr ?_
 refine a_mv ?_
 refine rN ?_
 refine CW.block ?_
 obtain ⟨r4,hr4,h⟩:=bd h
 refine CW.lp (s:=0) (l1_slices_IndexFunc_int64_int64 x0) (fun s1:Int => envL [(0,T.ro (lV x0)),(1,T.lit (.func (.func 89) #[] #[])),(7,I (x0.length:Int)),(8,I s1)]) (fun (x:Unit ⊕ Int) e E => match x with | (.inl r4) => e = .exit 0 ∧ Ghost ⟨St,W,w0,Tryz.f88.ntmps⟩ E (envL []) | (.inr r4) => e = .ret ∧ RetG ⟨St,W,w0,Tryz.f88.ntmps⟩ Tryz.prog Tryz.f88.results [T.ro (lV x0),T.lit (.func (.func 89) #[] #[])] [I r4] [] .ret E) (.has ⟨rfl,rfl,rfl,rfl,trivial⟩) (fun s1 x h => ?_) hr4 (fun e E hq => ?_)
 refine sR ?_
 refine a_lss ?_
 refine rN ?_
 refine CW.seq ?_
 refine cn h (fun hc h => ?_) (fun hc h => ?_)
 refine CW.skip ?_
 refine nA ?_
 refine CW.seq ?_
 refine CW.block ?_
 refine sR ?_
 refine a_mv ?_
 refine a_as ?_
 refine rN ?_
 refine sR ?_
 refine a_mv ?_
 refine a_mv ?_
 refine a_mv ?_
 obtain ⟨v1,hv1,h⟩:=bd h
 refine a_ixr ?_
 refine a_ldr ?_
 obtain ⟨r2,hr2,h⟩:=bd h
 refine oP (x_callV (xs:=[.tmp 15]) rfl Tryz.call89 (t_impl_pivots_1 _ _ hr2) ⟨(agC _ rfl rfl rfl),trivial⟩ (resC (f:=B) inferInstance resN) rfl) ?_
 refine rN ?_
 refine cn h (fun hc h => ?_) (fun hc h => ?_)
 refine sR ?_
 refine a_mv ?_
 refine a_as ?_
 refine rN ?_
 refine CW.ret ?_
 refine rB ?_
 refine rA ?_
 exact eX h
 refine CW.skip ?_
 refine nB ?_
 refine nA ?_
 refine CW.region ?_
 obtain ⟨v3,hv3,h⟩:=bd h
 refine a_add ?_
 refine a_mv ?_
 refine RW.nil ?_
 exact eN h
 refine CW.exit ?_
 refine xA ?_
 exact eX h
 rcases r4 with r4 | r4
 obtain ⟨rfl,hg⟩:=hq
 refine xB ?_
 refine nA ?_
 refine CW.ghost hg ?_
 refine sR ?_
 refine a_as ?_
 refine rN ?_
 refine CW.ret ?_
 obtain rfl:=sI h
 exact rT
 obtain ⟨rfl,hq⟩:=hq
 refine rB ?_
 refine rA ?_
 obtain rfl:=sI h
 exact hq
theorem t_impl_pivots (x0:List (List Int)) (r:(List Int)) (h:f_impl_pivots x0 = some r):FnC Tryz.prog 50 [T.ro (lM x0)] [lV r] []:=by
 refine fB Tryz.func50 (fun St W w0 v => ?_)
 refine sR ?_
 refine oP (x_nil 1 rfl) ?_
 refine rN ?_
 refine sR ?_
 refine oP (x_nil 1 rfl) ?_
 refine rN ?_
 refine CW.seq ?_
 refine sR ?_
 refine a_mv ?_
 refine a_lenr ?_
 refine a_mv ?_
 refine rN ?_
 refine CW.block ?_
 obtain ⟨r5,hr5,h⟩:=bd h
 refine CW.lp (s:=([],0)) (l1_impl_pivots x0) (fun s1:(List Int) × Int => envL [(3,L 1 I s1.1),(6,T.ro (lM x0)),(7,I (x0.length:Int)),(8,I s1.2)]) (fun (r5:(List Int)) e E => e = .exit 0 ∧ Ghost ⟨St,W,w0,Tryz.f50.ntmps⟩ E (envL [(3,L 1 I r5)])) (.has ⟨rfl,rfl,rfl,rfl,trivial⟩) (fun s1 x h => ?_) hr5 (fun e E hq => ?_)
 refine sR ?_
 refine a_lss ?_
 refine rN ?_
 refine CW.seq ?_
 refine cn h (fun hc h => ?_) (fun hc h => ?_)
 refine CW.skip ?_
 refine nA ?_
 refine CW.seq ?_
 refine CW.block ?_
 refine sR ?_
 obtain ⟨v1,hv1,h⟩:=bd h
 refine a_ixr ?_
 refine a_ldr ?_
 refine a_as ?_
 refine rN ?_
 refine CW.region ?_
 refine a_mv ?_
 refine a_mv ?_
 obtain ⟨r2,hr2,h⟩:=bd h
 refine cA Tryz.call88 (t_slices_IndexFunc_int64_int64 _ _ hr2) ?_
 refine oP (x_bs elt_72 [.tmp 14] [.slot 14 (I r2)] [r2] I ⟨.slot _ _,trivial⟩ (pkS rfl (clean_of (Enc.clean (f:=I) _)) rfl pkN) rfl rfl) ?_
 refine RW.ghost (Ghost.tr 12 3 _ rfl rfl (clean_of (cleanL (Enc.clean (f:=I)))) rfl) ?_
 obtain ⟨v3,hv3,h⟩:=bd h
 refine oP (x_appc (f:=I) elt_72 (fun _ => rfl) hv3 rfl (locB rfl rfl) rfl) ?_
 refine a_as ?_
 refine RW.ghost (Ghost.tr 3 16 _ rfl rfl (clean_of (cleanL (Enc.clean (f:=I)))) rfl) ?_
 refine RW.nil ?_
 refine nB ?_
 refine nA ?_
 refine CW.region ?_
 obtain ⟨v4,hv4,h⟩:=bd h
 refine a_add ?_
 refine a_mv ?_
 refine RW.nil ?_
 exact eN h
 refine CW.exit ?_
 refine xA ?_
 exact eX h
 obtain ⟨rfl,hg⟩:=hq
 refine xB ?_
 refine nA ?_
 refine CW.ghost hg ?_
 refine sR ?_
 refine a_mv ?_
 refine a_as ?_
 refine RW.ghost (Ghost.tr 2 3 _ rfl rfl (clean_of (cleanL (Enc.clean (f:=I)))) rfl) ?_
 refine rN ?_
 refine CW.ret ?_
 obtain rfl:=sI h
 exact rT
theorem t_impl_remainderMod (x0:SMatrix) (x1:List Int) (r:(List Int)) (h:f_impl_remainderMod x0 x1 = some r):FnC Tryz.prog 51 [qMatrix x0,T.ro (lV x1)] [lV r] []:=by
 refine fB Tryz.func51 (fun St W w0 v => ?_)
 refine sR ?_
 refine a_box ?_
 refine oP (x_nil 1 rfl) ?_
 refine rN ?_
 refine sR ?_
 refine a_mv ?_
 obtain ⟨r1,hr1,h⟩:=bd h
 refine cA Tryz.call90 (t_slices_Clone_int64_int64 _ _ hr1) ?_
 refine a_as ?_
 refine RW.ghost (Ghost.tr 5 9 _ rfl rfl (clean_of (cleanL (Enc.clean (f:=I)))) rfl) ?_
 refine rN ?_
 refine CW.seq ?_
 refine sR ?_
 refine a_fa ?_
 refine a_ld ?_
 obtain ⟨r2,hr2,h⟩:=bd h
 refine cA Tryz.call50 (t_impl_pivots _ _ hr2) ?_
 refine a_len ?_
 refine a_mv ?_
 refine rN ?_
 refine CW.block ?_
 obtain ⟨r9,hr9,h⟩:=bd h
 refine CW.lp (s:=(r1,0)) (l1_impl_remainderMod x0 r2) (fun s1:(List Int) × Int => envL [(2,T.ptr (qMatrix x0)),(5,L 1 I s1.1),(12,L 1 I r2),(13,I (r2.length:Int)),(14,I s1.2)]) (fun (r9:(List Int)) e E => e = .exit 0 ∧ Ghost ⟨St,W,w0,Tryz.f51.ntmps⟩ E (envL [(5,L 1 I r9)])) (.has ⟨rfl,rfl,rfl,rfl,rfl,trivial⟩) (fun s1 x h => ?_) hr9 (fun e E hq => ?_)
 refine sR ?_
 refine a_lss ?_
 refine rN ?_
 refine CW.seq ?_
 refine cn h (fun hc h => ?_) (fun hc h => ?_)
 refine CW.skip ?_
 refine nA ?_
 refine CW.seq ?_
 refine CW.block ?_
 refine sR ?_
 refine a_mv ?_
 obtain ⟨v3,hv3,h⟩:=bd h
 refine a_ix ?_
 refine a_ld ?_
 refine a_as ?_
 refine a_as ?_
 refine rN ?_
 obtain ⟨v4,hv4,h⟩:=bd h
 obtain ⟨v5,hv5,h⟩:=bd h
 obtain ⟨v6,hv6,h⟩:=bd h
 obtain ⟨r7,hr7,h⟩:=bd h
 refine CW.dk ?_
 refine d_mv [(5,_)] ?_
 refine d_fa [(2,_)] ?_
 refine d_ld [(20,_),(2,_)] ?_
 refine d_mv [(6,_)] ?_
 refine d_ixr [(21,_),(22,_)] ?_
 refine d_ldr [(23,_)] ?_
 refine d_mv [(5,_)] ?_
 refine d_mv [(7,_)] ?_
 refine d_ix [(25,_),(5,_),(26,_)] ?_
 refine d_ld [(27,_),(5,_)] ?_
 refine d_neg [(28,_)] ?_
 refine d_fa [(2,_)] ?_
 refine d_ld [(30,_),(2,_)] ?_
 refine dG [(19,_),(5,_),(24,_),(29,_),(31,_)] [([(19,some (L 1 I s1.1)),(5,some (T.same 19 []))],[(19,1),(5,1)]),([(32,some (T.tup [])),(19,some (L 1 I r7))],[(32,0),(19,1)]),([(5,some (L 1 I r7)),(19,some (T.same 5 []))],[(5,1),(19,1)])] ⟨rfl,rfl,rfl,rfl,rfl,trivial⟩ (fun E h => IxOk.opE (x_callM (xs:=[.tmp 19,.tmp 24,.tmp 29,.tmp 31]) 0 19 5 [] Tryz.call91 (t_impl_addMultiple _ _ _ _ _ hr7) h.1 h.2.1 rfl (clean_of (cleanL (Enc.clean (f:=I)))) (clean_of (cleanL (Enc.clean (f:=I)))) (Enc.rofree (f:=L 1 I) _) (Enc.rofree (f:=L 1 I) _) ⟨(agLd rfl (clean_of (cleanL (Enc.clean (f:=I)))) (Enc.rofree (f:=L 1 I) _)),⟨(agM _ (keepL h.2.2.1) rfl rfl),⟨(agM _ (keepL h.2.2.2.1) rfl rfl),⟨(agM _ (keepL h.2.2.2.2.1) rfl rfl),trivial⟩⟩⟩⟩ resN rfl rfl rfl rfl) rfl) ?_
 refine dNA mixedP ?_
 refine nB ?_
 refine nA ?_
 refine CW.region ?_
 obtain ⟨v8,hv8,h⟩:=bd h
 refine a_add ?_
 refine a_mv ?_
 refine RW.nil ?_
 exact eN h
 refine CW.exit ?_
 refine xA ?_
 exact eX h
 obtain ⟨rfl,hg⟩:=hq
 refine xB ?_
 refine nA ?_
 refine CW.ghost hg ?_
 refine sR ?_
 refine a_mv ?_
 refine a_as ?_
 refine RW.ghost (Ghost.tr 4 5 _ rfl rfl (clean_of (cleanL (Enc.clean (f:=I)))) rfl) ?_
 refine rN ?_
 refine CW.ret ?_
 obtain rfl:=sI h
 exact rT
theorem t_impl_isSubmodule (x0:SModule) (x1:SMatrix) (r:Bool) (h:f_impl_isSubmodule x0 x1 = some r):FnC Tryz.prog 48 [T.ro ((Pt eSModule) x0),qMatrix x1] [B r] []:=by
 refine fB Tryz.func48 (fun St W w0 v => ?_)
 refine sR ?_
 refine a_box ?_
 refine a_as ?_
 refine rN ?_
 refine CW.seq ?_
 refine sR ?_
 refine a_mv ?_
 refine a_nilc ?_
 refine a_far ?_
 refine a_ldr ?_
 refine a_lenr ?_
 refine a_mv ?_
 refine rN ?_
 refine CW.block ?_
 obtain ⟨r9,hr9,h⟩:=bd h
 refine CW.lp (s:=0) (l2_impl_isSubmodule x0 x1) (fun s5:Int => envL [(0,T.ro ((Pt eSModule) x0)),(3,T.ptr (qMatrix x1)),(12,I (x0.Actions.length:Int)),(13,I s5)]) (fun (x:Unit ⊕ Bool) e E => match x with | (.inl r9) => e = .exit 0 ∧ Ghost ⟨St,W,w0,Tryz.f48.ntmps⟩ E (envL []) | (.inr r9) => e = .ret ∧ RetG ⟨St,W,w0,Tryz.f48.ntmps⟩ Tryz.prog Tryz.f48.results [T.ro ((Pt eSModule) x0),qMatrix x1] [B r9] [] .ret E) (.has ⟨rfl,rfl,rfl,rfl,trivial⟩) (fun s5 x h => ?_) hr9 (fun e E hq => ?_)
 refine sR ?_
 refine a_lss ?_
 refine rN ?_
 refine CW.seq ?_
 refine cn h (fun hc h => ?_) (fun hc h => ?_)
 refine CW.skip ?_
 refine nA ?_
 refine CW.seq ?_
 refine CW.block ?_
 refine sR ?_
 refine a_mv ?_
 refine a_as ?_
 refine rN ?_
 refine CW.seq ?_
 obtain ⟨r1,hr1,h⟩:=bd h
 obtain ⟨r2,hr2,h⟩:=bd h
 refine CW.dk ?_
 refine d_ldp [(3,_)] ?_
 refine d_mv [(0,_)] ?_
 refine d_mv [(5,_)] ?_
 refine dG [(17,_),(18,_)] [([(19,some (qMatrix r1))],[(19,0)])] ⟨rfl,rfl,trivial⟩ (fun E h => IxOk.opE (x_callF (xs:=[.tmp 17,.tmp 18]) Tryz.call58 (t_impl_actionAt _ _ _ hr1) (afC h.1 rfl (afC h.2.1 rfl afN)) rfl ⟨(cleanA ⟨(Enc.clean (f:=I) _),(Enc.clean (f:=I) _),trivial,trivial⟩),trivial⟩ rfl rfl) rfl) ?_
 refine dC [(16,_),(19,_)] Tryz.call57 (t_impl_product _ _ _ hr2) ?_
 refine dG [(20,_)] [([(21,some (T.same 20 [2]))],[(21,0)])] ⟨rfl,trivial⟩ (fun E h => IxOk.opE (x_fld fld_40_2 (fldv_40_2 rfl rfl) h.1 rfl rfl rfl) rfl) ?_
 refine d_len [(21,_),(20,_)] ?_
 refine d_mv [] ?_
 refine dNA mixedP ?_
 refine nA ?_
 refine CW.block ?_
 obtain ⟨r7,hr7,h⟩:=bd h
 refine CW.lp (s:=0) (l1_impl_isSubmodule x1 r2) (fun s6:Int => envL [(0,T.ro ((Pt eSModule) x0)),(3,T.ptr (qMatrix x1)),(12,I (x0.Actions.length:Int)),(13,I s5),(20,eSMatrix r2),(21,T.same 20 [2]),(22,I (r2.Rows.length:Int)),(23,I s6)]) (fun (x:Unit ⊕ Bool) e E => match x with | (.inl r7) => e = .exit 2 ∧ Ghost ⟨St,W,w0,Tryz.f48.ntmps⟩ E (envL [(0,T.ro ((Pt eSModule) x0)),(3,T.ptr (qMatrix x1)),(12,I (x0.Actions.length:Int)),(13,I s5)]) | (.inr r7) => e = .ret ∧ RetG ⟨St,W,w0,Tryz.f48.ntmps⟩ Tryz.prog Tryz.f48.results [T.ro ((Pt eSModule) x0),qMatrix x1] [B r7] [] .ret E) (.has ⟨rfl,rfl,rfl,rfl,rfl,rfl,rfl,rfl,trivial⟩) (fun s6 x h => ?_) hr7 (fun e E hq => ?_)
 refine sR ?_
 refine a_lss ?_
 refine rN ?_
 refine CW.seq ?_
 refine cn h (fun hc h => ?_) (fun hc h => ?_)
 refine CW.skip ?_
 refine nA ?_
 refine CW.seq ?_
 refine CW.block ?_
 refine sR ?_
 obtain ⟨v3,hv3,h⟩:=bd h
 refine a_ix ?_
 refine a_ld ?_
 refine a_as ?_
 refine rN ?_
 refine sR ?_
 refine a_ldp ?_
 refine a_mv ?_
 obtain ⟨r4,hr4,h⟩:=bd h
 refine cA Tryz.call51 (t_impl_remainderMod _ _ _ hr4) ?_
 obtain ⟨r5,hr5,h⟩:=bd h
 refine cA Tryz.call86 (t_impl_isZero _ _ hr5) ?_
 refine a_not ?_
 refine rN ?_
 refine cn h (fun hc h => ?_) (fun hc h => ?_)
 refine sR ?_
 refine a_as ?_
 refine rN ?_
 refine CW.ret ?_
 refine rB ?_
 refine rA ?_
 exact eX h
 refine CW.skip ?_
 refine nB ?_
 refine nA ?_
 refine CW.region ?_
 obtain ⟨v6,hv6,h⟩:=bd h
 refine a_add ?_
 refine a_mv ?_
 refine RW.nil ?_
 exact eN h
 refine CW.exit ?_
 refine xA ?_
 exact eX h
 rcases r7 with r7 | r7
 obtain ⟨rfl,hg⟩:=hq
 refine xB ?_
 refine nB ?_
 refine nA ?_
 refine CW.ghost hg ?_
 refine CW.region ?_
 obtain ⟨v8,hv8,h⟩:=bd h
 refine a_add ?_
 refine a_mv ?_
 refine RW.nil ?_
 exact eN h
 obtain ⟨rfl,hq⟩:=hq
 refine rB ?_
 refine rB ?_
 refine rA ?_
 exact eX h ⟨rfl,hq⟩
 refine CW.exit ?_
 refine xA ?_
 exact eX h
 rcases r9 with r9 | r9
 obtain ⟨rfl,hg⟩:=hq
 refine xB ?_
 refine nA ?_
 refine CW.ghost hg ?_
 refine sR ?_
 refine a_as ?_
 refine rN ?_
 refine CW.ret ?_
 obtain rfl:=sI h
 exact rT
 obtain ⟨rfl,hq⟩:=hq
 refine rB ?_
 refine rA ?_
 obtain rfl:=sI h
 exact hq
end Go.Wk

namespace Go.Wk
open Go Go.Proofs Go.Ab
set_option maxRecDepth 100000
theorem t_laws_eqInt64S (x0:List Int) (x1:List Int) (r:Bool) (h:f_laws_eqInt64S x0 x1 = some r):FnC Tryz.prog 33 [T.ro (lV x0),T.ro (lV x1)] [B r] []:=by
 refine fB Tryz.func33 (fun St W w0 v => ?_)
 refine sR ?_
 refine a_as ?_
 refine rN ?_
 refine CW.seq ?_
 refine sR ?_
 refine a_mv ?_
 refine a_lenr ?_
 refine a_mv ?_
 refine a_lenr ?_
 refine a_neq ?_
 refine rN ?_
 refine cn h (fun hc h => ?_) (fun hc h => ?_)
 refine sR ?_
 refine a_as ?_
 refine rN ?_
 refine CW.ret ?_
 refine rA ?_
 obtain rfl:=sI h
 exact rT
 refine CW.skip ?_
 refine nA ?_
 refine CW.seq ?_
 refine sR ?_
 refine a_as ?_
 refine rN ?_
 refine CW.block ?_
 obtain ⟨r4,hr4,h⟩:=bd h
 refine CW.lp (s:=0) (l1_laws_eqInt64S x0 x1) (fun s1:Int => envL [(0,T.ro (lV x0)),(1,T.ro (lV x1)),(5,I s1)]) (fun (x:Unit ⊕ Bool) e E => match x with | (.inl r4) => e = .exit 0 ∧ Ghost ⟨St,W,w0,Tryz.f33.ntmps⟩ E (envL []) | (.inr r4) => e = .ret ∧ RetG ⟨St,W,w0,Tryz.f33.ntmps⟩ Tryz.prog Tryz.f33.results [T.ro (lV x0),T.ro (lV x1)] [B r4] [] .ret E) (.has ⟨rfl,rfl,rfl,trivial⟩) (fun s1 x h => ?_) hr4 (fun e E hq => ?_)
 refine CW.seq ?_
 refine sR ?_
 refine a_mv ?_
 refine a_mv ?_
 refine a_lenr ?_
 refine a_lss ?_
 refine rN ?_
 refine cn h (fun hc h => ?_) (fun hc h => ?_)
 refine CW.skip ?_
 refine nA ?_
 refine CW.seq ?_
 refine CW.block ?_
 refine CW.seq ?_
 obtain ⟨v1,hv1,h⟩:=bd h
 obtain ⟨v2,hv2,h⟩:=bd h
 refine CW.dk ?_
 refine d_mv [(0,_)] ?_
 refine d_mv [(5,_)] ?_
 refine d_ixr [(17,_),(18,_)] ?_
 refine d_ldr [(19,_)] ?_
 refine d_mv [(1,_)] ?_
 refine d_mv [(5,_)] ?_
 refine d_ixr [(21,_),(22,_)] ?_
 refine d_ldr [(23,_)] ?_
 refine d_neq [(20,_),(24,_)] ?_
 refine dNA mixedP ?_
 refine nA ?_
 refine cn h (fun hc h => ?_) (fun hc h => ?_)
 refine sR ?_
 refine a_as ?_
 refine rN ?_
 refine CW.ret ?_
 refine rB ?_
 refine rA ?_
 exact eX h
 refine CW.skip ?_
 refine nB ?_
 refine nA ?_
 refine CW.region ?_
 refine a_mv ?_
 obtain ⟨v3,hv3,h⟩:=bd h
 refine a_add ?_
 refine a_as ?_
 refine RW.nil ?_
 exact eN h
 refine CW.exit ?_
 refine xA ?_
 exact eX h
 rcases r4 with r4 | r4
 obtain ⟨rfl,hg⟩:=hq
 refine xB ?_
 refine nA ?_
 refine CW.ghost hg ?_
 refine sR ?_
 refine a_as ?_
 refine rN ?_
 refine CW.ret ?_
 obtain rfl:=sI h
 exact rT
 obtain ⟨rfl,hq⟩:=hq
 refine rB ?_
 refine rA ?_
 obtain rfl:=sI h
 exact hq
theorem t_laws_eqInt64SS (x0:List (List Int)) (x1:List (List Int)) (r:Bool) (h:f_laws_eqInt64SS x0 x1 = some r):FnC Tryz.prog 28 [T.ro (lM x0),T.ro (lM x1)] [B r] []:=by
 refine fB Tryz.func28 (fun St W w0 v => ?_)
 refine sR ?_
 refine a_as ?_
 refine rN ?_
 refine CW.seq ?_
 refine sR ?_
 refine a_mv ?_
 refine a_lenr ?_
 refine a_mv ?_
 refine a_lenr ?_
 refine a_neq ?_
 refine rN ?_
 refine cn h (fun hc h => ?_) (fun hc h => ?_)
 refine sR ?_
 refine a_as ?_
 refine rN ?_
 refine CW.ret ?_
 refine rA ?_
 obtain rfl:=sI h
 exact rT
 refine CW.skip ?_
 refine nA ?_
 refine CW.seq ?_
 refine sR ?_
 refine a_as ?_
 refine rN ?_
 refine CW.block ?_
 obtain ⟨r5,hr5,h⟩:=bd h
 refine CW.lp (s:=0) (l1_laws_eqInt64SS x0 x1) (fun s1:Int => envL [(0,T.ro (lM x0)),(1,T.ro (lM x1)),(5,I s1)]) (fun (x:Unit ⊕ Bool) e E => match x with | (.inl r5) => e = .exit 0 ∧ Ghost ⟨St,W,w0,Tryz.f28.ntmps⟩ E (envL []) | (.inr r5) => e = .ret ∧ RetG ⟨St,W,w0,Tryz.f28.ntmps⟩ Tryz.prog Tryz.f28.results [T.ro (lM x0),T.ro (lM x1)] [B r5] [] .ret E) (.has ⟨rfl,rfl,rfl,trivial⟩) (fun s1 x h => ?_) hr5 (fun e E hq => ?_)
 refine CW.seq ?_
 refine sR ?_
 refine a_mv ?_
 refine a_mv ?_
 refine a_lenr ?_
 refine a_lss ?_
 refine rN ?_
 refine cn h (fun hc h => ?_) (fun hc h => ?_)
 refine CW.skip ?_
 refine nA ?_
 refine CW.seq ?_
 refine CW.block ?_
 refine CW.seq ?_
 obtain ⟨v1,hv1,h⟩:=bd h
 obtain ⟨v2,hv2,h⟩:=bd h
 obtain ⟨r3,hr3,h⟩:=bd h
 refine CW.dk ?_
 refine d_mv [(0,_)] ?_
 refine d_mv [(5,_)] ?_
 refine d_ixr [(17,_),(18,_)] ?_
 refine d_ldr [(19,_)] ?_
 refine d_mv [(1,_)] ?_
 refine d_mv [(5,_)] ?_
 refine d_ixr [(21,_),(22,_)] ?_
 refine d_ldr [(23,_)] ?_
 refine dC [(20,_),(24,_)] Tryz.call33 (t_laws_eqInt64S _ _ _ hr3) ?_
 refine d_not [(25,_)] ?_
 refine dNA mixedP ?_
 refine nA ?_
 refine cn h (fun hc h => ?_) (fun hc h => ?_)
 refine sR ?_
 refine a_as ?_
 refine rN ?_
 refine CW.ret ?_
 refine rB ?_
 refine rA ?_
 exact eX h
 refine CW.skip ?_
 refine nB ?_
 refine nA ?_
 refine CW.region ?_
 refine a_mv ?_
 obtain ⟨v4,hv4,h⟩:=bd h
 refine a_add ?_
 refine a_as ?_
 refine RW.nil ?_
 exact eN h
 refine CW.exit ?_
 refine xA ?_
 exact eX h
 rcases r5 with r5 | r5
 obtain ⟨rfl,hg⟩:=hq
 refine xB ?_
 refine nA ?_
 refine CW.ghost hg ?_
 refine sR ?_
 refine a_as ?_
 refine rN ?_
 refine CW.ret ?_
 obtain rfl:=sI h
 exact rT
 obtain ⟨rfl,hq⟩:=hq
 refine rB ?_
 refine rA ?_
 obtain rfl:=sI h
 exact hq
theorem t_laws_eqInt64SSS (x0:List (List (List Int))) (x1:List (List (List Int))) (r:Bool) (h:f_laws_eqInt64SSS x0 x1 = some r):FnC Tryz.prog 52 [T.ro (lC x0),T.ro (lC x1)] [B r] []:=by
 refine fB Tryz.func52 (fun St W w0 v => ?_)
 refine sR ?_
 refine a_as ?_
 refine rN ?_
 refine CW.seq ?_
 refine sR ?_
 refine a_mv ?_
 refine a_lenr ?_
 refine a_mv ?_
 refine a_lenr ?_
 refine a_neq ?_
 refine rN ?_
 refine cn h (fun hc h => ?_) (fun hc h => ?_)
 refine sR ?_
 refine a_as ?_
 refine rN ?_
 refine CW.ret ?_
 refine rA ?_
 obtain rfl:=sI h
 exact rT
 refine CW.skip ?_
 refine nA ?_
 refine CW.seq ?_
 refine sR ?_
 refine a_as ?_
 refine rN ?_
 refine CW.block ?_
 obtain ⟨r5,hr5,h⟩:=bd h
 refine CW.lp (s:=0) (l1_laws_eqInt64SSS x0 x1) (fun s1:Int => envL [(0,T.ro (lC x0)),(1,T.ro (lC x1)),(5,I s1)]) (fun (x:Unit ⊕ Bool) e E => match x with | (.inl r5) => e = .exit 0 ∧ Ghost ⟨St,W,w0,Tryz.f52.ntmps⟩ E (envL []) | (.inr r5) => e = .ret ∧ RetG ⟨St,W,w0,Tryz.f52.ntmps⟩ Tryz.prog Tryz.f52.results [T.ro (lC x0),T.ro (lC x1)] [B r5] [] .ret E) (.has ⟨rfl,rfl,rfl,trivial⟩) (fun s1 x h => ?_) hr5 (fun e E hq => ?_)
 refine CW.seq ?_
 refine sR ?_
 refine a_mv ?_
 refine a_mv ?_
 refine a_lenr ?_
 refine a_lss ?_
 refine rN ?_
 refine cn h (fun hc h => ?_) (fun hc h => ?_)
 refine CW.skip ?_
 refine nA ?_
 refine CW.seq ?_
 refine CW.block ?_
 refine CW.seq ?_
 obtain ⟨v1,hv1,h⟩:=bd h
 obtain ⟨v2,hv2,h⟩:=bd h
 obtain ⟨r3,hr3,h⟩:=bd h
 refine CW.dk ?_
 refine d_mv [(0,_)] ?_
 refine d_mv [(5,_)] ?_
 refine d_ixr [(17,_),(18,_)] ?_
 refine d_ldr [(19,_)] ?_
 refine d_mv [(1,_)] ?_
 refine d_mv [(5,_)] ?_
 refine d_ixr [(21,_),(22,_)] ?_
 refine d_ldr [(23,_)] ?_
 refine dC [(20,_),(24,_)] Tryz.call28 (t_laws_eqInt64SS _ _ _ hr3) ?_
 refine d_not [(25,_)] ?_
 refine dNA mixedP ?_
 refine nA ?_
 refine cn h (fun hc h => ?_) (fun hc h => ?_)
 refine sR ?_
 refine a_as ?_
 refine rN ?_
 refine CW.ret ?_
 refine rB ?_
 refine rA ?_
 exact eX h
 refine CW.skip ?_
 refine nB ?_
 refine nA ?_
 refine CW.region ?_
 refine a_mv ?_
 obtain ⟨v4,hv4,h⟩:=bd h
 refine a_add ?_
 refine a_as ?_
 refine RW.nil ?_
 exact eN h
 refine CW.exit ?_
 refine xA ?_
 exact eX h
 rcases r5 with r5 | r5
 obtain ⟨rfl,hg⟩:=hq
 refine xB ?_
 refine nA ?_
 refine CW.ghost hg ?_
 refine sR ?_
 refine a_as ?_
 refine rN ?_
 refine CW.ret ?_
 obtain rfl:=sI h
 exact rT
 obtain ⟨rfl,hq⟩:=hq
 refine rB ?_
 refine rA ?_
 obtain rfl:=sI h
 exact hq
theorem t_laws_eqModule (x0:SModule) (x1:SModule) (r:Bool) (h:f_laws_eqModule x0 x1 = some r):FnC Tryz.prog 15 [qModule x0,qModule x1] [B r] []:=by
 refine fB Tryz.func15 (fun St W w0 v => ?_)
 refine sR ?_
 refine a_box ?_
 refine a_box ?_
 refine a_as ?_
 refine rN ?_
 refine CW.seq ?_
 refine sR ?_
 refine a_fa ?_
 refine a_ld ?_
 refine a_fa ?_
 refine a_ld ?_
 refine a_neq ?_
 refine rN ?_
 refine cn h (fun hc h => ?_) (fun hc h => ?_)
 refine sR ?_
 refine a_as ?_
 refine rN ?_
 refine CW.ret ?_
 refine rA ?_
 obtain rfl:=sI h
 exact rT
 refine CW.skip ?_
 refine nA ?_
 refine CW.seq ?_
 refine sR ?_
 refine a_fa ?_
 refine a_ld ?_
 refine a_fa ?_
 refine a_ld ?_
 refine a_neq ?_
 refine rN ?_
 refine cn h (fun hc h => ?_) (fun hc h => ?_)
 refine sR ?_
 refine a_as ?_
 refine rN ?_
 refine CW.ret ?_
 refine rA ?_
 obtain rfl:=sI h
 exact rT
 refine CW.skip ?_
 refine nA ?_
 refine CW.seq ?_
 refine sR ?_
 refine a_fa ?_
 refine a_ld ?_
 refine a_fa ?_
 refine a_ld ?_
 obtain ⟨r1,hr1,h⟩:=bd h
 refine cA Tryz.call52 (t_laws_eqInt64SSS _ _ _ hr1) ?_
 refine a_not ?_
 refine rN ?_
 refine cn h (fun hc h => ?_) (fun hc h => ?_)
 refine sR ?_
 refine a_as ?_
 refine rN ?_
 refine CW.ret ?_
 refine rA ?_
 obtain rfl:=sI h
 exact rT
 refine CW.skip ?_
 refine nA ?_
 refine sR ?_
 refine a_as ?_
 refine rN ?_
 refine CW.ret ?_
 obtain rfl:=sI h
 exact rT
theorem t_laws_eqPresentation (x0:SPresentation) (x1:SPresentation) (r:Bool) (h:f_laws_eqPresentation x0 x1 = some r):FnC Tryz.prog 16 [qPresentation x0,qPresentation x1] [B r] []:=by
 refine fB Tryz.func16 (fun St W w0 v => ?_)
 refine sR ?_
 refine a_box ?_
 refine a_box ?_
 refine a_as ?_
 refine rN ?_
 refine CW.seq ?_
 refine sR ?_
 refine a_fa ?_
 refine a_ld ?_
 refine a_fa ?_
 refine a_ld ?_
 obtain ⟨r1,hr1,h⟩:=bd h
 refine cA Tryz.call33 (t_laws_eqInt64S _ _ _ hr1) ?_
 refine a_not ?_
 refine rN ?_
 refine cn h (fun hc h => ?_) (fun hc h => ?_)
 refine sR ?_
 refine a_as ?_
 refine rN ?_
 refine CW.ret ?_
 refine rA ?_
 obtain rfl:=sI h
 exact rT
 refine CW.skip ?_
 refine nA ?_
 refine CW.seq ?_
 refine sR ?_
 refine a_fa ?_
 refine a_ld ?_
 refine a_fa ?_
 refine a_ld ?_
 obtain ⟨r2,hr2,h⟩:=bd h
 refine cA Tryz.call28 (t_laws_eqInt64SS _ _ _ hr2) ?_
 refine a_not ?_
 refine rN ?_
 refine cn h (fun hc h => ?_) (fun hc h => ?_)
 refine sR ?_
 refine a_as ?_
 refine rN ?_
 refine CW.ret ?_
 refine rA ?_
 obtain rfl:=sI h
 exact rT
 refine CW.skip ?_
 refine nA ?_
 refine CW.seq ?_
 refine sR ?_
 refine a_fa ?_
 refine a_ld ?_
 refine a_fa ?_
 refine a_ld ?_
 obtain ⟨r3,hr3,h⟩:=bd h
 refine cA Tryz.call52 (t_laws_eqInt64SSS _ _ _ hr3) ?_
 refine a_not ?_
 refine rN ?_
 refine cn h (fun hc h => ?_) (fun hc h => ?_)
 refine sR ?_
 refine a_as ?_
 refine rN ?_
 refine CW.ret ?_
 refine rA ?_
 obtain rfl:=sI h
 exact rT
 refine CW.skip ?_
 refine nA ?_
 refine sR ?_
 refine a_as ?_
 refine rN ?_
 refine CW.ret ?_
 obtain rfl:=sI h
 exact rT
theorem t_laws_eqMatrix (x0:SMatrix) (x1:SMatrix) (r:Bool) (h:f_laws_eqMatrix x0 x1 = some r):FnC Tryz.prog 17 [qMatrix x0,qMatrix x1] [B r] []:=by
 refine fB Tryz.func17 (fun St W w0 v => ?_)
 refine sR ?_
 refine a_box ?_
 refine a_box ?_
 refine a_as ?_
 refine rN ?_
 refine CW.seq ?_
 refine sR ?_
 refine a_fa ?_
 refine a_ld ?_
 refine a_fa ?_
 refine a_ld ?_
 refine a_neq ?_
 refine rN ?_
 refine cn h (fun hc h => ?_) (fun hc h => ?_)
 refine sR ?_
 refine a_as ?_
 refine rN ?_
 refine CW.ret ?_
 refine rA ?_
 obtain rfl:=sI h
 exact rT
 refine CW.skip ?_
 refine nA ?_
 refine CW.seq ?_
 refine sR ?_
 refine a_fa ?_
 refine a_ld ?_
 refine a_fa ?_
 refine a_ld ?_
 refine a_neq ?_
 refine rN ?_
 refine cn h (fun hc h => ?_) (fun hc h => ?_)
 refine sR ?_
 refine a_as ?_
 refine rN ?_
 refine CW.ret ?_
 refine rA ?_
 obtain rfl:=sI h
 exact rT
 refine CW.skip ?_
 refine nA ?_
 refine CW.seq ?_
 refine sR ?_
 refine a_fa ?_
 refine a_ld ?_
 refine a_fa ?_
 refine a_ld ?_
 obtain ⟨r1,hr1,h⟩:=bd h
 refine cA Tryz.call28 (t_laws_eqInt64SS _ _ _ hr1) ?_
 refine a_not ?_
 refine rN ?_
 refine cn h (fun hc h => ?_) (fun hc h => ?_)
 refine sR ?_
 refine a_as ?_
 refine rN ?_
 refine CW.ret ?_
 refine rA ?_
 obtain rfl:=sI h
 exact rT
 refine CW.skip ?_
 refine nA ?_
 refine sR ?_
 refine a_as ?_
 refine rN ?_
 refine CW.ret ?_
 obtain rfl:=sI h
 exact rT
theorem t_laws_markInt64S (x0:List Int) (x1:Int) (r:Int × (List Int)) (h:f_laws_markInt64S x0 x1 = some r):FnC Tryz.prog 34 [L 1 I x0,I x1] [I r.1] [(0,lV r.2)]:=by
 refine fB Tryz.func34 (fun St W w0 v => ?_)
 refine sR ?_
 refine a_as ?_
 refine rN ?_
 refine CW.seq ?_
 refine sR ?_
 refine a_as ?_
 refine rN ?_
 refine CW.block ?_
 obtain ⟨r4,hr4,h⟩:=bd h
 refine CW.lp (s:=(x0,x1,0)) l1_laws_markInt64S (fun s1:(List Int) × Int × Int => envL [(0,L 1 I s1.1),(1,I s1.2.1),(5,I s1.2.2)]) (fun (r4:((List Int) × Int)) e E => e = .exit 0 ∧ Ghost ⟨St,W,w0,Tryz.f34.ntmps⟩ E (envL [(0,L 1 I r4.1),(1,I r4.2)])) (.has ⟨rfl,rfl,rfl,trivial⟩) (fun s1 x h => ?_) hr4 (fun e E hq => ?_)
 refine CW.seq ?_
 refine sR ?_
 refine a_mv ?_
 refine a_mv ?_
 refine a_len ?_
 refine a_lss ?_
 refine rN ?_
 refine cn h (fun hc h => ?_) (fun hc h => ?_)
 refine CW.skip ?_
 refine nA ?_
 refine CW.seq ?_
 refine CW.block ?_
 refine sR ?_
 refine a_mv ?_
 refine a_mv ?_
 refine a_mv ?_
 obtain ⟨v1,hv1,h⟩:=bd h
 refine a_ix ?_
 refine oP (x_st inf_2 rfl rfl rfl (getc hv1 rfl) (setc hv1 rfl) rfl (clean_of (Enc.clean (f:=I) _)) rfl) ?_
 refine rN ?_
 refine CW.region ?_
 refine a_mv ?_
 obtain ⟨v2,hv2,h⟩:=bd h
 refine a_add ?_
 refine a_as ?_
 refine RW.nil ?_
 refine nB ?_
 refine nA ?_
 refine CW.region ?_
 refine a_mv ?_
 obtain ⟨v3,hv3,h⟩:=bd h
 refine a_add ?_
 refine a_as ?_
 refine RW.nil ?_
 exact eN h
 refine CW.exit ?_
 refine xA ?_
 exact eX h
 obtain ⟨rfl,hg⟩:=hq
 refine xB ?_
 refine nA ?_
 refine CW.ghost hg ?_
 refine sR ?_
 refine a_mv ?_
 refine a_as ?_
 refine rN ?_
 refine CW.ret ?_
 obtain rfl:=sI h
 exact rT
theorem t_laws_markInt64SS (x0:List (List Int)) (x1:Int) (r:Int × (List (List Int))) (h:f_laws_markInt64SS x0 x1 = some r):FnC Tryz.prog 29 [L 1 lV x0,I x1] [I r.1] [(0,lM r.2)]:=by
 refine fB Tryz.func29 (fun St W w0 v => ?_)
 refine sR ?_
 refine a_as ?_
 refine rN ?_
 refine CW.seq ?_
 refine sR ?_
 refine a_as ?_
 refine rN ?_
 refine CW.block ?_
 obtain ⟨r4,hr4,h⟩:=bd h
 refine CW.lp (s:=(x0,x1,0)) l1_laws_markInt64SS (fun s1:(List (List Int)) × Int × Int => envL [(0,L 1 lV s1.1),(1,I s1.2.1),(5,I s1.2.2)]) (fun (r4:((List (List Int)) × Int)) e E => e = .exit 0 ∧ Ghost ⟨St,W,w0,Tryz.f29.ntmps⟩ E (envL [(0,L 1 lV r4.1),(1,I r4.2)])) (.has ⟨rfl,rfl,rfl,trivial⟩) (fun s1 x h => ?_) hr4 (fun e E hq => ?_)
 refine CW.seq ?_
 refine sR ?_
 refine a_mv ?_
 refine a_mv ?_
 refine a_len ?_
 refine a_lss ?_
 refine rN ?_
 refine cn h (fun hc h => ?_) (fun hc h => ?_)
 refine CW.skip ?_
 refine nA ?_
 refine CW.seq ?_
 refine CW.block ?_
 refine CW.region ?_
 refine a_mv ?_
 refine a_mv ?_
 obtain ⟨v1,hv1,h⟩:=bd h
 refine a_ix ?_
 refine a_ld ?_
 refine a_mv ?_
 obtain ⟨r2,hr2,h⟩:=bd h
 refine oP (x_callM (xs:=[.tmp 15,.tmp 16]) 0 15 0 [s1.2.2.toNat] Tryz.call34 (t_laws_markInt64S _ _ _ hr2) rfl rfl (getc hv1 rfl) (clean_of (cleanL (Enc.clean (f:=I)))) (clean_of (cleanL (Enc.clean (f:=I)))) (Enc.rofree (f:=L 1 I) _) (Enc.rofree (f:=L 1 I) _) ⟨(agLd rfl (clean_of (cleanL (Enc.clean (f:=I)))) (Enc.rofree (f:=L 1 I) _)),⟨(agM _ rfl rfl rfl),trivial⟩⟩ (resC (f:=I) inferInstance resN) (setc hv1 rfl) rfl rfl rfl) ?_
 refine a_as ?_
 refine RW.nil ?_
 refine nB ?_
 refine nA ?_
 refine CW.region ?_
 refine a_mv ?_
 obtain ⟨v3,hv3,h⟩:=bd h
 refine a_add ?_
 refine a_as ?_
 refine RW.nil ?_
 exact eN h
 refine CW.exit ?_
 refine xA ?_
 exact eX h
 obtain ⟨rfl,hg⟩:=hq
 refine xB ?_
 refine nA ?_
 refine CW.ghost hg ?_
 refine sR ?_
 refine a_mv ?_
 refine a_as ?_
 refine rN ?_
 refine CW.ret ?_
 obtain rfl:=sI h
 exact rT
theorem t_laws_markInt64SSS (x0:List (List (List Int))) (x1:Int) (r:Int × (List (List (List Int)))) (h:f_laws_markInt64SSS x0 x1 = some r):FnC Tryz.prog 53 [L 1 lM x0,I x1] [I r.1] [(0,lC r.2)]:=by
 refine fB Tryz.func53 (fun St W w0 v => ?_)
 refine sR ?_
 refine a_as ?_
 refine rN ?_
 refine CW.seq ?_
 refine sR ?_
 refine a_as ?_
 refine rN ?_
 refine CW.block ?_
 obtain ⟨r4,hr4,h⟩:=bd h
 refine CW.lp (s:=(x0,x1,0)) l1_laws_markInt64SSS (fun s1:(List (List (List Int))) × Int × Int => envL [(0,L 1 lM s1.1),(1,I s1.2.1),(5,I s1.2.2)]) (fun (r4:((List (List (List Int))) × Int)) e E => e = .exit 0 ∧ Ghost ⟨St,W,w0,Tryz.f53.ntmps⟩ E (envL [(0,L 1 lM r4.1),(1,I r4.2)])) (.has ⟨rfl,rfl,rfl,trivial⟩) (fun s1 x h => ?_) hr4 (fun e E hq => ?_)
 refine CW.seq ?_
 refine sR ?_
 refine a_mv ?_
 refine a_mv ?_
 refine a_len ?_
 refine a_lss ?_
 refine rN ?_
 refine cn h (fun hc h => ?_) (fun hc h => ?_)
 refine CW.skip ?_
 refine nA ?_
 refine CW.seq ?_
 refine CW.block ?_
 refine CW.region ?_
 refine a_mv ?_
 refine a_mv ?_
 obtain ⟨v1,hv1,h⟩:=bd h
 refine a_ix ?_
 refine a_ld ?_
 refine a_mv ?_
 obtain ⟨r2,hr2,h⟩:=bd h
 refine oP (x_callM (xs:=[.tmp 15,.tmp 16]) 0 15 0 [s1.2.2.toNat] Tryz.call29 (t_laws_markInt64SS _ _ _ hr2) rfl rfl (getc hv1 rfl) (clean_of (cleanL (Enc.clean (f:=lV)))) (clean_of (cleanL (Enc.clean (f:=lV)))) (Enc.rofree (f:=L 1 lV) _) (Enc.rofree (f:=L 1 lV) _) ⟨(agLd rfl (clean_of (cleanL (Enc.clean (f:=lV)))) (Enc.rofree (f:=L 1 lV) _)),⟨(agM _ rfl rfl rfl),trivial⟩⟩ (resC (f:=I) inferInstance resN) (setc hv1 rfl) rfl rfl rfl) ?_
 refine a_as ?_
 refine RW.nil ?_
 refine nB ?_
 refine nA ?_
 refine CW.region ?_
 refine a_mv ?_
 obtain ⟨v3,hv3,h⟩:=bd h
 refine a_add ?_
 refine a_as ?_
 refine RW.nil ?_
 exact eN h
 refine CW.exit ?_
 refine xA ?_
 exact eX h
 obtain ⟨rfl,hg⟩:=hq
 refine xB ?_
 refine nA ?_
 refine CW.ghost hg ?_
 refine sR ?_
 refine a_mv ?_
 refine a_as ?_
 refine rN ?_
 refine CW.ret ?_
 obtain rfl:=sI h
 exact rT
theorem t_laws_markPresentation (x0:SPresentation) (x1:Int) (r:Int × SPresentation) (h:f_laws_markPresentation x0 x1 = some r):FnC Tryz.prog 18 [eSPresentation x0,I x1] [I r.1] [(0,eSPresentation r.2)]:=by
 refine fB Tryz.func18 (fun St W w0 v => ?_) (ht:=⟨Top.of_clean _ (Enc.clean (f:=eSPresentation) _),by first | (simp only [Top];done) | (simp [Top];done) | simp [Top,Tops],trivial⟩)
 refine sR ?_
 refine oP (x_box rfl (clean_of (cleanA ⟨(cleanL (Enc.clean (f:=I))),(cleanL (Enc.clean (f:=lV))),(cleanL (Enc.clean (f:=lM))),trivial⟩)) rfl) ?_
 refine a_as ?_
 refine rN ?_
 refine sR ?_
 refine a_fa ?_
 refine a_ld ?_
 refine a_mv ?_
 obtain ⟨r1,hr1,h⟩:=bd h
 refine oP (x_callM (xs:=[.tmp 6,.tmp 7]) 0 6 2 [0,0] Tryz.call34 (t_laws_markInt64S _ _ _ hr1) rfl rfl rfl (clean_of (cleanL (Enc.clean (f:=I)))) (clean_of (cleanL (Enc.clean (f:=I)))) (Enc.rofree (f:=L 1 I) _) (Enc.rofree (f:=L 1 I) _) ⟨(agLd rfl (clean_of (cleanL (Enc.clean (f:=I)))) (Enc.rofree (f:=L 1 I) _)),⟨(agM _ rfl rfl rfl),trivial⟩⟩ (resC (f:=I) inferInstance resN) rfl rfl rfl rfl) ?_
 refine a_as ?_
 refine rN ?_
 refine sR ?_
 refine a_fa ?_
 refine a_ld ?_
 refine a_mv ?_
 obtain ⟨r2,hr2,h⟩:=bd h
 refine oP (x_callM (xs:=[.tmp 10,.tmp 11]) 0 10 2 [1,0] Tryz.call29 (t_laws_markInt64SS _ _ _ hr2) rfl rfl rfl (clean_of (cleanL (Enc.clean (f:=lV)))) (clean_of (cleanL (Enc.clean (f:=lV)))) (Enc.rofree (f:=L 1 lV) _) (Enc.rofree (f:=L 1 lV) _) ⟨(agLd rfl (clean_of (cleanL (Enc.clean (f:=lV)))) (Enc.rofree (f:=L 1 lV) _)),⟨(agM _ rfl rfl rfl),trivial⟩⟩ (resC (f:=I) inferInstance resN) rfl rfl rfl rfl) ?_
 refine a_as ?_
 refine rN ?_
 refine sR ?_
 refine a_fa ?_
 refine a_ld ?_
 refine a_mv ?_
 obtain ⟨r3,hr3,h⟩:=bd h
 refine oP (x_callM (xs:=[.tmp 14,.tmp 15]) 0 14 2 [2,0] Tryz.call53 (t_laws_markInt64SSS _ _ _ hr3) rfl rfl rfl (clean_of (cleanL (Enc.clean (f:=lM)))) (clean_of (cleanL (Enc.clean (f:=lM)))) (Enc.rofree (f:=L 1 lM) _) (Enc.rofree (f:=L 1 lM) _) ⟨(agLd rfl (clean_of (cleanL (Enc.clean (f:=lM)))) (Enc.rofree (f:=L 1 lM) _)),⟨(agM _ rfl rfl rfl),trivial⟩⟩ (resC (f:=I) inferInstance resN) rfl rfl rfl rfl) ?_
 refine a_as ?_
 refine RW.ghost (Ghost.trf 0 [0] 2 [0,0] _ _ rfl rfl rfl rfl rfl (clean_of (cleanL (Enc.clean (f:=I)))) rfl) ?_
 refine RW.ghost (Ghost.trf 0 [1] 2 [1,0] _ _ rfl rfl rfl rfl rfl (clean_of (cleanL (Enc.clean (f:=lV)))) rfl) ?_
 refine RW.ghost (Ghost.trf 0 [2] 2 [2,0] _ _ rfl rfl rfl rfl rfl (clean_of (cleanL (Enc.clean (f:=lM)))) rfl) ?_
 refine rN ?_
 refine sR ?_
 refine a_mv ?_
 refine a_as ?_
 refine rN ?_
 refine CW.ret ?_
 obtain rfl:=sI h
 exact rT
theorem t_laws_markModule (x0:SModule) (x1:Int) (r:Int × SModule) (h:f_laws_markModule x0 x1 = some r):FnC Tryz.prog 19 [eSModule x0,I x1] [I r.1] [(0,eSModule r.2)]:=by
 refine fB Tryz.func19 (fun St W w0 v => ?_) (ht:=⟨Top.of_clean _ (Enc.clean (f:=eSModule) _),by first | (simp only [Top];done) | (simp [Top];done) | simp [Top,Tops],trivial⟩)
 refine sR ?_
 refine oP (x_box rfl (clean_of (cleanA ⟨(Enc.clean (f:=I) _),(Enc.clean (f:=I) _),(cleanL (Enc.clean (f:=lM))),trivial⟩)) rfl) ?_
 refine a_as ?_
 refine rN ?_
 refine sR ?_
 refine a_fa ?_
 refine a_ld ?_
 refine a_mv ?_
 obtain ⟨r1,hr1,h⟩:=bd h
 refine oP (x_callM (xs:=[.tmp 6,.tmp 7]) 0 6 2 [2,0] Tryz.call53 (t_laws_markInt64SSS _ _ _ hr1) rfl rfl rfl (clean_of (cleanL (Enc.clean (f:=lM)))) (clean_of (cleanL (Enc.clean (f:=lM)))) (Enc.rofree (f:=L 1 lM) _) (Enc.rofree (f:=L 1 lM) _) ⟨(agLd rfl (clean_of (cleanL (Enc.clean (f:=lM)))) (Enc.rofree (f:=L 1 lM) _)),⟨(agM _ rfl rfl rfl),trivial⟩⟩ (resC (f:=I) inferInstance resN) rfl rfl rfl rfl) ?_
 refine a_as ?_
 refine RW.ghost (Ghost.trf 0 [2] 2 [2,0] _ _ rfl rfl rfl rfl rfl (clean_of (cleanL (Enc.clean (f:=lM)))) rfl) ?_
 refine rN ?_
 refine sR ?_
 refine a_mv ?_
 refine a_as ?_
 refine rN ?_
 refine CW.ret ?_
 obtain rfl:=sI h
 exact rT
theorem t_laws_markMatrix (x0:SMatrix) (x1:Int) (r:Int × SMatrix) (h:f_laws_markMatrix x0 x1 = some r):FnC Tryz.prog 20 [eSMatrix x0,I x1] [I r.1] [(0,eSMatrix r.2)]:=by
 refine fB Tryz.func20 (fun St W w0 v => ?_) (ht:=⟨Top.of_clean _ (Enc.clean (f:=eSMatrix) _),by first | (simp only [Top];done) | (simp [Top];done) | simp [Top,Tops],trivial⟩)
 refine sR ?_
 refine oP (x_box rfl (clean_of (cleanA ⟨(Enc.clean (f:=I) _),(Enc.clean (f:=I) _),(cleanL (Enc.clean (f:=lV))),trivial⟩)) rfl) ?_
 refine a_as ?_
 refine rN ?_
 refine sR ?_
 refine a_fa ?_
 refine a_ld ?_
 refine a_mv ?_
 obtain ⟨r1,hr1,h⟩:=bd h
 refine oP (x_callM (xs:=[.tmp 6,.tmp 7]) 0 6 2 [2,0] Tryz.call29 (t_laws_markInt64SS _ _ _ hr1) rfl rfl rfl (clean_of (cleanL (Enc.clean (f:=lV)))) (clean_of (cleanL (Enc.clean (f:=lV)))) (Enc.rofree (f:=L 1 lV) _) (Enc.rofree (f:=L 1 lV) _) ⟨(agLd rfl (clean_of (cleanL (Enc.clean (f:=lV)))) (Enc.rofree (f:=L 1 lV) _)),⟨(agM _ rfl rfl rfl),trivial⟩⟩ (resC (f:=I) inferInstance resN) rfl rfl rfl rfl) ?_
 refine a_as ?_
 refine RW.ghost (Ghost.trf 0 [2] 2 [2,0] _ _ rfl rfl rfl rfl rfl (clean_of (cleanL (Enc.clean (f:=lV)))) rfl) ?_
 refine rN ?_
 refine sR ?_
 refine a_mv ?_
 refine a_as ?_
 refine rN ?_
 refine CW.ret ?_
 obtain rfl:=sI h
 exact rT
theorem t_laws_heldInt64S (x0:List Int) (x1:Int) (r:Int) (h:f_laws_heldInt64S x0 x1 = some r):FnC Tryz.prog 35 [T.ro (lV x0),I x1] [I r] []:=by
 refine fB Tryz.func35 (fun St W w0 v => ?_)
 refine sR ?_
 refine a_as ?_
 refine rN ?_
 refine CW.seq ?_
 refine sR ?_
 refine a_as ?_
 refine rN ?_
 refine CW.block ?_
 obtain ⟨r4,hr4,h⟩:=bd h
 refine CW.lp (s:=(x1,0)) (l1_laws_heldInt64S x0) (fun s1:Int × Int => envL [(0,T.ro (lV x0)),(1,I s1.1),(5,I s1.2)]) (fun (x:Int ⊕ Int) e E => match x with | (.inl r4) => e = .exit 0 ∧ Ghost ⟨St,W,w0,Tryz.f35.ntmps⟩ E (envL [(1,I r4)]) | (.inr r4) => e = .ret ∧ RetG ⟨St,W,w0,Tryz.f35.ntmps⟩ Tryz.prog Tryz.f35.results [T.ro (lV x0),I x1] [I r4] [] .ret E) (.has ⟨rfl,rfl,rfl,trivial⟩) (fun s1 x h => ?_) hr4 (fun e E hq => ?_)
 refine CW.seq ?_
 refine sR ?_
 refine a_mv ?_
 refine a_mv ?_
 refine a_lenr ?_
 refine a_lss ?_
 refine rN ?_
 refine cn h (fun hc h => ?_) (fun hc h => ?_)
 refine CW.skip ?_
 refine nA ?_
 refine CW.seq ?_
 refine CW.block ?_
 refine CW.seq ?_
 refine sR ?_
 refine a_mv ?_
 refine a_mv ?_
 obtain ⟨v1,hv1,h⟩:=bd h
 refine a_ixr ?_
 refine a_ldr ?_
 refine a_mv ?_
 refine a_neq ?_
 refine rN ?_
 refine cn h (fun hc h => ?_) (fun hc h => ?_)
 refine sR ?_
 refine a_as ?_
 refine rN ?_
 refine CW.ret ?_
 refine rA ?_
 refine rB ?_
 refine rA ?_
 exact eX h
 refine CW.skip ?_
 refine nA ?_
 refine CW.region ?_
 refine a_mv ?_
 obtain ⟨v2,hv2,h⟩:=bd h
 refine a_add ?_
 refine a_as ?_
 refine RW.nil ?_
 refine nB ?_
 refine nA ?_
 refine CW.region ?_
 refine a_mv ?_
 obtain ⟨v3,hv3,h⟩:=bd h
 refine a_add ?_
 refine a_as ?_
 refine RW.nil ?_
 exact eN h
 refine CW.exit ?_
 refine xA ?_
 exact eX h
 rcases r4 with r4 | r4
 obtain ⟨rfl,hg⟩:=hq
 refine xB ?_
 refine nA ?_
 refine CW.ghost hg ?_
 refine sR ?_
 refine a_mv ?_
 refine a_as ?_
 refine rN ?_
 refine CW.ret ?_
 obtain rfl:=sI h
 exact rT
 obtain ⟨rfl,hq⟩:=hq
 refine rB ?_
 refine rA ?_
 obtain rfl:=sI h
 exact hq
theorem t_laws_heldInt64SS (x0:List (List Int)) (x1:Int) (r:Int) (h:f_laws_heldInt64SS x0 x1 = some r):FnC Tryz.prog 30 [T.ro (lM x0),I x1] [I r] []:=by
 refine fB Tryz.func30 (fun St W w0 v => ?_)
 refine sR ?_
 refine a_as ?_
 refine rN ?_
 refine CW.seq ?_
 refine sR ?_
 refine a_as ?_
 refine rN ?_
 refine CW.block ?_
 obtain ⟨r4,hr4,h⟩:=bd h
 refine CW.lp (s:=(x1,0)) (l1_laws_heldInt64SS x0) (fun s1:Int × Int => envL [(0,T.ro (lM x0)),(1,I s1.1),(5,I s1.2)]) (fun (x:Int ⊕ Int) e E => match x with | (.inl r4) => e = .exit 0 ∧ Ghost ⟨St,W,w0,Tryz.f30.ntmps⟩ E (envL [(1,I r4)]) | (.inr r4) => e = .ret ∧ RetG ⟨St,W,w0,Tryz.f30.ntmps⟩ Tryz.prog Tryz.f30.results [T.ro (lM x0),I x1] [I r4] [] .ret E) (.has ⟨rfl,rfl,rfl,trivial⟩) (fun s1 x h => ?_) hr4 (fun e E hq => ?_)
 refine CW.seq ?_
 refine sR ?_
 refine a_mv ?_
 refine a_mv ?_
 refine a_lenr ?_
 refine a_lss ?_
 refine rN ?_
 refine cn h (fun hc h => ?_) (fun hc h => ?_)
 refine CW.skip ?_
 refine nA ?_
 refine CW.seq ?_
 refine CW.block ?_
 refine sR ?_
 refine a_mv ?_
 refine a_mv ?_
 obtain ⟨v1,hv1,h⟩:=bd h
 refine a_ixr ?_
 refine a_ldr ?_
 refine a_mv ?_
 obtain ⟨r2,hr2,h⟩:=bd h
 refine cA Tryz.call35 (t_laws_heldInt64S _ _ _ hr2) ?_
 refine a_as ?_
 refine rN ?_
 refine sR ?_
 refine a_mv ?_
 refine a_lss ?_
 refine rN ?_
 refine cn h (fun hc h => ?_) (fun hc h => ?_)
 refine sR ?_
 refine a_as ?_
 refine rN ?_
 refine CW.ret ?_
 refine rB ?_
 refine rA ?_
 exact eX h
 refine CW.skip ?_
 refine nB ?_
 refine nA ?_
 refine CW.region ?_
 refine a_mv ?_
 obtain ⟨v3,hv3,h⟩:=bd h
 refine a_add ?_
 refine a_as ?_
 refine RW.nil ?_
 exact eN h
 refine CW.exit ?_
 refine xA ?_
 exact eX h
 rcases r4 with r4 | r4
 obtain ⟨rfl,hg⟩:=hq
 refine xB ?_
 refine nA ?_
 refine CW.ghost hg ?_
 refine sR ?_
 refine a_mv ?_
 refine a_as ?_
 refine rN ?_
 refine CW.ret ?_
 obtain rfl:=sI h
 exact rT
 obtain ⟨rfl,hq⟩:=hq
 refine rB ?_
 refine rA ?_
 obtain rfl:=sI h
 exact hq
theorem t_laws_heldInt64SSS (x0:List (List (List Int))) (x1:Int) (r:Int) (h:f_laws_heldInt64SSS x0 x1 = some r):FnC Tryz.prog 54 [T.ro (lC x0),I x1] [I r] []:=by
 refine fB Tryz.func54 (fun St W w0 v => ?_)
 refine sR ?_
 refine a_as ?_
 refine rN ?_
 refine CW.seq ?_
 refine sR ?_
 refine a_as ?_
 refine rN ?_
 refine CW.block ?_
 obtain ⟨r4,hr4,h⟩:=bd h
 refine CW.lp (s:=(x1,0)) (l1_laws_heldInt64SSS x0) (fun s1:Int × Int => envL [(0,T.ro (lC x0)),(1,I s1.1),(5,I s1.2)]) (fun (x:Int ⊕ Int) e E => match x with | (.inl r4) => e = .exit 0 ∧ Ghost ⟨St,W,w0,Tryz.f54.ntmps⟩ E (envL [(1,I r4)]) | (.inr r4) => e = .ret ∧ RetG ⟨St,W,w0,Tryz.f54.ntmps⟩ Tryz.prog Tryz.f54.results [T.ro (lC x0),I x1] [I r4] [] .ret E) (.has ⟨rfl,rfl,rfl,trivial⟩) (fun s1 x h => ?_) hr4 (fun e E hq => ?_)
 refine CW.seq ?_
 refine sR ?_
 refine a_mv ?_
 refine a_mv ?_
 refine a_lenr ?_
 refine a_lss ?_
 refine rN ?_
 refine cn h (fun hc h => ?_) (fun hc h => ?_)
 refine CW.skip ?_
 refine nA ?_
 refine CW.seq ?_
 refine CW.block ?_
 refine sR ?_
 refine a_mv ?_
 refine a_mv ?_
 obtain ⟨v1,hv1,h⟩:=bd h
 refine a_ixr ?_
 refine a_ldr ?_
 refine a_mv ?_
 obtain ⟨r2,hr2,h⟩:=bd h
 refine cA Tryz.call30 (t_laws_heldInt64SS _ _ _ hr2) ?_
 refine a_as ?_
 refine rN ?_
 refine sR ?_
 refine a_mv ?_
 refine a_lss ?_
 refine rN ?_
 refine cn h (fun hc h => ?_) (fun hc h => ?_)
 refine sR ?_
 refine a_as ?_
 refine rN ?_
 refine CW.ret ?_
 refine rB ?_
 refine rA ?_
 exact eX h
 refine CW.skip ?_
 refine nB ?_
 refine nA ?_
 refine CW.region ?_
 refine a_mv ?_
 obtain ⟨v3,hv3,h⟩:=bd h
 refine a_add ?_
 refine a_as ?_
 refine RW.nil ?_
 exact eN h
 refine CW.exit ?_
 refine xA ?_
 exact eX h
 rcases r4 with r4 | r4
 obtain ⟨rfl,hg⟩:=hq
 refine xB ?_
 refine nA ?_
 refine CW.ghost hg ?_
 refine sR ?_
 refine a_mv ?_
 refine a_as ?_
 refine rN ?_
 refine CW.ret ?_
 obtain rfl:=sI h
 exact rT
 obtain ⟨rfl,hq⟩:=hq
 refine rB ?_
 refine rA ?_
 obtain rfl:=sI h
 exact hq
theorem t_laws_heldModule (x0:SModule) (x1:Int) (r:Int) (h:f_laws_heldModule x0 x1 = some r):FnC Tryz.prog 21 [qModule x0,I x1] [I r] []:=by
 refine fB Tryz.func21 (fun St W w0 v => ?_)
 refine sR ?_
 refine a_box ?_
 refine a_as ?_
 refine rN ?_
 refine sR ?_
 refine a_fa ?_
 refine a_ld ?_
 refine a_mv ?_
 obtain ⟨r1,hr1,h⟩:=bd h
 refine cA Tryz.call54 (t_laws_heldInt64SSS _ _ _ hr1) ?_
 refine a_as ?_
 refine rN ?_
 refine CW.seq ?_
 refine sR ?_
 refine a_mv ?_
 refine a_lss ?_
 refine rN ?_
 refine cn h (fun hc h => ?_) (fun hc h => ?_)
 refine sR ?_
 refine a_as ?_
 refine rN ?_
 refine CW.ret ?_
 refine rA ?_
 obtain rfl:=sI h
 exact rT
 refine CW.skip ?_
 refine nA ?_
 refine sR ?_
 refine a_mv ?_
 refine a_as ?_
 refine rN ?_
 refine CW.ret ?_
 obtain rfl:=sI h
 exact rT
theorem t_spec_l02Wide (x0:Int) (x1:List (List Int)) (r:(List (List Int))) (h:f_spec_l02Wide x0 x1 = some r):FnC Tryz.prog 92 [I x0,T.ro (lM x1)] [(L 1 (Ro lV)) r] []:=by
 refine fB Tryz.func92 (fun St W w0 v => ?_)
 refine sR ?_
 refine oP (x_nil 1 rfl) ?_
 refine rN ?_
 refine sR ?_
 refine a_mv ?_
 refine a_lenr ?_
 obtain ⟨r1,hr1,h⟩:=bd h
 refine cA Tryz.call100 (t_spec_l02Unit _ _ hr1) ?_
 refine a_as ?_
 refine RW.ghost (Ghost.tr 5 10 _ rfl rfl (clean_of (cleanL (Enc.clean (f:=lV)))) rfl) ?_
 refine rN ?_
 refine sR ?_
 refine oP (x_bs0 elt_23 rfl) ?_
 refine a_as ?_
 refine RW.ghost (Ghost.tr 6 11 _ rfl rfl (clean_of trivial) rfl) ?_
 refine rN ?_
 refine CW.seq ?_
 refine sR ?_
 refine a_as ?_
 refine rN ?_
 refine CW.block ?_
 obtain ⟨r8,hr8,h⟩:=bd h
 refine CW.lp (s:=([],0)) (l1_spec_l02Wide x1 r1) (fun s1:(List (List Int)) × Int => envL [(0,I x0),(1,T.ro (lM x1)),(5,L 1 lV r1),(6,L 1 lV s1.1),(7,I s1.2)]) (fun (r8:(List (List Int))) e E => e = .exit 0 ∧ Ghost ⟨St,W,w0,Tryz.f92.ntmps⟩ E (envL [(0,I x0),(6,L 1 lV r8)])) (.has ⟨rfl,rfl,rfl,rfl,rfl,trivial⟩) (fun s1 x h => ?_) hr8 (fun e E hq => ?_)
 refine CW.seq ?_
 refine sR ?_
 refine a_mv ?_
 refine a_mv ?_
 refine a_lenr ?_
 refine a_lss ?_
 refine rN ?_
 refine cn h (fun hc h => ?_) (fun hc h => ?_)
 refine CW.skip ?_
 refine nA ?_
 refine CW.seq ?_
 refine CW.block ?_
 obtain ⟨v2,hv2,h⟩:=bd h
 obtain ⟨r3,hr3,h⟩:=bd h
 obtain ⟨v4,hv4,h⟩:=bd h
 obtain ⟨v5,hv5,h⟩:=bd h
 obtain ⟨v6,hv6,h⟩:=bd h
 refine CW.dk ?_
 refine d_mv [(6,_)] ?_
 refine d_mv [(1,_)] ?_
 refine d_mv [(7,_)] ?_
 refine d_ixr [(19,_),(20,_)] ?_
 refine d_ldr [(21,_)] ?_
 refine dC [(22,_)] Tryz.call76 (t_spec_l01Own _ _ hr3) ?_
 refine d_mv [(5,_)] ?_
 refine d_mv [(7,_)] ?_
 refine d_ix [(24,_),(5,_),(25,_)] ?_
 refine d_ld [(26,_),(5,_)] ?_
 refine dG [(23,_),(27,_),(5,_)] [([(28,some (L 1 I v5)),(23,some T.any)],[(28,0),(23,1)])] ⟨rfl,rfl,rfl,trivial⟩ (fun E h => IxOk.opE (x_appc (f:=I) elt_22 (fun _ => rfl) hv5 h.1 (locA h.2.1 h.2.2.1 (getc hv4 rfl) rfl) rfl) rfl) ?_
 refine dG [(28,_)] [([(29,some (L 1 lV [v5])),(28,some (T.same 29 [0]))],[(29,0),(28,1)])] ⟨rfl,trivial⟩ (fun E h => IxOk.opE (x_bs elt_23 [.tmp 28] [.slot 28 (L 1 I v5)] [v5] lV ⟨.slot _ _,trivial⟩ (pkS h.1 (clean_of (cleanL (Enc.clean (f:=I)))) rfl pkN) rfl rfl) rfl) ?_
 refine dG [(18,T.same 6 []),(6,L 1 lV s1.1),(29,L 1 lV [v5])] [([(18,some (L 1 lV s1.1)),(6,some (T.same 18 []))],[(18,1),(6,1)]),([(30,some (L 1 lV v6)),(18,some T.any),(29,some T.any)],[(30,0),(18,1),(29,1)])] ⟨rfl,rfl,rfl,trivial⟩ (fun E h => IxOk.gh (Ghost.tr 18 6 _ h.1 h.2.1 (clean_of (cleanL (Enc.clean (f:=lV)))) rfl) <| IxOk.opE (x_appm (f:=lV) elt_23 hv6 rfl (keepE h.2.2.1) rfl) rfl) ?_
 refine d_as [(30,_)] ?_
 refine dNA mixedP ?_
 refine nB ?_
 refine nA ?_
 refine CW.region ?_
 refine a_mv ?_
 obtain ⟨v7,hv7,h⟩:=bd h
 refine a_add ?_
 refine a_as ?_
 refine RW.ghost (Ghost.tr 6 30 _ rfl rfl (clean_of (cleanL (Enc.clean (f:=lV)))) rfl) ?_
 refine RW.nil ?_
 exact eN h
 refine CW.exit ?_
 refine xA ?_
 exact eX h
 obtain ⟨rfl,hg⟩:=hq
 refine xB ?_
 refine nA ?_
 refine CW.ghost hg ?_
 refine sR ?_
 refine a_mv ?_
 refine a_mv ?_
 refine RW.ghost (Ghost.frzG 6 _ (t':=T.ro (lM r8)) rfl (fzO inferInstance)) ?_
 refine RW.ghost (Ghost.res 32 6 [] _ rfl rfl rfl) ?_
 obtain ⟨r9,hr9,h⟩:=bd h
 refine oP (x_callF (xs:=[.tmp 31,.tmp 32]) Tryz.call61 (t_spec_l02Reduce _ _ _ hr9) (afC rfl rfl (afC rfl rfl afN)) rfl ⟨(cleanL (fun _ => trivial)),trivial⟩ rfl rfl) ?_
 refine a_as ?_
 refine RW.ghost (Ghost.tr 4 33 _ rfl rfl (clean_of (cleanL (fun _ => trivial))) rfl) ?_
 refine rN ?_
 refine CW.ret ?_
 obtain rfl:=sI h
 exact rT
theorem t_spec_l01Zero (x0:List Int) (r:Bool) (h:f_spec_l01Zero x0 = some r):FnC Tryz.prog 93 [T.ro (lV x0)] [B r] []:=by
 refine fB Tryz.func93 (fun St W w0 v => ?_)
 refine sR ?_
 refine a_as ?_
 refine rN ?_
 refine CW.seq ?_
 refine sR ?_
 refine a_as ?_
 refine rN ?_
 refine CW.block ?_
 obtain ⟨r3,hr3,h⟩:=bd h
 refine CW.lp (s:=0) (l1_spec_l01Zero x0) (fun s1:Int => envL [(0,T.ro (lV x0)),(3,I s1)]) (fun (x:Unit ⊕ Bool) e E => match x with | (.inl r3) => e = .exit 0 ∧ Ghost ⟨St,W,w0,Tryz.f93.ntmps⟩ E (envL []) | (.inr r3) => e = .ret ∧ RetG ⟨St,W,w0,Tryz.f93.ntmps⟩ Tryz.prog Tryz.f93.results [T.ro (lV x0)] [B r3] [] .ret E) (.has ⟨rfl,rfl,trivial⟩) (fun s1 x h => ?_) hr3 (fun e E hq => ?_)
 refine CW.seq ?_
 refine sR ?_
 refine a_mv ?_
 refine a_mv ?_
 refine a_lenr ?_
 refine a_lss ?_
 refine rN ?_
 refine cn h (fun hc h => ?_) (fun hc h => ?_)
 refine CW.skip ?_
 refine nA ?_
 refine CW.seq ?_
 refine CW.block ?_
 refine sR ?_
 refine a_mv ?_
 refine a_mv ?_
 obtain ⟨v1,hv1,h⟩:=bd h
 refine a_ixr ?_
 refine a_ldr ?_
 refine a_neq ?_
 refine rN ?_
 refine cn h (fun hc h => ?_) (fun hc h => ?_)
 refine sR ?_
 refine a_as ?_
 refine rN ?_
 refine CW.ret ?_
 refine rB ?_
 refine rA ?_
 exact eX h
 refine CW.skip ?_
 refine nB ?_
 refine nA ?_
 refine CW.region ?_
 refine a_mv ?_
 obtain ⟨v2,hv2,h⟩:=bd h
 refine a_add ?_
 refine a_as ?_
 refine RW.nil ?_
 exact eN h
 refine CW.exit ?_
 refine xA ?_
 exact eX h
 rcases r3 with r3 | r3
 obtain ⟨rfl,hg⟩:=hq
 refine xB ?_
 refine nA ?_
 refine CW.ghost hg ?_
 refine sR ?_
 refine a_as ?_
 refine rN ?_
 refine CW.ret ?_
 obtain rfl:=sI h
 exact rT
 obtain ⟨rfl,hq⟩:=hq
 refine rB ?_
 refine rA ?_
 obtain rfl:=sI h
 exact hq
theorem t_spec_l02Null (x0:Int) (x1:List (List Int)) (x2:Int) (r:(List (List Int))) (h:f_spec_l02Null x0 x1 x2 = some r):FnC Tryz.prog 95 [I x0,T.ro (lM x1),I x2] [lM r] []:=by
 refine fB Tryz.func95 (fun St W w0 v => ?_)
 refine sR ?_
 refine oP (x_nil 1 rfl) ?_
 refine rN ?_
 refine sR ?_
 refine a_mv ?_
 refine a_mv ?_
 obtain ⟨r1,hr1,h⟩:=bd h
 refine oP (x_callF (xs:=[.tmp 10,.tmp 11]) Tryz.call92 (t_spec_l02Wide _ _ _ hr1) (afC rfl rfl (afC rfl rfl afN)) rfl ⟨(cleanL (fun _ => trivial)),trivial⟩ rfl rfl) ?_
 refine a_as ?_
 refine RW.ghost (Ghost.tr 7 12 _ rfl rfl (clean_of (cleanL (fun _ => trivial))) rfl) ?_
 refine rN ?_
 refine sR ?_
 refine oP (x_bs0 elt_23 rfl) ?_
 refine a_as ?_
 refine RW.ghost (Ghost.tr 8 13 _ rfl rfl (clean_of trivial) rfl) ?_
 refine rN ?_
 refine CW.seq ?_
 refine sR ?_
 refine a_as ?_
 refine rN ?_
 refine CW.block ?_
 obtain ⟨r10,hr10,h⟩:=bd h
 refine CW.lp (s:=([],0)) (l1_spec_l02Null x2 r1) (fun s1:(List (List Int)) × Int => envL [(2,I x2),(7,L 1 (Ro lV) r1),(8,L 1 lV s1.1),(9,I s1.2)]) (fun (r10:(List (List Int))) e E => e = .exit 0 ∧ Ghost ⟨St,W,w0,Tryz.f95.ntmps⟩ E (envL [(8,L 1 lV r10)])) (.has ⟨rfl,rfl,rfl,rfl,trivial⟩) (fun s1 x h => ?_) hr10 (fun e E hq => ?_)
 refine CW.seq ?_
 refine sR ?_
 refine a_mv ?_
 refine a_mv ?_
 refine a_len ?_
 refine a_lss ?_
 refine rN ?_
 refine cn h (fun hc h => ?_) (fun hc h => ?_)
 refine CW.skip ?_
 refine nA ?_
 refine CW.seq ?_
 refine CW.block ?_
 refine sR ?_
 refine a_mv ?_
 refine a_mv ?_
 obtain ⟨v2,hv2,h⟩:=bd h
 refine oP (x_ix (f:=(Ro lV)) row_23 hv2 (locA rfl rfl rfl rfl) rfl rfl) ?_
 refine oP (x_ld (var_22.h _ rfl rfl) rfl rfl (getc hv2 rfl) rfl) ?_
 obtain ⟨r3,hr3,h⟩:=bd h
 refine cA Tryz.call75 (t_spec_l02Lead _ _ hr3) ?_
 refine a_mv ?_
 refine a_geq ?_
 refine rN ?_
 refine cn h (fun hc h => ?_) (fun hc h => ?_)
 refine CW.region ?_
 refine a_mv ?_
 refine a_mv ?_
 refine a_mv ?_
 obtain ⟨v4,hv4,h⟩:=bd h
 refine oP (x_ix (f:=(Ro lV)) row_23 hv4 (locA rfl rfl rfl rfl) rfl rfl) ?_
 refine oP (x_ld (var_22.h _ rfl rfl) rfl rfl (getc hv4 rfl) rfl) ?_
 refine a_mv ?_
 obtain ⟨v5,hv5,h⟩:=bd h
 refine oP (x_slr row_22 hv5 (locB rfl rfl) (optS (sliceO_lo hv5) rfl) optN rfl) ?_
 obtain ⟨r6,hr6,h⟩:=bd h
 refine cA Tryz.call76 (t_spec_l01Own _ _ hr6) ?_
 refine oP (x_bs elt_23 [.tmp 34] [.slot 34 (L 1 I r6)] [r6] lV ⟨.slot _ _,trivial⟩ (pkS rfl (clean_of (cleanL (Enc.clean (f:=I)))) rfl pkN) rfl rfl) ?_
 refine RW.ghost (Ghost.tr 27 8 _ rfl rfl (clean_of (cleanL (Enc.clean (f:=lV)))) rfl) ?_
 obtain ⟨v7,hv7,h⟩:=bd h
 refine oP (x_appm (f:=lV) elt_23 hv7 rfl rfl rfl) ?_
 refine a_as ?_
 refine RW.ghost (Ghost.tr 8 36 _ rfl rfl (clean_of (cleanL (Enc.clean (f:=lV)))) rfl) ?_
 refine RW.nil ?_
 refine nB ?_
 refine nA ?_
 refine CW.region ?_
 refine a_mv ?_
 obtain ⟨v8,hv8,h⟩:=bd h
 refine a_add ?_
 refine a_as ?_
 refine RW.nil ?_
 exact eN h
 refine CW.skip ?_
 refine nB ?_
 refine nA ?_
 refine CW.region ?_
 refine a_mv ?_
 obtain ⟨v9,hv9,h⟩:=bd h
 refine a_add ?_
 refine a_as ?_
 refine RW.nil ?_
 exact eN h
 refine CW.exit ?_
 refine xA ?_
 exact eX h
 obtain ⟨rfl,hg⟩:=hq
 refine xB ?_
 refine nA ?_
 refine CW.ghost hg ?_
 refine sR ?_
 refine a_mv ?_
 refine a_as ?_
 refine RW.ghost (Ghost.tr 6 8 _ rfl rfl (clean_of (cleanL (Enc.clean (f:=lV)))) rfl) ?_
 refine rN ?_
 refine CW.ret ?_
 obtain rfl:=sI h
 exact rT
end Go.Wk

namespace Go.Wk
open Go Go.Proofs Go.Ab
set_option maxRecDepth 100000
theorem t_spec_l02Solve (x0:Int) (x1:List (List Int)) (x2:Int) (x3:List Int) (r:(List Int) × Bool) (h:f_spec_l02Solve x0 x1 x2 x3 = some r):FnC Tryz.prog 55 [I x0,T.ro (lM x1),I x2,T.ro (lV x3)] [lV r.1,B r.2] []:=by
 refine fB Tryz.func55 (fun St W w0 v => ?_)
 refine sR ?_
 refine oP (x_nil 1 rfl) ?_
 refine a_as ?_
 refine rN ?_
 refine sR ?_
 refine a_mv ?_
 refine a_mv ?_
 obtain ⟨r1,hr1,h⟩:=bd h
 refine oP (x_callF (xs:=[.tmp 15,.tmp 16]) Tryz.call92 (t_spec_l02Wide _ _ _ hr1) (afC rfl rfl (afC rfl rfl afN)) rfl ⟨(cleanL (fun _ => trivial)),trivial⟩ rfl rfl) ?_
 refine a_as ?_
 refine RW.ghost (Ghost.tr 10 17 _ rfl rfl (clean_of (cleanL (fun _ => trivial))) rfl) ?_
 refine rN ?_
 refine sR ?_
 refine a_mv ?_
 obtain ⟨r2,hr2,h⟩:=bd h
 refine cA Tryz.call76 (t_spec_l01Own _ _ hr2) ?_
 refine a_mv ?_
 refine a_lenr ?_
 obtain ⟨v3,hv3,h⟩:=bd h
 refine oP (x_appz (f:=I) (z:=0) elt_22 Tryz.underlying3 (rfl) hv3 rfl rfl rfl) ?_
 refine a_as ?_
 refine RW.ghost (Ghost.tr 11 22 _ rfl rfl (clean_of (cleanL (Enc.clean (f:=I)))) rfl) ?_
 refine rN ?_
 refine sR ?_
 refine oP (x_bs0 elt_23 rfl) ?_
 refine a_as ?_
 refine RW.ghost (Ghost.tr 12 23 _ rfl rfl (clean_of trivial) rfl) ?_
 refine rN ?_
 refine CW.seq ?_
 refine sR ?_
 refine a_as ?_
 refine rN ?_
 refine CW.block ?_
 obtain ⟨r10,hr10,h⟩:=bd h
 refine CW.lp (s:=([],0)) (l1_spec_l02Solve x2 r1) (fun s1:(List (List Int)) × Int => envL [(0,I x0),(1,T.ro (lM x1)),(2,I x2),(10,L 1 (Ro lV) r1),(11,L 1 I v3),(12,L 1 (Ro lV) s1.1),(13,I s1.2)]) (fun (r10:(List (List Int))) e E => e = .exit 0 ∧ Ghost ⟨St,W,w0,Tryz.f55.ntmps⟩ E (envL [(0,I x0),(1,T.ro (lM x1)),(2,I x2),(11,L 1 I v3),(12,L 1 (Ro lV) r10)])) (.has ⟨rfl,rfl,rfl,rfl,rfl,rfl,rfl,trivial⟩) (fun s1 x h => ?_) hr10 (fun e E hq => ?_)
 refine CW.seq ?_
 refine sR ?_
 refine a_mv ?_
 refine a_mv ?_
 refine a_len ?_
 refine a_lss ?_
 refine rN ?_
 refine cn h (fun hc h => ?_) (fun hc h => ?_)
 refine CW.skip ?_
 refine nA ?_
 refine CW.seq ?_
 refine CW.block ?_
 refine sR ?_
 refine a_mv ?_
 refine a_mv ?_
 obtain ⟨v4,hv4,h⟩:=bd h
 refine oP (x_ix (f:=(Ro lV)) row_23 hv4 (locA rfl rfl rfl rfl) rfl rfl) ?_
 refine oP (x_ld (var_22.h _ rfl rfl) rfl rfl (getc hv4 rfl) rfl) ?_
 obtain ⟨r5,hr5,h⟩:=bd h
 refine cA Tryz.call75 (t_spec_l02Lead _ _ hr5) ?_
 refine a_mv ?_
 refine a_lss ?_
 refine rN ?_
 refine cn h (fun hc h => ?_) (fun hc h => ?_)
 refine CW.region ?_
 refine a_mv ?_
 refine a_mv ?_
 refine a_mv ?_
 obtain ⟨v6,hv6,h⟩:=bd h
 refine oP (x_ix (f:=(Ro lV)) row_23 hv6 (locA rfl rfl rfl rfl) rfl rfl) ?_
 refine oP (x_ld (var_22.h _ rfl rfl) rfl rfl (getc hv6 rfl) rfl) ?_
 refine oP (x_bs elt_23 [.tmp 41] [.slot 41 (T.ro (lV v6))] [v6] (Ro lV) ⟨.slot _ _,trivial⟩ (pkS rfl (clean_of trivial) rfl pkN) rfl rfl) ?_
 refine RW.ghost (Ghost.tr 37 12 _ rfl rfl (clean_of (cleanL (fun _ => trivial))) rfl) ?_
 obtain ⟨v7,hv7,h⟩:=bd h
 refine oP (x_appc (f:=(Ro lV)) elt_23 (fun _ => rfl) hv7 rfl (locB rfl rfl) rfl) ?_
 refine a_as ?_
 refine RW.ghost (Ghost.tr 12 43 _ rfl rfl (clean_of (cleanL (fun _ => trivial))) rfl) ?_
 refine RW.nil ?_
 refine nB ?_
 refine nA ?_
 refine CW.region ?_
 refine a_mv ?_
 obtain ⟨v8,hv8,h⟩:=bd h
 refine a_add ?_
 refine a_as ?_
 refine RW.nil ?_
 exact eN h
 refine CW.skip ?_
 refine nB ?_
 refine nA ?_
 refine CW.region ?_
 refine a_mv ?_
 obtain ⟨v9,hv9,h⟩:=bd h
 refine a_add ?_
 refine a_as ?_
 refine RW.nil ?_
 exact eN h
 refine CW.exit ?_
 refine xA ?_
 exact eX h
 obtain ⟨rfl,hg⟩:=hq
 refine xB ?_
 refine nA ?_
 refine CW.ghost hg ?_
 refine sR ?_
 refine a_mv ?_
 refine a_mv ?_
 refine a_mv ?_
 obtain ⟨r11,hr11,h⟩:=bd h
 refine cA Tryz.call43 (t_spec_l02Clear _ _ _ _ hr11) ?_
 refine a_as ?_
 refine RW.ghost (Ghost.tr 11 47 _ rfl rfl (clean_of (cleanL (Enc.clean (f:=I)))) rfl) ?_
 refine rN ?_
 refine CW.seq ?_
 refine sR ?_
 refine a_mv ?_
 refine a_mv ?_
 obtain ⟨v12,hv12,h⟩:=bd h
 refine oP (x_slo row_22 hv12 (locA rfl rfl rfl rfl) optN0 (optS (sliceO_hi hv12) rfl) rfl) ?_
 obtain ⟨r13,hr13,h⟩:=bd h
 refine oP (x_call (xs:=[.tmp 50]) Tryz.call93 (t_spec_l01Zero _ _ hr13) ⟨(agC _ rfl (cloSubV rfl rfl inferInstance hv12) rfl),trivial⟩ (resC (f:=B) inferInstance resN) rfl) ?_
 refine a_not ?_
 refine rN ?_
 refine cn h (fun hc h => ?_) (fun hc h => ?_)
 refine sR ?_
 refine oP (x_nil 1 rfl) ?_
 refine a_as ?_
 refine rN ?_
 refine CW.ret ?_
 refine rA ?_
 obtain rfl:=sI h
 exact rT
 refine CW.skip ?_
 refine nA ?_
 refine sR ?_
 refine a_mv ?_
 refine a_mv ?_
 obtain ⟨v14,hv14,h⟩:=bd h
 refine a_sub ?_
 refine a_mv ?_
 refine a_mv ?_
 obtain ⟨v15,hv15,h⟩:=bd h
 refine oP (x_slo row_22 hv15 (locA rfl rfl rfl rfl) (optS (sliceO_lo hv15) rfl) optN rfl) ?_
 obtain ⟨r16,hr16,h⟩:=bd h
 refine oP (x_call (xs:=[.tmp 53,.tmp 55,.tmp 58]) Tryz.call94 (t_spec_l02Scale _ _ _ _ hr16) ⟨(agC _ rfl rfl rfl),⟨(agC _ rfl rfl rfl),⟨(agC _ rfl (cloSubV rfl rfl inferInstance hv15) rfl),trivial⟩⟩⟩ (resC (f:=lV) inferInstance resN) rfl) ?_
 refine a_as ?_
 refine RW.ghost (Ghost.tr 14 59 _ rfl rfl (clean_of (cleanL (Enc.clean (f:=I)))) rfl) ?_
 refine rN ?_
 refine sR ?_
 refine a_mv ?_
 refine a_mv ?_
 refine a_mv ?_
 refine a_mv ?_
 obtain ⟨r17,hr17,h⟩:=bd h
 refine cA Tryz.call95 (t_spec_l02Null _ _ _ _ hr17) ?_
 refine a_mv ?_
 obtain ⟨r18,hr18,h⟩:=bd h
 refine cA Tryz.call43 (t_spec_l02Clear _ _ _ _ hr18) ?_
 refine a_as ?_
 refine a_as ?_
 refine RW.ghost (Ghost.tr 8 66 _ rfl rfl (clean_of (cleanL (Enc.clean (f:=I)))) rfl) ?_
 refine rN ?_
 refine CW.ret ?_
 obtain rfl:=sI h
 exact rT
theorem t_spec_RestrictModule (x0:SPresentation) (x1:SModule) (x2:SMatrix) (r:SModule × Int) (h:f_spec_RestrictModule x0 x1 x2 = some r):FnC Tryz.prog 22 [qPresentation x0,qModule x1,qMatrix x2] [eSModule r.1,I r.2] []:=by
 refine fB Tryz.func22 (fun St W w0 v => ?_)
 refine sR ?_
 refine a_box ?_
 refine a_box ?_
 refine a_box ?_
 refine a_alloc ?_
 refine a_as ?_
 refine rN ?_
 refine CW.seq ?_
 refine sR ?_
 refine a_ldp ?_
 refine a_ldp ?_
 obtain ⟨r1,hr1,h⟩:=bd h
 refine cA Tryz.call38 (t_spec_IsModule _ _ _ hr1) ?_
 refine a_not ?_
 refine a_mv ?_
 refine RW.cases 18 _ rfl (fun hc => ?_) (fun hc => ?_)
 have h:=cT hc h
 refine sk2 ?_
 refine sk2 ?_
 refine sk2 ?_
 refine sk2 ?_
 refine a_pick ?_
 refine rN ?_
 refine CW.condT rfl ?_
 refine sR ?_
 refine oP (x_build bld_34 [] [] [.zero (I 0),.zero (I 0),.zero (L 1 lM [])] (pkZ rfl (pkZ rfl (pkZ rfl pkN))) bqN rfl) ?_
 refine oP (x_stp inf_34 rfl (locB rfl rfl) rfl rfl rfl rfl (clean_of (cleanA ⟨(Enc.clean (f:=I) _),(Enc.clean (f:=I) _),trivial,trivial⟩)) rfl) ?_
 refine a_as ?_
 refine rN ?_
 refine CW.ret ?_
 refine rA ?_
 obtain rfl:=sI h
 exact ⟨_,Ghost.refl,⟨.inl rfl,[(6,[0],T.agg [I 0,I 0,L 1 lM []]),(7,[],I 1)],⟨⟨rfl,rfl,rfl,(var_34.h _ rfl rfl).h⟩,⟨rfl,rfl,rfl,rfl⟩,trivial⟩,rfl,(by simp),(by simp),trivial⟩⟩
 have h:=cF hc h
 refine g_ldp ?_
 refine g_ldp ?_
 obtain ⟨r2,hr2,h⟩:=bd h
 refine RW.cons (IxOk.guard 4 false 18 (x_call (xs:=[.tmp 19,.tmp 20]) Tryz.call39 (t_spec_l21Space _ _ _ hr2) ⟨(agC _ rfl rfl rfl),⟨(agC _ rfl rfl rfl),trivial⟩⟩ (resC (f:=B) inferInstance resN) rfl)) ?_
 refine g_not ?_
 refine a_pick ?_
 refine rN ?_
 refine cn h (fun hc h => ?_) (fun hc h => ?_)
 refine sR ?_
 refine oP (x_build bld_34 [] [] [.zero (I 0),.zero (I 0),.zero (L 1 lM [])] (pkZ rfl (pkZ rfl (pkZ rfl pkN))) bqN rfl) ?_
 refine oP (x_stp inf_34 rfl (locB rfl rfl) rfl rfl rfl rfl (clean_of (cleanA ⟨(Enc.clean (f:=I) _),(Enc.clean (f:=I) _),trivial,trivial⟩)) rfl) ?_
 refine a_as ?_
 refine rN ?_
 refine CW.ret ?_
 refine rA ?_
 obtain rfl:=sI h
 exact ⟨_,Ghost.refl,⟨.inl rfl,[(6,[0],T.agg [I 0,I 0,L 1 lM []]),(7,[],I 1)],⟨⟨rfl,rfl,rfl,(var_34.h _ rfl rfl).h⟩,⟨rfl,rfl,rfl,rfl⟩,trivial⟩,rfl,(by simp),(by simp),trivial⟩⟩
 refine CW.skip ?_
 refine nA ?_
 refine CW.seq ?_
 refine sR ?_
 refine a_ldp ?_
 refine a_fa ?_
 refine a_ld ?_
 obtain ⟨r3,hr3,h⟩:=bd h
 refine cA Tryz.call40 (t_spec_l21Sub _ _ _ hr3) ?_
 refine a_not ?_
 refine a_mv ?_
 refine RW.cases 30 _ rfl (fun hc => ?_) (fun hc => ?_)
 have h:=cT hc h
 refine sk2 ?_
 refine sk2 ?_
 refine sk2 ?_
 refine sk2 ?_
 refine a_pick ?_
 refine rN ?_
 refine CW.condT rfl ?_
 refine CW.seq ?_
 refine CW.to [(6,T.ptr (T.agg [I 0,I 0,L 1 lM []]))] ⟨rfl,trivial⟩ ?_
 refine CW.region ?_
 refine oP (x_build bld_34 [] [] [.zero (I 0),.zero (I 0),.zero (L 1 lM [])] (pkZ rfl (pkZ rfl (pkZ rfl pkN))) bqN rfl) ?_
 refine oP (x_stp inf_34 rfl (locB rfl rfl) rfl rfl rfl rfl (clean_of (cleanA ⟨(Enc.clean (f:=I) _),(Enc.clean (f:=I) _),trivial,trivial⟩)) rfl) ?_
 refine a_as ?_
 refine rN ?_
 refine CW.ret ?_
 refine rA ?_
 obtain rfl:=sI h
 exact ⟨_,Ghost.refl,⟨.inl rfl,[(6,[0],T.agg [I 0,I 0,L 1 lM []]),(7,[],I 5)],⟨⟨rfl,rfl,rfl,(var_34.h _ rfl rfl).h⟩,⟨rfl,rfl,rfl,rfl⟩,trivial⟩,rfl,(by simp),(by simp),trivial⟩⟩
 have h:=cF hc h
 refine g_fa ?_
 refine g_ld ?_
 refine g_lenr ?_
 refine g_eql ?_
 refine a_pick ?_
 refine rN ?_
 refine cn h (fun hc h => ?_) (fun hc h => ?_)
 refine CW.seq ?_
 refine CW.to [(6,T.ptr (T.agg [I 0,I 0,L 1 lM []]))] ⟨rfl,trivial⟩ ?_
 refine CW.region ?_
 refine oP (x_build bld_34 [] [] [.zero (I 0),.zero (I 0),.zero (L 1 lM [])] (pkZ rfl (pkZ rfl (pkZ rfl pkN))) bqN rfl) ?_
 refine oP (x_stp inf_34 rfl (locB rfl rfl) rfl rfl rfl rfl (clean_of (cleanA ⟨(Enc.clean (f:=I) _),(Enc.clean (f:=I) _),trivial,trivial⟩)) rfl) ?_
 refine a_as ?_
 refine rN ?_
 refine CW.ret ?_
 refine rA ?_
 obtain rfl:=sI h
 exact ⟨_,Ghost.refl,⟨.inl rfl,[(6,[0],T.agg [I 0,I 0,L 1 lM []]),(7,[],I 5)],⟨⟨rfl,rfl,rfl,(var_34.h _ rfl rfl).h⟩,⟨rfl,rfl,rfl,rfl⟩,trivial⟩,rfl,(by simp),(by simp),trivial⟩⟩
 refine CW.skip ?_
 refine nA ?_
 refine CW.seq ?_
 refine CW.to [(4,T.ptr (qModule x1)),(5,T.ptr (qMatrix x2)),(6,T.ptr (T.agg [I 0,I 0,L 1 lM []]))] ⟨rfl,rfl,rfl,trivial⟩ ?_
 refine CW.region ?_
 refine a_fa ?_
 refine a_ld ?_
 refine a_fa ?_
 refine a_ld ?_
 refine a_lenr ?_
 refine oP (x_bs0 elt_24 rfl) ?_
 refine oP (x_build bld_34 [(0,.tmp 38),(1,.tmp 41),(2,.tmp 42)] [(0,.slot 38 (I x1.Prime)),(1,.slot 41 (I (x2.Rows.length:Int))),(2,.slot 42 (L 1 I []))] [.slot 38 (I x1.Prime),.slot 41 (I (x2.Rows.length:Int)),.slot 42 (L 1 I [])] (pkS rfl (clean_of (Enc.clean (f:=I) _)) rfl (pkS rfl (clean_of (Enc.clean (f:=I) _)) rfl (pkS rfl (clean_of trivial) rfl pkN))) (bqC (.slot _ _) (bqC (.slot _ _) (bqC (.slot _ _) bqN))) rfl) ?_
 refine a_alloc ?_
 refine oP (x_stp inf_34 rfl (locB rfl rfl) rfl rfl rfl rfl (clean_of (cleanA ⟨(Enc.clean (f:=I) _),(Enc.clean (f:=I) _),trivial,trivial⟩)) rfl) ?_
 refine rN ?_
 refine CW.seq ?_
 refine sR ?_
 refine a_as ?_
 refine rN ?_
 refine CW.block ?_
 obtain ⟨r13,hr13,h⟩:=bd h
 refine CW.lp (s:=([],0)) (l2_spec_RestrictModule x1 x2) (fun s5:(List (List (List Int))) × Int => envL [(4,T.ptr (qModule x1)),(5,T.ptr (qMatrix x2)),(6,T.ptr (T.agg [I 0,I 0,L 1 lM []])),(8,T.ptr (T.agg [I x1.Prime,I (x2.Rows.length:Int),L 1 lM s5.1])),(9,I s5.2)]) (fun (r13:(List (List (List Int)))) e E => e = .exit 0 ∧ Ghost ⟨St,W,w0,Tryz.f22.ntmps⟩ E (envL [(6,T.ptr (T.agg [I 0,I 0,L 1 lM []])),(8,T.ptr (T.agg [I x1.Prime,I (x2.Rows.length:Int),L 1 lM r13]))])) (.has ⟨rfl,rfl,rfl,rfl,rfl,trivial⟩) (fun s5 x h => ?_) hr13 (fun e E hq => ?_)
 refine CW.seq ?_
 refine sR ?_
 refine a_mv ?_
 refine a_fa ?_
 refine a_ld ?_
 refine a_lenr ?_
 refine a_lss ?_
 refine rN ?_
 refine cn h (fun hc h => ?_) (fun hc h => ?_)
 refine CW.skip ?_
 refine nA ?_
 refine CW.seq ?_
 refine CW.block ?_
 refine sR ?_
 refine oP (x_bs0 elt_23 rfl) ?_
 refine a_as ?_
 refine RW.ghost (Ghost.tr 10 51 _ rfl rfl (clean_of trivial) rfl) ?_
 refine rN ?_
 refine CW.seq ?_
 refine sR ?_
 refine a_as ?_
 refine rN ?_
 refine CW.block ?_
 obtain ⟨r10,hr10,h⟩:=bd h
 refine CW.lp (s:=([],0)) (l1_spec_RestrictModule x1 x2 s5) (fun s6:(List (List Int)) × Int => envL [(4,T.ptr (qModule x1)),(5,T.ptr (qMatrix x2)),(6,T.ptr (T.agg [I 0,I 0,L 1 lM []])),(8,T.ptr (T.agg [I x1.Prime,I (x2.Rows.length:Int),L 1 lM s5.1])),(9,I s5.2),(10,L 1 lV s6.1),(11,I s6.2)]) (fun (r10:(List (List Int))) e E => e = .exit 2 ∧ Ghost ⟨St,W,w0,Tryz.f22.ntmps⟩ E (envL [(4,T.ptr (qModule x1)),(5,T.ptr (qMatrix x2)),(6,T.ptr (T.agg [I 0,I 0,L 1 lM []])),(8,T.ptr (T.agg [I x1.Prime,I (x2.Rows.length:Int),L 1 lM s5.1])),(9,I s5.2),(10,L 1 lV r10)])) (.has ⟨rfl,rfl,rfl,rfl,rfl,rfl,rfl,trivial⟩) (fun s6 x h => ?_) hr10 (fun e E hq => ?_)
 refine CW.seq ?_
 refine sR ?_
 refine a_mv ?_
 refine a_fa ?_
 refine a_ld ?_
 refine a_lenr ?_
 refine a_lss ?_
 refine rN ?_
 refine cn h (fun hc h => ?_) (fun hc h => ?_)
 refine CW.skip ?_
 refine nA ?_
 refine CW.seq ?_
 refine CW.block ?_
 refine CW.seq ?_
 obtain ⟨v4,hv4,h⟩:=bd h
 obtain ⟨v5,hv5,h⟩:=bd h
 obtain ⟨r6,hr6,h⟩:=bd h
 obtain ⟨r7,hr7,h⟩:=bd h
 refine CW.dk ?_
 refine d_fa [(4,_)] ?_
 refine d_ld [(60,_),(4,_)] ?_
 refine d_fa [(5,_)] ?_
 refine d_ld [(62,_),(5,_)] ?_
 refine d_fa [(4,_)] ?_
 refine d_ld [(64,_),(4,_)] ?_
 refine d_fa [(4,_)] ?_
 refine d_ld [(66,_),(4,_)] ?_
 refine d_fa [(5,_)] ?_
 refine d_ld [(68,_),(5,_)] ?_
 refine d_mv [(11,_)] ?_
 refine d_ixr [(69,_),(70,_)] ?_
 refine d_ldr [(71,_)] ?_
 refine d_fa [(4,_)] ?_
 refine d_ld [(73,_),(4,_)] ?_
 refine d_mv [(9,_)] ?_
 refine d_ixr [(74,_),(75,_)] ?_
 refine d_ldr [(76,_)] ?_
 refine d_fa [(4,_)] ?_
 refine d_ld [(78,_),(4,_)] ?_
 refine dC [(67,_),(72,_),(77,_),(79,_)] Tryz.call56 (t_spec_l02Times _ _ _ _ _ hr6) ?_
 refine dC [(61,_),(63,_),(65,_),(80,_)] Tryz.call55 (t_spec_l02Solve _ _ _ _ _ hr7) ?_
 refine d_mvT [(81,_)] ?_
 refine d_ext [(59,_)] ?_
 refine d_ext [(59,_)] ?_
 refine d_as [(82,_)] ?_
 refine d_as [(83,_)] ?_
 refine dN ([] :: [0] :: [] :: [2] :: [] :: [4] :: [] :: [6] :: [] :: [8] :: [] :: [8,9,10] :: [8,9,10,11] :: [] :: [13] :: [] :: [13,14,15] :: [13,14,15,16] :: [] :: [18] :: [6,7,8,9,10,11,12,13,14,15,16,17,18,19] :: [0,1,2,3,4,5,6,7,8,9,10,11,12,13,14,15,16,17,18,19,20] :: [0,1,2,3,4,5,6,7,8,9,10,11,12,13,14,15,16,17,18,19,20,21] :: [0,1,2,3,4,5,6,7,8,9,10,11,12,13,14,15,16,17,18,19,20,21,22] :: [0,1,2,3,4,5,6,7,8,9,10,11,12,13,14,15,16,17,18,19,20,21,22] :: [0,1,2,3,4,5,6,7,8,9,10,11,12,13,14,15,16,17,18,19,20,21,22,23] :: [0,1,2,3,4,5,6,7,8,9,10,11,12,13,14,15,16,17,18,19,20,21,22,23,24,25] :: []) mixedP ?_
 refine nA ?_
 refine CW.ghost (Ghost.trq 12 81 [0] rfl rfl rfl (clean_of (cleanL (Enc.clean (f:=I)))) rfl) ?_
 refine CW.to [(4,T.ptr (qModule x1)),(5,T.ptr (qMatrix x2)),(6,T.ptr (T.agg [I 0,I 0,L 1 lM []])),(8,T.ptr (T.agg [I x1.Prime,I (x2.Rows.length:Int),L 1 lM s5.1])),(9,I s5.2),(10,L 1 lV s6.1),(11,I s6.2),(12,L 1 I r7.1)] ⟨rfl,rfl,rfl,rfl,rfl,rfl,rfl,rfl,trivial⟩ ?_
 refine CW.region ?_
 refine a_mv ?_
 refine a_mv ?_
 refine RW.ghost (Ghost.tr 85 12 _ rfl rfl (clean_of (cleanL (Enc.clean (f:=I)))) rfl) ?_
 refine oP (x_bs elt_23 [.tmp 85] [.slot 85 (L 1 I r7.1)] [r7.1] lV ⟨.slot _ _,trivial⟩ (pkS rfl (clean_of (cleanL (Enc.clean (f:=I)))) rfl pkN) rfl rfl) ?_
 refine RW.ghost (Ghost.tr 84 10 _ rfl rfl (clean_of (cleanL (Enc.clean (f:=lV)))) rfl) ?_
 obtain ⟨v8,hv8,h⟩:=bd h
 refine oP (x_appm (f:=lV) elt_23 hv8 rfl rfl rfl) ?_
 refine a_as ?_
 refine RW.ghost (Ghost.tr 10 87 _ rfl rfl (clean_of (cleanL (Enc.clean (f:=lV)))) rfl) ?_
 refine RW.nil ?_
 refine nB ?_
 refine nA ?_
 refine CW.region ?_
 refine a_mv ?_
 obtain ⟨v9,hv9,h⟩:=bd h
 refine a_add ?_
 refine a_as ?_
 refine RW.nil ?_
 exact eN h
 refine CW.exit ?_
 refine xA ?_
 exact eX h
 obtain ⟨rfl,hg⟩:=hq
 refine xB ?_
 refine nA ?_
 refine CW.ghost hg ?_
 refine CW.region ?_
 refine a_fa ?_
 refine a_ld ?_
 refine a_mv ?_
 refine RW.ghost (Ghost.tr 90 10 _ rfl rfl (clean_of (cleanL (Enc.clean (f:=lV)))) rfl) ?_
 refine oP (x_bs elt_24 [.tmp 90] [.slot 90 (L 1 lV r10)] [r10] lM ⟨.slot _ _,trivial⟩ (pkS rfl (clean_of (cleanL (Enc.clean (f:=lV)))) rfl pkN) rfl rfl) ?_
 refine RW.ghost (Ghost.trq 89 8 [2,0] rfl rfl rfl (clean_of (cleanL (Enc.clean (f:=lM)))) rfl) ?_
 obtain ⟨v11,hv11,h⟩:=bd h
 refine oP (x_appm (f:=lM) elt_24 hv11 rfl rfl rfl) ?_
 refine a_fa ?_
 refine oP (x_st inf_24 rfl rfl rfl rfl rfl rfl (clean_of (cleanL (Enc.clean (f:=lM)))) rfl) ?_
 refine RW.nil ?_
 refine nB ?_
 refine nA ?_
 refine CW.region ?_
 refine a_mv ?_
 obtain ⟨v12,hv12,h⟩:=bd h
 refine a_add ?_
 refine a_as ?_
 refine RW.nil ?_
 exact eN h
 refine CW.exit ?_
 refine xA ?_
 exact eX h
 obtain ⟨rfl,hg⟩:=hq
 refine xB ?_
 refine nA ?_
 refine CW.ghost hg ?_
 refine sR ?_
 refine a_ldp ?_
 refine RW.ghost (Ghost.trf 94 [2] 8 [2,0] _ _ rfl rfl rfl rfl rfl (clean_of (cleanL (Enc.clean (f:=lM)))) rfl) ?_
 refine oP (x_stp inf_34 rfl (locB rfl rfl) rfl rfl rfl rfl (clean_of (cleanA ⟨(Enc.clean (f:=I) _),(Enc.clean (f:=I) _),(cleanL (Enc.clean (f:=lM))),trivial⟩)) rfl) ?_
 refine a_as ?_
 refine rN ?_
 refine CW.ret ?_
 obtain rfl:=sI h
 exact ⟨_,Ghost.refl,⟨.inl rfl,[(6,[0],T.agg [I x1.Prime,I (x2.Rows.length:Int),L 1 lM r13]),(7,[],I 0)],⟨⟨rfl,rfl,rfl,(var_34.h _ rfl rfl).h⟩,⟨rfl,rfl,rfl,rfl⟩,trivial⟩,rfl,(by simp),(by simp),trivial⟩⟩
theorem t_impl_RestrictModule (x0:SPresentation) (x1:SModule) (x2:SMatrix) (r:SModule × Int) (h:f_impl_RestrictModule x0 x1 x2 = some r):FnC Tryz.prog 23 [qPresentation x0,qModule x1,qMatrix x2] [eSModule r.1,I r.2] []:=by
 refine fB Tryz.func23 (fun St W w0 v => ?_)
 refine sR ?_
 refine a_box ?_
 refine a_box ?_
 refine a_box ?_
 refine a_alloc ?_
 refine a_as ?_
 refine rN ?_
 refine CW.seq ?_
 refine sR ?_
 obtain ⟨r1,hr1,h⟩:=bd h
 refine oP (x_call (xs:=[.tmp 3,.tmp 4]) Tryz.call46 (t_impl_isModule _ _ _ hr1) ⟨(agC _ rfl (cloP rfl) rfl),⟨(agC _ rfl (cloP rfl) rfl),trivial⟩⟩ (resC (f:=B) inferInstance resN) rfl) ?_
 refine a_not ?_
 refine a_mv ?_
 refine RW.cases 18 _ rfl (fun hc => ?_) (fun hc => ?_)
 have h:=cT hc h
 refine sk2 ?_
 refine sk2 ?_
 refine sk2 ?_
 refine a_pick ?_
 refine rN ?_
 refine CW.condT rfl ?_
 refine sR ?_
 refine oP (x_build bld_34 [] [] [.zero (I 0),.zero (I 0),.zero (L 1 lM [])] (pkZ rfl (pkZ rfl (pkZ rfl pkN))) bqN rfl) ?_
 refine oP (x_stp inf_34 rfl (locB rfl rfl) rfl rfl rfl rfl (clean_of (cleanA ⟨(Enc.clean (f:=I) _),(Enc.clean (f:=I) _),trivial,trivial⟩)) rfl) ?_
 refine a_as ?_
 refine rN ?_
 refine CW.ret ?_
 refine rA ?_
 obtain rfl:=sI h
 exact ⟨_,Ghost.refl,⟨.inl rfl,[(6,[0],T.agg [I 0,I 0,L 1 lM []]),(7,[],I 1)],⟨⟨rfl,rfl,rfl,(var_34.h _ rfl rfl).h⟩,⟨rfl,rfl,rfl,rfl⟩,trivial⟩,rfl,(by simp),(by simp),trivial⟩⟩
 have h:=cF hc h
 refine g_ldp ?_
 obtain ⟨r2,hr2,h⟩:=bd h
 refine RW.cons (IxOk.guard 2 false 18 (x_call (xs:=[.tmp 4,.tmp 19]) Tryz.call47 (t_impl_fitsModule _ _ _ hr2) ⟨(agC _ rfl (cloP rfl) rfl),⟨(agC _ rfl rfl rfl),trivial⟩⟩ (resC (f:=B) inferInstance resN) rfl)) ?_
 refine g_not ?_
 refine a_pick ?_
 refine rN ?_
 refine cn h (fun hc h => ?_) (fun hc h => ?_)
 refine sR ?_
 refine oP (x_build bld_34 [] [] [.zero (I 0),.zero (I 0),.zero (L 1 lM [])] (pkZ rfl (pkZ rfl (pkZ rfl pkN))) bqN rfl) ?_
 refine oP (x_stp inf_34 rfl (locB rfl rfl) rfl rfl rfl rfl (clean_of (cleanA ⟨(Enc.clean (f:=I) _),(Enc.clean (f:=I) _),trivial,trivial⟩)) rfl) ?_
 refine a_as ?_
 refine rN ?_
 refine CW.ret ?_
 refine rA ?_
 obtain rfl:=sI h
 exact ⟨_,Ghost.refl,⟨.inl rfl,[(6,[0],T.agg [I 0,I 0,L 1 lM []]),(7,[],I 1)],⟨⟨rfl,rfl,rfl,(var_34.h _ rfl rfl).h⟩,⟨rfl,rfl,rfl,rfl⟩,trivial⟩,rfl,(by simp),(by simp),trivial⟩⟩
 refine CW.skip ?_
 refine nA ?_
 refine CW.seq ?_
 refine sR ?_
 refine a_fa ?_
 refine a_ld ?_
 refine a_lenr ?_
 refine a_eql ?_
 refine a_mv ?_
 refine RW.cases 28 _ rfl (fun hc => ?_) (fun hc => ?_)
 have h:=cT hc h
 refine sk2 ?_
 refine sk2 ?_
 refine sk2 ?_
 refine a_pick ?_
 refine rN ?_
 refine CW.condT rfl ?_
 refine sR ?_
 refine oP (x_build bld_34 [] [] [.zero (I 0),.zero (I 0),.zero (L 1 lM [])] (pkZ rfl (pkZ rfl (pkZ rfl pkN))) bqN rfl) ?_
 refine oP (x_stp inf_34 rfl (locB rfl rfl) rfl rfl rfl rfl (clean_of (cleanA ⟨(Enc.clean (f:=I) _),(Enc.clean (f:=I) _),trivial,trivial⟩)) rfl) ?_
 refine a_as ?_
 refine rN ?_
 refine CW.ret ?_
 refine rA ?_
 obtain rfl:=sI h
 exact ⟨_,Ghost.refl,⟨.inl rfl,[(6,[0],T.agg [I 0,I 0,L 1 lM []]),(7,[],I 5)],⟨⟨rfl,rfl,rfl,(var_34.h _ rfl rfl).h⟩,⟨rfl,rfl,rfl,rfl⟩,trivial⟩,rfl,(by simp),(by simp),trivial⟩⟩
 have h:=cF hc h
 refine g_ldp ?_
 obtain ⟨r3,hr3,h⟩:=bd h
 refine RW.cons (IxOk.guard 4 false 28 (x_call (xs:=[.tmp 4,.tmp 29]) Tryz.call48 (t_impl_isSubmodule _ _ _ hr3) ⟨(agC _ rfl (cloP rfl) rfl),⟨(agC _ rfl rfl rfl),trivial⟩⟩ (resC (f:=B) inferInstance resN) rfl)) ?_
 refine g_not ?_
 refine a_pick ?_
 refine rN ?_
 refine cn h (fun hc h => ?_) (fun hc h => ?_)
 refine sR ?_
 refine oP (x_build bld_34 [] [] [.zero (I 0),.zero (I 0),.zero (L 1 lM [])] (pkZ rfl (pkZ rfl (pkZ rfl pkN))) bqN rfl) ?_
 refine oP (x_stp inf_34 rfl (locB rfl rfl) rfl rfl rfl rfl (clean_of (cleanA ⟨(Enc.clean (f:=I) _),(Enc.clean (f:=I) _),trivial,trivial⟩)) rfl) ?_
 refine a_as ?_
 refine rN ?_
 refine CW.ret ?_
 refine rA ?_
 obtain rfl:=sI h
 exact ⟨_,Ghost.refl,⟨.inl rfl,[(6,[0],T.agg [I 0,I 0,L 1 lM []]),(7,[],I 5)],⟨⟨rfl,rfl,rfl,(var_34.h _ rfl rfl).h⟩,⟨rfl,rfl,rfl,rfl⟩,trivial⟩,rfl,(by simp),(by simp),trivial⟩⟩
 refine CW.skip ?_
 refine nA ?_
 refine sR ?_
 refine a_fa ?_
 refine a_ld ?_
 refine a_fa ?_
 refine a_ld ?_
 refine a_lenr ?_
 refine oP (x_build bld_34 [(0,.tmp 35),(1,.tmp 38)] [(0,.slot 35 (I x1.Prime)),(1,.slot 38 (I (x2.Rows.length:Int)))] [.slot 35 (I x1.Prime),.slot 38 (I (x2.Rows.length:Int)),.zero (L 1 lM [])] (pkS rfl (clean_of (Enc.clean (f:=I) _)) rfl (pkS rfl (clean_of (Enc.clean (f:=I) _)) rfl (pkZ rfl pkN))) (bqC (.slot _ _) (bqC (.slot _ _) bqN)) rfl) ?_
 refine a_alloc ?_
 refine oP (x_stp inf_34 rfl (locB rfl rfl) rfl rfl rfl rfl (clean_of (cleanA ⟨(Enc.clean (f:=I) _),(Enc.clean (f:=I) _),trivial,trivial⟩)) rfl) ?_
 refine rN ?_
 refine CW.seq ?_
 refine CW.seq ?_
 refine CW.to [(3,T.ptr (qPresentation x0)),(4,T.ptr (qModule x1)),(5,T.ptr (qMatrix x2)),(6,T.ptr (T.agg [I 0,I 0,L 1 lM []])),(8,T.ptr (T.agg [I x1.Prime,I (x2.Rows.length:Int),L 1 lM []]))] ⟨rfl,rfl,rfl,rfl,rfl,trivial⟩ ?_
 refine CW.region ?_
 refine a_fa ?_
 refine a_ld ?_
 refine a_lenr ?_
 refine a_mv ?_
 refine rN ?_
 refine CW.block ?_
 refine CW.ghost (Ghost.frzG 4 _ (t':=T.ro ((Pt eSModule) x1)) rfl (fzP rfl)) ?_
 obtain ⟨r18,hr18,h⟩:=bd h
 refine CW.lp (s:=([],0)) (l3_impl_RestrictModule x0 x1 x2) (fun s17:(List (List (List Int))) × Int => envL [(4,T.ro ((Pt eSModule) x1)),(5,T.ptr (qMatrix x2)),(6,T.ptr (T.agg [I 0,I 0,L 1 lM []])),(8,T.ptr (T.agg [I x1.Prime,I (x2.Rows.length:Int),L 1 lM s17.1])),(42,I (x0.Orders.length:Int)),(43,I s17.2)]) (fun (r18:(List (List (List Int)))) e E => e = .exit 0 ∧ Ghost ⟨St,W,w0,Tryz.f23.ntmps⟩ E (envL [(6,T.ptr (T.agg [I 0,I 0,L 1 lM []])),(8,T.ptr (T.agg [I x1.Prime,I (x2.Rows.length:Int),L 1 lM r18]))])) (.has ⟨rfl,rfl,rfl,rfl,rfl,rfl,trivial⟩) (fun s17 x h => ?_) hr18 (fun e E hq => ?_)
 refine sR ?_
 refine a_lss ?_
 refine rN ?_
 refine CW.seq ?_
 refine cn h (fun hc h => ?_) (fun hc h => ?_)
 refine CW.skip ?_
 refine nA ?_
 refine CW.seq ?_
 refine CW.block ?_
 refine sR ?_
 refine a_mv ?_
 refine a_as ?_
 refine rN ?_
 refine sR ?_
 refine oP (x_nil 1 rfl) ?_
 refine rN ?_
 refine CW.seq ?_
 refine CW.seq ?_
 obtain ⟨r4,hr4,h⟩:=bd h
 obtain ⟨r5,hr5,h⟩:=bd h
 refine CW.dk ?_
 refine d_ldp [(5,_)] ?_
 refine d_mv [(9,_)] ?_
 refine dG [(4,_),(47,_)] [([(48,some (qMatrix r4))],[(48,0)])] ⟨rfl,rfl,trivial⟩ (fun E h => IxOk.opE (x_callF (xs:=[.tmp 4,.tmp 47]) Tryz.call58 (t_impl_actionAt _ _ _ hr4) (afC h.1 rfl (afC h.2.1 rfl afN)) rfl ⟨(cleanA ⟨(Enc.clean (f:=I) _),(Enc.clean (f:=I) _),trivial,trivial⟩),trivial⟩ rfl rfl) rfl) ?_
 refine dC [(46,_),(48,_)] Tryz.call57 (t_impl_product _ _ _ hr5) ?_
 refine dG [(49,_)] [([(50,some (T.same 49 [2]))],[(50,0)])] ⟨rfl,trivial⟩ (fun E h => IxOk.opE (x_fld fld_40_2 (fldv_40_2 rfl rfl) h.1 rfl rfl rfl) rfl) ?_
 refine d_len [(50,_),(49,_)] ?_
 refine d_mv [] ?_
 refine dNA mixedP ?_
 refine nA ?_
 refine CW.block ?_
 obtain ⟨r15,hr15,h⟩:=bd h
 refine CW.lp (s:=([],0)) (l2_impl_RestrictModule x2 r5) (fun s22:(List (List Int)) × Int => envL [(4,T.ro ((Pt eSModule) x1)),(5,T.ptr (qMatrix x2)),(6,T.ptr (T.agg [I 0,I 0,L 1 lM []])),(8,T.ptr (T.agg [I x1.Prime,I (x2.Rows.length:Int),L 1 lM s17.1])),(10,L 1 lV s22.1),(42,I (x0.Orders.length:Int)),(43,I s17.2),(49,eSMatrix r5),(50,T.same 49 [2]),(51,I (r5.Rows.length:Int)),(52,I s22.2)]) (fun (r15:(List (List Int))) e E => e = .exit 2 ∧ Ghost ⟨St,W,w0,Tryz.f23.ntmps⟩ E (envL [(4,T.ro ((Pt eSModule) x1)),(5,T.ptr (qMatrix x2)),(6,T.ptr (T.agg [I 0,I 0,L 1 lM []])),(8,T.ptr (T.agg [I x1.Prime,I (x2.Rows.length:Int),L 1 lM s17.1])),(10,L 1 lV r15),(42,I (x0.Orders.length:Int)),(43,I s17.2)])) (.has ⟨rfl,rfl,rfl,rfl,rfl,rfl,rfl,rfl,rfl,rfl,rfl,trivial⟩) (fun s22 x h => ?_) hr15 (fun e E hq => ?_)
 refine sR ?_
 refine a_lss ?_
 refine rN ?_
 refine CW.seq ?_
 refine cn h (fun hc h => ?_) (fun hc h => ?_)
 refine CW.skip ?_
 refine nA ?_
 refine CW.seq ?_
 refine CW.block ?_
 refine sR ?_
 obtain ⟨v6,hv6,h⟩:=bd h
 refine a_ix ?_
 refine a_ld ?_
 refine a_as ?_
 refine rN ?_
 refine sR ?_
 refine oP (x_nil 1 rfl) ?_
 refine rN ?_
 refine CW.seq ?_
 refine sR ?_
 refine a_fa ?_
 refine a_ld ?_
 obtain ⟨r7,hr7,h⟩:=bd h
 refine cA Tryz.call50 (t_impl_pivots _ _ hr7) ?_
 refine a_len ?_
 refine a_mv ?_
 refine rN ?_
 refine CW.block ?_
 obtain ⟨r12,hr12,h⟩:=bd h
 refine CW.lp (s:=([],0)) (l1_impl_RestrictModule v6 r7) (fun s23:(List Int) × Int => envL [(4,T.ro ((Pt eSModule) x1)),(5,T.ptr (qMatrix x2)),(6,T.ptr (T.agg [I 0,I 0,L 1 lM []])),(8,T.ptr (T.agg [I x1.Prime,I (x2.Rows.length:Int),L 1 lM s17.1])),(10,L 1 lV s22.1),(12,T.same 49 [s22.2.toNat,2]),(13,L 1 I s23.1),(42,I (x0.Orders.length:Int)),(43,I s17.2),(49,eSMatrix r5),(50,T.same 49 [2]),(51,I (r5.Rows.length:Int)),(52,I s22.2),(58,L 1 I r7),(59,I (r7.length:Int)),(60,I s23.2)]) (fun (r12:(List Int)) e E => e = .exit 4 ∧ Ghost ⟨St,W,w0,Tryz.f23.ntmps⟩ E (envL [(4,T.ro ((Pt eSModule) x1)),(5,T.ptr (qMatrix x2)),(6,T.ptr (T.agg [I 0,I 0,L 1 lM []])),(8,T.ptr (T.agg [I x1.Prime,I (x2.Rows.length:Int),L 1 lM s17.1])),(10,L 1 lV s22.1),(13,L 1 I r12),(42,I (x0.Orders.length:Int)),(43,I s17.2),(49,eSMatrix r5),(50,T.same 49 [2]),(51,I (r5.Rows.length:Int)),(52,I s22.2)])) (.has ⟨rfl,rfl,rfl,rfl,rfl,rfl,rfl,rfl,rfl,rfl,rfl,rfl,rfl,rfl,rfl,rfl,trivial⟩) (fun s23 x h => ?_) hr12 (fun e E hq => ?_)
 refine sR ?_
 refine a_lss ?_
 refine rN ?_
 refine CW.seq ?_
 refine cn h (fun hc h => ?_) (fun hc h => ?_)
 refine CW.skip ?_
 refine nA ?_
 refine CW.seq ?_
 refine CW.block ?_
 refine sR ?_
 obtain ⟨v8,hv8,h⟩:=bd h
 refine a_ix ?_
 refine a_ld ?_
 refine a_as ?_
 refine rN ?_
 refine CW.region ?_
 refine a_mv ?_
 refine a_mv ?_
 refine a_mv ?_
 obtain ⟨v9,hv9,h⟩:=bd h
 refine a_ix ?_
 refine oP (x_ld (var_2.h _ rfl rfl) rfl rfl (geta rfl (getc hv6 (getc hv9 rfl))) rfl) ?_
 refine oP (x_bs elt_22 [.tmp 68] [.slot 68 (I v9)] [v9] I ⟨.slot _ _,trivial⟩ (pkS rfl (clean_of (Enc.clean (f:=I) _)) rfl pkN) rfl rfl) ?_
 refine RW.ghost (Ghost.tr 64 13 _ rfl rfl (clean_of (cleanL (Enc.clean (f:=I)))) rfl) ?_
 obtain ⟨v10,hv10,h⟩:=bd h
 refine oP (x_appc (f:=I) elt_22 (fun _ => rfl) hv10 rfl (locB rfl rfl) rfl) ?_
 refine a_as ?_
 refine RW.ghost (Ghost.tr 13 70 _ rfl rfl (clean_of (cleanL (Enc.clean (f:=I)))) rfl) ?_
 refine RW.nil ?_
 refine nB ?_
 refine nA ?_
 refine CW.region ?_
 obtain ⟨v11,hv11,h⟩:=bd h
 refine a_add ?_
 refine a_mv ?_
 refine RW.nil ?_
 exact eN h
 refine CW.exit ?_
 refine xA ?_
 exact eX h
 obtain ⟨rfl,hg⟩:=hq
 refine xB ?_
 refine nA ?_
 refine CW.ghost hg ?_
 refine CW.region ?_
 refine a_mv ?_
 refine a_mv ?_
 refine RW.ghost (Ghost.tr 73 13 _ rfl rfl (clean_of (cleanL (Enc.clean (f:=I)))) rfl) ?_
 refine oP (x_bs elt_23 [.tmp 73] [.slot 73 (L 1 I r12)] [r12] lV ⟨.slot _ _,trivial⟩ (pkS rfl (clean_of (cleanL (Enc.clean (f:=I)))) rfl pkN) rfl rfl) ?_
 refine RW.ghost (Ghost.tr 72 10 _ rfl rfl (clean_of (cleanL (Enc.clean (f:=lV)))) rfl) ?_
 obtain ⟨v13,hv13,h⟩:=bd h
 refine oP (x_appm (f:=lV) elt_23 hv13 rfl rfl rfl) ?_
 refine a_as ?_
 refine RW.ghost (Ghost.tr 10 75 _ rfl rfl (clean_of (cleanL (Enc.clean (f:=lV)))) rfl) ?_
 refine RW.nil ?_
 refine nB ?_
 refine nA ?_
 refine CW.region ?_
 obtain ⟨v14,hv14,h⟩:=bd h
 refine a_add ?_
 refine a_mv ?_
 refine RW.nil ?_
 exact eN h
 refine CW.exit ?_
 refine xA ?_
 exact eX h
 obtain ⟨rfl,hg⟩:=hq
 refine xB ?_
 refine nA ?_
 refine CW.ghost hg ?_
 refine CW.region ?_
 refine a_fa ?_
 refine a_ld ?_
 refine a_mv ?_
 refine RW.ghost (Ghost.tr 79 10 _ rfl rfl (clean_of (cleanL (Enc.clean (f:=lV)))) rfl) ?_
 refine oP (x_bs elt_24 [.tmp 79] [.slot 79 (L 1 lV r15)] [r15] lM ⟨.slot _ _,trivial⟩ (pkS rfl (clean_of (cleanL (Enc.clean (f:=lV)))) rfl pkN) rfl rfl) ?_
 refine RW.ghost (Ghost.trq 78 8 [2,0] rfl rfl rfl (clean_of (cleanL (Enc.clean (f:=lM)))) rfl) ?_
 obtain ⟨v16,hv16,h⟩:=bd h
 refine oP (x_appm (f:=lM) elt_24 hv16 rfl rfl rfl) ?_
 refine a_fa ?_
 refine oP (x_st inf_24 rfl rfl rfl rfl rfl rfl (clean_of (cleanL (Enc.clean (f:=lM)))) rfl) ?_
 refine RW.nil ?_
 refine nB ?_
 refine nA ?_
 refine CW.region ?_
 obtain ⟨v17,hv17,h⟩:=bd h
 refine a_add ?_
 refine a_mv ?_
 refine RW.nil ?_
 exact eN h
 refine CW.exit ?_
 refine xA ?_
 exact eX h
 obtain ⟨rfl,hg⟩:=hq
 refine xB ?_
 refine nA ?_
 refine CW.ghost hg ?_
 refine sR ?_
 refine a_ldp ?_
 refine RW.ghost (Ghost.trf 84 [2] 8 [2,0] _ _ rfl rfl rfl rfl rfl (clean_of (cleanL (Enc.clean (f:=lM)))) rfl) ?_
 refine oP (x_stp inf_34 rfl (locB rfl rfl) rfl rfl rfl rfl (clean_of (cleanA ⟨(Enc.clean (f:=I) _),(Enc.clean (f:=I) _),(cleanL (Enc.clean (f:=lM))),trivial⟩)) rfl) ?_
 refine a_as ?_
 refine rN ?_
 refine CW.ret ?_
 obtain rfl:=sI h
 exact ⟨_,Ghost.refl,⟨.inl rfl,[(6,[0],T.agg [I x1.Prime,I (x2.Rows.length:Int),L 1 lM r18]),(7,[],I 0)],⟨⟨rfl,rfl,rfl,(var_34.h _ rfl rfl).h⟩,⟨rfl,rfl,rfl,rfl⟩,trivial⟩,rfl,(by simp),(by simp),trivial⟩⟩
theorem t_laws_FnExactRestrictModule (x0:SPresentation) (x1:SModule) (x2:SMatrix) (r:Bool) (h:f_laws_FnExactRestrictModule x0 x1 x2 = some r):FnC Tryz.prog 4 [qPresentation x0,qModule x1,qMatrix x2] [B r] []:=by
 refine fB Tryz.func4 (fun St W w0 v => ?_)
 refine sR ?_
 refine a_box ?_
 refine a_box ?_
 refine a_box ?_
 refine a_as ?_
 refine rN ?_
 refine sR ?_
 refine a_as ?_
 refine rN ?_
 refine sR ?_
 refine a_ldp ?_
 refine a_mv ?_
 obtain ⟨r1,hr1,h⟩:=bd h
 refine cA Tryz.call7 (t_laws_szPresentation _ _ _ hr1) ?_
 refine a_as ?_
 refine rN ?_
 refine CW.seq ?_
 refine sR ?_
 refine a_mv ?_
 refine a_lss ?_
 refine rN ?_
 refine cn h (fun hc h => ?_) (fun hc h => ?_)
 refine sR ?_
 refine a_as ?_
 refine rN ?_
 refine CW.ret ?_
 refine rA ?_
 obtain rfl:=sI h
 exact rT
 refine CW.skip ?_
 refine nA ?_
 refine sR ?_
 refine a_ldp ?_
 refine a_mv ?_
 obtain ⟨r2,hr2,h⟩:=bd h
 refine cA Tryz.call8 (t_laws_szModule _ _ _ hr2) ?_
 refine a_as ?_
 refine rN ?_
 refine CW.seq ?_
 refine sR ?_
 refine a_mv ?_
 refine a_lss ?_
 refine rN ?_
 refine cn h (fun hc h => ?_) (fun hc h => ?_)
 refine sR ?_
 refine a_as ?_
 refine rN ?_
 refine CW.ret ?_
 refine rA ?_
 obtain rfl:=sI h
 exact rT
 refine CW.skip ?_
 refine nA ?_
 refine sR ?_
 refine a_ldp ?_
 refine a_mv ?_
 obtain ⟨r3,hr3,h⟩:=bd h
 refine cA Tryz.call9 (t_laws_szMatrix _ _ _ hr3) ?_
 refine a_as ?_
 refine rN ?_
 refine CW.seq ?_
 refine sR ?_
 refine a_mv ?_
 refine a_lss ?_
 refine rN ?_
 refine cn h (fun hc h => ?_) (fun hc h => ?_)
 refine sR ?_
 refine a_as ?_
 refine rN ?_
 refine CW.ret ?_
 refine rA ?_
 obtain rfl:=sI h
 exact rT
 refine CW.skip ?_
 refine nA ?_
 refine CW.seq ?_
 obtain ⟨r4,hr4,h⟩:=bd h
 obtain ⟨r5,hr5,h⟩:=bd h
 obtain ⟨r6,hr6,h⟩:=bd h
 obtain ⟨r7,hr7,h⟩:=bd h
 refine CW.dk ?_
 refine d_ldp [(3,_)] ?_
 refine dG [(36,_)] [([(37,some (eSPresentation r4))],[(37,0)])] ⟨rfl,trivial⟩ (fun E h => IxOk.opE (x_call (xs:=[.tmp 36]) Tryz.call11 (t_laws_toPresentation _ _ hr4) ⟨(agC _ h.1 rfl rfl),trivial⟩ (resC (f:=eSPresentation) inferInstance resN) rfl) rfl) ?_
 refine d_ldp [(4,_)] ?_
 refine dG [(38,_)] [([(39,some (eSModule r5))],[(39,0)])] ⟨rfl,trivial⟩ (fun E h => IxOk.opE (x_call (xs:=[.tmp 38]) Tryz.call12 (t_laws_toModule _ _ hr5) ⟨(agC _ h.1 rfl rfl),trivial⟩ (resC (f:=eSModule) inferInstance resN) rfl) rfl) ?_
 refine d_ldp [(5,_)] ?_
 refine dG [(40,_)] [([(41,some (eSMatrix r6))],[(41,0)])] ⟨rfl,trivial⟩ (fun E h => IxOk.opE (x_call (xs:=[.tmp 40]) Tryz.call13 (t_laws_toMatrix _ _ hr6) ⟨(agC _ h.1 rfl rfl),trivial⟩ (resC (f:=eSMatrix) inferInstance resN) rfl) rfl) ?_
 refine dG [(37,_),(39,_),(41,_)] [([(42,some (T.tup [eSModule r7.1,I r7.2]))],[(42,0)])] ⟨rfl,rfl,rfl,trivial⟩ (fun E h => IxOk.opE (x_call (xs:=[.tmp 37,.tmp 39,.tmp 41]) Tryz.call22 (t_spec_RestrictModule _ _ _ _ hr7) ⟨(agC _ h.1 (cloA (cloC (cloO inferInstance) (cloC (cloO inferInstance) (cloC (cloO inferInstance) cloN)))) rfl),⟨(agC _ h.2.1 (cloA (cloC rfl (cloC rfl (cloC (cloO inferInstance) cloN)))) rfl),⟨(agC _ h.2.2.1 (cloA (cloC rfl (cloC rfl (cloC (cloO inferInstance) cloN)))) rfl),trivial⟩⟩⟩ (resC (f:=eSModule) inferInstance (resC (f:=I) inferInstance resN)) rfl) rfl) ?_
 refine d_mvT [(42,_)] ?_
 refine d_ext [(35,_)] ?_
 refine d_ext [(35,_)] ?_
 refine d_alloc [] ?_
 refine dG [(43,T.agg [I r7.1.Prime,I r7.1.Dim,T.same 42 [2,0]]),(42,T.tup [eSModule r7.1,I r7.2]),(8,T.ptr (T.agg [I 0,I 0,L 1 lM []]))] [([(43,some (eSModule r7.1)),(42,some (T.tup [T.agg [I r7.1.Prime,I r7.1.Dim,T.any],I r7.2]))],[(43,2),(42,3)]),([(8,some (T.ptr (eSModule r7.1))),(43,some (T.agg [I r7.1.Prime,I r7.1.Dim,T.same 8 [2,0]]))],[(8,1),(43,1)])] ⟨rfl,rfl,rfl,trivial⟩ (fun E h => IxOk.gh (Ghost.trf 43 [2] 42 [2,0] _ _ h.1 rfl h.2.1 rfl rfl (clean_of (cleanL (Enc.clean (f:=lM)))) rfl) <| IxOk.opE (x_stp inf_34 rfl (locB (keepE h.2.2.1) rfl) (keepE h.2.2.1) rfl rfl rfl (clean_of (cleanA ⟨(Enc.clean (f:=I) _),(Enc.clean (f:=I) _),(cleanL (Enc.clean (f:=lM))),trivial⟩)) rfl) rfl) ?_
 refine d_as [(44,_)] ?_
 refine dNA mixedP ?_
 refine nA ?_
 refine CW.seq ?_
 refine CW.to [(3,T.ptr (qPresentation x0)),(4,T.ptr (qModule x1)),(5,T.ptr (qMatrix x2)),(8,T.ptr (eSModule r7.1)),(9,I r7.2)] ⟨rfl,rfl,rfl,rfl,rfl,trivial⟩ ?_
 refine CW.region ?_
 refine a_ldp ?_
 obtain ⟨r8,hr8,h⟩:=bd h
 refine oP (x_call (xs:=[.tmp 45]) Tryz.call11 (t_laws_toPresentation _ _ hr8) ⟨(agC _ rfl rfl rfl),trivial⟩ (resC (f:=eSPresentation) inferInstance resN) rfl) ?_
 refine a_alloc ?_
 refine oP (x_stp inf_37 rfl (locB rfl rfl) rfl rfl rfl rfl (clean_of (cleanA ⟨(cleanL (Enc.clean (f:=I))),(cleanL (Enc.clean (f:=lV))),(cleanL (Enc.clean (f:=lM))),trivial⟩)) rfl) ?_
 refine rN ?_
 refine sR ?_
 refine a_ldp ?_
 obtain ⟨r9,hr9,h⟩:=bd h
 refine oP (x_call (xs:=[.tmp 47]) Tryz.call12 (t_laws_toModule _ _ hr9) ⟨(agC _ rfl rfl rfl),trivial⟩ (resC (f:=eSModule) inferInstance resN) rfl) ?_
 refine a_alloc ?_
 refine oP (x_stp inf_34 rfl (locB rfl rfl) rfl rfl rfl rfl (clean_of (cleanA ⟨(Enc.clean (f:=I) _),(Enc.clean (f:=I) _),(cleanL (Enc.clean (f:=lM))),trivial⟩)) rfl) ?_
 refine rN ?_
 refine sR ?_
 refine a_ldp ?_
 obtain ⟨r10,hr10,h⟩:=bd h
 refine oP (x_call (xs:=[.tmp 49]) Tryz.call13 (t_laws_toMatrix _ _ hr10) ⟨(agC _ rfl rfl rfl),trivial⟩ (resC (f:=eSMatrix) inferInstance resN) rfl) ?_
 refine a_alloc ?_
 refine oP (x_stp inf_40 rfl (locB rfl rfl) rfl rfl rfl rfl (clean_of (cleanA ⟨(Enc.clean (f:=I) _),(Enc.clean (f:=I) _),(cleanL (Enc.clean (f:=lV))),trivial⟩)) rfl) ?_
 refine rN ?_
 refine sR ?_
 refine a_ldp ?_
 refine a_ldp ?_
 refine a_ldp ?_
 obtain ⟨r11,hr11,h⟩:=bd h
 refine oP (x_call (xs:=[.tmp 52,.tmp 53,.tmp 54]) Tryz.call23 (t_impl_RestrictModule _ _ _ _ hr11) ⟨(agC _ rfl (cloA (cloC (cloS rfl rfl inferInstance) (cloC (cloS rfl rfl inferInstance) (cloC (cloS rfl rfl inferInstance) cloN)))) rfl),⟨(agC _ rfl (cloA (cloC rfl (cloC rfl (cloC (cloS rfl rfl inferInstance) cloN)))) rfl),⟨(agC _ rfl (cloA (cloC rfl (cloC rfl (cloC (cloS rfl rfl inferInstance) cloN)))) rfl),trivial⟩⟩⟩ (resC (f:=eSModule) inferInstance (resC (f:=I) inferInstance resN)) rfl) ?_
 refine a_mvT ?_
 refine a_ext ?_
 refine a_ext ?_
 refine a_alloc ?_
 refine RW.ghost (Ghost.trf 56 [2] 55 [2,0] _ _ rfl rfl rfl rfl rfl (clean_of (cleanL (Enc.clean (f:=lM)))) rfl) ?_
 refine oP (x_stp inf_34 rfl (locB rfl rfl) rfl rfl rfl rfl (clean_of (cleanA ⟨(Enc.clean (f:=I) _),(Enc.clean (f:=I) _),(cleanL (Enc.clean (f:=lM))),trivial⟩)) rfl) ?_
 refine a_as ?_
 refine rN ?_
 refine CW.seq ?_
 refine sR ?_
 refine a_ldp ?_
 refine a_ldp ?_
 obtain ⟨r12,hr12,h⟩:=bd h
 refine oP (x_call (xs:=[.tmp 58,.tmp 59]) Tryz.call15 (t_laws_eqModule _ _ _ hr12) ⟨(agC _ rfl (cloA (cloC rfl (cloC rfl (cloC (cloS rfl rfl inferInstance) cloN)))) rfl),⟨(agC _ rfl (cloA (cloC rfl (cloC rfl (cloC (cloS rfl rfl inferInstance) cloN)))) rfl),trivial⟩⟩ (resC (f:=B) inferInstance resN) rfl) ?_
 refine a_not ?_
 refine a_mv ?_
 refine RW.cases 62 _ rfl (fun hc => ?_) (fun hc => ?_)
 have h:=cT hc h
 refine sk2 ?_
 refine sk2 ?_
 refine sk2 ?_
 refine a_pick ?_
 refine rN ?_
 refine CW.condT rfl ?_
 refine CW.seq ?_
 refine CW.to [] trivial ?_
 refine CW.region ?_
 refine a_as ?_
 refine rN ?_
 refine CW.ret ?_
 refine rA ?_
 obtain rfl:=sI h
 exact rT
 have h:=cF hc h
 refine g_mv ?_
 refine g_mv ?_
 refine g_neq ?_
 refine a_pick ?_
 refine rN ?_
 refine cn h (fun hc h => ?_) (fun hc h => ?_)
 refine CW.seq ?_
 refine CW.to [] trivial ?_
 refine CW.region ?_
 refine a_as ?_
 refine rN ?_
 refine CW.ret ?_
 refine rA ?_
 obtain rfl:=sI h
 exact rT
 refine CW.skip ?_
 refine nA ?_
 refine CW.seq ?_
 refine CW.seq ?_
 refine CW.to [(3,T.ptr (qPresentation x0)),(4,T.ptr (qModule x1)),(5,T.ptr (qMatrix x2)),(8,T.ptr (eSModule r7.1)),(9,I r7.2),(10,T.ptr (eSPresentation r8)),(11,T.ptr (eSModule r9)),(12,T.ptr (eSMatrix r10)),(13,T.ptr (eSModule r11.1)),(14,I r11.2)] ⟨rfl,rfl,rfl,rfl,rfl,rfl,rfl,rfl,rfl,rfl,trivial⟩ ?_
 obtain ⟨r13,hr13,h⟩:=bd h
 obtain ⟨r14,hr14,h⟩:=bd h
 refine CW.dk ?_
 refine d_ldp [(10,_)] ?_
 refine d_ldp [(3,_)] ?_
 refine dG [(68,_)] [([(69,some (eSPresentation r13))],[(69,0)])] ⟨rfl,trivial⟩ (fun E h => IxOk.opE (x_call (xs:=[.tmp 68]) Tryz.call11 (t_laws_toPresentation _ _ hr13) ⟨(agC _ h.1 rfl rfl),trivial⟩ (resC (f:=eSPresentation) inferInstance resN) rfl) rfl) ?_
 refine dG [(67,_),(10,_),(69,_)] [([(70,some (B r14))],[(70,0)])] ⟨rfl,rfl,rfl,trivial⟩ (fun E h => IxOk.opE (x_call (xs:=[.tmp 67,.tmp 69]) Tryz.call16 (t_laws_eqPresentation _ _ _ hr14) ⟨(agC _ h.1 (cloA (cloC (cloS h.2.1 rfl inferInstance) (cloC (cloS h.2.1 rfl inferInstance) (cloC (cloS h.2.1 rfl inferInstance) cloN)))) rfl),⟨(agC _ h.2.2.1 (cloA (cloC (cloO inferInstance) (cloC (cloO inferInstance) (cloC (cloO inferInstance) cloN)))) rfl),trivial⟩⟩ (resC (f:=B) inferInstance resN) rfl) rfl) ?_
 refine d_not [(70,_)] ?_
 refine dNA mixedP ?_
 refine nA ?_
 refine cn h (fun hc h => ?_) (fun hc h => ?_)
 refine sR ?_
 refine a_as ?_
 refine rN ?_
 refine CW.ret ?_
 refine rA ?_
 obtain rfl:=sI h
 exact rT
 refine CW.skip ?_
 refine nA ?_
 refine CW.seq ?_
 refine CW.seq ?_
 obtain ⟨r15,hr15,h⟩:=bd h
 obtain ⟨r16,hr16,h⟩:=bd h
 refine CW.dk ?_
 refine d_ldp [(11,_)] ?_
 refine d_ldp [(4,_)] ?_
 refine dG [(73,_)] [([(74,some (eSModule r15))],[(74,0)])] ⟨rfl,trivial⟩ (fun E h => IxOk.opE (x_call (xs:=[.tmp 73]) Tryz.call12 (t_laws_toModule _ _ hr15) ⟨(agC _ h.1 rfl rfl),trivial⟩ (resC (f:=eSModule) inferInstance resN) rfl) rfl) ?_
 refine dG [(72,_),(11,_),(74,_)] [([(75,some (B r16))],[(75,0)])] ⟨rfl,rfl,rfl,trivial⟩ (fun E h => IxOk.opE (x_call (xs:=[.tmp 72,.tmp 74]) Tryz.call15 (t_laws_eqModule _ _ _ hr16) ⟨(agC _ h.1 (cloA (cloC rfl (cloC rfl (cloC (cloS h.2.1 rfl inferInstance) cloN)))) rfl),⟨(agC _ h.2.2.1 (cloA (cloC rfl (cloC rfl (cloC (cloO inferInstance) cloN)))) rfl),trivial⟩⟩ (resC (f:=B) inferInstance resN) rfl) rfl) ?_
 refine d_not [(75,_)] ?_
 refine dNA mixedP ?_
 refine nA ?_
 refine cn h (fun hc h => ?_) (fun hc h => ?_)
 refine sR ?_
 refine a_as ?_
 refine rN ?_
 refine CW.ret ?_
 refine rA ?_
 obtain rfl:=sI h
 exact rT
 refine CW.skip ?_
 refine nA ?_
 refine CW.seq ?_
 refine CW.seq ?_
 obtain ⟨r17,hr17,h⟩:=bd h
 obtain ⟨r18,hr18,h⟩:=bd h
 refine CW.dk ?_
 refine d_ldp [(12,_)] ?_
 refine d_ldp [(5,_)] ?_
 refine dG [(78,_)] [([(79,some (eSMatrix r17))],[(79,0)])] ⟨rfl,trivial⟩ (fun E h => IxOk.opE (x_call (xs:=[.tmp 78]) Tryz.call13 (t_laws_toMatrix _ _ hr17) ⟨(agC _ h.1 rfl rfl),trivial⟩ (resC (f:=eSMatrix) inferInstance resN) rfl) rfl) ?_
 refine dG [(77,_),(12,_),(79,_)] [([(80,some (B r18))],[(80,0)])] ⟨rfl,rfl,rfl,trivial⟩ (fun E h => IxOk.opE (x_call (xs:=[.tmp 77,.tmp 79]) Tryz.call17 (t_laws_eqMatrix _ _ _ hr18) ⟨(agC _ h.1 (cloA (cloC rfl (cloC rfl (cloC (cloS h.2.1 rfl inferInstance) cloN)))) rfl),⟨(agC _ h.2.2.1 (cloA (cloC rfl (cloC rfl (cloC (cloO inferInstance) cloN)))) rfl),trivial⟩⟩ (resC (f:=B) inferInstance resN) rfl) rfl) ?_
 refine d_not [(80,_)] ?_
 refine dNA mixedP ?_
 refine nA ?_
 refine cn h (fun hc h => ?_) (fun hc h => ?_)
 refine sR ?_
 refine a_as ?_
 refine rN ?_
 refine CW.ret ?_
 refine rA ?_
 obtain rfl:=sI h
 exact rT
 refine CW.skip ?_
 refine nA ?_
 refine sR ?_
 refine a_as ?_
 refine rN ?_
 refine sR ?_
 refine a_ldp ?_
 refine a_mv ?_
 obtain ⟨r19,hr19,h⟩:=bd h
 refine oP (x_callA (xs:=[.tmp 82,.tmp 83]) 0 82 10 [(0,[0,0]),(1,[1,0]),(2,[2,0])] 2 Tryz.call18 (t_laws_markPresentation _ _ _ hr19) (.cons 0 [0,0] _ _ _ _ _ rfl rfl rfl rfl (clean_of (cleanL (Enc.clean (f:=I)))) rfl rfl rfl (.cons 1 [1,0] _ _ _ _ _ rfl rfl rfl rfl (clean_of (cleanL (Enc.clean (f:=lV)))) rfl rfl rfl (.cons 2 [2,0] _ _ _ _ _ rfl rfl rfl rfl (clean_of (cleanL (Enc.clean (f:=lM)))) rfl rfl rfl (.nil _)))) rfl (Enc.clean (f:=eSPresentation) _) (Enc.rofree (f:=eSPresentation) _) ⟨(agLd rfl (Enc.clean (f:=eSPresentation) _) (Enc.rofree (f:=eSPresentation) _)),⟨(agM _ rfl rfl rfl),trivial⟩⟩ (resC (f:=I) inferInstance resN) (.cons 0 [0,0] _ _ _ _ _ _ rfl rfl rfl rfl (clean_of (cleanL (Enc.clean (f:=I)))) rfl rfl rfl (.cons 1 [1,0] _ _ _ _ _ _ rfl rfl rfl rfl (clean_of (cleanL (Enc.clean (f:=lV)))) rfl rfl rfl (.cons 2 [2,0] _ _ _ _ _ _ rfl rfl rfl rfl (clean_of (cleanL (Enc.clean (f:=lM)))) rfl rfl rfl (.nil _)))) rfl rfl rfl) ?_
 refine a_as ?_
 refine rN ?_
 refine sR ?_
 refine a_ldp ?_
 refine a_mv ?_
 obtain ⟨r20,hr20,h⟩:=bd h
 refine oP (x_callA (xs:=[.tmp 85,.tmp 86]) 0 85 11 [(2,[2,0])] 2 Tryz.call19 (t_laws_markModule _ _ _ hr20) (.cons 2 [2,0] _ _ _ _ _ rfl rfl rfl rfl (clean_of (cleanL (Enc.clean (f:=lM)))) rfl rfl rfl (.nil _)) rfl (Enc.clean (f:=eSModule) _) (Enc.rofree (f:=eSModule) _) ⟨(agLd rfl (Enc.clean (f:=eSModule) _) (Enc.rofree (f:=eSModule) _)),⟨(agM _ rfl rfl rfl),trivial⟩⟩ (resC (f:=I) inferInstance resN) (.cons 2 [2,0] _ _ _ _ _ _ rfl rfl rfl rfl (clean_of (cleanL (Enc.clean (f:=lM)))) rfl rfl rfl (.nil _)) rfl rfl rfl) ?_
 refine a_as ?_
 refine rN ?_
 refine CW.seq ?_
 refine CW.to [(3,T.ptr (qPresentation x0)),(4,T.ptr (qModule x1)),(5,T.ptr (qMatrix x2)),(8,T.ptr (eSModule r7.1)),(9,I r7.2),(12,T.ptr (eSMatrix r10)),(13,T.ptr (eSModule r11.1)),(14,I r11.2),(15,I r20.1)] ⟨rfl,rfl,rfl,rfl,rfl,rfl,rfl,rfl,rfl,trivial⟩ ?_
 refine CW.region ?_
 refine a_ldp ?_
 refine a_mv ?_
 obtain ⟨r21,hr21,h⟩:=bd h
 refine oP (x_callA (xs:=[.tmp 88,.tmp 89]) 0 88 12 [(2,[2,0])] 2 Tryz.call20 (t_laws_markMatrix _ _ _ hr21) (.cons 2 [2,0] _ _ _ _ _ rfl rfl rfl rfl (clean_of (cleanL (Enc.clean (f:=lV)))) rfl rfl rfl (.nil _)) rfl (Enc.clean (f:=eSMatrix) _) (Enc.rofree (f:=eSMatrix) _) ⟨(agLd rfl (Enc.clean (f:=eSMatrix) _) (Enc.rofree (f:=eSMatrix) _)),⟨(agM _ rfl rfl rfl),trivial⟩⟩ (resC (f:=I) inferInstance resN) (.cons 2 [2,0] _ _ _ _ _ _ rfl rfl rfl rfl (clean_of (cleanL (Enc.clean (f:=lV)))) rfl rfl rfl (.nil _)) rfl rfl rfl) ?_
 refine a_as ?_
 refine rN ?_
 refine CW.seq ?_
 refine sR ?_
 refine a_mv ?_
 refine a_lss ?_
 refine a_mv ?_
 refine RW.cases 93 _ rfl (fun hc => ?_) (fun hc => ?_)
 have h:=cT hc h
 refine sk2 ?_
 refine sk2 ?_
 refine sk2 ?_
 refine sk2 ?_
 refine a_pick ?_
 refine a_mv ?_
 refine sk2 ?_
 refine sk2 ?_
 refine sk2 ?_
 refine a_pick ?_
 refine rN ?_
 refine CW.condT rfl ?_
 refine sR ?_
 refine a_as ?_
 refine rN ?_
 refine CW.ret ?_
 refine rA ?_
 obtain rfl:=sI h
 exact rT
 have h:=cF hc h
 refine g_ldp ?_
 refine g_ldp ?_
 obtain ⟨r22,hr22,h⟩:=bd h
 refine RW.cons (IxOk.guard 2 false 93 (x_call (xs:=[.tmp 94,.tmp 95]) Tryz.call15 (t_laws_eqModule _ _ _ hr22) ⟨(agC _ rfl (cloA (cloC rfl (cloC rfl (cloC (cloS rfl rfl inferInstance) cloN)))) rfl),⟨(agC _ rfl (cloA (cloC rfl (cloC rfl (cloC (cloS rfl rfl inferInstance) cloN)))) rfl),trivial⟩⟩ (resC (f:=B) inferInstance resN) rfl)) ?_
 refine g_not ?_
 refine a_pick ?_
 refine a_mv ?_
 refine RW.cases 99 _ rfl (fun hc => ?_) (fun hc => ?_)
 have h:=cT hc h
 refine sk2 ?_
 refine sk2 ?_
 refine sk2 ?_
 refine a_pick ?_
 refine rN ?_
 refine CW.condT rfl ?_
 refine sR ?_
 refine a_as ?_
 refine rN ?_
 refine CW.ret ?_
 refine rA ?_
 obtain rfl:=sI h
 exact rT
 have h:=cF hc h
 refine g_mv ?_
 refine g_mv ?_
 refine g_neq ?_
 refine a_pick ?_
 refine rN ?_
 refine cn h (fun hc h => ?_) (fun hc h => ?_)
 refine sR ?_
 refine a_as ?_
 refine rN ?_
 refine CW.ret ?_
 refine rA ?_
 obtain rfl:=sI h
 exact rT
 refine CW.skip ?_
 refine nA ?_
 refine sR ?_
 refine a_as ?_
 refine rN ?_
 refine sR ?_
 refine a_ldp ?_
 refine a_mv ?_
 obtain ⟨r23,hr23,h⟩:=bd h
 refine oP (x_callA (xs:=[.tmp 104,.tmp 105]) 0 104 13 [(2,[2,0])] 2 Tryz.call19 (t_laws_markModule _ _ _ hr23) (.cons 2 [2,0] _ _ _ _ _ rfl rfl rfl rfl (clean_of (cleanL (Enc.clean (f:=lM)))) rfl rfl rfl (.nil _)) rfl (Enc.clean (f:=eSModule) _) (Enc.rofree (f:=eSModule) _) ⟨(agLd rfl (Enc.clean (f:=eSModule) _) (Enc.rofree (f:=eSModule) _)),⟨(agM _ rfl rfl rfl),trivial⟩⟩ (resC (f:=I) inferInstance resN) (.cons 2 [2,0] _ _ _ _ _ _ rfl rfl rfl rfl (clean_of (cleanL (Enc.clean (f:=lM)))) rfl rfl rfl (.nil _)) rfl rfl rfl) ?_
 refine a_as ?_
 refine rN ?_
 refine sR ?_
 refine a_as ?_
 refine rN ?_
 refine sR ?_
 refine a_ldp ?_
 refine a_mv ?_
 obtain ⟨r24,hr24,h⟩:=bd h
 refine oP (x_call (xs:=[.tmp 107,.tmp 108]) Tryz.call21 (t_laws_heldModule _ _ _ hr24) ⟨(agC _ rfl (cloA (cloC rfl (cloC rfl (cloC (cloS rfl rfl inferInstance) cloN)))) rfl),⟨(agC _ rfl rfl rfl),trivial⟩⟩ (resC (f:=I) inferInstance resN) rfl) ?_
 refine a_as ?_
 refine rN ?_
 refine CW.seq ?_
 refine CW.seq ?_
 refine CW.to [(3,T.ptr (qPresentation x0)),(4,T.ptr (qModule x1)),(5,T.ptr (qMatrix x2)),(8,T.ptr (eSModule r7.1)),(9,I r7.2),(13,T.ptr (T.agg [I r11.1.Prime,I r11.1.Dim,L 1 lM r23.2.Actions])),(16,I r23.1),(17,I r24)] ⟨rfl,rfl,rfl,rfl,rfl,rfl,rfl,rfl,trivial⟩ ?_
 refine CW.region ?_
 refine a_mv ?_
 refine a_lss ?_
 refine rN ?_
 refine cn h (fun hc h => ?_) (fun hc h => ?_)
 refine sR ?_
 refine a_as ?_
 refine rN ?_
 refine CW.ret ?_
 refine rA ?_
 obtain rfl:=sI h
 exact rT
 refine CW.skip ?_
 refine nA ?_
 refine CW.seq ?_
 refine sR ?_
 refine a_mv ?_
 refine a_mv ?_
 refine a_neq ?_
 refine rN ?_
 refine cn h (fun hc h => ?_) (fun hc h => ?_)
 refine sR ?_
 refine a_as ?_
 refine rN ?_
 refine CW.ret ?_
 refine rA ?_
 obtain rfl:=sI h
 exact rT
 refine CW.skip ?_
 refine nA ?_
 refine CW.seq ?_
 obtain ⟨r25,hr25,h⟩:=bd h
 obtain ⟨r26,hr26,h⟩:=bd h
 obtain ⟨r27,hr27,h⟩:=bd h
 obtain ⟨r28,hr28,h⟩:=bd h
 refine CW.dk ?_
 refine d_ldp [(3,_)] ?_
 refine dG [(116,_)] [([(117,some (eSPresentation r25))],[(117,0)])] ⟨rfl,trivial⟩ (fun E h => IxOk.opE (x_call (xs:=[.tmp 116]) Tryz.call11 (t_laws_toPresentation _ _ hr25) ⟨(agC _ h.1 rfl rfl),trivial⟩ (resC (f:=eSPresentation) inferInstance resN) rfl) rfl) ?_
 refine d_ldp [(4,_)] ?_
 refine dG [(118,_)] [([(119,some (eSModule r26))],[(119,0)])] ⟨rfl,trivial⟩ (fun E h => IxOk.opE (x_call (xs:=[.tmp 118]) Tryz.call12 (t_laws_toModule _ _ hr26) ⟨(agC _ h.1 rfl rfl),trivial⟩ (resC (f:=eSModule) inferInstance resN) rfl) rfl) ?_
 refine d_ldp [(5,_)] ?_
 refine dG [(120,_)] [([(121,some (eSMatrix r27))],[(121,0)])] ⟨rfl,trivial⟩ (fun E h => IxOk.opE (x_call (xs:=[.tmp 120]) Tryz.call13 (t_laws_toMatrix _ _ hr27) ⟨(agC _ h.1 rfl rfl),trivial⟩ (resC (f:=eSMatrix) inferInstance resN) rfl) rfl) ?_
 refine dG [(117,_),(119,_),(121,_)] [([(122,some (T.tup [eSModule r28.1,I r28.2]))],[(122,0)])] ⟨rfl,rfl,rfl,trivial⟩ (fun E h => IxOk.opE (x_call (xs:=[.tmp 117,.tmp 119,.tmp 121]) Tryz.call23 (t_impl_RestrictModule _ _ _ _ hr28) ⟨(agC _ h.1 (cloA (cloC (cloO inferInstance) (cloC (cloO inferInstance) (cloC (cloO inferInstance) cloN)))) rfl),⟨(agC _ h.2.1 (cloA (cloC rfl (cloC rfl (cloC (cloO inferInstance) cloN)))) rfl),⟨(agC _ h.2.2.1 (cloA (cloC rfl (cloC rfl (cloC (cloO inferInstance) cloN)))) rfl),trivial⟩⟩⟩ (resC (f:=eSModule) inferInstance (resC (f:=I) inferInstance resN)) rfl) rfl) ?_
 refine d_mvT [(122,_)] ?_
 refine d_ext [(115,_)] ?_
 refine d_ext [(115,_)] ?_
 refine d_alloc [] ?_
 refine dG [(123,T.agg [I r28.1.Prime,I r28.1.Dim,T.same 122 [2,0]]),(122,T.tup [eSModule r28.1,I r28.2]),(18,T.ptr (T.agg [I 0,I 0,L 1 lM []]))] [([(123,some (eSModule r28.1)),(122,some (T.tup [T.agg [I r28.1.Prime,I r28.1.Dim,T.any],I r28.2]))],[(123,2),(122,3)]),([(18,some (T.ptr (eSModule r28.1))),(123,some (T.agg [I r28.1.Prime,I r28.1.Dim,T.same 18 [2,0]]))],[(18,1),(123,1)])] ⟨rfl,rfl,rfl,trivial⟩ (fun E h => IxOk.gh (Ghost.trf 123 [2] 122 [2,0] _ _ h.1 rfl h.2.1 rfl rfl (clean_of (cleanL (Enc.clean (f:=lM)))) rfl) <| IxOk.opE (x_stp inf_34 rfl (locB (keepE h.2.2.1) rfl) (keepE h.2.2.1) rfl rfl rfl (clean_of (cleanA ⟨(Enc.clean (f:=I) _),(Enc.clean (f:=I) _),(cleanL (Enc.clean (f:=lM))),trivial⟩)) rfl) rfl) ?_
 refine d_as [(124,_)] ?_
 refine dNA mixedP ?_
 refine nA ?_
 refine CW.seq ?_
 refine sR ?_
 refine a_ldp ?_
 refine a_ldp ?_
 obtain ⟨r29,hr29,h⟩:=bd h
 refine oP (x_call (xs:=[.tmp 125,.tmp 126]) Tryz.call15 (t_laws_eqModule _ _ _ hr29) ⟨(agC _ rfl (cloA (cloC rfl (cloC rfl (cloC (cloS rfl rfl inferInstance) cloN)))) rfl),⟨(agC _ rfl (cloA (cloC rfl (cloC rfl (cloC (cloS rfl rfl inferInstance) cloN)))) rfl),trivial⟩⟩ (resC (f:=B) inferInstance resN) rfl) ?_
 refine a_not ?_
 refine a_mv ?_
 refine RW.cases 129 _ rfl (fun hc => ?_) (fun hc => ?_)
 have h:=cT hc h
 refine sk2 ?_
 refine sk2 ?_
 refine sk2 ?_
 refine a_pick ?_
 refine rN ?_
 refine CW.condT rfl ?_
 refine CW.seq ?_
 refine CW.to [] trivial ?_
 refine CW.region ?_
 refine a_as ?_
 refine rN ?_
 refine CW.ret ?_
 refine rA ?_
 obtain rfl:=sI h
 exact rT
 have h:=cF hc h
 refine g_mv ?_
 refine g_mv ?_
 refine g_neq ?_
 refine a_pick ?_
 refine rN ?_
 refine cn h (fun hc h => ?_) (fun hc h => ?_)
 refine CW.seq ?_
 refine CW.to [] trivial ?_
 refine CW.region ?_
 refine a_as ?_
 refine rN ?_
 refine CW.ret ?_
 refine rA ?_
 obtain rfl:=sI h
 exact rT
 refine CW.skip ?_
 refine nA ?_
 refine CW.seq ?_
 refine CW.to [(13,T.ptr (T.agg [I r11.1.Prime,I r11.1.Dim,L 1 lM r23.2.Actions])),(16,I r23.1)] ⟨rfl,rfl,trivial⟩ ?_
 refine CW.region ?_
 refine a_as ?_
 refine rN ?_
 refine sR ?_
 refine a_ldp ?_
 refine a_mv ?_
 obtain ⟨r30,hr30,h⟩:=bd h
 refine oP (x_call (xs:=[.tmp 134,.tmp 135]) Tryz.call21 (t_laws_heldModule _ _ _ hr30) ⟨(agC _ rfl (cloA (cloC rfl (cloC rfl (cloC (cloS rfl rfl inferInstance) cloN)))) rfl),⟨(agC _ rfl rfl rfl),trivial⟩⟩ (resC (f:=I) inferInstance resN) rfl) ?_
 refine a_as ?_
 refine rN ?_
 refine CW.seq ?_
 refine sR ?_
 refine a_mv ?_
 refine a_lss ?_
 refine rN ?_
 refine cn h (fun hc h => ?_) (fun hc h => ?_)
 refine sR ?_
 refine a_as ?_
 refine rN ?_
 refine CW.ret ?_
 refine rA ?_
 obtain rfl:=sI h
 exact rT
 refine CW.skip ?_
 refine nA ?_
 refine CW.seq ?_
 refine sR ?_
 refine a_mv ?_
 refine a_mv ?_
 refine a_neq ?_
 refine rN ?_
 refine cn h (fun hc h => ?_) (fun hc h => ?_)
 refine sR ?_
 refine a_as ?_
 refine rN ?_
 refine CW.ret ?_
 refine rA ?_
 obtain rfl:=sI h
 exact rT
 refine CW.skip ?_
 refine nA ?_
 refine sR ?_
 refine a_as ?_
 refine rN ?_
 refine CW.ret ?_
 obtain rfl:=sI h
 exact rT
end Go.Wk

namespace Go.Wk
open Go Go.Proofs Go.Ab
set_option maxRecDepth 100000
end Go.Wk
