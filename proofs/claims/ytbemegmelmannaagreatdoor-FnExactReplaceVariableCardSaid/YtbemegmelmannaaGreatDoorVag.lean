/- x -/
import Derived.Test.YtbemegmelmannaaGreatDoorVaa
import Derived.Test.YtbemegmelmannaaGreatDoorVab
import Derived.Test.YtbemegmelmannaaGreatDoorVaf
import Derived.Test.YtbemegmelmannaaGreatDoorWT
namespace Go.Wk
open Go Go.Proofs Go.Ab
set_option maxRecDepth 100000
set_option maxHeartbeats 4000000
section
attribute [local irreducible] RW CW DK OkL Ok Andthen InBlock Round RetG XS.post rng quoO remO ixO sliceO appO appzO lenOk loopO GTo Ghost FnC FnK LocL OptL Kp BsL BuL RpL Bk Lc JQ AK
instance:HS Tryz.f59.results [(0,23,0,.trq 19 4 [1,0]),(2,8,0,.tr 6 25),(0,38,0,.tr 33 6),(2,10,0,.tr 6 38),(0,42,0,.tr 41 6),(0,43,0,.trq 40 4 [2,0]),(1,2,0,.trf 45 0 4 [0,0]),(1,2,1,.trf 45 1 4 [1,0]),(1,2,2,.trf 45 2 4 [2,0])]:=⟨⟩
instance (x0:List Int):LH (R:=SPr) (l1_I x0) [2,3,4,5] [] (fun s6 => [(6,L 1 lV s6.1),(7,I s6.2)]) (.xe 2 [] fun r8 => [(6,L 1 lV r8)]):=⟨⟩
instance (x0:List Int):LN (l2_I x0) 4:=⟨⟩
instance (x0:List Int) (A0 A1 A2:T):LHk (R:=SPr) (l2_I x0) (T.ptr (T.agg [A0,A1,A2])) [2,3] [] (fun s5 => [(4,T.ptr (T.agg [A0,L 1 lV s5.1,L 1 lM s5.2.1])),(5,I s5.2.2)]) (.xe 0 [3] fun r11 => [(4,T.ptr (T.agg [A0,L 1 lV r11.1,L 1 lM r11.2]))]):=⟨⟩
instance t_I:FI Tryz.prog 59 (∀ (x0:List Int),FnK Tryz.prog 59 [T.ro (lV x0)] (fun r:SPr => [eSPr r]) (fun _ => []) (f_I x0)):=⟨Tryz.call59,fun x0 => iM Tryz.func59⟩
instance:HS Tryz.f76.results [(0,28,0,.trq 20 3 [2,0]),(1,2,0,.trf 30 0 3 [0,0]),(1,2,1,.trf 30 1 3 [1,0]),(1,2,2,.trf 30 2 3 [2,0])]:=⟨⟩
instance (x0:SPr):LN (l1_ap x0) 3:=⟨⟩
instance (x0:SPr) (A0 A1 A2:T):LHk (R:=SPr) (l1_ap x0) (T.ptr (T.agg [A0,A1,A2])) [1,2] [] (fun s1 => [(3,T.ptr (T.agg [A0,A1,L 1 lM s1.1])),(4,I s1.2)]) (.xe 0 [1] fun r7 => [(3,T.ptr (T.agg [A0,A1,L 1 lM r7]))]):=⟨⟩
instance t_ap:FI Tryz.prog 76 (∀ (x0:SPr),FnK Tryz.prog 76 [qPr x0] (fun r:SPr => [eSPr r]) (fun _ => []) (f_ap x0)):=⟨Tryz.call76,fun x0 => iM Tryz.func76⟩
instance t_aP:FI Tryz.prog 80 (∀ (x0:Int),FnK Tryz.prog 80 [I x0] (fun r:ByteArray => [Str r]) (fun _ => []) (f_aP x0)):=⟨Tryz.call80,fun x0 => iM Tryz.func80⟩
instance:HS Tryz.f88.results [(0,22,0,.trq 18 4 [1,0]),(0,36,0,.tr 31 6),(2,10,0,.tr 6 36),(0,40,0,.tr 39 6),(0,41,0,.trq 38 4 [2,0]),(1,2,0,.trf 44 0 4 [0,0]),(1,2,1,.trf 44 1 4 [1,0]),(1,2,2,.trf 44 2 4 [2,0])]:=⟨⟩
instance (x0:List Int):LH (R:=SPr) (l1_C x0) [2,3,4,13,14] [] (fun s6 => [(6,L 1 lV s6.1),(7,I s6.2)]) (.xe 2 [] fun r8 => [(6,L 1 lV r8)]):=⟨⟩
instance (x0:List Int):LN (l2_C x0) 4:=⟨⟩
instance (x0:List Int) (A0 A1 A2:T):LHk (R:=SPr) (l2_C x0) (T.ptr (T.agg [A0,A1,A2])) [2,3,13] [] (fun s5 => [(4,T.ptr (T.agg [A0,L 1 lV s5.1,L 1 lM s5.2.1])),(14,I s5.2.2)]) (.xe 0 [3,13] fun r11 => [(4,T.ptr (T.agg [A0,L 1 lV r11.1,L 1 lM r11.2]))]):=⟨⟩
instance t_C:FI Tryz.prog 88 (∀ (x0:List Int),FnK Tryz.prog 88 [T.ro (lV x0)] (fun r:SPr => [eSPr r]) (fun _ => []) (f_C x0)):=⟨Tryz.call88,fun x0 => iM Tryz.func88⟩
end
theorem u_H (x0:Int) (x1:ByteArray) (r:(List Int) × Bool) (h:f_H x0 x1 = some r):FnC Tryz.prog 108 [I x0,Str x1] [lV r.1,B r.2] []:=by
 refine fB Tryz.func108 (fun St W w0 v => ?_)
 refine sR (oP (x_nil 1 rfl) ?_)
 refine a_as ?_
 refine rN (CW.seq (sR (a_mv ?_)))
 refine oP (x_sEq rfl rfl rfl) ?_
 refine rN (cn h (fun hc h => ?_) (fun hc h => ?_))
 refine sR (oP (x_nil 1 rfl) ?_)
 refine a_as ?_
 refine rN (CW.ret (rA ?_))
 obtain rfl:=sI h
 exact rT
 refine CW.skip (nA (sR (oP (x_nil 1 rfl) ?_)))
 refine rN (CW.seq (sR (a_mv ?_)))
 obtain ⟨v1,hv1,h⟩:=bd h
 refine oP (x_s2b Tryz.underlying9 Tryz.underlying62 Tryz.underlying5 hv1 rfl rfl) ?_
 refine a_lenr ?_
 refine a_mv ?_
 refine rN (CW.block ?_)
 obtain ⟨r15,hr15,h⟩:=bd h
 refine CW.lp (s:=([],0)) (l1_H x0 v1) (fun s1:(List Int) × Int => envL [(0,I x0),(1,Str x1),(6,L 1 I s1.1),(13,T.ro ((L 1 (IK .u8)) v1)),(14,I (v1.length:Int)),(15,I s1.2)]) (fun (x:(List Int) ⊕ ((List Int) × Bool)) e E => match x with | (.inl r15) => e = .exit 0 ∧ Ghost ⟨St,W,w0,Tryz.f108.ntmps⟩ E (envL [(1,Str x1),(6,L 1 I r15)]) | (.inr r15) => e = .ret ∧ RetG ⟨St,W,w0,Tryz.f108.ntmps⟩ Tryz.prog Tryz.f108.results [I x0,Str x1] [lV r15.1,B r15.2] [] .ret E) (.has ⟨rfl,rfl,rfl,rfl,rfl,rfl,trivial⟩) (fun s1 x h => ?_) hr15 (fun e E hq => ?_)
 refine sR (a_lss ?_)
 refine rN (CW.seq (cn h (fun hc h => ?_) (fun hc h => ?_)))
 refine CW.skip (nA (CW.seq (CW.block (sR ?_))))
 obtain ⟨v2,hv2,h⟩:=bd h
 refine a_ixr ?_
 refine a_ldr ?_
 refine a_as ?_
 refine rN (sR (a_mv ?_))
 refine oP (x_convU Tryz.underlying5 Tryz.underlying2 rfl rfl) ?_
 obtain ⟨v3,hv3,h⟩:=bd h
 refine a_sub ?_
 obtain ⟨v4,hv4,h⟩:=bd h
 refine a_add ?_
 refine a_as ?_
 refine rN (CW.seq (sR (a_mv ?_)))
 refine oP (x_lssU rfl rfl rfl) ?_
 refine rN (cn h (fun hc h => ?_) (fun hc h => ?_))
 refine CW.region (a_mv ?_)
 refine oP (x_convU Tryz.underlying5 Tryz.underlying2 rfl rfl) ?_
 obtain ⟨v5,hv5,h⟩:=bd h
 refine a_sub ?_
 obtain ⟨v6,hv6,h⟩:=bd h
 refine a_sub ?_
 refine a_as ?_
 refine rN (CW.seq (sR (a_mv ?_)))
 refine oP (x_lssU rfl rfl rfl) ?_
 refine a_mv ?_
 refine RW.cases 31 _ rfl (fun hc => ?_) (fun hc => ?_)
 have h:=cT hc h
 refine sk2 ?_
 refine sk2 ?_
 refine a_pick ?_
 refine a_mv ?_
 refine sk2 ?_
 refine sk2 ?_
 refine sk2 ?_
 refine sk2 ?_
 refine sk2 ?_
 refine sk2 ?_
 refine a_pick ?_
 refine rN (CW.condT rfl ?_)
 refine CW.seq (CW.to [] trivial ?_)
 refine CW.region (oP (x_nil 1 rfl) ?_)
 refine a_as ?_
 refine rN (CW.ret (rA (rB ?_)))
 exact rA (eX h)
 have h:=cF hc h
 refine g_mv ?_
 refine g_eql ?_
 refine a_pick ?_
 refine a_mv ?_
 refine RW.cases 35 _ rfl (fun hc => ?_) (fun hc => ?_)
 have h:=cT hc h
 refine sk2 ?_
 refine sk2 ?_
 refine sk2 ?_
 refine sk2 ?_
 refine sk2 ?_
 refine sk2 ?_
 refine a_pick ?_
 refine rN (CW.condT rfl ?_)
 refine CW.seq (CW.to [] trivial ?_)
 refine CW.region (oP (x_nil 1 rfl) ?_)
 refine a_as ?_
 refine rN (CW.ret (rA (rB ?_)))
 exact rA (eX h)
 have h:=cF hc h
 refine g_mv ?_
 refine g_mv ?_
 obtain ⟨v7,hv7,h⟩:=bd h
 refine RW.cons (IxOk.guard 6 false 35 (x_neg hv7 rfl rfl)) ?_
 refine g_mv ?_
 obtain ⟨r8,hr8,h⟩:=bd h
 refine RW.cons (IxOk.guard 6 false 35 (x_call (xs:=[.tmp 36,.tmp 38,.tmp 39]) Tryz.call131 (FnK.go (t_ar.h _ _ _) hr8) ⟨(agC _ rfl rfl rfl),⟨(agC _ rfl rfl rfl),⟨(agC _ rfl rfl rfl),trivial⟩⟩⟩ (resC (f:=B) inferInstance resN) rfl)) ?_
 refine g_not ?_
 refine a_pick ?_
 refine rN (cn h (fun hc h => ?_) (fun hc h => ?_))
 refine CW.seq (CW.to [] trivial ?_)
 refine CW.region (oP (x_nil 1 rfl) ?_)
 refine a_as ?_
 refine rN (CW.ret (rA (rB ?_)))
 exact rA (eX h)
 refine CW.skip (nA (CW.to [(0,I x0),(1,Str x1),(6,L 1 I s1.1),(9,I v6),(13,T.ro ((L 1 (IK .u8)) v1)),(14,I (v1.length:Int)),(15,I s1.2)] ⟨rfl,rfl,rfl,rfl,rfl,rfl,rfl,trivial⟩ ?_))
 refine CW.region (a_mv ?_)
 refine a_mv ?_
 refine oP (x_bs elt_74 [.tmp 44] [.slot 44 (I v6)] [v6] I ⟨.slot _ _,trivial⟩ (pkS rfl (clean_of (Enc.clean (f:=I) _)) rfl pkN) rfl rfl) ?_
 refine RW.ghost (Ghost.tr 43 6 _ rfl rfl (clean_of (cleanL (Enc.clean (f:=I)))) rfl) ?_
 obtain ⟨v9,hv9,h⟩:=bd h
 refine oP (x_appc (f:=I) elt_74 (fun _ => rfl) hv9 rfl (locB rfl rfl) rfl) ?_
 refine a_as ?_
 refine RW.ghost (Ghost.tr 6 46 _ rfl rfl (clean_of (cleanL (Enc.clean (f:=I)))) rfl) ?_
 refine RW.nil ?_
 refine nB (nA (CW.region ?_))
 obtain ⟨v10,hv10,h⟩:=bd h
 refine a_add ?_
 refine a_mv ?_
 refine RW.nil ?_
 exact eN h
 refine CW.skip (nA (CW.seq (sR (a_mv ?_))))
 refine oP (x_lssU rfl rfl rfl) ?_
 refine a_mv ?_
 refine RW.cases 31 _ rfl (fun hc => ?_) (fun hc => ?_)
 have h:=cT hc h
 refine sk2 ?_
 refine sk2 ?_
 refine a_pick ?_
 refine a_mv ?_
 refine sk2 ?_
 refine sk2 ?_
 refine sk2 ?_
 refine sk2 ?_
 refine sk2 ?_
 refine sk2 ?_
 refine a_pick ?_
 refine rN (CW.condT rfl ?_)
 refine CW.seq (CW.to [] trivial ?_)
 refine CW.region (oP (x_nil 1 rfl) ?_)
 refine a_as ?_
 refine rN (CW.ret (rA (rB ?_)))
 exact rA (eX h)
 have h:=cF hc h
 refine g_mv ?_
 refine g_eql ?_
 refine a_pick ?_
 refine a_mv ?_
 refine RW.cases 35 _ rfl (fun hc => ?_) (fun hc => ?_)
 have h:=cT hc h
 refine sk2 ?_
 refine sk2 ?_
 refine sk2 ?_
 refine sk2 ?_
 refine sk2 ?_
 refine sk2 ?_
 refine a_pick ?_
 refine rN (CW.condT rfl ?_)
 refine CW.seq (CW.to [] trivial ?_)
 refine CW.region (oP (x_nil 1 rfl) ?_)
 refine a_as ?_
 refine rN (CW.ret (rA (rB ?_)))
 exact rA (eX h)
 have h:=cF hc h
 refine g_mv ?_
 refine g_mv ?_
 obtain ⟨v11,hv11,h⟩:=bd h
 refine RW.cons (IxOk.guard 6 false 35 (x_neg hv11 rfl rfl)) ?_
 refine g_mv ?_
 obtain ⟨r12,hr12,h⟩:=bd h
 refine RW.cons (IxOk.guard 6 false 35 (x_call (xs:=[.tmp 36,.tmp 38,.tmp 39]) Tryz.call131 (FnK.go (t_ar.h _ _ _) hr12) ⟨(agC _ rfl rfl rfl),⟨(agC _ rfl rfl rfl),⟨(agC _ rfl rfl rfl),trivial⟩⟩⟩ (resC (f:=B) inferInstance resN) rfl)) ?_
 refine g_not ?_
 refine a_pick ?_
 refine rN (cn h (fun hc h => ?_) (fun hc h => ?_))
 refine CW.seq (CW.to [] trivial ?_)
 refine CW.region (oP (x_nil 1 rfl) ?_)
 refine a_as ?_
 refine rN (CW.ret (rA (rB ?_)))
 exact rA (eX h)
 refine CW.skip (nA (CW.to [(0,I x0),(1,Str x1),(6,L 1 I s1.1),(9,I v4),(13,T.ro ((L 1 (IK .u8)) v1)),(14,I (v1.length:Int)),(15,I s1.2)] ⟨rfl,rfl,rfl,rfl,rfl,rfl,rfl,trivial⟩ ?_))
 refine CW.region (a_mv ?_)
 refine a_mv ?_
 refine oP (x_bs elt_74 [.tmp 44] [.slot 44 (I v4)] [v4] I ⟨.slot _ _,trivial⟩ (pkS rfl (clean_of (Enc.clean (f:=I) _)) rfl pkN) rfl rfl) ?_
 refine RW.ghost (Ghost.tr 43 6 _ rfl rfl (clean_of (cleanL (Enc.clean (f:=I)))) rfl) ?_
 obtain ⟨v13,hv13,h⟩:=bd h
 refine oP (x_appc (f:=I) elt_74 (fun _ => rfl) hv13 rfl (locB rfl rfl) rfl) ?_
 refine a_as ?_
 refine RW.ghost (Ghost.tr 6 46 _ rfl rfl (clean_of (cleanL (Enc.clean (f:=I)))) rfl) ?_
 refine RW.nil ?_
 refine nB (nA (CW.region ?_))
 obtain ⟨v14,hv14,h⟩:=bd h
 refine a_add ?_
 refine a_mv ?_
 refine RW.nil ?_
 exact eN h
 refine CW.exit (xA ?_)
 exact eX h
 rcases r15 with r15 | r15
 obtain ⟨rfl,hg⟩:=hq
 refine xB ?_
 refine nA (CW.ghost hg ?_)
 refine sR (a_mv ?_)
 refine a_mv ?_
 refine oP (x_sNe rfl rfl rfl) ?_
 refine a_as ?_
 refine a_as ?_
 refine RW.ghost (Ghost.tr 4 6 _ rfl rfl (clean_of (cleanL (Enc.clean (f:=I)))) rfl) ?_
 refine rN (CW.ret ?_)
 obtain rfl:=sI h
 exact rT
 obtain ⟨rfl,hq⟩:=hq
 refine rB ?_
 refine rA ?_
 obtain rfl:=sI h
 exact hq
instance t_H:FI Tryz.prog 108 (∀ (x0:Int) (x1:ByteArray),FnK Tryz.prog 108 [I x0,Str x1] (fun r:(List Int) × Bool => [lV r.1,B r.2]) (fun _ => []) (f_H x0 x1)):=⟨Tryz.call108,fun x0 x1 => FnK.mk (u_H x0 x1)⟩
section
attribute [local irreducible] RW CW DK OkL Ok Andthen InBlock Round RetG XS.post rng quoO remO ixO sliceO appO appzO lenOk loopO GTo Ghost FnC FnK LocL OptL Kp BsL BuL RpL Bk Lc JQ AK
instance (x0:SPr) (x1:List Int):LH (R:=Bool) (l1_aB x0 x1) [0,15,16] [] (fun s1 => [(17,I s1)]) (.xs (.xe 0 [0,15,16] fun _ => []) .xr):=⟨⟩
instance t_aB:FI Tryz.prog 132 (∀ (x0:SPr) (x1:List Int),FnK Tryz.prog 132 [T.ro ((Pt eSPr) x0),T.ro (lV x1)] (fun r:Bool => [B r]) (fun _ => []) (f_aB x0 x1)):=⟨Tryz.call132,fun x0 x1 => iM Tryz.func132⟩
end
theorem tN_b:∀ n,(∀ (x0:SPr) (x1:List Int) (x2:Int) r,fN_b n x0 x1 x2 = some r → FnC Tryz.prog 169 [T.ro ((Pt eSPr) x0),L 1 I x1,I x2] [] [(1,lV r)]) ∧ (∀ (x0:SPr) (x1:List Int) (x2:List Int) r,fN_c n x0 x1 x2 = some r → FnC Tryz.prog 157 [T.ro ((Pt eSPr) x0),L 1 I x1,T.ro (lV x2)] [] [(1,lV r)]):=by
  intro n
  induction n with
  | zero => exact ⟨(fun _ _ _ r h => by simp [fN_b] at h),(fun _ _ _ r h => by simp [fN_c] at h)⟩
  | succ n ih => exact ⟨(fun x0 x1 x2 r h => tb_b ih.2 x0 x1 x2 r (by simpa [fN_b] using h)),(fun x0 x1 x2 r h => tb_c ih.1 x0 x1 x2 r (by simpa [fN_c] using h))⟩
theorem u_b (x0:SPr) (x1:List Int) (x2:Int) (r:(List Int)) (h:f_b x0 x1 x2 = some r):FnC Tryz.prog 169 [T.ro ((Pt eSPr) x0),L 1 I x1,I x2] [] [(1,lV r)]:=by
 obtain ⟨n,hn⟩:=fuelO_some h
 exact (tN_b n).1 x0 x1 x2 r hn
theorem u_c (x0:SPr) (x1:List Int) (x2:List Int) (r:(List Int)) (h:f_c x0 x1 x2 = some r):FnC Tryz.prog 157 [T.ro ((Pt eSPr) x0),L 1 I x1,T.ro (lV x2)] [] [(1,lV r)]:=by
 obtain ⟨n,hn⟩:=fuelO_some h
 exact (tN_b n).2 x0 x1 x2 r hn
instance t_b:FI Tryz.prog 169 (∀ (x0:SPr) (x1:List Int) (x2:Int),FnK Tryz.prog 169 [T.ro ((Pt eSPr) x0),L 1 I x1,I x2] (fun _:(List Int) => []) (fun r => [(1,lV r)]) (f_b x0 x1 x2)):=⟨Tryz.call169,fun x0 x1 x2 => FnK.mk (u_b x0 x1 x2)⟩
instance t_c:FI Tryz.prog 157 (∀ (x0:SPr) (x1:List Int) (x2:List Int),FnK Tryz.prog 157 [T.ro ((Pt eSPr) x0),L 1 I x1,T.ro (lV x2)] (fun _:(List Int) => []) (fun r => [(1,lV r)]) (f_c x0 x1 x2)):=⟨Tryz.call157,fun x0 x1 x2 => FnK.mk (u_c x0 x1 x2)⟩
section
attribute [local irreducible] RW CW DK OkL Ok Andthen InBlock Round RetG XS.post rng quoO remO ixO sliceO appO appzO lenOk loopO GTo Ghost FnC FnK LocL OptL Kp BsL BuL RpL Bk Lc JQ AK
instance:HS Tryz.f36.results [(2,10,0,.tr 6 24),(0,33,0,.tr 31 6),(2,14,0,.tr 6 33)]:=⟨⟩
instance (x0:List (List SNode)):LH (R:=(List SNode)) (l1_y x0) [0,9,10] [] (fun s1 => [(3,I s1.1),(11,I s1.2)]) (.xe 0 [9,10] fun r4 => [(3,I r4)]):=⟨⟩
instance (x0:List (List SNode)):LH (R:=(List SNode)) (l2_y x0) [25,26] [] (fun s3 => [(6,L 3 eSNode s3.1),(27,I s3.2)]) (.xe 2 [25,26] fun r9 => [(6,L 3 eSNode r9)]):=⟨⟩
instance t_y:FI Tryz.prog 36 (∀ (x0:List (List SNode)),FnK Tryz.prog 36 [T.ro ((L 1 (L 3 eSNode)) x0)] (fun r:(List SNode) => [(L 3 eSNode) r]) (fun _ => []) (f_y x0)):=⟨Tryz.call36,fun x0 => iM Tryz.func36⟩
end
end Go.Wk
