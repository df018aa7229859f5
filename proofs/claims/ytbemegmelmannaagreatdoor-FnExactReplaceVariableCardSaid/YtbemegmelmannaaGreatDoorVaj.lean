/- x -/
import Derived.Test.YtbemegmelmannaaGreatDoorVab
import Derived.Test.YtbemegmelmannaaGreatDoorVag
import Derived.Test.YtbemegmelmannaaGreatDoorVae
import Derived.Test.YtbemegmelmannaaGreatDoorVai
import Derived.Test.YtbemegmelmannaaGreatDoorWT
namespace Go.Wk
open Go Go.Proofs Go.Ab
set_option maxRecDepth 100000
set_option maxHeartbeats 4000000
section
attribute [local irreducible] RW CW DK OkL Ok Andthen InBlock Round RetG XS.post rng quoO remO ixO sliceO appO appzO lenOk loopO GTo Ghost FnC FnK LocL OptL Kp BsL BuL RpL Bk Lc JQ AK
instance (x0:SPr):LH (R:=Bool) (l1_s x0) [1,3,30,31] [] (fun s1 => [(4,I s1.1),(32,I s1.2)]) (.xs (.xe 0 [30,31] fun _ => []) .xr):=⟨⟩
instance (x0:SPr) (s7:Int) (v12:List (List Int)):LH (R:=Bool) (l2_s x0 s7 v12) [1,3,7,49,50,78,79] [] (fun s8 => [(80,I s8)]) (.xs (.xe 4 [7,78,79] fun _ => []) .xr):=⟨⟩
instance (x0:SPr):LH (R:=Bool) (l3_s x0) [1,3,49] [] (fun s7 => [(50,I s7)]) (.xs (.xe 2 [1,3,49] fun _ => []) .xr):=⟨⟩
instance t_s:FI Tryz.prog 92 (∀ (x0:SPr),FnK Tryz.prog 92 [qPr x0] (fun r:Bool => [B r]) (fun _ => []) (f_s x0)):=⟨Tryz.call92,fun x0 => iM Tryz.func92⟩
instance t_aU:FI Tryz.prog 139 (∀ (x0:SPr) (x1:List Int) (x2:List Int),FnK Tryz.prog 139 [T.ro ((Pt eSPr) x0),T.ro (lV x1),T.ro (lV x2)] (fun r:(List Int) => [lV r]) (fun _ => []) (f_aU x0 x1 x2)):=⟨Tryz.call139,fun x0 x1 x2 => iM Tryz.func139⟩
end
theorem tb_k {g_w:SexprReader → Option ((List SNode) × Bool × SexprReader)} (H_w:∀ (x0:SexprReader) r,g_w x0 = some r → FnC Tryz.prog 43 [T.ptr (eSexprReader x0)] [(L 3 eSNode) r.1,B r.2.1] [(0,(Pt eSexprReader) r.2.2)]) (x0:SexprReader) (r:(List SNode) × Bool × SexprReader) (h:b_k g_w x0 = some r):FnC Tryz.prog 34 [T.ptr (eSexprReader x0)] [(L 3 eSNode) r.1,B r.2.1] [(0,(Pt eSexprReader) r.2.2)]:=by
 refine fB2 Tryz.func34 (fun St W w0 v => ?_)
 refine sR (oP (x_nil 3 rfl) ?_)
 refine a_as ?_
 refine rN (sR (a_mv ?_))
 obtain ⟨r1,hr1,h⟩:=bd h
 refine oP (x_callM (xs:=[.tmp 9]) 0 9 0 [] Tryz.call43 (H_w _ _ hr1) rfl rfl rfl (clean_of (cleanP (cleanA ⟨(Enc.clean (f:=Str) _),(Enc.clean (f:=I) _),trivial⟩))) (clean_of (cleanP (cleanA ⟨(Enc.clean (f:=Str) _),(Enc.clean (f:=I) _),trivial⟩))) rfl rfl ⟨(agLd rfl (clean_of (cleanP (cleanA ⟨(Enc.clean (f:=Str) _),(Enc.clean (f:=I) _),trivial⟩))) rfl),trivial⟩ (resC (f:=(L 3 eSNode)) inferInstance (resC (f:=B) inferInstance resN)) rfl rfl rfl rfl) ?_
 refine a_mvT ?_
 refine a_ext ?_
 refine a_ext ?_
 refine a_as ?_
 refine a_as ?_
 refine RW.ghost (Ghost.trq 4 10 [0] rfl rfl rfl (clean_of (cleanL (Enc.clean (f:=eSNode)))) rfl) ?_
 refine rN (CW.seq (CW.block ?_))
 obtain ⟨r5,hr5,h⟩:=bd h
 refine CW.lp (s:=(r1.2.2.text,r1.2.2.at_,r1.1,r1.2.1)) l1_k (fun s1:ByteArray × Int × (List SNode) × Bool => envL [(0,T.ptr (T.agg [Str s1.1,I s1.2.1])),(4,L 3 eSNode s1.2.2.1),(5,B s1.2.2.2)]) (fun (r5:(ByteArray × Int × (List SNode) × Bool)) e E => e = .exit 0 ∧ Ghost ⟨St,W,w0,Tryz.f34.ntmps⟩ E (envL [(0,T.ptr (T.agg [Str r5.1,I r5.2.1])),(4,L 3 eSNode r5.2.2.1),(5,B r5.2.2.2)])) (.has ⟨rfl,rfl,rfl,trivial⟩) (fun s1 x h => ?_) hr5 (fun e E hq => ?_)
 refine CW.seq (sR (a_mv ?_))
 refine a_mv ?_
 refine RW.cases 14 _ rfl (fun hc => ?_) (fun hc => ?_)
 have h:=cT hc h
 refine g_mv ?_
 obtain ⟨r2,hr2,h⟩:=bd h
 refine RW.cons (IxOk.guard 1 true 14 (x_callM (xs:=[.tmp 15,.const _]) 0 15 0 [] Tryz.call35 (t_aq.h _ _ _ hr2) rfl rfl rfl (clean_of (cleanP (cleanA ⟨(Enc.clean (f:=Str) _),(Enc.clean (f:=I) _),trivial⟩))) (clean_of (cleanP (cleanA ⟨(Enc.clean (f:=Str) _),(Enc.clean (f:=I) _),trivial⟩))) rfl rfl ⟨(agLd rfl (clean_of (cleanP (cleanA ⟨(Enc.clean (f:=Str) _),(Enc.clean (f:=I) _),trivial⟩))) rfl),⟨(agM _ rfl rfl rfl),trivial⟩⟩ (resC (f:=B) inferInstance resN) rfl rfl rfl rfl)) ?_
 refine a_pick ?_
 refine rN (cn h (fun hc h => ?_) (fun hc h => ?_))
 refine CW.skip (nA (CW.block (sR (a_mv ?_))))
 obtain ⟨r3,hr3,h⟩:=bd h
 refine oP (x_callM (xs:=[.tmp 19]) 0 19 0 [] Tryz.call44 (t_ah.h _ _ hr3) rfl rfl rfl (clean_of (cleanP (cleanA ⟨(Enc.clean (f:=Str) _),(Enc.clean (f:=I) _),trivial⟩))) (clean_of (cleanP (cleanA ⟨(Enc.clean (f:=Str) _),(Enc.clean (f:=I) _),trivial⟩))) rfl rfl ⟨(agLd rfl (clean_of (cleanP (cleanA ⟨(Enc.clean (f:=Str) _),(Enc.clean (f:=I) _),trivial⟩))) rfl),trivial⟩ (resC (f:=Str) inferInstance (resC (f:=B) inferInstance resN)) rfl rfl rfl rfl) ?_
 refine a_mvT ?_
 refine a_ext ?_
 refine a_ext ?_
 refine a_as ?_
 refine a_as ?_
 refine rN (sR (a_mv ?_))
 refine oP (x_build bld_49 [(0,.const _),(2,.tmp 23)] [(0,.zero (I 4)),(2,.slot 23 (Str r3.1))] [.zero (I 4),.zero (Str ByteArray.empty),.slot 23 (Str r3.1)] (pkZ rfl (pkZ rfl (pkS rfl (clean_of (Enc.clean (f:=Str) _)) rfl pkN))) (bqC (.zero _ _ rfl) (bqC (.slot _ _) bqN)) rfl) ?_
 refine oP (x_bs elt_22 [.tmp 24] [.slot 24 (T.agg [I 4,Str ByteArray.empty,Str r3.1])] [(SNode.mk 4 ByteArray.empty r3.1)] eSNode ⟨.slot _ _,trivial⟩ (pkS rfl (clean_of (cleanA ⟨(Enc.clean (f:=I) _),(Enc.clean (f:=Str) _),(Enc.clean (f:=Str) _),trivial⟩)) rfl pkN) rfl rfl) ?_
 refine a_mv ?_
 refine RW.ghost (Ghost.tr 26 4 _ rfl rfl (clean_of (cleanL (Enc.clean (f:=eSNode)))) rfl) ?_
 refine oP (x_bs elt_68 [.tmp 25,.tmp 26] [.slot 25 (L 3 eSNode [(SNode.mk 4 ByteArray.empty r3.1)]),.slot 26 (L 3 eSNode s1.2.2.1)] [[(SNode.mk 4 ByteArray.empty r3.1)],s1.2.2.1] (L 3 eSNode) ⟨.slot _ _,.slot _ _,trivial⟩ (pkS rfl (clean_of (cleanL (Enc.clean (f:=eSNode)))) rfl (pkS rfl (clean_of (cleanL (Enc.clean (f:=eSNode)))) rfl pkN)) rfl rfl) ?_
 obtain ⟨r4,hr4,h⟩:=bd h
 refine cA Tryz.call36 (FnK.go (t_y.h _) hr4) ?_
 refine a_as ?_
 refine RW.ghost (Ghost.tr 4 28 _ rfl rfl (clean_of (cleanL (Enc.clean (f:=eSNode)))) rfl) ?_
 refine rN (CW.region (a_mv ?_))
 refine a_as ?_
 refine RW.nil ?_
 exact nB (eN h)
 refine CW.exit (xA ?_)
 exact eX h
 have h:=cF hc h
 refine sk2 ?_
 refine sk2 ?_
 refine a_pick ?_
 refine rN (CW.condF rfl ?_)
 refine CW.exit (xA ?_)
 exact eX h
 obtain ⟨rfl,hg⟩:=hq
 refine xB ?_
 refine nA (CW.ghost hg ?_)
 refine sR (a_mv ?_)
 refine a_mv ?_
 refine a_as ?_
 refine a_as ?_
 refine RW.ghost (Ghost.tr 2 4 _ rfl rfl (clean_of (cleanL (Enc.clean (f:=eSNode)))) rfl) ?_
 refine rN (CW.ret ?_)
 obtain rfl:=sI h
 exact rT
theorem u_U (x0:List SNode) (x1:Int) (r:Int × (List SNode)) (h:f_U x0 x1 = some r):FnC Tryz.prog 10 [L 3 eSNode x0,I x1] [I r.1] [(0,(L 3 eSNode) r.2)]:=by
 refine fB Tryz.func10 (fun St W w0 v => ?_)
 refine sR (a_as ?_)
 refine rN (CW.seq (sR (a_as ?_)))
 refine rN (CW.block ?_)
 obtain ⟨r10,hr10,h⟩:=bd h
 refine CW.lp (s:=(x0,x1,0)) l1_U (fun s1:(List SNode) × Int × Int => envL [(0,L 3 eSNode s1.1),(1,I s1.2.1),(5,I s1.2.2)]) (fun (r10:((List SNode) × Int)) e E => e = .exit 0 ∧ Ghost ⟨St,W,w0,Tryz.f10.ntmps⟩ E (envL [(0,L 3 eSNode r10.1),(1,I r10.2)])) (.has ⟨rfl,rfl,rfl,trivial⟩) (fun s1 x h => ?_) hr10 (fun e E hq => ?_)
 refine CW.seq (sR (a_mv ?_))
 refine a_mv ?_
 refine a_len ?_
 refine a_lss ?_
 refine rN (cn h (fun hc h => ?_) (fun hc h => ?_))
 refine CW.skip (nA (CW.seq (CW.block (sR (a_mv ?_)))))
 refine a_mv ?_
 refine a_mv ?_
 obtain ⟨v1,hv1,h⟩:=bd h
 refine a_ix ?_
 refine oP (x_faa fld_49_0 rfl rfl (getc hv1 rfl) rfl rfl rfl) ?_
 refine oP (x_st inf_2 rfl rfl rfl (getc hv1 rfl) (setc (w:=SNode.mk s1.2.1 v1.Text v1.Mark) hv1 rfl) rfl (clean_of (Enc.clean (f:=I) _)) rfl) ?_
 refine rN (sR (a_mv ?_))
 obtain ⟨v2,hv2,h⟩:=bd h
 refine a_add ?_
 refine a_as ?_
 refine rN (sR (a_mv ?_))
 refine a_mv ?_
 refine a_mv ?_
 obtain ⟨r3,hr3,h⟩:=bd h
 refine cA Tryz.call23 (FnK.go (t_T.h _) hr3) ?_
 obtain ⟨v4,hv4,h⟩:=bd h
 refine a_ix ?_
 refine oP (x_faa fld_49_1 rfl rfl (getc hv4 rfl) rfl rfl rfl) ?_
 refine oP (x_st inf_9 rfl rfl rfl (getc hv4 rfl) (setc (w:=SNode.mk v4.Kind r3 v4.Mark) hv4 rfl) rfl (clean_of (Enc.clean (f:=Str) _)) rfl) ?_
 refine rN (sR (a_mv ?_))
 obtain ⟨v5,hv5,h⟩:=bd h
 refine a_add ?_
 refine a_as ?_
 refine rN (sR (a_mv ?_))
 refine a_mv ?_
 refine a_mv ?_
 obtain ⟨r6,hr6,h⟩:=bd h
 refine cA Tryz.call23 (FnK.go (t_T.h _) hr6) ?_
 obtain ⟨v7,hv7,h⟩:=bd h
 refine a_ix ?_
 refine oP (x_faa fld_49_2 rfl rfl (getc hv7 rfl) rfl rfl rfl) ?_
 refine oP (x_st inf_9 rfl rfl rfl (getc hv7 rfl) (setc (w:=SNode.mk v7.Kind v7.Text r6) hv7 rfl) rfl (clean_of (Enc.clean (f:=Str) _)) rfl) ?_
 refine rN (CW.to [(0,L 3 eSNode (((s1.1.set s1.2.2.toNat (SNode.mk s1.2.1 v1.Text v1.Mark)).set s1.2.2.toNat (SNode.mk v4.Kind r3 v4.Mark)).set s1.2.2.toNat (SNode.mk v7.Kind v7.Text r6))),(1,I v5),(5,I s1.2.2)] ⟨rfl,rfl,rfl,trivial⟩ ?_)
 refine CW.region (a_mv ?_)
 obtain ⟨v8,hv8,h⟩:=bd h
 refine a_add ?_
 refine a_as ?_
 refine RW.nil ?_
 refine nB (nA (CW.region (a_mv ?_)))
 obtain ⟨v9,hv9,h⟩:=bd h
 refine a_add ?_
 refine a_as ?_
 refine RW.nil ?_
 exact eN h
 refine CW.exit (xA ?_)
 exact eX h
 obtain ⟨rfl,hg⟩:=hq
 refine xB ?_
 refine nA (CW.ghost hg ?_)
 refine sR (a_mv ?_)
 refine a_as ?_
 refine rN (CW.ret ?_)
 obtain rfl:=sI h
 exact rT
instance t_U:FI Tryz.prog 10 (∀ (x0:List SNode) (x1:Int),FnK Tryz.prog 10 [L 3 eSNode x0,I x1] (fun r:Int × (List SNode) => [I r.1]) (fun r => [(0,(L 3 eSNode) r.2)]) (f_U x0 x1)):=⟨Tryz.call10,fun x0 x1 => FnK.mk (u_U x0 x1)⟩
theorem u_x (x0:List SNode) (r:(List SNode)) (h:f_x x0 = some r):FnC Tryz.prog 14 [T.ro ((L 3 eSNode) x0)] [(L 3 eSNode) r] []:=by
 refine fB Tryz.func14 (fun St W w0 v => ?_)
 refine sR (oP (x_nil 3 rfl) ?_)
 refine rN (sR (a_mv ?_))
 refine a_lenr ?_
 obtain ⟨m1,hm1,h⟩:=bd h
 refine oP (x_makeL (f:=eSNode) (z:=(SNode.mk 0 ByteArray.empty ByteArray.empty)) elt_22 (rfl) hm1 rfl rfl rfl) ?_
 refine a_as ?_
 refine RW.ghost (Ghost.tr 3 7 _ rfl rfl (clean_of (cleanL (Enc.clean (f:=eSNode)))) rfl) ?_
 refine rN (CW.seq (sR (a_as ?_)))
 refine rN (CW.block ?_)
 obtain ⟨r6,hr6,h⟩:=bd h
 refine CW.lp (s:=(List.replicate m1 ((SNode.mk 0 ByteArray.empty ByteArray.empty):SNode),0)) (l1_x x0) (fun s1:(List SNode) × Int => envL [(0,T.ro ((L 3 eSNode) x0)),(3,L 3 eSNode s1.1),(4,I s1.2)]) (fun (r6:(List SNode)) e E => e = .exit 0 ∧ Ghost ⟨St,W,w0,Tryz.f14.ntmps⟩ E (envL [(3,L 3 eSNode r6)])) (.has ⟨rfl,rfl,rfl,trivial⟩) (fun s1 x h => ?_) hr6 (fun e E hq => ?_)
 refine CW.seq (sR (a_mv ?_))
 refine a_mv ?_
 refine a_lenr ?_
 refine a_lss ?_
 refine rN (cn h (fun hc h => ?_) (fun hc h => ?_))
 refine CW.skip (nA (CW.seq (CW.block (CW.region (a_mv ?_)))))
 refine a_mv ?_
 refine a_mv ?_
 refine a_mv ?_
 obtain ⟨v2,hv2,h⟩:=bd h
 refine a_ixr ?_
 refine a_ldr ?_
 obtain ⟨r3,hr3,h⟩:=bd h
 refine cA Tryz.call26 (FnK.go (t_a4.h _) hr3) ?_
 obtain ⟨v4,hv4,h⟩:=bd h
 refine a_ix ?_
 refine oP (x_st inf_49 rfl rfl rfl (getc hv4 rfl) (setc hv4 rfl) rfl (clean_of (cleanA ⟨(Enc.clean (f:=I) _),(Enc.clean (f:=Str) _),(Enc.clean (f:=Str) _),trivial⟩)) rfl) ?_
 refine RW.nil ?_
 refine nB (nA (CW.region (a_mv ?_)))
 obtain ⟨v5,hv5,h⟩:=bd h
 refine a_add ?_
 refine a_as ?_
 refine RW.nil ?_
 exact eN h
 refine CW.exit (xA ?_)
 exact eX h
 obtain ⟨rfl,hg⟩:=hq
 refine xB ?_
 refine nA (CW.ghost hg ?_)
 refine sR (a_mv ?_)
 refine a_as ?_
 refine RW.ghost (Ghost.tr 2 3 _ rfl rfl (clean_of (cleanL (Enc.clean (f:=eSNode)))) rfl) ?_
 refine rN (CW.ret ?_)
 obtain rfl:=sI h
 exact rT
instance t_x:FI Tryz.prog 14 (∀ (x0:List SNode),FnK Tryz.prog 14 [T.ro ((L 3 eSNode) x0)] (fun r:(List SNode) => [(L 3 eSNode) r]) (fun _ => []) (f_x x0)):=⟨Tryz.call14,fun x0 => FnK.mk (u_x x0)⟩
theorem tN_e:∀ n,(∀ (x0:List SNode) (x1:Int) r,fN_e n x0 x1 = some r → FnC Tryz.prog 28 [T.ro ((L 3 eSNode) x0),I x1] [Str r.1,I r.2] []):=by
  intro n
  induction n with
  | zero => exact (fun _ _ r h => by simp [fN_e] at h)
  | succ n ih => exact (fun x0 x1 r h => tb_e ih x0 x1 r (by simpa [fN_e] using h))
theorem u_e (x0:List SNode) (x1:Int) (r:ByteArray × Int) (h:f_e x0 x1 = some r):FnC Tryz.prog 28 [T.ro ((L 3 eSNode) x0),I x1] [Str r.1,I r.2] []:=by
 obtain ⟨n,hn⟩:=fuelO_some h
 exact (tN_e n) x0 x1 r hn
instance t_e:FI Tryz.prog 28 (∀ (x0:List SNode) (x1:Int),FnK Tryz.prog 28 [T.ro ((L 3 eSNode) x0),I x1] (fun r:ByteArray × Int => [Str r.1,I r.2]) (fun _ => []) (f_e x0 x1)):=⟨Tryz.call28,fun x0 x1 => FnK.mk (u_e x0 x1)⟩
end Go.Wk
