/- x -/
import Derived.Test.YtbemegmelmannaaGreatDoorVaa
import Derived.Test.YtbemegmelmannaaGreatDoorVab
import Derived.Test.YtbemegmelmannaaGreatDoorVac
import Derived.Test.YtbemegmelmannaaGreatDoorVad
import Derived.Test.YtbemegmelmannaaGreatDoorWT
namespace Go.Wk
open Go Go.Proofs Go.Ab
set_option maxRecDepth 100000
set_option maxHeartbeats 4000000
section
attribute [local irreducible] RW CW DK OkL Ok Andthen InBlock Round RetG XS.post rng quoO remO ixO sliceO appO appzO lenOk loopO GTo Ghost FnC FnK LocL OptL Kp BsL BuL RpL Bk Lc JQ AK
instance:HS Tryz.f58.results [(2,2,0,.tr 4 8),(2,5,0,.tr 5 13),(0,35,0,.tr 32 4),(2,7,0,.tr 4 35)]:=⟨⟩
instance (r1:(List ByteArray)):LH (R:=(List Int) × Bool) (l1_Q r1) [5] [] (fun s1 => [(4,L 1 I s1.1),(6,I s1.2)]) (.xs (.xe 0 [5] fun r7 => [(4,L 1 I r7)]) .xr):=⟨⟩
instance t_Q:FI Tryz.prog 58 (∀ (x0:ByteArray),FnK Tryz.prog 58 [Str x0] (fun r:(List Int) × Bool => [lV r.1,B r.2]) (fun _ => []) (f_Q x0)):=⟨Tryz.call58,fun x0 => iM Tryz.func58⟩
end
theorem tb_i {g_h:Sl36Reader → Option ((List SNode) × Sl36Reader)} (H_h:∀ (x0:Sl36Reader) r,g_h x0 = some r → FnC Tryz.prog 32 [T.ptr (eSl36Reader x0)] [(L 3 eSNode) r.1] [(0,(Pt eSl36Reader) r.2)]) (x0:Sl36Reader) (r:(List SNode) × Sl36Reader) (h:b_i g_h x0 = some r):FnC Tryz.prog 20 [T.ptr (eSl36Reader x0)] [(L 3 eSNode) r.1] [(0,(Pt eSl36Reader) r.2)]:=by
 refine fB2 Tryz.func20 (fun St W w0 v => ?_)
 refine sR (oP (x_nil 3 rfl) ?_)
 refine rN (sR (a_mv ?_))
 obtain ⟨r1,hr1,h⟩:=bd h
 refine oP (x_callM (xs:=[.tmp 5]) 0 5 0 [] Tryz.call32 (H_h _ _ hr1) rfl rfl rfl (clean_of (cleanP (cleanA ⟨(Enc.clean (f:=Str) _),(Enc.clean (f:=I) _),(Enc.clean (f:=B) _),trivial⟩))) (clean_of (cleanP (cleanA ⟨(Enc.clean (f:=Str) _),(Enc.clean (f:=I) _),(Enc.clean (f:=B) _),trivial⟩))) rfl rfl ⟨(agLd rfl (clean_of (cleanP (cleanA ⟨(Enc.clean (f:=Str) _),(Enc.clean (f:=I) _),(Enc.clean (f:=B) _),trivial⟩))) rfl),trivial⟩ (resC (f:=(L 3 eSNode)) inferInstance resN) rfl rfl rfl rfl) ?_
 refine a_as ?_
 refine RW.ghost (Ghost.tr 3 6 _ rfl rfl (clean_of (cleanL (Enc.clean (f:=eSNode)))) rfl) ?_
 refine rN (CW.seq (CW.block ?_))
 obtain ⟨r7,hr7,h⟩:=bd h
 refine CW.lp (s:=(r1.2.text,r1.2.at_,r1.2.failed,r1.1)) (l1_i g_h) (fun s1:ByteArray × Int × Bool × (List SNode) => envL [(0,T.ptr (T.agg [Str s1.1,I s1.2.1,B s1.2.2.1])),(3,L 3 eSNode s1.2.2.2)]) (fun (r7:(ByteArray × Int × Bool × (List SNode))) e E => e = .exit 0 ∧ Ghost ⟨St,W,w0,Tryz.f20.ntmps⟩ E (envL [(0,T.ptr (T.agg [Str r7.1,I r7.2.1,B r7.2.2.1])),(3,L 3 eSNode r7.2.2.2)])) (.has ⟨rfl,rfl,trivial⟩) (fun s1 x h => ?_) hr7 (fun e E hq => ?_)
 refine CW.seq (sR (a_mv ?_))
 refine a_nilc ?_
 refine a_fa ?_
 refine a_ld ?_
 refine a_not ?_
 refine a_mv ?_
 refine RW.cases 12 _ rfl (fun hc => ?_) (fun hc => ?_)
 have h:=cT hc h
 refine g_mv ?_
 obtain ⟨r2,hr2,h⟩:=bd h
 refine RW.cons (IxOk.guard 5 true 12 (x_call (xs:=[.tmp 13,.const _]) Tryz.call33 (FnK.go (t_aJ.h _ _) hr2) ⟨(agC _ rfl (cloSP rfl rfl rfl) rfl),⟨(agC _ rfl rfl rfl),trivial⟩⟩ (resC (f:=B) inferInstance resN) rfl)) ?_
 refine a_pick ?_
 refine rN (cn h (fun hc h => ?_) (fun hc h => ?_))
 refine CW.skip (nA (CW.block (sR (a_mv ?_))))
 refine a_nilc ?_
 refine a_fa ?_
 refine a_ld ?_
 obtain ⟨v3,hv3,h⟩:=bd h
 refine a_add ?_
 refine a_nilc ?_
 refine a_fa ?_
 refine oP (x_st inf_3 rfl rfl rfl rfl rfl rfl (clean_of (Enc.clean (f:=I) _)) rfl) ?_
 refine rN (sR (a_mv ?_))
 obtain ⟨r4,hr4,h⟩:=bd h
 refine oP (x_callM (xs:=[.tmp 23]) 0 23 0 [] Tryz.call32 (H_h _ _ hr4) rfl rfl rfl (clean_of (cleanP (cleanA ⟨(Enc.clean (f:=Str) _),(Enc.clean (f:=I) _),(Enc.clean (f:=B) _),trivial⟩))) (clean_of (cleanP (cleanA ⟨(Enc.clean (f:=Str) _),(Enc.clean (f:=I) _),(Enc.clean (f:=B) _),trivial⟩))) rfl rfl ⟨(agLd rfl (clean_of (cleanP (cleanA ⟨(Enc.clean (f:=Str) _),(Enc.clean (f:=I) _),(Enc.clean (f:=B) _),trivial⟩))) rfl),trivial⟩ (resC (f:=(L 3 eSNode)) inferInstance resN) rfl rfl rfl rfl) ?_
 refine a_as ?_
 refine RW.ghost (Ghost.tr 4 24 _ rfl rfl (clean_of (cleanL (Enc.clean (f:=eSNode)))) rfl) ?_
 refine rN (CW.region (oP (x_build bld_49 [(0,.const _)] [(0,.zero (I 3))] [.zero (I 3),.zero (Str ByteArray.empty),.zero (Str ByteArray.empty)] (pkZ rfl (pkZ rfl (pkZ rfl pkN))) (bqC (.zero _ _ rfl) bqN) rfl) ?_))
 refine oP (x_bs elt_22 [.tmp 25] [.slot 25 (T.agg [I 3,Str ByteArray.empty,Str ByteArray.empty])] [(SNode.mk 3 ByteArray.empty ByteArray.empty)] eSNode ⟨.slot _ _,trivial⟩ (pkS rfl (clean_of (cleanA ⟨(Enc.clean (f:=I) _),(Enc.clean (f:=Str) _),(Enc.clean (f:=Str) _),trivial⟩)) rfl pkN) rfl rfl) ?_
 refine a_mv ?_
 obtain ⟨v5,hv5,h⟩:=bd h
 refine oP (x_appc (f:=eSNode) elt_22 (fun _ => rfl) hv5 rfl (locA rfl rfl rfl rfl) rfl) ?_
 refine a_mv ?_
 obtain ⟨v6,hv6,h⟩:=bd h
 refine oP (x_appc (f:=eSNode) elt_22 (fun _ => rfl) hv6 rfl (locA rfl rfl rfl rfl) rfl) ?_
 refine a_as ?_
 refine RW.ghost (Ghost.tr 3 30 _ rfl rfl (clean_of (cleanL (Enc.clean (f:=eSNode)))) rfl) ?_
 refine RW.nil ?_
 exact nB (eN h)
 refine CW.exit (xA ?_)
 exact eX h
 have h:=cF hc h
 refine sk2 ?_
 refine sk2 ?_
 refine a_pick ?_
 refine rN (CW.condF rfl ?_)
 refine CW.exit (xA ?_)
 exact eX h
 obtain ⟨rfl,hg⟩:=hq
 refine xB ?_
 refine nA (CW.ghost hg ?_)
 refine sR (a_mv ?_)
 refine a_as ?_
 refine RW.ghost (Ghost.tr 2 3 _ rfl rfl (clean_of (cleanL (Enc.clean (f:=eSNode)))) rfl) ?_
 refine rN (CW.ret ?_)
 obtain rfl:=sI h
 exact rT
theorem tb_h {g_v:Sl36Reader → Option ((List SNode) × Sl36Reader)} (H_v:∀ (x0:Sl36Reader) r,g_v x0 = some r → FnC Tryz.prog 42 [T.ptr (eSl36Reader x0)] [(L 3 eSNode) r.1] [(0,(Pt eSl36Reader) r.2)]) (x0:Sl36Reader) (r:(List SNode) × Sl36Reader) (h:b_h g_v x0 = some r):FnC Tryz.prog 32 [T.ptr (eSl36Reader x0)] [(L 3 eSNode) r.1] [(0,(Pt eSl36Reader) r.2)]:=by
 refine fB2 Tryz.func32 (fun St W w0 v => ?_)
 refine sR (oP (x_nil 3 rfl) ?_)
 refine rN (sR (a_mv ?_))
 obtain ⟨r1,hr1,h⟩:=bd h
 refine oP (x_callM (xs:=[.tmp 4]) 0 4 0 [] Tryz.call42 (H_v _ _ hr1) rfl rfl rfl (clean_of (cleanP (cleanA ⟨(Enc.clean (f:=Str) _),(Enc.clean (f:=I) _),(Enc.clean (f:=B) _),trivial⟩))) (clean_of (cleanP (cleanA ⟨(Enc.clean (f:=Str) _),(Enc.clean (f:=I) _),(Enc.clean (f:=B) _),trivial⟩))) rfl rfl ⟨(agLd rfl (clean_of (cleanP (cleanA ⟨(Enc.clean (f:=Str) _),(Enc.clean (f:=I) _),(Enc.clean (f:=B) _),trivial⟩))) rfl),trivial⟩ (resC (f:=(L 3 eSNode)) inferInstance resN) rfl rfl rfl rfl) ?_
 refine a_as ?_
 refine RW.ghost (Ghost.tr 3 5 _ rfl rfl (clean_of (cleanL (Enc.clean (f:=eSNode)))) rfl) ?_
 refine rN (CW.seq (CW.block ?_))
 obtain ⟨r11,hr11,h⟩:=bd h
 refine CW.lp (s:=(r1.2.at_,r1.1)) (l1_h r1) (fun s1:Int × (List SNode) => envL [(0,T.ptr (T.agg [Str r1.2.text,I s1.1,B r1.2.failed])),(3,L 3 eSNode s1.2)]) (fun (x:(Int × (List SNode)) ⊕ ((List SNode) × Sl36Reader)) e E => match x with | (.inl r11) => e = .exit 0 ∧ Ghost ⟨St,W,w0,Tryz.f32.ntmps⟩ E (envL [(0,T.ptr (T.agg [Str r1.2.text,I r11.1,B r1.2.failed])),(3,L 3 eSNode r11.2)]) | (.inr r11) => e = .ret ∧ RetG ⟨St,W,w0,Tryz.f32.ntmps⟩ Tryz.prog Tryz.f32.results [T.ptr (eSl36Reader x0)] [(L 3 eSNode) r11.1] [(0,(Pt eSl36Reader) r11.2)] .ret E) (.has ⟨rfl,rfl,trivial⟩) (fun s1 x h => ?_) hr11 (fun e E hq => ?_)
 refine CW.seq (sR (a_mv ?_))
 refine a_nilc ?_
 refine a_fa ?_
 refine a_ld ?_
 refine a_not ?_
 refine a_mv ?_
 refine RW.cases 11 _ rfl (fun hc => ?_) (fun hc => ?_)
 have h:=cT hc h
 refine g_mv ?_
 obtain ⟨r2,hr2,h⟩:=bd h
 refine RW.cons (IxOk.guard 5 true 11 (x_call (xs:=[.tmp 12,.const _]) Tryz.call33 (FnK.go (t_aJ.h _ _) hr2) ⟨(agC _ rfl (cloSP rfl rfl rfl) rfl),⟨(agC _ rfl rfl rfl),trivial⟩⟩ (resC (f:=B) inferInstance resN) rfl)) ?_
 refine a_pick ?_
 refine rN (cn h (fun hc h => ?_) (fun hc h => ?_))
 refine CW.skip (nA (CW.block (sR (a_mv ?_))))
 refine a_nilc ?_
 refine a_fa ?_
 refine a_ld ?_
 obtain ⟨v3,hv3,h⟩:=bd h
 refine a_add ?_
 refine a_nilc ?_
 refine a_fa ?_
 refine oP (x_st inf_3 rfl rfl rfl rfl rfl rfl (clean_of (Enc.clean (f:=I) _)) rfl) ?_
 refine rN (CW.seq (CW.seq (CW.casesB (decide (v3 ≥ (r1.2.text.size:Int))) (fun hc0 => ?_) (fun hc0 => ?_))))
 have h:=cT hc0 h
 refine CW.dk ?_
 refine d_mv [(0,_)] ?_
 refine d_nilc [(22,_),(0,_)] ?_
 refine d_fa [(23,_),(0,_)] ?_
 refine d_ld [(24,_),(0,_)] ?_
 refine d_mv [(0,_)] ?_
 refine d_nilc [(26,_),(0,_)] ?_
 refine d_fa [(27,_),(0,_)] ?_
 refine d_ld [(28,_),(0,_)] ?_
 refine dG [(29,_)] [([(30,some (I (r1.2.text.size:Int)))],[(30,0)])] ⟨rfl,trivial⟩ (fun E h => IxOk.opE (x_lenS Tryz.underlying9 h.1 rfl) rfl) ?_
 refine dG [(25,_),(30,_)] [([(31,some (B true))],[(31,0)])] ⟨rfl,rfl,trivial⟩ (fun E h => IxOk.opE (okB_eq hc0 (x_geq h.1 h.2.1 rfl)) rfl) ?_
 refine d_mv [(31,_)] ?_
 refine dsk2 ?_
 refine dsk2 ?_
 refine dsk2 ?_
 refine dsk2 ?_
 refine dsk2 ?_
 refine dsk2 ?_
 refine dsk2 ?_
 refine dsk2 ?_
 refine dsk2 ?_
 refine dsk2 ?_
 refine dsk2 ?_
 refine dsk2 ?_
 refine dsk2 ?_
 refine dsk2 ?_
 refine dsk2 ?_
 refine dsk2 ?_
 refine d_pick [(32,_)] ?_
 refine dN ([] :: [0] :: [0,1] :: [0,1,2] :: [] :: [4] :: [4,5] :: [4,5,6] :: [4,5,6,7] :: [0,1,2,3,4,5,6,7,8] :: [0,1,2,3,4,5,6,7,8,9] :: [0,1,2,3,4,5,6,7,8,9,10] :: [0,1,2,3,4,5,6,7,8,9,10,11] :: [0,1,2,3,4,5,6,7,8,9,10,11,12] :: [0,1,2,3,4,5,6,7,8,9,10,11,12,13] :: [0,1,2,3,4,5,6,7,8,9,10] :: [0,1,2,3,4,5,6,7,8,9,10,15] :: [0,1,2,3,4,5,6,7,8,9,10,15,16] :: [0,1,2,3,4,5,6,7,8,9,10,15,16,17] :: [0,1,2,3,4,5,6,7,8,9,10] :: [0,1,2,3,4,5,6,7,8,9,10,19] :: [0,1,2,3,4,5,6,7,8,9,10,19,20] :: [0,1,2,3,4,5,6,7,8,9,10,19,20,21] :: [0,1,2,3,4,5,6,7,8,9,10,19,20,21,22] :: [0,1,2,3,4,5,6,7,8,9,10,11,12,13,14,15,16,17,18,19,20,21,22,23] :: [0,1,2,3,4,5,6,7,8,9,10,11,12,13,14,15,16,17,18,19,20,21,22,23,24] :: [0,1,2,3,4,5,6,7,8,9,10,11,12,13,14,15,16,17,18,19,20,21,22,23,24,25] :: [0,1,2,3,4,5,6,7,8,9,10,11,12,13,14,15,16,17,18,19,20,21,22,23,24,25,26] :: []) mixedP ?_
 refine nA (CW.condT rfl ?_)
 refine CW.seq (CW.to [(0,T.ptr (T.agg [Str r1.2.text,I v3,B r1.2.failed]))] ⟨rfl,trivial⟩ ?_)
 refine CW.region (a_mv ?_)
 refine a_nilc ?_
 refine a_fa ?_
 refine oP (x_stcT (u:=B true) inf_4 rfl rfl rfl rfl rfl rfl rfl) ?_
 refine rN (sR (oP (x_nil 3 rfl) ?_))
 refine rN (CW.ret (rA (rB ?_)))
 exact eX h
 have h:=cF hc0 h
 obtain ⟨v4,hv4,h⟩:=bd h
 obtain ⟨v5,hv5,h⟩:=bd h
 obtain ⟨r6,hr6,h⟩:=bd h
 refine CW.dk ?_
 refine d_mv [(0,_)] ?_
 refine d_nilc [(22,_),(0,_)] ?_
 refine d_fa [(23,_),(0,_)] ?_
 refine d_ld [(24,_),(0,_)] ?_
 refine d_mv [(0,_)] ?_
 refine d_nilc [(26,_),(0,_)] ?_
 refine d_fa [(27,_),(0,_)] ?_
 refine d_ld [(28,_),(0,_)] ?_
 refine dG [(29,_)] [([(30,some (I (r1.2.text.size:Int)))],[(30,0)])] ⟨rfl,trivial⟩ (fun E h => IxOk.opE (x_lenS Tryz.underlying9 h.1 rfl) rfl) ?_
 refine dG [(25,_),(30,_)] [([(31,some (B false))],[(31,0)])] ⟨rfl,rfl,trivial⟩ (fun E h => IxOk.opE (okB_eq hc0 (x_geq h.1 h.2.1 rfl)) rfl) ?_
 refine d_mv [(31,_)] ?_
 refine e_mv [(0,_),(32,_)] ?_
 refine e_nilc [(33,_),(0,_),(32,_)] ?_
 refine e_fa [(34,_),(0,_),(32,_)] ?_
 refine e_ld [(35,_),(0,_),(32,_)] ?_
 refine e_mv [(0,_),(32,_)] ?_
 refine e_nilc [(37,_),(0,_),(32,_)] ?_
 refine e_fa [(38,_),(0,_),(32,_)] ?_
 refine e_ld [(39,_),(0,_),(32,_)] ?_
 refine e_mv [(0,_),(32,_)] ?_
 refine e_nilc [(41,_),(0,_),(32,_)] ?_
 refine e_fa [(42,_),(0,_),(32,_)] ?_
 refine e_ld [(43,_),(0,_),(32,_)] ?_
 refine dG [(44,_),(32,_)] [([(45,some (I v4))],[(45,0)])] ⟨rfl,rfl,trivial⟩ (fun E h => IxOk.guardE 10 false 32 (x_add hv4 h.1 rfl rfl) rfl rfl h.2.1 rfl) ?_
 refine dG [(36,_),(40,_),(45,_),(32,_)] [([(46,some (Str v5))],[(46,0)])] ⟨rfl,rfl,rfl,rfl,trivial⟩ (fun E h => IxOk.guardE 10 false 32 (x_sSl Tryz.underlying9 h.1 hv5 (optL hv5 h.2.1) (optH hv5 h.2.2.1) rfl) rfl rfl h.2.2.2.1 rfl) ?_
 refine dG [(46,_),(32,_)] [([(47,some (B r6))],[(47,0)])] ⟨rfl,rfl,trivial⟩ (fun E h => IxOk.guardE 10 false 32 (x_call (xs:=[.tmp 46]) Tryz.call39 (FnK.go (t_aI.h _) hr6) ⟨(agC _ h.1 rfl rfl),trivial⟩ (resC (f:=B) inferInstance resN) rfl) rfl rfl h.2.1 rfl) ?_
 refine e_not [(47,_),(32,_)] ?_
 refine d_pick [(32,_),(48,_)] ?_
 refine dN ([] :: [0] :: [0,1] :: [0,1,2] :: [] :: [4] :: [4,5] :: [4,5,6] :: [4,5,6,7] :: [0,1,2,3,4,5,6,7,8] :: [0,1,2,3,4,5,6,7,8,9] :: [0,1,2,3,4,5,6,7,8,9,10] :: [0,1,2,3,4,5,6,7,8,9,10,11] :: [0,1,2,3,4,5,6,7,8,9,10,11,12] :: [0,1,2,3,4,5,6,7,8,9,10,11,12,13] :: [0,1,2,3,4,5,6,7,8,9,10] :: [0,1,2,3,4,5,6,7,8,9,10,15] :: [0,1,2,3,4,5,6,7,8,9,10,15,16] :: [0,1,2,3,4,5,6,7,8,9,10,15,16,17] :: [0,1,2,3,4,5,6,7,8,9,10] :: [0,1,2,3,4,5,6,7,8,9,10,19] :: [0,1,2,3,4,5,6,7,8,9,10,19,20] :: [0,1,2,3,4,5,6,7,8,9,10,19,20,21] :: [0,1,2,3,4,5,6,7,8,9,10,19,20,21,22] :: [0,1,2,3,4,5,6,7,8,9,10,11,12,13,14,15,16,17,18,19,20,21,22,23] :: [0,1,2,3,4,5,6,7,8,9,10,11,12,13,14,15,16,17,18,19,20,21,22,23,24] :: [0,1,2,3,4,5,6,7,8,9,10,11,12,13,14,15,16,17,18,19,20,21,22,23,24,25] :: [0,1,2,3,4,5,6,7,8,9,10,11,12,13,14,15,16,17,18,19,20,21,22,23,24,25,26] :: []) mixedP ?_
 refine nA (cn h (fun hc h => ?_) (fun hc h => ?_))
 refine CW.seq (CW.to [(0,T.ptr (T.agg [Str r1.2.text,I v3,B r1.2.failed]))] ⟨rfl,trivial⟩ ?_)
 refine CW.region (a_mv ?_)
 refine a_nilc ?_
 refine a_fa ?_
 refine oP (x_stcT (u:=B true) inf_4 rfl rfl rfl rfl rfl rfl rfl) ?_
 refine rN (sR (oP (x_nil 3 rfl) ?_))
 refine rN (CW.ret (rA (rB ?_)))
 exact eX h
 refine CW.skip (nA (CW.seq (CW.to [(0,T.ptr (T.agg [Str r1.2.text,I v3,B r1.2.failed])),(3,L 3 eSNode s1.2)] ⟨rfl,rfl,trivial⟩ ?_)))
 obtain ⟨v7,hv7,h⟩:=bd h
 obtain ⟨v8,hv8,h⟩:=bd h
 obtain ⟨v9,hv9,h⟩:=bd h
 refine CW.dk ?_
 refine d_mv [(0,_)] ?_
 refine d_nilc [(53,_),(0,_)] ?_
 refine d_fa [(54,_),(0,_)] ?_
 refine d_ld [(55,_),(0,_)] ?_
 refine d_mv [(0,_)] ?_
 refine d_nilc [(57,_),(0,_)] ?_
 refine d_fa [(58,_),(0,_)] ?_
 refine d_ld [(59,_),(0,_)] ?_
 refine d_mv [(0,_)] ?_
 refine d_nilc [(61,_),(0,_)] ?_
 refine d_fa [(62,_),(0,_)] ?_
 refine d_ld [(63,_),(0,_)] ?_
 refine dG [(64,_)] [([(65,some (I v7))],[(65,0)])] ⟨rfl,trivial⟩ (fun E h => IxOk.opE (x_add hv7 h.1 rfl rfl) rfl) ?_
 refine dG [(56,_),(60,_),(65,_)] [([(66,some (Str v8))],[(66,0)])] ⟨rfl,rfl,rfl,trivial⟩ (fun E h => IxOk.opE (x_sSl Tryz.underlying9 h.1 hv8 (optL hv8 h.2.1) (optH hv8 h.2.2.1) rfl) rfl) ?_
 refine dG [(66,_)] [([(67,some (T.agg [I 4,Str ByteArray.empty,Str v8]))],[(67,0)])] ⟨rfl,trivial⟩ (fun E h => IxOk.opE (x_build bld_49 [(0,.const _),(2,.tmp 66)] [(0,.zero (I 4)),(2,.slot 66 (Str v8))] [.zero (I 4),.zero (Str ByteArray.empty),.slot 66 (Str v8)] (pkZ rfl (pkZ rfl (pkS h.1 (clean_of (Enc.clean (f:=Str) _)) rfl pkN))) (bqC (.zero _ _ rfl) (bqC (.slot _ _) bqN)) rfl) rfl) ?_
 refine dG [(67,_)] [([(68,some (L 3 eSNode [(SNode.mk 4 ByteArray.empty v8)])),(67,some (T.agg [I 4,Str ByteArray.empty,Str v8]))],[(68,0),(67,1)])] ⟨rfl,trivial⟩ (fun E h => IxOk.opE (x_bs elt_22 [.tmp 67] [.slot 67 (T.agg [I 4,Str ByteArray.empty,Str v8])] [(SNode.mk 4 ByteArray.empty v8)] eSNode ⟨.slot _ _,trivial⟩ (pkS h.1 (clean_of (cleanA ⟨(Enc.clean (f:=I) _),(Enc.clean (f:=Str) _),(Enc.clean (f:=Str) _),trivial⟩)) rfl pkN) rfl rfl) rfl) ?_
 refine d_mv [(3,_)] ?_
 refine dG [(68,_),(69,_),(3,_)] [([(70,some (L 3 eSNode v9)),(68,some T.any)],[(70,0),(68,1)])] ⟨rfl,rfl,rfl,trivial⟩ (fun E h => IxOk.opE (x_appc (f:=eSNode) elt_22 (fun _ => rfl) hv9 h.1 (locA h.2.1 h.2.2.1 rfl rfl) rfl) rfl) ?_
 refine d_as [(70,_)] ?_
 refine dNA mixedP ?_
 refine nA (CW.ghost (Ghost.tr 3 70 _ rfl rfl (clean_of (cleanL (Enc.clean (f:=eSNode)))) rfl) ?_)
 refine CW.region (a_mv ?_)
 refine a_nilc ?_
 refine a_fa ?_
 refine a_ld ?_
 obtain ⟨v10,hv10,h⟩:=bd h
 refine oP (x_add hv10 rfl rfl rfl) ?_
 refine a_nilc ?_
 refine a_fa ?_
 refine oP (x_st inf_3 rfl rfl rfl rfl rfl rfl (clean_of (Enc.clean (f:=I) _)) rfl) ?_
 refine RW.nil ?_
 exact nB (eN h)
 refine CW.exit (xA ?_)
 exact eX h
 have h:=cF hc h
 refine sk2 ?_
 refine sk2 ?_
 refine a_pick ?_
 refine rN (CW.condF rfl ?_)
 refine CW.exit (xA ?_)
 exact eX h
 rcases r11 with r11 | r11
 obtain ⟨rfl,hg⟩:=hq
 refine xB ?_
 refine nA (CW.ghost hg ?_)
 refine sR (a_mv ?_)
 refine a_as ?_
 refine RW.ghost (Ghost.tr 2 3 _ rfl rfl (clean_of (cleanL (Enc.clean (f:=eSNode)))) rfl) ?_
 refine rN (CW.ret ?_)
 obtain rfl:=sI h
 exact rT
 obtain ⟨rfl,hq⟩:=hq
 refine rB ?_
 refine rA ?_
 obtain rfl:=sI h
 exact hq
section
attribute [local irreducible] RW CW DK OkL Ok Andthen InBlock Round RetG XS.post rng quoO remO ixO sliceO appO appzO lenOk loopO GTo Ghost FnC FnK LocL OptL Kp BsL BuL RpL Bk Lc JQ AK
instance t_aq:FI Tryz.prog 35 (∀ (x0:SexprReader) (x1:Int),FnK Tryz.prog 35 [T.ptr (eSexprReader x0),(IK .u8) x1] (fun r:Bool × SexprReader => [B r.1]) (fun r => [(0,(Pt eSexprReader) r.2)]) (f_aq x0 x1)):=⟨Tryz.call35,fun x0 x1 => iM Tryz.func35⟩
instance (x0:List SNode) (x1:List SNode):LH (R:=Bool) (l1_A x0 x1) [0,1] [] (fun s1 => [(5,I s1)]) (.xs (.xe 0 [0,1] fun _ => []) .xr):=⟨⟩
instance t_A:FI Tryz.prog 9 (∀ (x0:List SNode) (x1:List SNode),FnK Tryz.prog 9 [T.ro ((L 3 eSNode) x0),T.ro ((L 3 eSNode) x1)] (fun r:Bool => [B r]) (fun _ => []) (f_A x0 x1)):=⟨Tryz.call9,fun x0 x1 => iM Tryz.func9⟩
instance  : LH (R:=ByteArray) l1_T [] [] (fun s1 => [(0,I s1.1),(3,Str s1.2)]) (.xe 0 [] fun r5 => [(3,Str r5)]):=⟨⟩
instance t_T:FI Tryz.prog 23 (∀ (x0:Int),FnK Tryz.prog 23 [I x0] (fun r:ByteArray => [Str r]) (fun _ => []) (f_T x0)):=⟨Tryz.call23,fun x0 => iM Tryz.func23⟩
instance t_a4:FI Tryz.prog 26 (∀ (x0:SNode),FnK Tryz.prog 26 [eSNode x0] (fun r:SNode => [eSNode r]) (fun _ => []) (f_a4 x0)):=⟨Tryz.call26,fun x0 => iM Tryz.func26⟩
theorem tn_e {g_e:(List SNode) → Int → Option (ByteArray × Int)} [FI Tryz.prog 28 (∀ (x0:List SNode) (x1:Int),FnK Tryz.prog 28 [T.ro ((L 3 eSNode) x0),I x1] (fun r:ByteArray × Int => [Str r.1,I r.2]) (fun _ => []) (g_e x0 x1))]:∀ (x0:List SNode) (x1:Int),FnK Tryz.prog 28 [T.ro ((L 3 eSNode) x0),I x1] (fun r:ByteArray × Int => [Str r.1,I r.2]) (fun _ => []) (b_e g_e x0 x1):=fun x0 x1 => iM Tryz.func28
theorem tb_e {g_e:(List SNode) → Int → Option (ByteArray × Int)} (H_e:∀ (x0:List SNode) (x1:Int) r,g_e x0 x1 = some r → FnC Tryz.prog 28 [T.ro ((L 3 eSNode) x0),I x1] [Str r.1,I r.2] []) (x0:List SNode) (x1:Int) (r:ByteArray × Int) (h:b_e g_e x0 x1 = some r):FnC Tryz.prog 28 [T.ro ((L 3 eSNode) x0),I x1] [Str r.1,I r.2] []:=by
 have:FI Tryz.prog 28 (∀ (x0:List SNode) (x1:Int),FnK Tryz.prog 28 [T.ro ((L 3 eSNode) x0),I x1] (fun r:ByteArray × Int => [Str r.1,I r.2]) (fun _ => []) (g_e x0 x1)):=⟨Tryz.call28,fun x0 x1 => FnK.mk (H_e x0 x1)⟩
 exact (tn_e x0 x1).go h
theorem tn_d {g_d:(List SNode) → Option (ByteArray × (List SNode))} [FI Tryz.prog 29 (∀ (x0:List SNode),FnK Tryz.prog 29 [T.ro ((L 3 eSNode) x0)] (fun r:ByteArray × (List SNode) => [Str r.1,T.ro ((L 3 eSNode) r.2)]) (fun _ => []) (g_d x0))] {g_t:(List SNode) → Option (ByteArray × (List SNode))} [FI Tryz.prog 41 (∀ (x0:List SNode),FnK Tryz.prog 41 [T.ro ((L 3 eSNode) x0)] (fun r:ByteArray × (List SNode) => [Str r.1,T.ro ((L 3 eSNode) r.2)]) (fun _ => []) (g_t x0))]:∀ (x0:List SNode),FnK Tryz.prog 29 [T.ro ((L 3 eSNode) x0)] (fun r:ByteArray × (List SNode) => [Str r.1,T.ro ((L 3 eSNode) r.2)]) (fun _ => []) (b_d g_d g_t x0):=fun x0 => iM Tryz.func29
theorem tb_d {g_d:(List SNode) → Option (ByteArray × (List SNode))} (H_d:∀ (x0:List SNode) r,g_d x0 = some r → FnC Tryz.prog 29 [T.ro ((L 3 eSNode) x0)] [Str r.1,T.ro ((L 3 eSNode) r.2)] []) {g_t:(List SNode) → Option (ByteArray × (List SNode))} (H_t:∀ (x0:List SNode) r,g_t x0 = some r → FnC Tryz.prog 41 [T.ro ((L 3 eSNode) x0)] [Str r.1,T.ro ((L 3 eSNode) r.2)] []) (x0:List SNode) (r:ByteArray × (List SNode)) (h:b_d g_d g_t x0 = some r):FnC Tryz.prog 29 [T.ro ((L 3 eSNode) x0)] [Str r.1,T.ro ((L 3 eSNode) r.2)] []:=by
 have:FI Tryz.prog 29 (∀ (x0:List SNode),FnK Tryz.prog 29 [T.ro ((L 3 eSNode) x0)] (fun r:ByteArray × (List SNode) => [Str r.1,T.ro ((L 3 eSNode) r.2)]) (fun _ => []) (g_d x0)):=⟨Tryz.call29,fun x0 => FnK.mk (H_d x0)⟩
 have:FI Tryz.prog 41 (∀ (x0:List SNode),FnK Tryz.prog 41 [T.ro ((L 3 eSNode) x0)] (fun r:ByteArray × (List SNode) => [Str r.1,T.ro ((L 3 eSNode) r.2)]) (fun _ => []) (g_t x0)):=⟨Tryz.call41,fun x0 => FnK.mk (H_t x0)⟩
 exact (tn_d x0).go h
theorem tn_t {g_d:(List SNode) → Option (ByteArray × (List SNode))} [FI Tryz.prog 29 (∀ (x0:List SNode),FnK Tryz.prog 29 [T.ro ((L 3 eSNode) x0)] (fun r:ByteArray × (List SNode) => [Str r.1,T.ro ((L 3 eSNode) r.2)]) (fun _ => []) (g_d x0))]:∀ (x0:List SNode),FnK Tryz.prog 41 [T.ro ((L 3 eSNode) x0)] (fun r:ByteArray × (List SNode) => [Str r.1,T.ro ((L 3 eSNode) r.2)]) (fun _ => []) (b_t g_d x0):=fun x0 => iM Tryz.func41
theorem tb_t {g_d:(List SNode) → Option (ByteArray × (List SNode))} (H_d:∀ (x0:List SNode) r,g_d x0 = some r → FnC Tryz.prog 29 [T.ro ((L 3 eSNode) x0)] [Str r.1,T.ro ((L 3 eSNode) r.2)] []) (x0:List SNode) (r:ByteArray × (List SNode)) (h:b_t g_d x0 = some r):FnC Tryz.prog 41 [T.ro ((L 3 eSNode) x0)] [Str r.1,T.ro ((L 3 eSNode) r.2)] []:=by
 have:FI Tryz.prog 29 (∀ (x0:List SNode),FnK Tryz.prog 29 [T.ro ((L 3 eSNode) x0)] (fun r:ByteArray × (List SNode) => [Str r.1,T.ro ((L 3 eSNode) r.2)]) (fun _ => []) (g_d x0)):=⟨Tryz.call29,fun x0 => FnK.mk (H_d x0)⟩
 exact (tn_t x0).go h
end
end Go.Wk
