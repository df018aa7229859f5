/- x -/
import Derived.Test.YtbemegmelmannaaGreatDoorVad
import Derived.Test.YtbemegmelmannaaGreatDoorVas
import Derived.Test.YtbemegmelmannaaGreatDoorWT
namespace Go.Wk
open Go Go.Proofs Go.Ab
set_option maxRecDepth 100000
set_option maxHeartbeats 4000000
theorem u_ay (x0:SexprReader) (x1:Int) (x2:Int) (r:(List SNode) × Bool × SexprReader) (h:f_ay x0 x1 x2 = some r):FnC Tryz.prog 55 [T.ptr (eSexprReader x0),(IK .u8) x1,I x2] [(L 3 eSNode) r.1,B r.2.1] [(0,(Pt eSexprReader) r.2.2)]:=by
 refine fB2 Tryz.func55 (fun St W w0 v => ?_)
 refine sR (oP (x_nil 3 rfl) ?_)
 refine a_as ?_
 refine rN (CW.seq ?_)
 obtain ⟨v1,hv1,h⟩:=bd h
 obtain ⟨r2,hr2,h⟩:=bd h
 refine CW.dk ?_
 refine d_mv [(0,_)] ?_
 refine d_nilc [(10,_),(0,_)] ?_
 refine d_fa [(11,_),(0,_)] ?_
 refine d_ld [(12,_),(0,_)] ?_
 refine d_mv [(0,_)] ?_
 refine d_nilc [(14,_),(0,_)] ?_
 refine d_fa [(15,_),(0,_)] ?_
 refine d_ld [(16,_),(0,_)] ?_
 refine dG [(13,_),(17,_)] [([(18,some (Str v1))],[(18,0)])] ⟨rfl,rfl,trivial⟩ (fun E h => IxOk.opE (x_sSl Tryz.underlying9 h.1 hv1 (optL hv1 h.2.1) rfl rfl) rfl) ?_
 refine d_mv [(1,_)] ?_
 refine dC [(18,_),(19,_)] Tryz.call68 (FnK.go (t_az.h _ _) hr2) ?_
 refine d_as [(20,_)] ?_
 refine dNA mixedP ?_
 refine nA (CW.seq (sR (a_mv ?_)))
 refine a_lss ?_
 refine rN (cn h (fun hc h => ?_) (fun hc h => ?_))
 refine sR (oP (x_nil 3 rfl) ?_)
 refine a_as ?_
 refine rN (CW.ret (rA ?_))
 obtain rfl:=sI h
 exact rT
 refine CW.skip (nA (CW.seq ?_))
 obtain ⟨v3,hv3,h⟩:=bd h
 obtain ⟨v4,hv4,h⟩:=bd h
 obtain ⟨v5,hv5,h⟩:=bd h
 refine CW.dk ?_
 refine d_mv [(2,_)] ?_
 refine d_mv [(0,_)] ?_
 refine d_nilc [(24,_),(0,_)] ?_
 refine d_fa [(25,_),(0,_)] ?_
 refine d_ld [(26,_),(0,_)] ?_
 refine d_mv [(0,_)] ?_
 refine d_nilc [(28,_),(0,_)] ?_
 refine d_fa [(29,_),(0,_)] ?_
 refine d_ld [(30,_),(0,_)] ?_
 refine d_add [(31,_)] ?_
 refine d_mv [(0,_)] ?_
 refine d_nilc [(33,_),(0,_)] ?_
 refine d_fa [(34,_),(0,_)] ?_
 refine d_ld [(35,_),(0,_)] ?_
 refine d_mv [(8,_)] ?_
 refine d_add [(36,_),(37,_)] ?_
 refine dG [(27,_),(32,_),(38,_)] [([(39,some (Str v5))],[(39,0)])] ⟨rfl,rfl,rfl,trivial⟩ (fun E h => IxOk.opE (x_sSl Tryz.underlying9 h.1 hv5 (optL hv5 h.2.1) (optH hv5 h.2.2.1) rfl) rfl) ?_
 refine dG [(23,_),(39,_)] [([(40,some (T.agg [I x2,Str v5,Str ByteArray.empty]))],[(40,0)])] ⟨rfl,rfl,trivial⟩ (fun E h => IxOk.opE (x_build bld_49 [(0,.tmp 23),(1,.tmp 39)] [(0,.slot 23 (I x2)),(1,.slot 39 (Str v5))] [.slot 23 (I x2),.slot 39 (Str v5),.zero (Str ByteArray.empty)] (pkS h.1 (clean_of (Enc.clean (f:=I) _)) rfl (pkS h.2.1 (clean_of (Enc.clean (f:=Str) _)) rfl (pkZ rfl pkN))) (bqC (.slot _ _) (bqC (.slot _ _) bqN)) rfl) rfl) ?_
 refine d_alloc [] ?_
 refine dG [(9,_),(40,_)] [([(9,some (T.ptr (T.agg [I x2,Str v5,Str ByteArray.empty]))),(40,some (T.agg [I x2,Str v5,Str ByteArray.empty]))],[(9,1),(40,1)])] ⟨rfl,rfl,trivial⟩ (fun E h => IxOk.opE (x_stp inf_49 rfl (locB h.1 rfl) h.1 rfl rfl h.2.1 (clean_of (cleanA ⟨(Enc.clean (f:=I) _),(Enc.clean (f:=Str) _),(Enc.clean (f:=Str) _),trivial⟩)) rfl) rfl) ?_
 refine dNA mixedP ?_
 refine nA (CW.seq (CW.seq (CW.to [(0,T.ptr (eSexprReader x0)),(8,I r2),(9,T.ptr (T.agg [I x2,Str v5,Str ByteArray.empty]))] ⟨rfl,rfl,rfl,trivial⟩ ?_)))
 refine CW.region (a_ldp ?_)
 obtain ⟨r6,hr6,h⟩:=bd h
 refine cA Tryz.call40 (FnK.go (t_q.h _) hr6) ?_
 refine a_lss ?_
 refine rN (cn h (fun hc h => ?_) (fun hc h => ?_))
 refine sR (oP (x_nil 3 rfl) ?_)
 refine a_as ?_
 refine rN (CW.ret (rA ?_))
 obtain rfl:=sI h
 exact rT
 refine CW.skip (nA (sR (a_mv ?_)))
 refine a_nilc ?_
 refine a_fa ?_
 refine a_ld ?_
 refine a_mv ?_
 obtain ⟨v7,hv7,h⟩:=bd h
 refine a_add ?_
 obtain ⟨v8,hv8,h⟩:=bd h
 refine a_add ?_
 refine a_nilc ?_
 refine a_fa ?_
 refine oP (x_st inf_3 rfl rfl rfl rfl rfl rfl (clean_of (Enc.clean (f:=I) _)) rfl) ?_
 refine rN (sR (a_ldp ?_))
 refine oP (x_bs elt_22 [.tmp 53] [.slot 53 (T.agg [I x2,Str v5,Str ByteArray.empty])] [(SNode.mk x2 v5 ByteArray.empty)] eSNode ⟨.slot _ _,trivial⟩ (pkS rfl (clean_of (cleanA ⟨(Enc.clean (f:=I) _),(Enc.clean (f:=Str) _),(Enc.clean (f:=Str) _),trivial⟩)) rfl pkN) rfl rfl) ?_
 refine a_as ?_
 refine a_as ?_
 refine RW.ghost (Ghost.tr 6 54 _ rfl rfl (clean_of (cleanL (Enc.clean (f:=eSNode)))) rfl) ?_
 refine rN (CW.ret ?_)
 obtain rfl:=sI h
 exact rT
instance t_ay:FI Tryz.prog 55 (∀ (x0:SexprReader) (x1:Int) (x2:Int),FnK Tryz.prog 55 [T.ptr (eSexprReader x0),(IK .u8) x1,I x2] (fun r:(List SNode) × Bool × SexprReader => [(L 3 eSNode) r.1,B r.2.1]) (fun r => [(0,(Pt eSexprReader) r.2.2)]) (f_ay x0 x1 x2)):=⟨Tryz.call55,fun x0 x1 x2 => FnK.mk (u_ay x0 x1 x2)⟩
end Go.Wk
