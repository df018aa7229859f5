/- x -/
import Derived.Test.YtbemegmelmannaaGreatDoorVac
import Derived.Test.YtbemegmelmannaaGreatDoorVas
import Derived.Test.YtbemegmelmannaaGreatDoorWT
namespace Go.Wk
open Go Go.Proofs Go.Ab
set_option maxRecDepth 100000
set_option maxHeartbeats 4000000
theorem u_ab (x0:List SNode) (x1:ByteArray) (x2:List SNode) (r:(List SNode) × Int) (h:f_ab x0 x1 x2 = some r):FnC Tryz.prog 19 [T.ro ((L 3 eSNode) x0),Str x1,T.ro ((L 3 eSNode) x2)] [(L 3 eSNode) r.1,I r.2] []:=by
 refine fB Tryz.func19 (fun St W w0 v => ?_)
 refine sR (oP (x_nil 3 rfl) ?_)
 refine a_as ?_
 refine rN (CW.seq (sR (a_mv ?_)))
 obtain ⟨r1,hr1,h⟩:=bd h
 refine cA Tryz.call27 (FnK.go (t_aa.h _) hr1) ?_
 refine a_not ?_
 refine a_mv ?_
 refine RW.cases 14 _ rfl (fun hc => ?_) (fun hc => ?_)
 have h:=cT hc h
 refine sk2 ?_
 refine sk2 ?_
 refine sk2 ?_
 refine a_pick ?_
 refine rN (CW.condT rfl ?_)
 refine sR (oP (x_nil 3 rfl) ?_)
 refine a_as ?_
 refine rN (CW.ret (rA ?_))
 obtain rfl:=sI h
 exact rT
 have h:=cF hc h
 refine g_mv ?_
 obtain ⟨r2,hr2,h⟩:=bd h
 refine RW.cons (IxOk.guard 3 false 14 (x_call (xs:=[.tmp 15]) Tryz.call27 (FnK.go (t_aa.h _) hr2) ⟨(agC _ rfl rfl rfl),trivial⟩ (resC (f:=B) inferInstance resN) rfl)) ?_
 refine g_not ?_
 refine a_pick ?_
 refine rN (cn h (fun hc h => ?_) (fun hc h => ?_))
 refine sR (oP (x_nil 3 rfl) ?_)
 refine a_as ?_
 refine rN (CW.ret (rA ?_))
 obtain rfl:=sI h
 exact rT
 refine CW.skip (nA (CW.seq (sR (a_mv ?_))))
 obtain ⟨r3,hr3,h⟩:=bd h
 refine cA Tryz.call31 (FnK.go (t_aj.h _) hr3) ?_
 refine a_not ?_
 refine rN (cn h (fun hc h => ?_) (fun hc h => ?_))
 refine sR (oP (x_nil 3 rfl) ?_)
 refine a_as ?_
 refine rN (CW.ret (rA ?_))
 obtain rfl:=sI h
 exact rT
 refine CW.skip (nA (sR (oP (x_nil 3 rfl) ?_)))
 refine rN (CW.seq (sR (a_mv ?_)))
 refine a_lenr ?_
 refine a_mv ?_
 refine rN (CW.block ?_)
 obtain ⟨r11,hr11,h⟩:=bd h
 refine CW.lp (s:=([],0)) (l1_ab x0 x1 x2) (fun s1:(List SNode) × Int => envL [(1,Str x1),(2,T.ro ((L 3 eSNode) x2)),(8,L 3 eSNode s1.1),(22,T.ro ((L 3 eSNode) x0)),(23,I (x0.length:Int)),(24,I s1.2)]) (fun (r11:(List SNode)) e E => e = .exit 0 ∧ Ghost ⟨St,W,w0,Tryz.f19.ntmps⟩ E (envL [(8,L 3 eSNode r11)])) (.has ⟨rfl,rfl,rfl,rfl,rfl,rfl,trivial⟩) (fun s1 x h => ?_) hr11 (fun e E hq => ?_)
 refine sR (a_lss ?_)
 refine rN (CW.seq (cn h (fun hc h => ?_) (fun hc h => ?_)))
 refine CW.skip (nA (CW.seq (CW.block (sR ?_))))
 obtain ⟨v4,hv4,h⟩:=bd h
 refine a_ixr ?_
 refine a_ldr ?_
 refine a_alloc ?_
 refine oP (x_stp inf_49 rfl (locB rfl rfl) rfl rfl rfl rfl (clean_of (cleanA ⟨(Enc.clean (f:=I) _),(Enc.clean (f:=Str) _),(Enc.clean (f:=Str) _),trivial⟩)) rfl) ?_
 refine rN (sR (a_fa ?_))
 refine a_ld ?_
 refine a_eql ?_
 refine a_mv ?_
 refine RW.cases 31 _ rfl (fun hc => ?_) (fun hc => ?_)
 have h:=cT hc h
 refine g_fa ?_
 refine g_ld ?_
 refine g_mv ?_
 refine RW.cons (IxOk.guard 3 true 31 (x_sEq rfl rfl rfl)) ?_
 refine a_pick ?_
 refine rN (cn h (fun hc h => ?_) (fun hc h => ?_))
 refine CW.region (a_mv ?_)
 refine a_mv ?_
 refine RW.ghost (Ghost.tr 37 8 _ rfl rfl (clean_of (cleanL (Enc.clean (f:=eSNode)))) rfl) ?_
 obtain ⟨v5,hv5,h⟩:=bd h
 refine oP (x_appr (f:=eSNode) (g:=eSNode) elt_22 (fun _ => rfl) (fun _ => rfl) inferInstance hv5 rfl (locB rfl rfl) rfl) ?_
 refine a_as ?_
 refine RW.ghost (Ghost.tr 8 39 _ rfl rfl (clean_of (cleanL (Enc.clean (f:=eSNode)))) rfl) ?_
 refine RW.nil ?_
 refine nB (nA (CW.region ?_))
 obtain ⟨v6,hv6,h⟩:=bd h
 refine a_add ?_
 refine a_mv ?_
 refine RW.nil ?_
 exact eN h
 refine CW.region (a_mv ?_)
 refine a_ldp ?_
 refine oP (x_bs elt_22 [.tmp 41] [.slot 41 (eSNode v4)] [v4] eSNode ⟨.slot _ _,trivial⟩ (pkS rfl (clean_of (cleanA ⟨(Enc.clean (f:=I) _),(Enc.clean (f:=Str) _),(Enc.clean (f:=Str) _),trivial⟩)) rfl pkN) rfl rfl) ?_
 refine RW.ghost (Ghost.tr 40 8 _ rfl rfl (clean_of (cleanL (Enc.clean (f:=eSNode)))) rfl) ?_
 obtain ⟨v7,hv7,h⟩:=bd h
 refine oP (x_appc (f:=eSNode) elt_22 (fun _ => rfl) hv7 rfl (locB rfl rfl) rfl) ?_
 refine a_as ?_
 refine RW.ghost (Ghost.tr 8 43 _ rfl rfl (clean_of (cleanL (Enc.clean (f:=eSNode)))) rfl) ?_
 refine RW.nil ?_
 refine nB (nA (CW.region ?_))
 obtain ⟨v8,hv8,h⟩:=bd h
 refine a_add ?_
 refine a_mv ?_
 refine RW.nil ?_
 exact eN h
 have h:=cF hc h
 refine sk2 ?_
 refine sk2 ?_
 refine sk2 ?_
 refine sk2 ?_
 refine a_pick ?_
 refine rN (CW.condF rfl ?_)
 refine CW.region (a_mv ?_)
 refine a_ldp ?_
 refine oP (x_bs elt_22 [.tmp 41] [.slot 41 (eSNode v4)] [v4] eSNode ⟨.slot _ _,trivial⟩ (pkS rfl (clean_of (cleanA ⟨(Enc.clean (f:=I) _),(Enc.clean (f:=Str) _),(Enc.clean (f:=Str) _),trivial⟩)) rfl pkN) rfl rfl) ?_
 refine RW.ghost (Ghost.tr 40 8 _ rfl rfl (clean_of (cleanL (Enc.clean (f:=eSNode)))) rfl) ?_
 obtain ⟨v9,hv9,h⟩:=bd h
 refine oP (x_appc (f:=eSNode) elt_22 (fun _ => rfl) hv9 rfl (locB rfl rfl) rfl) ?_
 refine a_as ?_
 refine RW.ghost (Ghost.tr 8 43 _ rfl rfl (clean_of (cleanL (Enc.clean (f:=eSNode)))) rfl) ?_
 refine RW.nil ?_
 refine nB (nA (CW.region ?_))
 obtain ⟨v10,hv10,h⟩:=bd h
 refine a_add ?_
 refine a_mv ?_
 refine RW.nil ?_
 exact eN h
 refine CW.exit (xA ?_)
 exact eX h
 obtain ⟨rfl,hg⟩:=hq
 refine xB ?_
 refine nA (CW.ghost hg ?_)
 refine CW.seq (sR (a_mv ?_))
 refine a_len ?_
 refine a_gtr ?_
 refine rN (cn h (fun hc h => ?_) (fun hc h => ?_))
 refine sR (oP (x_nil 3 rfl) ?_)
 refine a_as ?_
 refine rN (CW.ret (rA ?_))
 obtain rfl:=sI h
 exact rT
 refine CW.skip (nA (sR (a_mv ?_)))
 refine a_as ?_
 refine a_as ?_
 refine RW.ghost (Ghost.tr 6 8 _ rfl rfl (clean_of (cleanL (Enc.clean (f:=eSNode)))) rfl) ?_
 refine rN (CW.ret ?_)
 obtain rfl:=sI h
 exact rT
instance t_ab:FI Tryz.prog 19 (∀ (x0:List SNode) (x1:ByteArray) (x2:List SNode),FnK Tryz.prog 19 [T.ro ((L 3 eSNode) x0),Str x1,T.ro ((L 3 eSNode) x2)] (fun r:(List SNode) × Int => [(L 3 eSNode) r.1,I r.2]) (fun _ => []) (f_ab x0 x1 x2)):=⟨Tryz.call19,fun x0 x1 x2 => FnK.mk (u_ab x0 x1 x2)⟩
end Go.Wk
