/- x -/
import Derived.Test.YtbemegmelmannaaGreatDoorVac
import Derived.Test.YtbemegmelmannaaGreatDoorVae
import Derived.Test.YtbemegmelmannaaGreatDoorVaj
import Derived.Test.YtbemegmelmannaaGreatDoorVan
import Derived.Test.YtbemegmelmannaaGreatDoorWT
namespace Go.Wk
open Go Go.Proofs Go.Ab
set_option maxRecDepth 100000
set_option maxHeartbeats 4000000
section
attribute [local irreducible] RW CW DK OkL Ok Andthen InBlock Round RetG XS.post rng quoO remO ixO sliceO appO appzO lenOk loopO GTo Ghost FnC FnK LocL OptL Kp BsL BuL RpL Bk Lc JQ AK
instance t_a8:FI Tryz.prog 16 (∀ (x0:List SNode),FnK Tryz.prog 16 [T.ro ((L 3 eSNode) x0)] (fun r:ByteArray × Int => [Str r.1,I r.2]) (fun _ => []) (f_a8 x0)):=⟨Tryz.call16,fun x0 => iM Tryz.func16⟩
end
theorem u_ac (x0:List SNode) (x1:ByteArray) (x2:List SNode) (r:(List SNode) × Int) (h:f_ac x0 x1 x2 = some r):FnC Tryz.prog 18 [T.ro ((L 3 eSNode) x0),Str x1,T.ro ((L 3 eSNode) x2)] [(L 3 eSNode) r.1,I r.2] []:=by
 refine fB Tryz.func18 (fun St W w0 v => ?_)
 refine sR (oP (x_nil 3 rfl) ?_)
 refine a_as ?_
 refine rN (CW.seq (sR (a_mv ?_)))
 obtain ⟨r1,hr1,h⟩:=bd h
 refine cA Tryz.call13 (FnK.go (t_Z.h _) hr1) ?_
 refine a_not ?_
 refine a_mv ?_
 refine RW.cases 13 _ rfl (fun hc => ?_) (fun hc => ?_)
 have h:=cT hc h
 refine sk2 ?_
 refine sk2 ?_
 refine sk2 ?_
 refine a_pick ?_
 refine rN (CW.condT rfl ?_)
 refine sR (oP (x_nil 3 rfl) ?_)
 refine a_as ?_
 refine rN (CW.ret (rA ?_))
 obtain rfl:=sI h
 exact rT
 have h:=cF hc h
 refine g_mv ?_
 obtain ⟨r2,hr2,h⟩:=bd h
 refine RW.cons (IxOk.guard 3 false 13 (x_call (xs:=[.tmp 14]) Tryz.call13 (FnK.go (t_Z.h _) hr2) ⟨(agC _ rfl rfl rfl),trivial⟩ (resC (f:=B) inferInstance resN) rfl)) ?_
 refine g_not ?_
 refine a_pick ?_
 refine rN (cn h (fun hc h => ?_) (fun hc h => ?_))
 refine sR (oP (x_nil 3 rfl) ?_)
 refine a_as ?_
 refine rN (CW.ret (rA ?_))
 obtain rfl:=sI h
 exact rT
 refine CW.skip (nA (CW.seq (sR (a_mv ?_))))
 obtain ⟨r3,hr3,h⟩:=bd h
 refine cA Tryz.call30 (FnK.go (t_ax.h _) hr3) ?_
 refine a_not ?_
 refine rN (cn h (fun hc h => ?_) (fun hc h => ?_))
 refine sR (oP (x_nil 3 rfl) ?_)
 refine a_as ?_
 refine rN (CW.ret (rA ?_))
 obtain rfl:=sI h
 exact rT
 refine CW.skip (nA (sR (oP (x_bs0 elt_22 rfl) ?_)))
 refine a_as ?_
 refine RW.ghost (Ghost.tr 8 21 _ rfl rfl (clean_of trivial) rfl) ?_
 refine rN (CW.seq (sR (a_as ?_)))
 refine rN (CW.block ?_)
 obtain ⟨r14,hr14,h⟩:=bd h
 refine CW.lp (s:=([],0)) (l1_ac x0 x1 x2) (fun s1:(List SNode) × Int => envL [(0,T.ro ((L 3 eSNode) x0)),(1,Str x1),(2,T.ro ((L 3 eSNode) x2)),(8,L 3 eSNode s1.1),(9,I s1.2)]) (fun (r14:(List SNode)) e E => e = .exit 0 ∧ Ghost ⟨St,W,w0,Tryz.f18.ntmps⟩ E (envL [(8,L 3 eSNode r14)])) (.has ⟨rfl,rfl,rfl,rfl,rfl,trivial⟩) (fun s1 x h => ?_) hr14 (fun e E hq => ?_)
 refine CW.seq (sR (a_mv ?_))
 refine a_mv ?_
 refine a_lenr ?_
 refine a_lss ?_
 refine rN (cn h (fun hc h => ?_) (fun hc h => ?_))
 refine CW.skip (nA (CW.seq (CW.block (sR (a_mv ?_)))))
 refine a_mv ?_
 obtain ⟨v4,hv4,h⟩:=bd h
 refine oP (x_ixr (f:=eSNode) row_22 hv4 (locB rfl rfl) rfl rfl) ?_
 refine a_far ?_
 refine a_ldr ?_
 refine a_eql ?_
 refine a_mv ?_
 refine RW.cases 34 _ rfl (fun hc => ?_) (fun hc => ?_)
 have h:=cT hc h
 refine g_mv ?_
 refine g_mv ?_
 obtain ⟨v5,hv5,h⟩:=bd h
 refine RW.cons (IxOk.guard 6 true 34 (x_ixr (f:=eSNode) row_22 hv5 (locB rfl rfl) rfl rfl)) ?_
 refine g_far ?_
 refine g_ldr ?_
 refine g_mv ?_
 refine RW.cons (IxOk.guard 6 true 34 (x_sEq rfl rfl rfl)) ?_
 refine a_pick ?_
 refine rN (cn h (fun hc h => ?_) (fun hc h => ?_))
 refine CW.region (a_mv ?_)
 refine a_mv ?_
 refine RW.ghost (Ghost.tr 43 8 _ rfl rfl (clean_of (cleanL (Enc.clean (f:=eSNode)))) rfl) ?_
 obtain ⟨v6,hv6,h⟩:=bd h
 refine oP (x_appr (f:=eSNode) (g:=eSNode) elt_22 (fun _ => rfl) (fun _ => rfl) inferInstance hv6 rfl (locB rfl rfl) rfl) ?_
 refine a_as ?_
 refine RW.ghost (Ghost.tr 8 45 _ rfl rfl (clean_of (cleanL (Enc.clean (f:=eSNode)))) rfl) ?_
 refine RW.nil ?_
 refine nB (nA (CW.region (a_mv ?_)))
 obtain ⟨v7,hv7,h⟩:=bd h
 refine a_add ?_
 refine a_as ?_
 refine RW.nil ?_
 exact eN h
 refine CW.region (a_mv ?_)
 refine a_mv ?_
 refine a_mv ?_
 obtain ⟨v8,hv8,h⟩:=bd h
 refine oP (x_ixr (f:=eSNode) row_22 hv8 (locB rfl rfl) rfl rfl) ?_
 refine a_ldr ?_
 refine oP (x_bs elt_22 [.tmp 50] [.slot 50 (eSNode v8)] [v8] eSNode ⟨.slot _ _,trivial⟩ (pkS rfl (clean_of (cleanA ⟨(Enc.clean (f:=I) _),(Enc.clean (f:=Str) _),(Enc.clean (f:=Str) _),trivial⟩)) rfl pkN) rfl rfl) ?_
 refine RW.ghost (Ghost.tr 46 8 _ rfl rfl (clean_of (cleanL (Enc.clean (f:=eSNode)))) rfl) ?_
 obtain ⟨v9,hv9,h⟩:=bd h
 refine oP (x_appc (f:=eSNode) elt_22 (fun _ => rfl) hv9 rfl (locB rfl rfl) rfl) ?_
 refine a_as ?_
 refine RW.ghost (Ghost.tr 8 52 _ rfl rfl (clean_of (cleanL (Enc.clean (f:=eSNode)))) rfl) ?_
 refine RW.nil ?_
 refine nB (nA (CW.to [(0,T.ro ((L 3 eSNode) x0)),(1,Str x1),(2,T.ro ((L 3 eSNode) x2)),(8,L 3 eSNode v9),(9,I s1.2)] ⟨rfl,rfl,rfl,rfl,rfl,trivial⟩ ?_))
 refine CW.region (a_mv ?_)
 obtain ⟨v10,hv10,h⟩:=bd h
 refine a_add ?_
 refine a_as ?_
 refine RW.nil ?_
 exact eN h
 have h:=cF hc h
 refine sk2 ?_
 refine sk2 ?_
 refine sk2 ?_
 refine sk2 ?_
 refine sk2 ?_
 refine sk2 ?_
 refine sk2 ?_
 refine a_pick ?_
 refine rN (CW.condF rfl ?_)
 refine CW.region (a_mv ?_)
 refine a_mv ?_
 refine a_mv ?_
 obtain ⟨v11,hv11,h⟩:=bd h
 refine oP (x_ixr (f:=eSNode) row_22 hv11 (locB rfl rfl) rfl rfl) ?_
 refine a_ldr ?_
 refine oP (x_bs elt_22 [.tmp 50] [.slot 50 (eSNode v11)] [v11] eSNode ⟨.slot _ _,trivial⟩ (pkS rfl (clean_of (cleanA ⟨(Enc.clean (f:=I) _),(Enc.clean (f:=Str) _),(Enc.clean (f:=Str) _),trivial⟩)) rfl pkN) rfl rfl) ?_
 refine RW.ghost (Ghost.tr 46 8 _ rfl rfl (clean_of (cleanL (Enc.clean (f:=eSNode)))) rfl) ?_
 obtain ⟨v12,hv12,h⟩:=bd h
 refine oP (x_appc (f:=eSNode) elt_22 (fun _ => rfl) hv12 rfl (locB rfl rfl) rfl) ?_
 refine a_as ?_
 refine RW.ghost (Ghost.tr 8 52 _ rfl rfl (clean_of (cleanL (Enc.clean (f:=eSNode)))) rfl) ?_
 refine RW.nil ?_
 refine nB (nA (CW.to [(0,T.ro ((L 3 eSNode) x0)),(1,Str x1),(2,T.ro ((L 3 eSNode) x2)),(8,L 3 eSNode v12),(9,I s1.2)] ⟨rfl,rfl,rfl,rfl,rfl,trivial⟩ ?_))
 refine CW.region (a_mv ?_)
 obtain ⟨v13,hv13,h⟩:=bd h
 refine a_add ?_
 refine a_as ?_
 refine RW.nil ?_
 exact eN h
 refine CW.exit (xA ?_)
 exact eX h
 obtain ⟨rfl,hg⟩:=hq
 refine xB ?_
 refine nA (CW.ghost hg ?_)
 refine CW.seq (sR (a_mv ?_))
 refine a_len ?_
 refine a_gtr ?_
 refine rN (cn h (fun hc h => ?_) (fun hc h => ?_))
 refine sR (oP (x_nil 3 rfl) ?_)
 refine a_as ?_
 refine rN (CW.ret (rA ?_))
 obtain rfl:=sI h
 exact rT
 refine CW.skip (nA (sR (a_mv ?_)))
 refine a_as ?_
 refine a_as ?_
 refine RW.ghost (Ghost.tr 6 8 _ rfl rfl (clean_of (cleanL (Enc.clean (f:=eSNode)))) rfl) ?_
 refine rN (CW.ret ?_)
 obtain rfl:=sI h
 exact rT
instance t_ac:FI Tryz.prog 18 (∀ (x0:List SNode) (x1:ByteArray) (x2:List SNode),FnK Tryz.prog 18 [T.ro ((L 3 eSNode) x0),Str x1,T.ro ((L 3 eSNode) x2)] (fun r:(List SNode) × Int => [(L 3 eSNode) r.1,I r.2]) (fun _ => []) (f_ac x0 x1 x2)):=⟨Tryz.call18,fun x0 x1 x2 => FnK.mk (u_ac x0 x1 x2)⟩
end Go.Wk
