/- The program and the reference return the same splittings of cocycles, for all arguments (FnExactSplittingOf). This file is a part of the proof. -/
import Derived.Test.YtkifphhpbcgieaaGreatWA
namespace Go.Wk
open Go Go.Proofs Go.Ab
set_option maxRecDepth 100000
set_option maxHeartbeats 1000000
section
attribute [local irreducible] RW CW DK OkL Ok xQ xR vL vW XS.post rng uZ uA ixO zT xP wZ yS zI GTo zH FnC FnK uG sG Kp Lk BsL BuL RpL Bk Lc
end
section
attribute [local irreducible] RW CW DK OkL Ok xQ xR vL vW XS.post rng uZ uA ixO zT xP wZ yS zI GTo zH FnC FnK uG sG Kp Lk BsL BuL RpL Bk Lc
instance t_bB:FI Tryz.prog 68 (∀ (x0:Int) (x1:List (List Int)),FnK Tryz.prog 68 [I x0,T.ro (lM x1)] (fun r:zV => [(fun x => T.agg [I x.Prime,I x.xJ,(Ro lM) x.Rows]) r]) (fun _ => []) (zV5 x0 x1)):=⟨Tryz.call68,fun x0 x1 => iF Tryz.func68⟩
end
theorem u_L (x0:List (List Int)) (r:(List (List Int))) (h:f_L x0 = some r):FnC Tryz.prog 96 [T.ro (lM x0)] [lM r] []:=by
 refine fB Tryz.func96 (fun St W w0 v => ?_)
 refine sR (oP (tK 1 rfl) ?_)
 refine rN (sR (oP (tK 1 rfl) ?_))
 refine rN (CW.seq (sR (zM ?_)))
 refine vE ?_
 refine zM ?_
 refine rN (CW.block ?_)
 obtain ⟨r8,hr8,h⟩:=bd h
 refine CW.lp (s:=([],0)) (zRS x0) (fun s1:(List (List Int)) × Int => yP [(0,T.ro (lM x0)),(3,L 1 lV s1.1),(7,T.ro (lM x0)),(8,I (x0.length:Int)),(9,I s1.2)]) (fun (r8:(List (List Int))) e E => e = .exit 0 ∧ zH ⟨St,W,w0,Tryz.f96.ntmps⟩ E (yP [(3,L 1 lV r8)])) (.has ⟨rfl,rfl,rfl,rfl,rfl,trivial⟩) (fun s1 x h => ?_) hr8 (fun e E hq => ?_)
 refine sR (wF ?_)
 refine rN (CW.seq (cn h (fun hc h => ?_) (fun hc h => ?_)))
 refine CW.skip (nA (CW.seq (CW.block (sR (zM ?_)))))
 obtain ⟨v1,hv1,h⟩:=bd h
 refine qJ ?_
 refine uD ?_
 refine zU ?_
 refine zU ?_
 refine rN (sR (zM ?_))
 refine vE ?_
 refine zM ?_
 refine vE ?_
 obtain ⟨v2,hv2,h⟩:=bd h
 refine xX ?_
 obtain ⟨m3,hm3,h⟩:=bd h
 refine oP (qX (f:=I) (z:=0) elt_22 (rfl) hm3 rfl rfl rfl) ?_
 refine zU ?_
 refine RW.ghost (zH.tr 6 19 _ rfl rfl (zB (zF (Enc.clean (f:=I)))) rfl) ?_
 refine rN (sR (zM ?_))
 refine zM ?_
 refine oP (zIy elt_22 rfl (fun _ => (zBL.same rfl rfl)) (fun _ => (zEJ.ro (xZ rfl rfl))) (Nat.zero_le _) (Nat.le_refl _) rfl) ?_
 refine rN (sR (zM ?_))
 refine zM ?_
 refine vE ?_
 refine zM ?_
 obtain ⟨v4,hv4,h⟩:=bd h
 refine xX ?_
 obtain ⟨v5,hv5,h⟩:=bd h
 refine zI3 ?_
 refine oP (zFR zCO rfl rfl rfl (zN hv5 rfl) (kG hv5 rfl) rfl rfl) ?_
 refine rN (CW.region (zM ?_))
 refine zM ?_
 refine RW.ghost (zH.tr 30 6 _ rfl rfl (zB (zF (Enc.clean (f:=I)))) rfl) ?_
 refine oP (jK elt_23 [.tmp 30] [.slot 30 (L 1 I ((wA (List.replicate m3 (0:Int)) 0 (v1.take (((List.replicate m3 (0:Int)).length) - 0))).set v4.toNat 1))] [(wA (List.replicate m3 (0:Int)) 0 (v1.take (((List.replicate m3 (0:Int)).length) - 0))).set v4.toNat 1] lV ⟨.slot _ _,trivial⟩ (pkS rfl (zB (zF (Enc.clean (f:=I)))) rfl pkN) rfl rfl) ?_
 refine RW.ghost (zH.tr 29 3 _ rfl rfl (zB (zF (Enc.clean (f:=lV)))) rfl) ?_
 obtain ⟨v6,hv6,h⟩:=bd h
 refine oP (sP (f:=lV) elt_23 hv6 rfl rfl rfl) ?_
 refine zU ?_
 refine RW.ghost (zH.tr 3 32 _ rfl rfl (zB (zF (Enc.clean (f:=lV)))) rfl) ?_
 refine RW.nil ?_
 refine nB (nA (CW.to [(0,T.ro (lM x0)),(3,L 1 lV v6),(7,T.ro (lM x0)),(8,I (x0.length:Int)),(9,I s1.2)] ⟨rfl,rfl,rfl,rfl,rfl,trivial⟩ ?_))
 refine CW.region ?_
 obtain ⟨v7,hv7,h⟩:=bd h
 refine xX ?_
 refine zM ?_
 refine RW.nil ?_
 exact eN h
 refine CW.exit (xA ?_)
 exact eX h
 obtain ⟨rfl,hg⟩:=hq
 refine xB ?_
 refine nA (CW.ghost hg ?_)
 refine sR (zM ?_)
 refine zU ?_
 refine RW.ghost (zH.tr 2 3 _ rfl rfl (zB (zF (Enc.clean (f:=lV)))) rfl) ?_
 refine rN (CW.ret ?_)
 obtain rfl:=sI h
 exact rT
instance t_L:FI Tryz.prog 96 (∀ (x0:List (List Int)),FnK Tryz.prog 96 [T.ro (lM x0)] (fun r:(List (List Int)) => [lM r]) (fun _ => []) (f_L x0)):=⟨Tryz.call96,fun x0 => FnK.mk (u_L x0)⟩
section
attribute [local irreducible] RW CW DK OkL Ok xQ xR vL vW XS.post rng uZ uA ixO zT xP wZ yS zI GTo zH FnC FnK uG sG Kp Lk BsL BuL RpL Bk Lc
instance t_bw:FI Tryz.prog 98 (∀ (x0:Int),FnK Tryz.prog 98 [I x0] (fun r:Bool => [B r]) (fun _ => []) (zTC x0)):=⟨Tryz.call98,fun x0 => iF Tryz.func98⟩
instance (x0:List Int):LH (R:=Int) (zHZ x0) [0,1,7] [] (fun s1 => [(8,I s1)]) (.xs (.xe 0 [0,1,7] fun _ => []) .xr):=⟨⟩
instance t_am:FI Tryz.prog 97 (∀ (x0:List Int),FnK Tryz.prog 97 [T.ro (lV x0),T.lit (.func (.func 98) #[] #[])] (fun r:Int => [I r]) (fun _ => []) (zTD x0)):=⟨Tryz.call97,fun x0 => iF Tryz.func97⟩
end
theorem u_S (x0:Int) (x1:List (List Int)) (x2:Int) (r:(List (List Int))) (h:f_S x0 x1 x2 = some r):FnC Tryz.prog 131 [I x0,T.ro (lM x1),I x2] [lM r] []:=by
 refine fB Tryz.func131 (fun St W w0 v => ?_)
 refine sR (oP (tK 1 rfl) ?_)
 refine rN (sR (oP (tK 1 rfl) ?_))
 refine rN (CW.seq (sR (zM ?_)))
 refine zM ?_
 obtain ⟨r1,hr1,h⟩:=bd h
 refine cA Tryz.call96 (FnK.go (t_L.h _) hr1) ?_
 obtain ⟨r2,hr2,h⟩:=bd h
 refine cA Tryz.call91 (FnK.go (t_g.h _ _) hr2) ?_
 refine RW.ghost (zH.frz 13 (k:=1) (f:=lV) (g:=lV) r2 rfl inferInstance) ?_
 refine vE ?_
 refine zM ?_
 refine rN (CW.block ?_)
 obtain ⟨r10,hr10,h⟩:=bd h
 refine CW.lp (s:=([],0)) (zOD x2 r2) (fun s1:(List (List Int)) × Int => yP [(0,I x0),(2,I x2),(7,L 1 (Ro lV) s1.1),(13,T.ro (lM r2)),(14,I (r2.length:Int)),(15,I s1.2)]) (fun (r10:(List (List Int))) e E => e = .exit 0 ∧ zH ⟨St,W,w0,Tryz.f131.ntmps⟩ E (yP [(0,I x0),(7,L 1 (Ro lV) r10)])) (.has ⟨rfl,rfl,rfl,rfl,rfl,rfl,trivial⟩) (fun s1 x h => ?_) hr10 (fun e E hq => ?_)
 refine sR (wF ?_)
 refine rN (CW.seq (cn h (fun hc h => ?_) (fun hc h => ?_)))
 refine CW.skip (nA (CW.seq (CW.block (sR ?_))))
 obtain ⟨v3,hv3,h⟩:=bd h
 refine qJ ?_
 refine uD ?_
 refine zU ?_
 refine rN (sR (zM ?_))
 refine zM ?_
 obtain ⟨v4,hv4,h⟩:=bd h
 refine oP (zPz row_22 hv4 (xZ rfl rfl) zP1 (zLg (zCp hv4) rfl) rfl) ?_
 obtain ⟨r5,hr5,h⟩:=bd h
 refine cA Tryz.call99 (FnK.go (t_A.h _) hr5) ?_
 refine rN (cn h (fun hc h => ?_) (fun hc h => ?_))
 refine CW.region (zM ?_)
 refine zM ?_
 refine zM ?_
 obtain ⟨v6,hv6,h⟩:=bd h
 refine oP (zPz row_22 hv6 (xZ rfl rfl) (zLg (zCo hv6) rfl) zS6 rfl) ?_
 refine oP (jK elt_23 [.tmp 26] [.slot 26 (T.ro (lV v6))] [v6] (Ro lV) ⟨.slot _ _,trivial⟩ (pkS rfl (zB trivial) rfl pkN) rfl rfl) ?_
 refine RW.ghost (zH.tr 23 7 _ rfl rfl (zB (zF (fun _ => trivial))) rfl) ?_
 obtain ⟨v7,hv7,h⟩:=bd h
 refine oP (zA1 (f:=(Ro lV)) elt_23 (fun _ => rfl) hv7 rfl (xZ rfl rfl) rfl) ?_
 refine zU ?_
 refine RW.ghost (zH.tr 7 28 _ rfl rfl (zB (zF (fun _ => trivial))) rfl) ?_
 refine RW.nil ?_
 refine nB (nA (CW.region ?_))
 obtain ⟨v8,hv8,h⟩:=bd h
 refine xX ?_
 refine zM ?_
 refine RW.nil ?_
 exact eN h
 refine CW.skip (nB (nA (CW.region ?_)))
 obtain ⟨v9,hv9,h⟩:=bd h
 refine xX ?_
 refine zM ?_
 refine RW.nil ?_
 exact eN h
 refine CW.exit (xA ?_)
 exact eX h
 obtain ⟨rfl,hg⟩:=hq
 refine xB ?_
 refine nA (CW.ghost hg ?_)
 refine sR (zM ?_)
 refine zM ?_
 obtain ⟨r11,hr11,h⟩:=bd h
 refine cA Tryz.call91 (FnK.go (t_g.h _ _) hr11) ?_
 refine zU ?_
 refine RW.ghost (zH.tr 6 32 _ rfl rfl (zB (zF (Enc.clean (f:=lV)))) rfl) ?_
 refine rN (CW.ret ?_)
 obtain rfl:=sI h
 exact rT
instance t_S:FI Tryz.prog 131 (∀ (x0:Int) (x1:List (List Int)) (x2:Int),FnK Tryz.prog 131 [I x0,T.ro (lM x1),I x2] (fun r:(List (List Int)) => [lM r]) (fun _ => []) (f_S x0 x1 x2)):=⟨Tryz.call131,fun x0 x1 x2 => FnK.mk (u_S x0 x1 x2)⟩
section
attribute [local irreducible] RW CW DK OkL Ok xQ xR vL vW XS.post rng uZ uA ixO zT xP wZ yS zI GTo zH FnC FnK uG sG Kp Lk BsL BuL RpL Bk Lc
instance t_bx:FI Tryz.prog 100 (∀ (x0:zV),FnK Tryz.prog 100 [uF x0] (fun r:zV => [zAe r]) (fun _ => []) (zV6 x0)):=⟨Tryz.call100,fun x0 => iF Tryz.func100⟩
end
theorem u_y (x0:zV) (x1:List Int) (r:(List Int) × Bool) (h:f_y x0 x1 = some r):FnC Tryz.prog 67 [uF x0,T.ro (lV x1)] [lV r.1,B r.2] []:=by
 refine fB Tryz.func67 (fun St W w0 v => ?_)
 refine sR (zAN ?_)
 refine oP (tK 1 rfl) ?_
 refine zU ?_
 refine rN (sR (sF ?_))
 refine tX ?_
 refine zU ?_
 refine rN (CW.seq ?_)
 obtain ⟨r1,hr1,h⟩:=bd h
 obtain ⟨v2,hv2,h⟩:=bd h
 refine CW.dk ?_
 refine yB [(1,_)] ?_
 refine dC [(15,_)] Tryz.call94 (FnK.go (t_w.h _) hr1) ?_
 refine sQ [(2,_)] ?_
 refine uJ [(17,_),(2,_)] ?_
 refine zLn [(18,_)] ?_
 refine dG [(16,_),(19,_)] [([(20,some (L 1 I v2)),(16,some T.any)],[(20,0),(16,1)])] ⟨rfl,rfl,trivial⟩ (fun E h => zO.opE (zLi (f:=I) (z:=0) elt_22 Tryz.underlying3 (rfl) hv2 h.1 h.2.1 rfl) rfl) ?_
 refine kZ [(20,_)] ?_
 refine dNA yW ?_
 refine nA (CW.ghost (zH.tr 7 20 _ rfl rfl (zB (zF (Enc.clean (f:=I)))) rfl) ?_)
 refine CW.seq (CW.seq ?_)
 obtain ⟨r3,hr3,h⟩:=bd h
 obtain ⟨r4,hr4,h⟩:=bd h
 refine CW.dk ?_
 refine sQ [(2,_)] ?_
 refine uJ [(21,_),(2,_)] ?_
 refine sQ [(2,_)] ?_
 refine uJ [(23,_),(2,_)] ?_
 refine dC [(24,_)] Tryz.call96 (FnK.go (t_L.h _) hr3) ?_
 refine dC [(22,_),(25,_)] Tryz.call91 (FnK.go (t_g.h _ _) hr4) ?_
 refine zVL [(26,_)] ?_
 refine yB [] ?_
 refine dNA yW ?_
 refine nA (CW.block ?_)
 obtain ⟨r12,hr12,h⟩:=bd h
 refine CW.lp (s:=(v2,0)) (zOH x0 r4) (fun s1:(List Int) × Int => yP [(2,T.ptr (uF x0)),(6,I x0.xJ),(7,L 1 I s1.1),(26,L 1 lV r4),(27,I (r4.length:Int)),(28,I s1.2)]) (fun (r12:(List Int)) e E => e = .exit 0 ∧ zH ⟨St,W,w0,Tryz.f67.ntmps⟩ E (yP [(2,T.ptr (uF x0)),(6,I x0.xJ),(7,L 1 I r12)])) (.has ⟨rfl,rfl,rfl,rfl,rfl,rfl,trivial⟩) (fun s1 x h => ?_) hr12 (fun e E hq => ?_)
 refine sR (wF ?_)
 refine rN (CW.seq (cn h (fun hc h => ?_) (fun hc h => ?_)))
 refine CW.skip (nA (CW.seq (CW.block (sR ?_))))
 obtain ⟨v5,hv5,h⟩:=bd h
 refine zI3 ?_
 refine tX ?_
 refine zU ?_
 refine rN (sR (zM ?_))
 obtain ⟨r6,hr6,h⟩:=bd h
 refine cA Tryz.call97 (FnK.go (t_am.h _) hr6) ?_
 refine zU ?_
 refine rN (sR (zM ?_))
 refine zM ?_
 refine wF ?_
 refine rN (cn h (fun hc h => ?_) (fun hc h => ?_))
 obtain ⟨v7,hv7,h⟩:=bd h
 obtain ⟨v8,hv8,h⟩:=bd h
 obtain ⟨r9,hr9,h⟩:=bd h
 refine CW.dk ?_
 refine yB [(7,_)] ?_
 refine yB [(9,_)] ?_
 refine yB [(7,_)] ?_
 refine yB [(10,_)] ?_
 refine zEn [(39,_),(7,_),(40,_)] ?_
 refine uJ [(41,_),(7,_)] ?_
 refine zPK [(42,_)] ?_
 refine sQ [(2,_)] ?_
 refine uJ [(44,_),(2,_)] ?_
 refine dG [(37,_),(7,_),(38,_),(26,_),(43,_),(45,_)] [([(37,some (L 1 I s1.1)),(7,some (T.same 37 []))],[(37,1),(7,1)]),([(46,some (T.tup [])),(37,some (L 1 I r9))],[(46,0),(37,1)]),([(7,some (L 1 I r9)),(37,some (T.same 7 []))],[(7,1),(37,1)])] ⟨rfl,rfl,rfl,rfl,rfl,rfl,trivial⟩ (fun E h => zO.opE (tW (xs:=[.tmp 37,.tmp 38,.tmp 43,.tmp 45]) 0 37 7 [] Tryz.call44 (t_s.h _ _ _ _ _ hr9) h.1 h.2.1 rfl (zB (zF (Enc.clean (f:=I)))) (zB (zF (Enc.clean (f:=I)))) (Enc.rofree (f:=L 1 I) _) (Enc.rofree (f:=L 1 I) _) ⟨(zBJ rfl (zB (zF (Enc.clean (f:=I)))) (Enc.rofree (f:=L 1 I) _)),⟨(agM _ (zCH h.2.2.1) (tV (zPO h.2.2.2.1) (zN hv5 rfl) inferInstance) (zPM (zPO h.2.2.2.1) (zN hv5 rfl) rfl rfl)),⟨(agM _ (zCH h.2.2.2.2.1) rfl rfl),⟨(agM _ (zCH h.2.2.2.2.2.1) rfl rfl),trivial⟩⟩⟩⟩ wK rfl rfl rfl rfl) rfl) ?_
 refine dNA yW ?_
 refine nB (nA (CW.region ?_))
 obtain ⟨v10,hv10,h⟩:=bd h
 refine xX ?_
 refine zM ?_
 refine RW.nil ?_
 exact eN h
 refine CW.skip (nB (nA (CW.region ?_)))
 obtain ⟨v11,hv11,h⟩:=bd h
 refine xX ?_
 refine zM ?_
 refine RW.nil ?_
 exact eN h
 refine CW.exit (xA ?_)
 exact eX h
 obtain ⟨rfl,hg⟩:=hq
 refine xB ?_
 refine nA (CW.ghost hg ?_)
 refine CW.seq (sR (zM ?_))
 refine zM ?_
 obtain ⟨v13,hv13,h⟩:=bd h
 refine oP (zJy row_22 hv13 (vQ rfl rfl rfl rfl) zP1 (zLg (zCp hv13) rfl) rfl) ?_
 obtain ⟨r14,hr14,h⟩:=bd h
 refine oP (xD (xs:=[.tmp 50]) Tryz.call99 (FnK.go (t_A.h _) hr14) ⟨(agC _ rfl (zIv rfl rfl inferInstance hv13) rfl),trivial⟩ (wQ (f:=B) inferInstance wK) rfl) ?_
 refine zFV ?_
 refine rN (cn h (fun hc h => ?_) (fun hc h => ?_))
 refine sR (oP (tK 1 rfl) ?_)
 refine zU ?_
 refine rN (CW.ret (rA ?_))
 obtain rfl:=sI h
 exact rT
 refine CW.skip (nA (sR (zM ?_)))
 refine zM ?_
 obtain ⟨v15,hv15,h⟩:=bd h
 refine oP (zJy row_22 hv15 (vQ rfl rfl rfl rfl) (zLg (zCo hv15) rfl) zS6 rfl) ?_
 refine zU ?_
 refine rN (CW.seq (sR (zM ?_)))
 refine oP (zP3 Tryz.underlying22 rfl rfl rfl rfl) ?_
 refine zM ?_
 refine rN (CW.block ?_)
 obtain ⟨r23,hr23,h⟩:=bd h
 refine CW.lp (s:=(r12,0)) (zOI x0 r12) (fun s3:(List Int) × Int => yP [(2,T.ptr (uF x0)),(7,L 1 I s3.1),(11,T.sub 7 [] 1 ((x0.xJ:Int).toNat) ((r12.length:Int).toNat)),(57,I (((r12.length:Int).toNat - (x0.xJ:Int).toNat:Nat):Int)),(58,I s3.2)]) (fun (r23:(List Int)) e E => e = .exit 2 ∧ zH ⟨St,W,w0,Tryz.f67.ntmps⟩ E (yP [(2,T.ptr (uF x0)),(7,L 1 I r23),(11,T.sub 7 [] 1 ((x0.xJ:Int).toNat) ((r12.length:Int).toNat))])) (.has ⟨rfl,rfl,rfl,rfl,rfl,trivial⟩) (fun s3 x h => ?_) hr23 (fun e E hq => ?_)
 refine sR (wF ?_)
 refine rN (CW.seq (cn h (fun hc h => ?_) (fun hc h => ?_)))
 refine CW.skip (nA (CW.seq (CW.block (sR (zM ?_)))))
 refine zU ?_
 refine rN ?_
 obtain ⟨v16,hv16,h⟩:=bd h
 obtain ⟨v17,hv17,h⟩:=bd h
 obtain ⟨v18,hv18,h⟩:=bd h
 obtain ⟨r19,hr19,h⟩:=bd h
 obtain ⟨v20,hv20,h⟩:=bd h
 obtain ⟨v21,hv21,h⟩:=bd h
 refine CW.dk ?_
 refine yB [(11,_)] ?_
 refine yB [(12,_)] ?_
 refine yB [(11,_)] ?_
 refine yB [(12,_)] ?_
 refine dG [(63,_),(7,_),(64,_)] [([(65,some (T.addr 7 [(x0.xJ + s3.2).toNat]))],[(65,0)])] ⟨rfl,rfl,rfl,trivial⟩ (fun E h => zO.opE (zMX (f:=I) row_22 hv16 hv17 h.1 h.2.1 rfl h.2.2.1 rfl) rfl) ?_
 refine dG [(65,_),(7,_)] [([(66,some (I v17))],[(66,0)])] ⟨rfl,rfl,trivial⟩ (fun E h => zO.opE (zBd (var_2.h _ rfl rfl) h.1 h.2.1 (zN (zPQ hv16 hv17) rfl) rfl) rfl) ?_
 refine zPK [(66,_)] ?_
 refine sQ [(2,_)] ?_
 refine uJ [(68,_),(2,_)] ?_
 refine dC [(67,_),(69,_)] Tryz.call65 (FnK.go (t_at.h _ _) hr19) ?_
 refine dG [(61,_),(7,_),(62,_)] [([(71,some (T.addr 7 [(x0.xJ + s3.2).toNat]))],[(71,0)])] ⟨rfl,rfl,rfl,trivial⟩ (fun E h => zO.opE (zMX (f:=I) row_22 hv20 hv21 h.1 h.2.1 rfl h.2.2.1 rfl) rfl) ?_
 refine dG [(71,_),(7,_),(70,_)] [([(7,some (L 1 I (s3.1.set (x0.xJ + s3.2).toNat r19)))],[(7,1)])] ⟨rfl,rfl,rfl,trivial⟩ (fun E h => zO.opE (zC4 zCO rfl h.1 h.2.1 (zN (zPQ hv20 hv21) rfl) (kG (zPQ hv20 hv21) rfl) h.2.2.1 (zB (Enc.clean (f:=I) _)) rfl) rfl) ?_
 refine dNA yW ?_
 refine nB (nA (CW.region ?_))
 obtain ⟨v22,hv22,h⟩:=bd h
 refine xX ?_
 refine zM ?_
 refine RW.nil ?_
 exact eN h
 refine CW.exit (xA ?_)
 exact eX h
 obtain ⟨rfl,hg⟩:=hq
 refine xB ?_
 refine nA (CW.ghost hg ?_)
 refine sR (uM ?_)
 obtain ⟨r24,hr24,h⟩:=bd h
 refine cA Tryz.call100 (FnK.go (t_bx.h _) hr24) ?_
 refine zM ?_
 obtain ⟨v25,hv25,h⟩:=bd h
 obtain ⟨r26,hr26,h⟩:=bd h
 refine oP (xD (xs:=[.tmp 74,.tmp 75]) Tryz.call61 (FnK.go (t_al.h _ _) hr26) ⟨(agC _ rfl (kH (wS rfl (wS rfl (wS (sE inferInstance) kI)))) rfl),⟨(agC _ rfl (zIv rfl rfl inferInstance hv25) rfl),trivial⟩⟩ (wQ (f:=lV) inferInstance wK) rfl) ?_
 refine zU ?_
 refine zU ?_
 refine RW.ghost (zH.tr 4 76 _ rfl rfl (zB (zF (Enc.clean (f:=I)))) rfl) ?_
 refine rN (CW.ret ?_)
 obtain rfl:=sI h
 exact rT
instance t_y:FI Tryz.prog 67 (∀ (x0:zV) (x1:List Int),FnK Tryz.prog 67 [uF x0,T.ro (lV x1)] (fun r:(List Int) × Bool => [lV r.1,B r.2]) (fun _ => []) (f_y x0 x1)):=⟨Tryz.call67,fun x0 x1 => FnK.mk (u_y x0 x1)⟩
theorem zXU (x0:SPr) (x1:zD) (x2:List Int) (r:(List (List Int)) × Bool) (h:zOJ x0 x1 x2 = some r):FnC Tryz.prog 46 [T.ro ((Pt xU) x0),T.ro ((Pt yC) x1),T.ro (lV x2)] [lM r.1,B r.2] []:=by
 refine fB Tryz.func46 (fun St W w0 v => ?_)
 refine sR (oP (tK 1 rfl) ?_)
 refine zU ?_
 refine rN (CW.seq (sR (zM ?_)))
 refine zBM ?_
 refine zEM ?_
 refine uD ?_
 refine vE ?_
 refine zPG ?_
 refine rN (cn h (fun hc h => ?_) (fun hc h => ?_))
 refine sR (oP (tK 1 rfl) ?_)
 refine zU ?_
 refine rN (CW.ret (rA ?_))
 obtain rfl:=sI h
 exact rT
 refine CW.skip (nA (sR (zM ?_)))
 refine vE ?_
 obtain ⟨m1,hm1,h⟩:=bd h
 refine oP (qX (f:=I) (z:=0) elt_22 (rfl) hm1 rfl rfl rfl) ?_
 refine zU ?_
 refine RW.ghost (zH.tr 8 19 _ rfl rfl (zB (zF (Enc.clean (f:=I)))) rfl) ?_
 refine rN (sR (zM ?_))
 refine zM ?_
 refine zM ?_
 refine zBM ?_
 refine zEM ?_
 refine uD ?_
 obtain ⟨r2,hr2,h⟩:=bd h
 refine oP (tW (xs:=[.tmp 20,.tmp 21,.const _,.tmp 25]) 0 20 8 [] Tryz.call44 (t_s.h _ _ _ _ _ hr2) rfl rfl rfl (zB (zF (Enc.clean (f:=I)))) (zB (zF (Enc.clean (f:=I)))) (Enc.rofree (f:=L 1 I) _) (Enc.rofree (f:=L 1 I) _) ⟨(zBJ rfl (zB (zF (Enc.clean (f:=I)))) (Enc.rofree (f:=L 1 I) _)),⟨(agM _ rfl rfl rfl),⟨(agM _ rfl rfl rfl),⟨(agM _ rfl rfl rfl),trivial⟩⟩⟩⟩ wK rfl rfl rfl rfl) ?_
 refine rN (CW.seq ?_)
 obtain ⟨r3,hr3,h⟩:=bd h
 obtain ⟨r4,hr4,h⟩:=bd h
 obtain ⟨r5,hr5,h⟩:=bd h
 refine CW.dk ?_
 refine yB [(1,_)] ?_
 refine zA4 [(28,_)] ?_
 refine zH6 [(29,_)] ?_
 refine sJ [(30,_)] ?_
 refine yB [(0,_)] ?_
 refine yB [(1,_)] ?_
 refine dC [(32,_),(33,_)] Tryz.call59 (FnK.go (t_ay.h _ _) hr3) ?_
 refine dG [(34,L 1 lV r3),(31,I x1.Prime)] [([(34,some (T.ro (lM r3)))],[(34,1)]),([(35,some (uF r4))],[(35,0)])] ⟨rfl,rfl,trivial⟩ (fun E h => zO.gh (zH.frzG 34 _ (t':=T.ro (lM r3)) h.1 (fzO inferInstance)) <| zO.opE (uS (xs:=[.tmp 31,.tmp 34]) Tryz.call68 (FnK.go (t_bB.h _ _) hr4) (afC (zMT h.2.1) rfl (afC rfl rfl afN)) rfl ⟨(xE ⟨(Enc.clean (f:=I) _),(Enc.clean (f:=I) _),trivial,trivial⟩),trivial⟩ rfl rfl) rfl) ?_
 refine yB [(8,_)] ?_
 refine dC [(35,_),(36,_),(8,_)] Tryz.call67 (FnK.go (t_y.h _ _) hr5) ?_
 refine zPL [(37,_)] ?_
 refine zH7 [(27,_)] ?_
 refine zH7 [(27,_)] ?_
 refine kZ [(38,_)] ?_
 refine kZ [(39,_)] ?_
 refine dNA yW ?_
 refine nA (CW.ghost (zH.trq 9 37 [0] rfl rfl rfl (zB (zF (Enc.clean (f:=I)))) rfl) ?_)
 refine CW.seq (CW.seq (CW.to [(1,T.ro ((Pt yC) x1)),(9,L 1 I r5.1),(10,B r5.2)] ⟨rfl,rfl,rfl,trivial⟩ ?_))
 refine CW.region (zM ?_)
 refine zFV ?_
 refine rN (cn h (fun hc h => ?_) (fun hc h => ?_))
 refine sR (oP (tK 1 rfl) ?_)
 refine zU ?_
 refine rN (CW.ret (rA ?_))
 obtain rfl:=sI h
 exact rT
 refine CW.skip (nA (sR (zM ?_)))
 refine zM ?_
 refine zBM ?_
 refine zEM ?_
 refine uD ?_
 obtain ⟨r6,hr6,h⟩:=bd h
 refine cA Tryz.call60 (FnK.go (t_T.h _ _) hr6) ?_
 refine zU ?_
 refine zU ?_
 refine RW.ghost (zH.tr 6 47 _ rfl rfl (zB (zF (Enc.clean (f:=lV)))) rfl) ?_
 refine rN (CW.ret ?_)
 obtain rfl:=sI h
 exact rT
instance t_a5:FI Tryz.prog 46 (∀ (x0:SPr) (x1:zD) (x2:List Int),FnK Tryz.prog 46 [T.ro ((Pt xU) x0),T.ro ((Pt yC) x1),T.ro (lV x2)] (fun r:(List (List Int)) × Bool => [lM r.1,B r.2]) (fun _ => []) (zOJ x0 x1 x2)):=⟨Tryz.call46,fun x0 x1 x2 => FnK.mk (zXU x0 x1 x2)⟩
section
attribute [local irreducible] RW CW DK OkL Ok xQ xR vL vW XS.post rng uZ uA ixO zT xP wZ yS zI GTo zH FnC FnK uG sG Kp Lk BsL BuL RpL Bk Lc
end
theorem u_R (x0:Int) (x1:List (List Int)) (r:(List (List Int))) (h:f_R x0 x1 = some r):FnC Tryz.prog 101 [I x0,T.ro (lM x1)] [(L 1 (Ro lV)) r] []:=by
 refine fB Tryz.func101 (fun St W w0 v => ?_)
 refine sR (oP (tK 1 rfl) ?_)
 refine rN (sR (zM ?_))
 refine vE ?_
 obtain ⟨r1,hr1,h⟩:=bd h
 refine cA Tryz.call109 (FnK.go (t_G.h _) hr1) ?_
 refine zU ?_
 refine RW.ghost (zH.tr 5 10 _ rfl rfl (zB (zF (Enc.clean (f:=lV)))) rfl) ?_
 refine rN (sR (oP (zFT elt_23 rfl) ?_))
 refine zU ?_
 refine RW.ghost (zH.tr 6 11 _ rfl rfl (zB trivial) rfl) ?_
 refine rN (CW.seq (sR (zU ?_)))
 refine rN (CW.block ?_)
 obtain ⟨r8,hr8,h⟩:=bd h
 refine CW.lp (s:=([],0)) (zRV x1 r1) (fun s1:(List (List Int)) × Int => yP [(0,I x0),(1,T.ro (lM x1)),(5,L 1 lV r1),(6,L 1 lV s1.1),(7,I s1.2)]) (fun (r8:(List (List Int))) e E => e = .exit 0 ∧ zH ⟨St,W,w0,Tryz.f101.ntmps⟩ E (yP [(0,I x0),(6,L 1 lV r8)])) (.has ⟨rfl,rfl,rfl,rfl,rfl,trivial⟩) (fun s1 x h => ?_) hr8 (fun e E hq => ?_)
 refine CW.seq (sR (zM ?_))
 refine zM ?_
 refine vE ?_
 refine wF ?_
 refine rN (cn h (fun hc h => ?_) (fun hc h => ?_))
 refine CW.skip (nA (CW.seq (CW.block ?_)))
 obtain ⟨v2,hv2,h⟩:=bd h
 obtain ⟨r3,hr3,h⟩:=bd h
 obtain ⟨v4,hv4,h⟩:=bd h
 obtain ⟨v5,hv5,h⟩:=bd h
 obtain ⟨v6,hv6,h⟩:=bd h
 refine CW.dk ?_
 refine yB [(6,_)] ?_
 refine yB [(1,_)] ?_
 refine yB [(7,_)] ?_
 refine zBN [(19,_),(20,_)] ?_
 refine sJ [(21,_)] ?_
 refine dC [(22,_)] Tryz.call63 (FnK.go (t_r.h _) hr3) ?_
 refine yB [(5,_)] ?_
 refine yB [(7,_)] ?_
 refine zEn [(24,_),(5,_),(25,_)] ?_
 refine uJ [(26,_),(5,_)] ?_
 refine dG [(23,_),(27,_),(5,_)] [([(28,some (L 1 I v5)),(23,some T.any)],[(28,0),(23,1)])] ⟨rfl,rfl,rfl,trivial⟩ (fun E h => zO.opE (zA1 (f:=I) elt_22 (fun _ => rfl) hv5 h.1 (vQ h.2.1 h.2.2.1 (zN hv4 rfl) rfl) rfl) rfl) ?_
 refine dG [(28,_)] [([(29,some (L 1 lV [v5])),(28,some (T.same 29 [0]))],[(29,0),(28,1)])] ⟨rfl,trivial⟩ (fun E h => zO.opE (jK elt_23 [.tmp 28] [.slot 28 (L 1 I v5)] [v5] lV ⟨.slot _ _,trivial⟩ (pkS h.1 (zB (zF (Enc.clean (f:=I)))) rfl pkN) rfl rfl) rfl) ?_
 refine dG [(18,T.same 6 []),(6,L 1 lV s1.1),(29,L 1 lV [v5])] [([(18,some (L 1 lV s1.1)),(6,some (T.same 18 []))],[(18,1),(6,1)]),([(30,some (L 1 lV v6)),(18,some T.any),(29,some T.any)],[(30,0),(18,1),(29,1)])] ⟨rfl,rfl,rfl,trivial⟩ (fun E h => zO.gh (zH.tr 18 6 _ h.1 h.2.1 (zB (zF (Enc.clean (f:=lV)))) rfl) <| zO.opE (sP (f:=lV) elt_23 hv6 rfl (qI h.2.2.1) rfl) rfl) ?_
 refine kZ [(30,_)] ?_
 refine dNA yW ?_
 refine nB (nA (CW.region (zM ?_)))
 obtain ⟨v7,hv7,h⟩:=bd h
 refine xX ?_
 refine zU ?_
 refine RW.ghost (zH.tr 6 30 _ rfl rfl (zB (zF (Enc.clean (f:=lV)))) rfl) ?_
 refine RW.nil ?_
 exact eN h
 refine CW.exit (xA ?_)
 exact eX h
 obtain ⟨rfl,hg⟩:=hq
 refine xB ?_
 refine nA (CW.ghost hg ?_)
 refine sR (zM ?_)
 refine zM ?_
 refine RW.ghost (zH.frzG 6 _ (t':=T.ro (lM r8)) rfl (fzO inferInstance)) ?_
 refine RW.ghost (zH.res 32 6 [] _ rfl rfl rfl) ?_
 obtain ⟨r9,hr9,h⟩:=bd h
 refine oP (uS (xs:=[.tmp 31,.tmp 32]) Tryz.call78 (FnK.go (t_m.h _ _) hr9) (afC rfl rfl (afC rfl rfl afN)) rfl ⟨(zF (fun _ => trivial)),trivial⟩ rfl rfl) ?_
 refine zU ?_
 refine RW.ghost (zH.tr 4 33 _ rfl rfl (zB (zF (fun _ => trivial))) rfl) ?_
 refine rN (CW.ret ?_)
 obtain rfl:=sI h
 exact rT
instance t_R:FI Tryz.prog 101 (∀ (x0:Int) (x1:List (List Int)),FnK Tryz.prog 101 [I x0,T.ro (lM x1)] (fun r:(List (List Int)) => [(L 1 (Ro lV)) r]) (fun _ => []) (f_R x0 x1)):=⟨Tryz.call101,fun x0 x1 => FnK.mk (u_R x0 x1)⟩
section
attribute [local irreducible] RW CW DK OkL Ok xQ xR vL vW XS.post rng uZ uA ixO zT xP wZ yS zI GTo zH FnC FnK uG sG Kp Lk BsL BuL RpL Bk Lc
instance (x2:Int) (r1:(List (List Int))):LH (R:=(List (List Int))) (zHV x2 r1) [2,7] [] (fun s1 => [(8,L 1 lV s1.1),(9,I s1.2)]) (.xe 0 [2,7] fun r10 => [(8,L 1 lV r10)]):=⟨⟩
instance t_ax:FI Tryz.prog 102 (∀ (x0:Int) (x1:List (List Int)) (x2:Int),FnK Tryz.prog 102 [I x0,T.ro (lM x1),I x2] (fun r:(List (List Int)) => [lM r]) (fun _ => []) (zTy x0 x1 x2)):=⟨Tryz.call102,fun x0 x1 x2 => iF Tryz.func102⟩
instance (x2:Int) (r1:(List (List Int))):LH (R:=(List Int) × Bool) (zOG x2 r1) [0,1,2,10,11] [] (fun s1 => [(12,L 1 (Ro lV) s1.1),(13,I s1.2)]) (.xe 0 [10] fun r10 => [(12,L 1 (Ro lV) r10)]):=⟨⟩
instance t_Q:FI Tryz.prog 69 (∀ (x0:Int) (x1:List (List Int)) (x2:Int) (x3:List Int),FnK Tryz.prog 69 [I x0,T.ro (lM x1),I x2,T.ro (lV x3)] (fun r:(List Int) × Bool => [lV r.1,B r.2]) (fun _ => []) (f_Q x0 x1 x2 x3)):=⟨Tryz.call69,fun x0 x1 x2 x3 => iF Tryz.func69⟩
instance t_bC:FI Tryz.prog 48 (∀ (x0:SPr) (x1:zD) (x2:List (List Int)),FnK Tryz.prog 48 [qPr x0,zY x1,T.ro (lM x2)] (fun r:(List (List Int)) × Bool => [lM r.1,B r.2]) (fun _ => []) (zTE x0 x1 x2)):=⟨Tryz.call48,fun x0 x1 x2 => iF Tryz.func48⟩
instance t_bc:FI Tryz.prog 26 (∀ (x0:SPr) (x1:zD) (x2:List (List Int)),FnK Tryz.prog 26 [qPr x0,zY x1,T.ro (lM x2)] (fun r:(List (List Int)) × Int => [lM r.1,I r.2]) (fun _ => []) (zSm x0 x1 x2)):=⟨Tryz.call26,fun x0 x1 x2 => iF Tryz.func26⟩
instance t_a6:FI Tryz.prog 27 (∀ (x0:SPr) (x1:zD) (x2:List (List Int)),FnK Tryz.prog 27 [qPr x0,zY x1,T.ro (lM x2)] (fun r:(List (List Int)) × Int => [lM r.1,I r.2]) (fun _ => []) (zOK x0 x1 x2)):=⟨Tryz.call27,fun x0 x1 x2 => iF Tryz.func27⟩
end
theorem zXV (x0:SPr) (x1:zD) (x2:List (List Int)) (r:Bool) (h:zSn x0 x1 x2 = some r):FnC Tryz.prog 6 [qPr x0,zY x1,T.ro (lM x2)] [B r] []:=by
 refine fB Tryz.func6 (fun St W w0 v => ?_)
 refine sR (zAN ?_)
 refine zAN ?_
 refine zU ?_
 refine rN (sR (zU ?_))
 refine rN (sR (uM ?_))
 refine zM ?_
 obtain ⟨r1,hr1,h⟩:=bd h
 refine cA Tryz.call7 (FnK.go (t_be.h _ _) hr1) ?_
 refine zU ?_
 refine rN (CW.seq (sR (zM ?_)))
 refine wF ?_
 refine rN (cn h (fun hc h => ?_) (fun hc h => ?_))
 refine sR (zU ?_)
 refine rN (CW.ret (rA ?_))
 obtain rfl:=sI h
 exact rT
 refine CW.skip (nA (sR (uM ?_)))
 refine zM ?_
 obtain ⟨r2,hr2,h⟩:=bd h
 refine cA Tryz.call8 (FnK.go (t_bf.h _ _) hr2) ?_
 refine zU ?_
 refine rN (CW.seq (sR (zM ?_)))
 refine wF ?_
 refine rN (cn h (fun hc h => ?_) (fun hc h => ?_))
 refine sR (zU ?_)
 refine rN (CW.ret (rA ?_))
 obtain rfl:=sI h
 exact rT
 refine CW.skip (nA (sR (zM ?_)))
 refine zM ?_
 obtain ⟨r3,hr3,h⟩:=bd h
 refine cA Tryz.call9 (FnK.go (t_aM.h _ _) hr3) ?_
 refine zU ?_
 refine rN (CW.seq (sR (zM ?_)))
 refine wF ?_
 refine rN (cn h (fun hc h => ?_) (fun hc h => ?_))
 refine sR (zU ?_)
 refine rN (CW.ret (rA ?_))
 obtain rfl:=sI h
 exact rT
 refine CW.skip (nA (CW.seq ?_))
 obtain ⟨r4,hr4,h⟩:=bd h
 obtain ⟨r5,hr5,h⟩:=bd h
 obtain ⟨r6,hr6,h⟩:=bd h
 obtain ⟨r7,hr7,h⟩:=bd h
 refine CW.dk ?_
 refine xY [(3,_)] ?_
 refine dG [(36,_)] [([(37,some (xU r4))],[(37,0)])] ⟨rfl,trivial⟩ (fun E h => zO.opE (xD (xs:=[.tmp 36]) Tryz.call11 (FnK.go (t_ar.h _) hr4) ⟨(agC _ h.1 rfl rfl),trivial⟩ (wQ (f:=xU) inferInstance wK) rfl) rfl) ?_
 refine xY [(4,_)] ?_
 refine dG [(38,_)] [([(39,some (yC r5))],[(39,0)])] ⟨rfl,trivial⟩ (fun E h => zO.opE (xD (xs:=[.tmp 38]) Tryz.call12 (FnK.go (t_as.h _) hr5) ⟨(agC _ h.1 rfl rfl),trivial⟩ (wQ (f:=yC) inferInstance wK) rfl) rfl) ?_
 refine yB [(2,_)] ?_
 refine dG [(40,_)] [([(41,some (L 1 lV r6))],[(41,0)])] ⟨rfl,trivial⟩ (fun E h => zO.opE (xD (xs:=[.tmp 40]) Tryz.call13 (FnK.go (t_E.h _) hr6) ⟨(agC _ h.1 rfl rfl),trivial⟩ (wQ (f:=lM) inferInstance wK) rfl) rfl) ?_
 refine dG [(37,_),(39,_),(41,_)] [([(42,some (T.tup [L 1 lV r7.1,I r7.2]))],[(42,0)])] ⟨rfl,rfl,rfl,trivial⟩ (fun E h => zO.opE (xD (xs:=[.tmp 37,.tmp 39,.tmp 41]) Tryz.call26 (FnK.go (t_bc.h _ _ _) hr7) ⟨(agC _ h.1 (kH (wS (sE inferInstance) (wS (sE inferInstance) (wS (sE inferInstance) kI)))) rfl),⟨(agC _ h.2.1 (kH (wS rfl (wS rfl (wS (sE inferInstance) kI)))) rfl),⟨(agC _ h.2.2.1 (sE inferInstance) rfl),trivial⟩⟩⟩ (wQ (f:=lM) inferInstance (wQ (f:=I) inferInstance wK)) rfl) rfl) ?_
 refine zPL [(42,_)] ?_
 refine zH7 [(35,_)] ?_
 refine zH7 [(35,_)] ?_
 refine kZ [(43,_)] ?_
 refine kZ [(44,_)] ?_
 refine dNA yW ?_
 refine nA (CW.ghost (zH.trq 8 42 [0] rfl rfl rfl (zB (zF (Enc.clean (f:=lV)))) rfl) ?_)
 refine CW.seq (CW.to [(2,T.ro (lM x2)),(3,T.ptr (qPr x0)),(4,T.ptr (zY x1)),(8,L 1 lV r7.1),(9,I r7.2)] ⟨rfl,rfl,rfl,rfl,rfl,trivial⟩ ?_)
 refine CW.region (uM ?_)
 obtain ⟨r8,hr8,h⟩:=bd h
 refine oP (xD (xs:=[.tmp 45]) Tryz.call11 (FnK.go (t_ar.h _) hr8) ⟨(agC _ rfl rfl rfl),trivial⟩ (wQ (f:=xU) inferInstance wK) rfl) ?_
 refine vK ?_
 refine oP (vJ zE9 rfl (xZ rfl rfl) rfl rfl rfl rfl (zB (xE ⟨(zF (Enc.clean (f:=I))),(zF (Enc.clean (f:=lV))),(zF (Enc.clean (f:=lM))),trivial⟩)) rfl) ?_
 refine rN (sR (uM ?_))
 obtain ⟨r9,hr9,h⟩:=bd h
 refine oP (xD (xs:=[.tmp 47]) Tryz.call12 (FnK.go (t_as.h _) hr9) ⟨(agC _ rfl rfl rfl),trivial⟩ (wQ (f:=yC) inferInstance wK) rfl) ?_
 refine vK ?_
 refine oP (vJ zSp rfl (xZ rfl rfl) rfl rfl rfl rfl (zB (xE ⟨(Enc.clean (f:=I) _),(Enc.clean (f:=I) _),(zF (Enc.clean (f:=lM))),trivial⟩)) rfl) ?_
 refine rN (sR (zM ?_))
 obtain ⟨r10,hr10,h⟩:=bd h
 refine oP (xD (xs:=[.tmp 49]) Tryz.call13 (FnK.go (t_E.h _) hr10) ⟨(agC _ rfl rfl rfl),trivial⟩ (wQ (f:=lM) inferInstance wK) rfl) ?_
 refine zU ?_
 refine RW.ghost (zH.tr 12 50 _ rfl rfl (zB (zF (Enc.clean (f:=lV)))) rfl) ?_
 refine rN (sR (uM ?_))
 refine uM ?_
 refine zM ?_
 obtain ⟨r11,hr11,h⟩:=bd h
 refine oP (xD (xs:=[.tmp 52,.tmp 53,.tmp 54]) Tryz.call27 (FnK.go (t_a6.h _ _ _) hr11) ⟨(agC _ rfl (kH (wS (tV rfl rfl inferInstance) (wS (tV rfl rfl inferInstance) (wS (tV rfl rfl inferInstance) kI)))) rfl),⟨(agC _ rfl (kH (wS rfl (wS rfl (wS (tV rfl rfl inferInstance) kI)))) rfl),⟨(agC _ rfl (tV rfl rfl inferInstance) rfl),trivial⟩⟩⟩ (wQ (f:=lM) inferInstance (wQ (f:=I) inferInstance wK)) rfl) ?_
 refine zPH ?_
 refine zH5 ?_
 refine zH5 ?_
 refine zU ?_
 refine zU ?_
 refine RW.ghost (zH.trq 13 55 [0] rfl rfl rfl (zB (zF (Enc.clean (f:=lV)))) rfl) ?_
 refine rN (CW.seq (sR (zM ?_)))
 refine zM ?_
 obtain ⟨r12,hr12,h⟩:=bd h
 refine oP (xD (xs:=[.tmp 58,.tmp 59]) Tryz.call15 (FnK.go (t_H.h _ _) hr12) ⟨(agC _ rfl (tV rfl rfl inferInstance) rfl),⟨(agC _ rfl (tV rfl rfl inferInstance) rfl),trivial⟩⟩ (wQ (f:=B) inferInstance wK) rfl) ?_
 refine zFV ?_
 refine zM ?_
 refine RW.cases 62 _ rfl (fun hc => ?_) (fun hc => ?_)
 have h:=cT hc h
 refine sk2 ?_
 refine sk2 ?_
 refine sk2 ?_
 refine vX ?_
 refine rN (CW.condT rfl ?_)
 refine CW.seq (CW.to [] trivial ?_)
 refine CW.region (zU ?_)
 refine rN (CW.ret (rA ?_))
 obtain rfl:=sI h
 exact rT
 have h:=cF hc h
 refine zA3 ?_
 refine zA3 ?_
 refine zPF ?_
 refine vX ?_
 refine rN (cn h (fun hc h => ?_) (fun hc h => ?_))
 refine CW.seq (CW.to [] trivial ?_)
 refine CW.region (zU ?_)
 refine rN (CW.ret (rA ?_))
 obtain rfl:=sI h
 exact rT
 refine CW.skip (nA (CW.seq (CW.seq (CW.to [(2,T.ro (lM x2)),(3,T.ptr (qPr x0)),(4,T.ptr (zY x1)),(8,L 1 lV r7.1),(9,I r7.2),(10,T.ptr (xU r8)),(11,T.ptr (yC r9)),(12,L 1 lV r10),(13,L 1 lV r11.1),(14,I r11.2)] ⟨rfl,rfl,rfl,rfl,rfl,rfl,rfl,rfl,rfl,rfl,trivial⟩ ?_))))
 obtain ⟨r13,hr13,h⟩:=bd h
 obtain ⟨r14,hr14,h⟩:=bd h
 refine CW.dk ?_
 refine xY [(10,_)] ?_
 refine xY [(3,_)] ?_
 refine dG [(68,_)] [([(69,some (xU r13))],[(69,0)])] ⟨rfl,trivial⟩ (fun E h => zO.opE (xD (xs:=[.tmp 68]) Tryz.call11 (FnK.go (t_ar.h _) hr13) ⟨(agC _ h.1 rfl rfl),trivial⟩ (wQ (f:=xU) inferInstance wK) rfl) rfl) ?_
 refine dG [(67,_),(10,_),(69,_)] [([(70,some (B r14))],[(70,0)])] ⟨rfl,rfl,rfl,trivial⟩ (fun E h => zO.opE (xD (xs:=[.tmp 67,.tmp 69]) Tryz.call16 (FnK.go (t_bh.h _ _) hr14) ⟨(agC _ h.1 (kH (wS (tV h.2.1 rfl inferInstance) (wS (tV h.2.1 rfl inferInstance) (wS (tV h.2.1 rfl inferInstance) kI)))) rfl),⟨(agC _ h.2.2.1 (kH (wS (sE inferInstance) (wS (sE inferInstance) (wS (sE inferInstance) kI)))) rfl),trivial⟩⟩ (wQ (f:=B) inferInstance wK) rfl) rfl) ?_
 refine zPJ [(70,_)] ?_
 refine dNA yW ?_
 refine nA (cn h (fun hc h => ?_) (fun hc h => ?_))
 refine sR (zU ?_)
 refine rN (CW.ret (rA ?_))
 obtain rfl:=sI h
 exact rT
 refine CW.skip (nA (CW.seq (CW.seq ?_)))
 obtain ⟨r15,hr15,h⟩:=bd h
 obtain ⟨r16,hr16,h⟩:=bd h
 refine CW.dk ?_
 refine xY [(11,_)] ?_
 refine xY [(4,_)] ?_
 refine dG [(73,_)] [([(74,some (yC r15))],[(74,0)])] ⟨rfl,trivial⟩ (fun E h => zO.opE (xD (xs:=[.tmp 73]) Tryz.call12 (FnK.go (t_as.h _) hr15) ⟨(agC _ h.1 rfl rfl),trivial⟩ (wQ (f:=yC) inferInstance wK) rfl) rfl) ?_
 refine dG [(72,_),(11,_),(74,_)] [([(75,some (B r16))],[(75,0)])] ⟨rfl,rfl,rfl,trivial⟩ (fun E h => zO.opE (xD (xs:=[.tmp 72,.tmp 74]) Tryz.call17 (FnK.go (t_bg.h _ _) hr16) ⟨(agC _ h.1 (kH (wS rfl (wS rfl (wS (tV h.2.1 rfl inferInstance) kI)))) rfl),⟨(agC _ h.2.2.1 (kH (wS rfl (wS rfl (wS (sE inferInstance) kI)))) rfl),trivial⟩⟩ (wQ (f:=B) inferInstance wK) rfl) rfl) ?_
 refine zPJ [(75,_)] ?_
 refine dNA yW ?_
 refine nA (cn h (fun hc h => ?_) (fun hc h => ?_))
 refine sR (zU ?_)
 refine rN (CW.ret (rA ?_))
 obtain rfl:=sI h
 exact rT
 refine CW.skip (nA (CW.seq (sR (zM ?_))))
 refine zM ?_
 obtain ⟨r17,hr17,h⟩:=bd h
 refine oP (xD (xs:=[.tmp 78]) Tryz.call13 (FnK.go (t_E.h _) hr17) ⟨(agC _ rfl rfl rfl),trivial⟩ (wQ (f:=lM) inferInstance wK) rfl) ?_
 obtain ⟨r18,hr18,h⟩:=bd h
 refine cA Tryz.call15 (FnK.go (t_H.h _ _) hr18) ?_
 refine zFV ?_
 refine rN (cn h (fun hc h => ?_) (fun hc h => ?_))
 refine sR (zU ?_)
 refine rN (CW.ret (rA ?_))
 obtain rfl:=sI h
 exact rT
 refine CW.skip (nA (sR (zU ?_)))
 refine rN (sR (uM ?_))
 refine zM ?_
 obtain ⟨r19,hr19,h⟩:=bd h
 refine oP (zML (xs:=[.tmp 82,.tmp 83]) 0 82 10 [(0,[0,0]),(1,[1,0]),(2,[2,0])] 2 Tryz.call18 (t_a4.h _ _ _ hr19) (.cons 0 [0,0] _ _ _ _ _ rfl rfl rfl rfl (zB (zF (Enc.clean (f:=I)))) rfl rfl rfl (.cons 1 [1,0] _ _ _ _ _ rfl rfl rfl rfl (zB (zF (Enc.clean (f:=lV)))) rfl rfl rfl (.cons 2 [2,0] _ _ _ _ _ rfl rfl rfl rfl (zB (zF (Enc.clean (f:=lM)))) rfl rfl rfl (.nil _)))) rfl (Enc.clean (f:=xU) _) (Enc.rofree (f:=xU) _) ⟨(zBJ rfl (Enc.clean (f:=xU) _) (Enc.rofree (f:=xU) _)),⟨(agM _ rfl rfl rfl),trivial⟩⟩ (wQ (f:=I) inferInstance wK) (.cons 0 [0,0] _ _ _ _ _ _ rfl rfl rfl rfl (zB (zF (Enc.clean (f:=I)))) rfl rfl rfl (.cons 1 [1,0] _ _ _ _ _ _ rfl rfl rfl rfl (zB (zF (Enc.clean (f:=lV)))) rfl rfl rfl (.cons 2 [2,0] _ _ _ _ _ _ rfl rfl rfl rfl (zB (zF (Enc.clean (f:=lM)))) rfl rfl rfl (.nil _)))) rfl rfl rfl) ?_
 refine zU ?_
 refine rN (sR (uM ?_))
 refine zM ?_
 obtain ⟨r20,hr20,h⟩:=bd h
 refine oP (zML (xs:=[.tmp 85,.tmp 86]) 0 85 11 [(2,[2,0])] 2 Tryz.call19 (t_aX.h _ _ _ hr20) (.cons 2 [2,0] _ _ _ _ _ rfl rfl rfl rfl (zB (zF (Enc.clean (f:=lM)))) rfl rfl rfl (.nil _)) rfl (Enc.clean (f:=yC) _) (Enc.rofree (f:=yC) _) ⟨(zBJ rfl (Enc.clean (f:=yC) _) (Enc.rofree (f:=yC) _)),⟨(agM _ rfl rfl rfl),trivial⟩⟩ (wQ (f:=I) inferInstance wK) (.cons 2 [2,0] _ _ _ _ _ _ rfl rfl rfl rfl (zB (zF (Enc.clean (f:=lM)))) rfl rfl rfl (.nil _)) rfl rfl rfl) ?_
 refine zU ?_
 refine rN (CW.seq (CW.to [(2,T.ro (lM x2)),(3,T.ptr (qPr x0)),(4,T.ptr (zY x1)),(8,L 1 lV r7.1),(9,I r7.2),(12,L 1 lV r10),(13,L 1 lV r11.1),(14,I r11.2),(15,I r20.1)] ⟨rfl,rfl,rfl,rfl,rfl,rfl,rfl,rfl,rfl,trivial⟩ ?_))
 refine CW.region (zM ?_)
 refine zM ?_
 obtain ⟨r21,hr21,h⟩:=bd h
 refine oP (tW (xs:=[.tmp 88,.tmp 89]) 0 88 12 [] Tryz.call20 (t_N.h _ _ _ hr21) rfl rfl rfl (zB (zF (Enc.clean (f:=lV)))) (zB (zF (Enc.clean (f:=lV)))) (Enc.rofree (f:=L 1 lV) _) (Enc.rofree (f:=L 1 lV) _) ⟨(zBJ rfl (zB (zF (Enc.clean (f:=lV)))) (Enc.rofree (f:=L 1 lV) _)),⟨(agM _ rfl rfl rfl),trivial⟩⟩ (wQ (f:=I) inferInstance wK) rfl rfl rfl rfl) ?_
 refine zU ?_
 refine rN (CW.seq (sR (zM ?_)))
 refine wF ?_
 refine zM ?_
 refine RW.cases 93 _ rfl (fun hc => ?_) (fun hc => ?_)
 have h:=cT hc h
 refine sk2 ?_
 refine sk2 ?_
 refine sk2 ?_
 refine sk2 ?_
 refine vX ?_
 refine zM ?_
 refine sk2 ?_
 refine sk2 ?_
 refine sk2 ?_
 refine vX ?_
 refine rN (CW.condT rfl ?_)
 refine sR (zU ?_)
 refine rN (CW.ret (rA ?_))
 obtain rfl:=sI h
 exact rT
 have h:=cF hc h
 refine zA3 ?_
 refine zA3 ?_
 obtain ⟨r22,hr22,h⟩:=bd h
 refine RW.cons (zO.guard 2 false 93 (xD (xs:=[.tmp 94,.tmp 95]) Tryz.call15 (FnK.go (t_H.h _ _) hr22) ⟨(agC _ rfl (tV rfl rfl inferInstance) rfl),⟨(agC _ rfl (tV rfl rfl inferInstance) rfl),trivial⟩⟩ (wQ (f:=B) inferInstance wK) rfl)) ?_
 refine zTU ?_
 refine vX ?_
 refine zM ?_
 refine RW.cases 99 _ rfl (fun hc => ?_) (fun hc => ?_)
 have h:=cT hc h
 refine sk2 ?_
 refine sk2 ?_
 refine sk2 ?_
 refine vX ?_
 refine rN (CW.condT rfl ?_)
 refine sR (zU ?_)
 refine rN (CW.ret (rA ?_))
 obtain rfl:=sI h
 exact rT
 have h:=cF hc h
 refine zA3 ?_
 refine zA3 ?_
 refine zPF ?_
 refine vX ?_
 refine rN (cn h (fun hc h => ?_) (fun hc h => ?_))
 refine sR (zU ?_)
 refine rN (CW.ret (rA ?_))
 obtain rfl:=sI h
 exact rT
 refine CW.skip (nA (sR (zU ?_)))
 refine rN (sR (zM ?_))
 refine zM ?_
 obtain ⟨r23,hr23,h⟩:=bd h
 refine oP (tW (xs:=[.tmp 104,.tmp 105]) 0 104 13 [] Tryz.call20 (t_N.h _ _ _ hr23) rfl rfl rfl (zB (zF (Enc.clean (f:=lV)))) (zB (zF (Enc.clean (f:=lV)))) (Enc.rofree (f:=L 1 lV) _) (Enc.rofree (f:=L 1 lV) _) ⟨(zBJ rfl (zB (zF (Enc.clean (f:=lV)))) (Enc.rofree (f:=L 1 lV) _)),⟨(agM _ rfl rfl rfl),trivial⟩⟩ (wQ (f:=I) inferInstance wK) rfl rfl rfl rfl) ?_
 refine zU ?_
 refine rN (sR (zU ?_))
 refine rN (sR (zM ?_))
 refine zM ?_
 obtain ⟨r24,hr24,h⟩:=bd h
 refine oP (xD (xs:=[.tmp 107,.tmp 108]) Tryz.call21 (FnK.go (t_aC.h _ _) hr24) ⟨(agC _ rfl (tV rfl rfl inferInstance) rfl),⟨(agC _ rfl rfl rfl),trivial⟩⟩ (wQ (f:=I) inferInstance wK) rfl) ?_
 refine zU ?_
 refine rN (CW.seq (CW.seq (CW.to [(2,T.ro (lM x2)),(3,T.ptr (qPr x0)),(4,T.ptr (zY x1)),(8,L 1 lV r7.1),(9,I r7.2),(13,L 1 lV r23.2),(16,I r23.1),(17,I r24)] ⟨rfl,rfl,rfl,rfl,rfl,rfl,rfl,rfl,trivial⟩ ?_)))
 refine CW.region (zM ?_)
 refine wF ?_
 refine rN (cn h (fun hc h => ?_) (fun hc h => ?_))
 refine sR (zU ?_)
 refine rN (CW.ret (rA ?_))
 obtain rfl:=sI h
 exact rT
 refine CW.skip (nA (CW.seq (sR (zM ?_))))
 refine zM ?_
 refine zMR ?_
 refine rN (cn h (fun hc h => ?_) (fun hc h => ?_))
 refine sR (zU ?_)
 refine rN (CW.ret (rA ?_))
 obtain rfl:=sI h
 exact rT
 refine CW.skip (nA (CW.seq ?_))
 obtain ⟨r25,hr25,h⟩:=bd h
 obtain ⟨r26,hr26,h⟩:=bd h
 obtain ⟨r27,hr27,h⟩:=bd h
 obtain ⟨r28,hr28,h⟩:=bd h
 refine CW.dk ?_
 refine xY [(3,_)] ?_
 refine dG [(116,_)] [([(117,some (xU r25))],[(117,0)])] ⟨rfl,trivial⟩ (fun E h => zO.opE (xD (xs:=[.tmp 116]) Tryz.call11 (FnK.go (t_ar.h _) hr25) ⟨(agC _ h.1 rfl rfl),trivial⟩ (wQ (f:=xU) inferInstance wK) rfl) rfl) ?_
 refine xY [(4,_)] ?_
 refine dG [(118,_)] [([(119,some (yC r26))],[(119,0)])] ⟨rfl,trivial⟩ (fun E h => zO.opE (xD (xs:=[.tmp 118]) Tryz.call12 (FnK.go (t_as.h _) hr26) ⟨(agC _ h.1 rfl rfl),trivial⟩ (wQ (f:=yC) inferInstance wK) rfl) rfl) ?_
 refine yB [(2,_)] ?_
 refine dG [(120,_)] [([(121,some (L 1 lV r27))],[(121,0)])] ⟨rfl,trivial⟩ (fun E h => zO.opE (xD (xs:=[.tmp 120]) Tryz.call13 (FnK.go (t_E.h _) hr27) ⟨(agC _ h.1 rfl rfl),trivial⟩ (wQ (f:=lM) inferInstance wK) rfl) rfl) ?_
 refine dG [(117,_),(119,_),(121,_)] [([(122,some (T.tup [L 1 lV r28.1,I r28.2]))],[(122,0)])] ⟨rfl,rfl,rfl,trivial⟩ (fun E h => zO.opE (xD (xs:=[.tmp 117,.tmp 119,.tmp 121]) Tryz.call27 (FnK.go (t_a6.h _ _ _) hr28) ⟨(agC _ h.1 (kH (wS (sE inferInstance) (wS (sE inferInstance) (wS (sE inferInstance) kI)))) rfl),⟨(agC _ h.2.1 (kH (wS rfl (wS rfl (wS (sE inferInstance) kI)))) rfl),⟨(agC _ h.2.2.1 (sE inferInstance) rfl),trivial⟩⟩⟩ (wQ (f:=lM) inferInstance (wQ (f:=I) inferInstance wK)) rfl) rfl) ?_
 refine zPL [(122,_)] ?_
 refine zH7 [(115,_)] ?_
 refine zH7 [(115,_)] ?_
 refine kZ [(123,_)] ?_
 refine kZ [(124,_)] ?_
 refine dNA yW ?_
 refine nA (CW.ghost (zH.trq 18 122 [0] rfl rfl rfl (zB (zF (Enc.clean (f:=lV)))) rfl) ?_)
 refine CW.seq (sR (zM ?_))
 refine zM ?_
 obtain ⟨r29,hr29,h⟩:=bd h
 refine cA Tryz.call15 (FnK.go (t_H.h _ _) hr29) ?_
 refine zFV ?_
 refine zM ?_
 refine RW.cases 129 _ rfl (fun hc => ?_) (fun hc => ?_)
 have h:=cT hc h
 refine sk2 ?_
 refine sk2 ?_
 refine sk2 ?_
 refine vX ?_
 refine rN (CW.condT rfl ?_)
 refine CW.seq (CW.to [] trivial ?_)
 refine CW.region (zU ?_)
 refine rN (CW.ret (rA ?_))
 obtain rfl:=sI h
 exact rT
 have h:=cF hc h
 refine zA3 ?_
 refine zA3 ?_
 refine zPF ?_
 refine vX ?_
 refine rN (cn h (fun hc h => ?_) (fun hc h => ?_))
 refine CW.seq (CW.to [] trivial ?_)
 refine CW.region (zU ?_)
 refine rN (CW.ret (rA ?_))
 obtain rfl:=sI h
 exact rT
 refine CW.skip (nA (CW.seq (CW.to [(13,L 1 lV r23.2),(16,I r23.1)] ⟨rfl,rfl,trivial⟩ ?_)))
 refine CW.region (zU ?_)
 refine rN (sR (zM ?_))
 refine zM ?_
 obtain ⟨r30,hr30,h⟩:=bd h
 refine oP (xD (xs:=[.tmp 134,.tmp 135]) Tryz.call21 (FnK.go (t_aC.h _ _) hr30) ⟨(agC _ rfl (tV rfl rfl inferInstance) rfl),⟨(agC _ rfl rfl rfl),trivial⟩⟩ (wQ (f:=I) inferInstance wK) rfl) ?_
 refine zU ?_
 refine rN (CW.seq (sR (zM ?_)))
 refine wF ?_
 refine rN (cn h (fun hc h => ?_) (fun hc h => ?_))
 refine sR (zU ?_)
 refine rN (CW.ret (rA ?_))
 obtain rfl:=sI h
 exact rT
 refine CW.skip (nA (CW.seq (sR (zM ?_))))
 refine zM ?_
 refine zMR ?_
 refine rN (cn h (fun hc h => ?_) (fun hc h => ?_))
 refine sR (zU ?_)
 refine rN (CW.ret (rA ?_))
 obtain rfl:=sI h
 exact rT
 refine CW.skip (nA (sR (zU ?_)))
 refine rN (CW.ret ?_)
 obtain rfl:=sI h
 exact rT
instance t_a7:FI Tryz.prog 6 (∀ (x0:SPr) (x1:zD) (x2:List (List Int)),FnK Tryz.prog 6 [qPr x0,zY x1,T.ro (lM x2)] (fun r:Bool => [B r]) (fun _ => []) (zSn x0 x1 x2)):=⟨Tryz.call6,fun x0 x1 x2 => FnK.mk (zXV x0 x1 x2)⟩
end Go.Wk
