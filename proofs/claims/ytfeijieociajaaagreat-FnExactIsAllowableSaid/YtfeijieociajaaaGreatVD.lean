/- The program's IsAllowable returns what the reference's returns,for all arguments;no conditions. -/
import Derived.Test.YtfeijieociajaaaGreatVC
import Derived.Test.YtfeijieociajaaaGreatWT
open Go.Proofs.Tryz renaming prog->J0,call96->Jb2,call94->Jb3,call43->Jb4,f141->Jbi,f94->Jbu
open Option renaming some->jf,none->jg
open Bool renaming true->jh,false->ji
namespace Go.Wk
open Go Go.Proofs Go.Ab
set_option maxRecDepth 100000
set_option maxHeartbeats 4000000
section
attribute [local irreducible] RW CW DK OkL Ok yR yT wH vK XS.post rng vN vD ixO zS yH wK yG zE GTo zR FnC FnK wX uJ Kp Lk BsL BuL RpL Bk Lc
instance:HS Jbi.8 [(3,0,0,.tr 6 14),(0,24,0,.tr 23 6),(2,6,0,.tr 6 24),(0,52,0,.tr 49 6),(2,11,0,.tr 6 52),(2,12,0,.tr 7 59),(0,77,0,.fz 76),(0,78,0,.tr 60 6),(2,13,0,.tr 6 78),(0,97,0,.nil 95 8),(0,98,0,.fz 97),(0,99,0,.tr 90 6),(2,18,0,.tr 6 99),(1,107,0,.tr 106 7),(1,107,1,.fz 106),(1,107,2,.nil 106 9)]:=⟨⟩
instance:DrH Jbi.8 24:=⟨⟩
instance(d:(List Int)×xD)(a:(List Int)):LH (R:=Bool×xD) (zTn d a) [0,5,7,8,82,83] [] (fun c=>[(6,L 1 (Ro lV) c.1),(84,I c.2)]) (.xe 2 [82,83] fun b=>[(6,L 1 (Ro lV) b)]):=⟨⟩
instance:LH (R:=Bool×xD) zTo [] [] (fun b=>[(0,T.ptr (T.agg [T.ro ((Pt yW) b.1),L 1 (Ro (Nz 1 I)) b.2.1])),(5,B b.2.2.1),(6,L 1 (Ro lV) b.2.2.2)]) (.xe 0 [] fun a=>[(0,T.ptr (T.agg [T.ro ((Pt yW) a.1),L 1 (Ro (Nz 1 I)) a.2.1])),(5,B a.2.2)]):=⟨⟩
instance t_E:FI J0 141 (∀(a:xD)(b:List (List Int)),FnK J0 141 [T.ptr (T.agg [T.ro ((Pt yW) a.p),L 1 (Ro (Nz 1 I)) a.base]),T.ro (lM b)] (fun r=>[B r.1]) (fun r=>[(0,(Pt (fun x=>T.agg [(Ro (Pt yW)) x.p,(L 1 (Ro (Nz 1 I))) x.base])) r.2)]) (f_E a b)):=⟨Tryz.call141,fun a b=>iM Tryz.func141⟩
instance:HS Tryz.f137.8 [(2,2,0,.tr 7 13),(2,7,0,.tr 9 19),(0,31,0,.fz 30)]:=⟨⟩
instance(c:SPr)(d:List (List Int))(e:(List (List Int))):LH (R:=(List (List Int))) (zKb c d e) [0,2,9,20,21] [] (fun a=>[(7,T.ptr (T.agg [T.ro ((Pt yW) a.1),L 1 (Ro (Nz 1 I)) a.2.1])),(8,B a.2.2.1),(22,I a.2.2.2)]) (.xe 2 [9,20,21] fun b=>[(7,T.ptr (T.agg [T.ro ((Pt yW) b.1),L 1 (Ro (Nz 1 I)) b.2.1])),(8,B b.2.2)]):=⟨⟩
instance(c:SPr)(d:List (List Int)):LH (R:=(List (List Int))) (zRB c d) [0,2] [] (fun b=>[(7,T.ptr (T.agg [T.ro ((Pt yW) b.1),L 1 (Ro (Nz 1 I)) b.2.1])),(8,B b.2.2)]) (.xe 0 [0,2] fun a=>[(7,T.ptr (T.agg [T.ro ((Pt yW) a.1),L 1 (Ro (Nz 1 I)) a.2]))]):=⟨⟩
instance t_ad:FI J0 137 (∀(a:SPr)(b:List (List Int))(c:List (List Int)),FnK J0 137 [T.ro ((Pt yW) a),T.ro (lM b),T.ro (lM c)] (fun r:(List (List Int))=>[lM r]) (fun _=>[]) (zZ6 a b c)):=⟨Tryz.call137,fun a b c=>iM Tryz.func137⟩
instance:HS Tryz.f97.8 [(0,30,0,.tr 24 7),(2,9,0,.tr 7 30),(0,38,0,.fz 37)]:=⟨⟩
instance(b:SPr)(c:List (List Int))(d:List Int):LH (R:=(List (List Int))) (zXG b c d) [0,1,2,9,12,13,14,18,19] [] (fun a=>[(7,L 1 lV a.1),(20,I a.2)]) (.xe 2 [9,18,19] fun e=>[(7,L 1 lV e)]):=⟨⟩
instance(b:SPr)(c:List (List Int))(d:List (List Int)):LH (R:=(List (List Int))) (zTt b c d) [0,1,2,12,13] [] (fun a=>[(7,L 1 lV a.1),(14,I a.2)]) (.xe 0 [12,13] fun e=>[(7,L 1 lV e)]):=⟨⟩
instance t_W:FI J0 97 (∀(a:SPr)(b:List (List Int))(c:List (List Int)),FnK J0 97 [T.ro ((Pt yW) a),T.ro (lM b),T.ro (lM c)] (fun r:(List (List Int))=>[lM r]) (fun _=>[]) (f_W a b c)):=⟨Tryz.call97,fun a b c=>iM Tryz.func97⟩
instance:HS Tryz.f99.8 [(2,2,0,.tr 5 7)]:=⟨⟩
instance t_bW:FI J0 99 (∀(a:SPr)(b:List (List Int)),FnK J0 99 [T.ro ((Pt yW) a),T.ro (lM b)] (fun r:(List (List Int))=>[lM r]) (fun _=>[]) (zX5 a b)):=⟨Tryz.call99,fun a b=>iM Tryz.func99⟩
instance:HS Tryz.f96.8 [(2,2,0,.tr 5 12),(0,25,0,.tr 19 5),(2,6,0,.tr 5 25)]:=⟨⟩
instance(b:List (List Int))(c:SPr)(d:Int):LH (R:=(List (List Int))) (zKc b c d) [1,2,13,14] [] (fun a=>[(5,L 1 lV a.1),(15,I a.2)]) (.xe 0 [2,13,14] fun e=>[(5,L 1 lV e)]):=⟨⟩
instance t_ap:FI J0 96 (∀(a:List (List Int))(b:SPr)(c:Int),FnK J0 96 [T.ro (lM a),T.ro ((Pt (Pt yW)) b),T.ro ((Pt I) c)] (fun r:(List (List Int))=>[lM r]) (fun _=>[]) (zXH a b c)):=⟨Jb2,fun a b c=>iM Tryz.func96⟩
end
theorem yGw(x0:List (List Int))(x1:SPr×Int)(r:(List (List (List Int))))(h:zZ7 x0 x1=jf r):FnC J0 94 [T.ro (lM x0),T.ro ((Fv2 96 (Pt (Pt yW)) (Pt I)) x1)] [(L 1 (Ro lM)) r] []:=by refine fB Tryz.func94 (fun St W w0 v=>?_);refine sR (oP (zDv 1 rfl) ?_);refine rN (sR (xN ?_));refine oP (zOq elt_24 [.tmp 7] [.slot 7 (T.ro (lM x0))] [x0] (Ro lM) ⟨.slot _ _,trivial⟩ (pkS rfl (yL trivial) rfl pkN) rfl rfl) ?_;refine uQ ?_;refine RW.ghost (zR.tr 5 8 _ rfl rfl (yL (xE (fun _=>trivial))) rfl) ?_;refine rN (CW.block ?_);obtain⟨r8,hr8,h⟩:=bd h;refine CW.lp (s:=[x0]) (zRC x1) (fun s1:(List (List (List Int)))=>vW [(1,T.ro ((Fv2 96 (Pt (Pt yW)) (Pt I)) x1)),(5,L 1 (Ro lM) s1)]) (fun(r8:(List (List (List Int)))) e E=>e=.ret/\vK ⟨St,W,w0,Jbu.ntmps⟩ J0 Jbu.8 [T.ro (lM x0),T.ro ((Fv2 96 (Pt (Pt yW)) (Pt I)) x1)] [(L 1 (Ro lM)) r8] [] .ret E) (.has ⟨rfl,rfl,trivial⟩) (fun s1 x h=>?_) hr8 (fun e E hq=>?_);refine CW.block (sR (xN ?_));refine xN ?_;refine xN ?_;refine zUu ?_;obtain⟨v1,bV,h⟩:=bd h;refine oP (zHr bV rfl rfl rfl) ?_;obtain⟨v2,cu,h⟩:=bd h;refine yDp ?_;refine yDn ?_;obtain⟨r3,b9,h⟩:=bd h;refine oP (zYi (xs:=[.tmp 15]) (ts:=[(Pt (Pt yW)) x1.1,(Pt I) x1.2]) rfl rfl Jb2 (FnK.go (t_ap.h _ _ _) b9) ⟨(agC _ rfl rfl rfl),trivial⟩ rfl (zMa (f:=lM) inferInstance zFy) rfl) ?_;refine uQ ?_;refine RW.ghost (zR.tr 6 16 _ rfl rfl (yL (xE (Enc.clean (f:=lV)))) rfl) ?_;refine rN (CW.seq (sR (xN ?_)));refine xN ?_;refine xN ?_;refine zUu ?_;obtain⟨v4,pX,h⟩:=bd h;refine oP (zHr pX rfl rfl rfl) ?_;obtain⟨v5,hv5,h⟩:=bd h;refine yDp ?_;refine yDn ?_;obtain⟨r6,uf,h⟩:=bd h;refine cA Tryz.call77 (FnK.go (t_bH.h _ _) uf) ?_;refine rN (cn h (fun hc h=>?_) (fun hc h=>?_));refine sR (xN ?_);refine uQ ?_;refine RW.ghost (zR.tr 4 5 _ rfl rfl (yL (xE (fun _=>trivial))) rfl) ?_;refine rN (CW.ret (rA (rB ?_)));exact eX h;refine CW.skip (nA (CW.region (xN ?_)));refine xN ?_;refine RW.ghost (zR.tr 27 6 _ rfl rfl (yL (xE (Enc.clean (f:=lV)))) rfl) ?_;refine RW.ghost (zR.frz 27 (k:=1) (f:=lV) (g:=lV) r3 rfl inferInstance) ?_;refine oP (zOq elt_24 [.tmp 27] [.slot 27 (T.ro (lM r3))] [r3] (Ro lM) ⟨.slot _ _,trivial⟩ (pkS rfl (yL trivial) rfl pkN) rfl rfl) ?_;refine RW.ghost (zR.tr 26 5 _ rfl rfl (yL (xE (fun _=>trivial))) rfl) ?_;obtain⟨v7,hv7,h⟩:=bd h;refine oP (zK2 (f:=(Ro lM)) elt_24 (fun _=>rfl) hv7 rfl (zAp rfl rfl) rfl) ?_;refine uQ ?_;refine RW.ghost (zR.tr 5 29 _ rfl rfl (yL (xE (fun _=>trivial))) rfl) ?_;refine RW.nil ?_;exact nB (eN h);obtain⟨rfl,hq⟩:=hq;refine rB ?_;obtain rfl:=sI h;exact hq
instance t_aw:FI J0 94 (∀(a:List (List Int))(b:SPr×Int),FnK J0 94 [T.ro (lM a),T.ro ((Fv2 96 (Pt (Pt yW)) (Pt I)) b)] (fun r:(List (List (List Int)))=>[(L 1 (Ro lM)) r]) (fun _=>[]) (zZ7 a b)):=⟨Jb3,fun a b=>FnK.mk (yGw a b)⟩
theorem yGx(x0:SPr)(x1:Int)(r:(List (List (List Int))))(h:zOa x0 x1=jf r):FnC J0 57 [T.ro ((Pt yW) x0),I x1] [(L 1 (Ro lM)) r] []:=by refine fB Tryz.func57 (fun St W w0 v=>?_);refine sR (zMn ?_);refine zMn ?_;refine oP (zDv 1 rfl) ?_;refine rN (CW.pin 2 rfl (fun p2=>?_));refine CW.pin 3 rfl (fun p3=>?_);refine sR (zH4 ?_);obtain⟨r1,pY,h⟩:=bd h;refine cA Tryz.call95 (FnK.go (t_bL.h _) pY) ?_;refine RW.ghost (zR.frzG 2 _ (t':=T.ro ((Pt (Pt yW)) x0)) rfl (fzP rfl)) ?_;refine RW.ghost (zR.frzG 3 _ (t':=T.ro ((Pt I) x1)) rfl (fzP rfl)) ?_;refine oP (yEd (xs:=[.tmp 2,.tmp 3]) (ts:=[(Pt (Pt yW)) x0,(Pt I) x1]) ⟨rfl,rfl,trivial⟩ rfl rfl) ?_;refine RW.ghost (zR.frzG 6 _ (t':=T.ro (lM r1)) rfl (fzO inferInstance)) ?_;obtain⟨r2,pE,h⟩:=bd h;refine oP (zGB (xs:=[.tmp 6,.tmp 7]) Jb3 (FnK.go (t_aw.h _ _) pE) (afC rfl rfl (afC rfl rfl afN)) rfl ⟨(xE (fun _=>trivial)),trivial⟩ rfl rfl) ?_;refine uQ ?_;refine RW.ghost (zR.tr 4 8 _ rfl rfl (yL (xE (fun _=>trivial))) rfl) ?_;refine rN (CW.ret ?_);obtain rfl:=sI h;exact rT
instance t_a4:FI J0 57 (∀(a:SPr)(b:Int),FnK J0 57 [T.ro ((Pt yW) a),I b] (fun r:(List (List (List Int)))=>[(L 1 (Ro lM)) r]) (fun _=>[]) (zOa a b)):=⟨Tryz.call57,fun a b=>FnK.mk (yGx a b)⟩
section
attribute [local irreducible] RW CW DK OkL Ok yR yT wH vK XS.post rng vN vD ixO zS yH wK yG zE GTo zR FnC FnK wX uJ Kp Lk BsL BuL RpL Bk Lc
instance:HS Tryz.f30.8 [(0,38,0,.fz 5),(0,58,0,.trq 48 7 [2,0]),(1,4,0,.trf 61 2 7 [2,0])]:=⟨⟩
instance(a:SPr)(b:List (List Int)):LN (zKd a b) 7:=⟨⟩
instance(c:SPr)(d:List (List Int))(A0 A1 A2:T):LHk (R:=zI) (zKd c d) (T.ptr (T.agg [A0,A1,A2])) [0,4,41,42] [] (fun b=>[(7,T.ptr (T.agg [A0,A1,L 1 lV b.1])),(43,I b.2)]) (.xe 0 [0,41,42] fun a=>[(7,T.ptr (T.agg [A0,A1,L 1 lV a]))]):=⟨⟩
instance t_aM:FI J0 30 (∀(a:SPr)(b:List (List Int)),FnK J0 30 [T.ro ((Pt yW) a),T.ro (lM b)] (fun r=>[xU r]) (fun _=>[]) (zZ8 a b)):=⟨Tryz.call30,fun a b=>iM Tryz.func30⟩
instance t_b9:FI J0 73 (∀(a:zI),FnK J0 73 [vP a] (fun r=>[B r]) (fun _=>[]) (zZl a)):=⟨Tryz.call73,fun a=>iM Tryz.func73⟩
instance:HS Tryz.f43.8 [(2,4,0,.trq 6 18 [0])]:=⟨⟩
instance t_ci:FI J0 43 (∀(a:SPr)(b:zI),FnK J0 43 [qPr a,vP b] (fun r:(List (List Int))×Int=>[(L 1 (Ro lV)) r.1,I r.2]) (fun _=>[]) (yCC a b)):=⟨Jb4,fun a b=>iM Tryz.func43⟩
end
theorem yGy(x0:SPr)(x1:zI)(r:Bool×Int)(h:zTu x0 x1=jf r):FnC J0 18 [qPr x0,vP x1] [B r.1,I r.2] []:=by refine fB Tryz.func18 (fun St W w0 v=>?_);refine sR (zMn ?_);refine zMn ?_;refine uQ ?_;refine uQ ?_;refine rN (sR (zH4 ?_));refine zH4 ?_;obtain⟨r1,pY,h⟩:=bd h;refine oP (zGB (xs:=[.tmp 9,.tmp 10]) Jb4 (FnK.go (t_ci.h _ _) pY) (afC rfl rfl (afC rfl rfl afN)) rfl ⟨(xE (fun _=>trivial)),(Enc.clean (f:=I) _),trivial⟩ rfl rfl) ?_;refine RW.ghost (zR.frzG 11 _ (t':=T.tup [T.ro (lM r1.1),I r1.2]) rfl (fzT (fzC (fzO inferInstance) (fzC rfl fzN)))) ?_;refine zZY ?_;refine zQ5 ?_;refine zQ5 ?_;refine uQ ?_;refine uQ ?_;refine rN (CW.seq (sR (xN ?_)));refine yDo ?_;refine rN (cn h (fun hc h=>?_) (fun hc h=>?_));refine sR (xN ?_);refine uQ ?_;refine uQ ?_;refine rN (CW.ret (rA ?_));obtain rfl:=sI h;exact rT;refine CW.skip (nA (CW.seq ?_));obtain⟨r2,pE,h⟩:=bd h;obtain⟨r3,b9,h⟩:=bd h;refine CW.dk ?_;refine yDr [(3,_)] ?_;refine yDs [(17,_),(3,_)] ?_;refine yDr [(3,_)] ?_;refine yDs [(19,_),(3,_)] ?_;refine zQ6 [(2,_)] ?_;refine zCr [(6,_)] ?_;refine dG [(21,_),(22,_)] [([(23,jf (L 1 (Ro lV) r2))],[(23,0)])] ⟨rfl,rfl,trivial⟩ (fun E h=>wF.opE (zGB (xs:=[.tmp 21,.tmp 22]) Tryz.call25 (FnK.go (t_y.h _ _) pE) (afC h.1 rfl (afC h.2.1 rfl afN)) rfl ⟨(xE (fun _=>trivial)),trivial⟩ rfl rfl) rfl) ?_;refine zCr [(6,_)] ?_;refine yBf [(24,_)] ?_;refine dC [(18,_),(20,_),(23,_),(25,_)] Tryz.call44 (FnK.go (t_cj.h _ _ _ _) b9) ?_;refine yBe [(26,_)] ?_;refine yBe [] ?_;refine dNA zIA ?_;refine nA (CW.ret ?_);obtain rfl:=sI h;exact rT
instance t_bm:FI J0 18 (∀(a:SPr)(b:zI),FnK J0 18 [qPr a,vP b] (fun r=>[B r.1,I r.2]) (fun _=>[]) (zTu a b)):=⟨Tryz.call18,fun a b=>FnK.mk (yGy a b)⟩
section
attribute [local irreducible] RW CW DK OkL Ok yR yT wH vK XS.post rng vN vD ixO zS yH wK yG zE GTo zR FnC FnK wX uJ Kp Lk BsL BuL RpL Bk Lc
instance(a:List Int)(b:Int):LH (R:=Bool) (zR8 a b) [1,13,14] [] (fun c=>[(15,I c)]) (.xs (.xe 0 [1,13,14] fun _=>[]) .xr):=⟨⟩
instance t_bb:FI J0 123 (∀(a:List Int)(b c:Int),FnK J0 123 [T.ro (lV a),I b,I c] (fun r=>[B r]) (fun _=>[]) (zYY a b c)):=⟨Tryz.call123,fun a b c=>iM Tryz.func123⟩
instance(a:zI):LH (R:=Bool) (zN2 a) [1,22,23] [] (fun b=>[(24,I b)]) (.xs (.xe 0 [1,22,23] fun _=>[]) .xr):=⟨⟩
instance t_aW:FI J0 76 (∀(a:zI),FnK J0 76 [vP a] (fun r=>[B r]) (fun _=>[]) (zYZ a)):=⟨Tryz.call76,fun a=>iM Tryz.func76⟩
instance t_co:FI J0 79 (∀(a b:zI),FnK J0 79 [vP a,vP b] (fun r=>[xU r]) (fun _=>[]) (yCE a b)):=⟨Tryz.call79,fun a b=>iM Tryz.func79⟩
instance t_cn:FI J0 47 (∀(a b:zI),FnK J0 47 [vP a,vP b] (fun r=>[B r]) (fun _=>[]) (yCF a b)):=⟨Tryz.call47,fun a b=>iM Tryz.func47⟩
instance:HS Tryz.f9.8 [(2,2,0,.trq 4 7 [0])]:=⟨⟩
instance:HS Tryz.f12.8 [(2,5,0,.tr 5 11)]:=⟨⟩
instance:HS Tryz.f4.8 [(1,4,0,.trf 23 2 22 [2,0]),(1,7,0,.trf 30 2 29 [2,0]),(1,12,0,.trf 77 2 76 [2,0])]:=⟨⟩
instance t_b8:FI J0 46 (∀(a:zI),FnK J0 46 [vP a] (fun r=>[B r]) (fun _=>[]) (zZm a)):=⟨Tryz.call46,fun a=>iM Tryz.func46⟩
instance:HS Tryz.f20.8 [(2,4,0,.trq 6 17 [0])]:=⟨⟩
instance t_b0:FI J0 20 (∀(a:SPr)(b:zI),FnK J0 20 [qPr a,vP b] (fun r=>[B r.1,I r.2]) (fun _=>[]) (zXI a b)):=⟨Tryz.call20,fun a b=>iM Tryz.func20⟩
instance t_b1:FI J0 5 (∀(a:SPr)(b:zI),FnK J0 5 [qPr a,vP b] (fun r=>[B r]) (fun _=>[]) (zZ9 a b)):=⟨Tryz.call5,fun a b=>iM Tryz.func5⟩
end
end Go.Wk
