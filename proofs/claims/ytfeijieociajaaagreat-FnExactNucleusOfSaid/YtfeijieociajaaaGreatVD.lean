/- The program's NucleusOf returns what the reference's returns,for all arguments;no conditions. -/
import Derived.Test.YtfeijieociajaaaGreatVC
import Derived.Test.YtfeijieociajaaaGreatWT
open Go.Proofs.Tryz renaming prog->J0,call96->Jb4,call94->Jb5,f141->Jbj,f94->Jbv
open Option renaming some->jh,none->ji
open Bool renaming true->jj,false->jk
namespace Go.Wk
open Go Go.Proofs Go.Ab
set_option maxRecDepth 100000
set_option maxHeartbeats 4000000
section
attribute [local irreducible] RW CW DK OkL Ok yQ yT wG vL XS.post rng vK vB ixO zS yI wL yG zF GTo zR FnC FnK wV uJ Kp Lk BsL BuL RpL Bk Lc
instance:HS Jbj.8 [(3,0,0,.tr 6 14),(0,24,0,.tr 23 6),(2,6,0,.tr 6 24),(0,52,0,.tr 49 6),(2,11,0,.tr 6 52),(2,12,0,.tr 7 59),(0,77,0,.fz 76),(0,78,0,.tr 60 6),(2,13,0,.tr 6 78),(0,97,0,.nil 95 8),(0,98,0,.fz 97),(0,99,0,.tr 90 6),(2,18,0,.tr 6 99),(1,107,0,.tr 106 7),(1,107,1,.fz 106),(1,107,2,.nil 106 9)]:=⟨⟩
instance:DrH Jbj.8 24:=⟨⟩
instance(d:(List Int)×xD)(a:(List Int)):LH (R:=Bool×xD) (zTr d a) [0,5,7,8,82,83] [] (fun c=>[(6,L 1 (Ro lV) c.1),(84,I c.2)]) (.xe 2 [82,83] fun b=>[(6,L 1 (Ro lV) b)]):=⟨⟩
instance:LH (R:=Bool×xD) zTs [] [] (fun b=>[(0,T.ptr (T.agg [T.ro ((Pt yV) b.1),L 1 (Ro (Nz 1 I)) b.2.1])),(5,B b.2.2.1),(6,L 1 (Ro lV) b.2.2.2)]) (.xe 0 [] fun a=>[(0,T.ptr (T.agg [T.ro ((Pt yV) a.1),L 1 (Ro (Nz 1 I)) a.2.1])),(5,B a.2.2)]):=⟨⟩
instance t_E:FI J0 141 (∀(a:xD)(b:List (List Int)),FnK J0 141 [T.ptr (T.agg [T.ro ((Pt yV) a.p),L 1 (Ro (Nz 1 I)) a.base]),T.ro (lM b)] (fun r=>[B r.1]) (fun r=>[(0,(Pt (fun x=>T.agg [(Ro (Pt yV)) x.p,(L 1 (Ro (Nz 1 I))) x.base])) r.2)]) (f_E a b)):=⟨Tryz.call141,fun a b=>iM Tryz.func141⟩
instance:HS Tryz.f137.8 [(2,2,0,.tr 7 13),(2,7,0,.tr 9 19),(0,31,0,.fz 30)]:=⟨⟩
instance(c:SPr)(d:List (List Int))(e:(List (List Int))):LH (R:=(List (List Int))) (zKe c d e) [0,2,9,20,21] [] (fun a=>[(7,T.ptr (T.agg [T.ro ((Pt yV) a.1),L 1 (Ro (Nz 1 I)) a.2.1])),(8,B a.2.2.1),(22,I a.2.2.2)]) (.xe 2 [9,20,21] fun b=>[(7,T.ptr (T.agg [T.ro ((Pt yV) b.1),L 1 (Ro (Nz 1 I)) b.2.1])),(8,B b.2.2)]):=⟨⟩
instance(c:SPr)(d:List (List Int)):LH (R:=(List (List Int))) (zRJ c d) [0,2] [] (fun b=>[(7,T.ptr (T.agg [T.ro ((Pt yV) b.1),L 1 (Ro (Nz 1 I)) b.2.1])),(8,B b.2.2)]) (.xe 0 [0,2] fun a=>[(7,T.ptr (T.agg [T.ro ((Pt yV) a.1),L 1 (Ro (Nz 1 I)) a.2]))]):=⟨⟩
instance t_ad:FI J0 137 (∀(a:SPr)(b:List (List Int))(c:List (List Int)),FnK J0 137 [T.ro ((Pt yV) a),T.ro (lM b),T.ro (lM c)] (fun r:(List (List Int))=>[lM r]) (fun _=>[]) (zZ6 a b c)):=⟨Tryz.call137,fun a b c=>iM Tryz.func137⟩
instance:HS Tryz.f97.8 [(0,30,0,.tr 24 7),(2,9,0,.tr 7 30),(0,38,0,.fz 37)]:=⟨⟩
instance(b:SPr)(c:List (List Int))(d:List Int):LH (R:=(List (List Int))) (zXI b c d) [0,1,2,9,12,13,14,18,19] [] (fun a=>[(7,L 1 lV a.1),(20,I a.2)]) (.xe 2 [9,18,19] fun e=>[(7,L 1 lV e)]):=⟨⟩
instance(b:SPr)(c:List (List Int))(d:List (List Int)):LH (R:=(List (List Int))) (zTx b c d) [0,1,2,12,13] [] (fun a=>[(7,L 1 lV a.1),(14,I a.2)]) (.xe 0 [12,13] fun e=>[(7,L 1 lV e)]):=⟨⟩
instance t_W:FI J0 97 (∀(a:SPr)(b:List (List Int))(c:List (List Int)),FnK J0 97 [T.ro ((Pt yV) a),T.ro (lM b),T.ro (lM c)] (fun r:(List (List Int))=>[lM r]) (fun _=>[]) (f_W a b c)):=⟨Tryz.call97,fun a b c=>iM Tryz.func97⟩
instance:HS Tryz.f99.8 [(2,2,0,.tr 5 7)]:=⟨⟩
instance t_bT:FI J0 99 (∀(a:SPr)(b:List (List Int)),FnK J0 99 [T.ro ((Pt yV) a),T.ro (lM b)] (fun r:(List (List Int))=>[lM r]) (fun _=>[]) (zX7 a b)):=⟨Tryz.call99,fun a b=>iM Tryz.func99⟩
instance:HS Tryz.f96.8 [(2,2,0,.tr 5 12),(0,25,0,.tr 19 5),(2,6,0,.tr 5 25)]:=⟨⟩
instance(b:List (List Int))(c:SPr)(d:Int):LH (R:=(List (List Int))) (zKf b c d) [1,2,13,14] [] (fun a=>[(5,L 1 lV a.1),(15,I a.2)]) (.xe 0 [2,13,14] fun e=>[(5,L 1 lV e)]):=⟨⟩
instance t_ap:FI J0 96 (∀(a:List (List Int))(b:SPr)(c:Int),FnK J0 96 [T.ro (lM a),T.ro ((Pt (Pt yV)) b),T.ro ((Pt I) c)] (fun r:(List (List Int))=>[lM r]) (fun _=>[]) (zXJ a b c)):=⟨Jb4,fun a b c=>iM Tryz.func96⟩
end
theorem yGq(x0:List (List Int))(x1:SPr×Int)(r:(List (List (List Int))))(h:zZ7 x0 x1=jh r):FnC J0 94 [T.ro (lM x0),T.ro ((Fv2 96 (Pt (Pt yV)) (Pt I)) x1)] [(L 1 (Ro lM)) r] []:=by refine fB Tryz.func94 (fun St W w0 v=>?_);refine sR (oP (zDt 1 rfl) ?_);refine rN (sR (xS ?_));refine oP (zOw elt_24 [.tmp 7] [.slot 7 (T.ro (lM x0))] [x0] (Ro lM) ⟨.slot _ _,trivial⟩ (pkS rfl (yL trivial) rfl pkN) rfl rfl) ?_;refine tI ?_;refine RW.ghost (zR.tr 5 8 _ rfl rfl (yL (xF (fun _=>trivial))) rfl) ?_;refine rN (CW.block ?_);obtain⟨r8,hr8,h⟩:=bd h;refine CW.lp (s:=[x0]) (zRK x1) (fun s1:(List (List (List Int)))=>vW [(1,T.ro ((Fv2 96 (Pt (Pt yV)) (Pt I)) x1)),(5,L 1 (Ro lM) s1)]) (fun(r8:(List (List (List Int)))) e E=>e=.ret/\vL ⟨St,W,w0,Jbv.ntmps⟩ J0 Jbv.8 [T.ro (lM x0),T.ro ((Fv2 96 (Pt (Pt yV)) (Pt I)) x1)] [(L 1 (Ro lM)) r8] [] .ret E) (.has ⟨rfl,rfl,trivial⟩) (fun s1 x h=>?_) hr8 (fun e E hq=>?_);refine CW.block (sR (xS ?_));refine xS ?_;refine xS ?_;refine zUw ?_;obtain⟨v1,bW,h⟩:=bd h;refine oP (zHs bW rfl rfl rfl) ?_;obtain⟨v2,fP,h⟩:=bd h;refine yDi ?_;refine yDh ?_;obtain⟨r3,aE,h⟩:=bd h;refine oP (zYm (xs:=[.tmp 15]) (ts:=[(Pt (Pt yV)) x1.1,(Pt I) x1.2]) rfl rfl Jb4 (FnK.go (t_ap.h _ _ _) aE) ⟨(agC _ rfl rfl rfl),trivial⟩ rfl (zMe (f:=lM) inferInstance zFy) rfl) ?_;refine tI ?_;refine RW.ghost (zR.tr 6 16 _ rfl rfl (yL (xF (Enc.clean (f:=lV)))) rfl) ?_;refine rN (CW.seq (sR (xS ?_)));refine xS ?_;refine xS ?_;refine zUw ?_;obtain⟨v4,pW,h⟩:=bd h;refine oP (zHs pW rfl rfl rfl) ?_;obtain⟨v5,hv5,h⟩:=bd h;refine yDi ?_;refine yDh ?_;obtain⟨r6,ug,h⟩:=bd h;refine cA Tryz.call77 (FnK.go (t_bN.h _ _) ug) ?_;refine rN (cn h (fun hc h=>?_) (fun hc h=>?_));refine sR (xS ?_);refine tI ?_;refine RW.ghost (zR.tr 4 5 _ rfl rfl (yL (xF (fun _=>trivial))) rfl) ?_;refine rN (CW.ret (rA (rB ?_)));exact eX h;refine CW.skip (nA (CW.region (xS ?_)));refine xS ?_;refine RW.ghost (zR.tr 27 6 _ rfl rfl (yL (xF (Enc.clean (f:=lV)))) rfl) ?_;refine RW.ghost (zR.frz 27 (k:=1) (f:=lV) (g:=lV) r3 rfl inferInstance) ?_;refine oP (zOw elt_24 [.tmp 27] [.slot 27 (T.ro (lM r3))] [r3] (Ro lM) ⟨.slot _ _,trivial⟩ (pkS rfl (yL trivial) rfl pkN) rfl rfl) ?_;refine RW.ghost (zR.tr 26 5 _ rfl rfl (yL (xF (fun _=>trivial))) rfl) ?_;obtain⟨v7,hv7,h⟩:=bd h;refine oP (zK4 (f:=(Ro lM)) elt_24 (fun _=>rfl) hv7 rfl (zAI rfl rfl) rfl) ?_;refine tI ?_;refine RW.ghost (zR.tr 5 29 _ rfl rfl (yL (xF (fun _=>trivial))) rfl) ?_;refine RW.nil ?_;exact nB (eN h);obtain⟨rfl,hq⟩:=hq;refine rB ?_;obtain rfl:=sI h;exact hq
instance t_av:FI J0 94 (∀(a:List (List Int))(b:SPr×Int),FnK J0 94 [T.ro (lM a),T.ro ((Fv2 96 (Pt (Pt yV)) (Pt I)) b)] (fun r:(List (List (List Int)))=>[(L 1 (Ro lM)) r]) (fun _=>[]) (zZ7 a b)):=⟨Jb5,fun a b=>FnK.mk (yGq a b)⟩
theorem yGr(x0:SPr)(x1:Int)(r:(List (List (List Int))))(h:zOg x0 x1=jh r):FnC J0 57 [T.ro ((Pt yV) x0),I x1] [(L 1 (Ro lM)) r] []:=by refine fB Tryz.func57 (fun St W w0 v=>?_);refine sR (zUx ?_);refine zUx ?_;refine oP (zDt 1 rfl) ?_;refine rN (CW.pin 2 rfl (fun p2=>?_));refine CW.pin 3 rfl (fun p3=>?_);refine sR (zMr ?_);obtain⟨r1,mD,h⟩:=bd h;refine cA Tryz.call95 (FnK.go (t_bF.h _) mD) ?_;refine RW.ghost (zR.frzG 2 _ (t':=T.ro ((Pt (Pt yV)) x0)) rfl (fzP rfl)) ?_;refine RW.ghost (zR.frzG 3 _ (t':=T.ro ((Pt I) x1)) rfl (fzP rfl)) ?_;refine oP (yDW (xs:=[.tmp 2,.tmp 3]) (ts:=[(Pt (Pt yV)) x0,(Pt I) x1]) ⟨rfl,rfl,trivial⟩ rfl rfl) ?_;refine RW.ghost (zR.frzG 6 _ (t':=T.ro (lM r1)) rfl (fzO inferInstance)) ?_;obtain⟨r2,ma,h⟩:=bd h;refine oP (zQ6 (xs:=[.tmp 6,.tmp 7]) Jb5 (FnK.go (t_av.h _ _) ma) (afC rfl rfl (afC rfl rfl afN)) rfl ⟨(xF (fun _=>trivial)),trivial⟩ rfl rfl) ?_;refine tI ?_;refine RW.ghost (zR.tr 4 8 _ rfl rfl (yL (xF (fun _=>trivial))) rfl) ?_;refine rN (CW.ret ?_);obtain rfl:=sI h;exact rT
instance t_a4:FI J0 57 (∀(a:SPr)(b:Int),FnK J0 57 [T.ro ((Pt yV) a),I b] (fun r:(List (List (List Int)))=>[(L 1 (Ro lM)) r]) (fun _=>[]) (zOg a b)):=⟨Tryz.call57,fun a b=>FnK.mk (yGr a b)⟩
section
attribute [local irreducible] RW CW DK OkL Ok yQ yT wG vL XS.post rng vK vB ixO zS yI wL yG zF GTo zR FnC FnK wV uJ Kp Lk BsL BuL RpL Bk Lc
instance:HS Tryz.f30.8 [(0,38,0,.fz 5),(0,58,0,.trq 48 7 [2,0]),(1,4,0,.trf 61 2 7 [2,0])]:=⟨⟩
instance(a:SPr)(b:List (List Int)):LN (zKg a b) 7:=⟨⟩
instance(c:SPr)(d:List (List Int))(A0 A1 A2:T):LHk (R:=zL) (zKg c d) (T.ptr (T.agg [A0,A1,A2])) [0,4,41,42] [] (fun b=>[(7,T.ptr (T.agg [A0,A1,L 1 lV b.1])),(43,I b.2)]) (.xe 0 [0,41,42] fun a=>[(7,T.ptr (T.agg [A0,A1,L 1 lV a]))]):=⟨⟩
instance t_aL:FI J0 30 (∀(a:SPr)(b:List (List Int)),FnK J0 30 [T.ro ((Pt yV) a),T.ro (lM b)] (fun r=>[xL r]) (fun _=>[]) (zZ8 a b)):=⟨Tryz.call30,fun a b=>iM Tryz.func30⟩
instance:HS Tryz.f43.8 [(2,4,0,.trq 6 18 [0])]:=⟨⟩
end
section
attribute [local irreducible] RW CW DK OkL Ok yQ yT wG vL XS.post rng vK vB ixO zS yI wL yG zF GTo zR FnC FnK wV uJ Kp Lk BsL BuL RpL Bk Lc
instance:HS Tryz.f9.8 [(2,2,0,.trq 4 7 [0])]:=⟨⟩
instance:HS Tryz.f12.8 [(2,5,0,.tr 5 11)]:=⟨⟩
instance t_bG:FI J0 12 (∀(a:SPr),FnK J0 12 [qPr a] (fun r=>[xL r.1,I r.2]) (fun _=>[]) (zTy a)):=⟨Tryz.call12,fun a=>iM Tryz.func12⟩
instance:HS Tryz.f4.8 [(1,4,0,.trf 23 2 22 [2,0]),(1,7,0,.trf 30 2 29 [2,0]),(1,12,0,.trf 77 2 76 [2,0])]:=⟨⟩
instance t_bY:FI J0 4 (∀(a:SPr),FnK J0 4 [qPr a] (fun r=>[B r]) (fun _=>[]) (zZ9 a)):=⟨Tryz.call4,fun a=>iM Tryz.func4⟩
instance:HS Tryz.f20.8 [(2,4,0,.trq 6 17 [0])]:=⟨⟩
end
end Go.Wk
