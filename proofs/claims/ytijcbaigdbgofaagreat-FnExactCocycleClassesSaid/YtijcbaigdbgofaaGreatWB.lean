/- The program's CocycleClasses returns what the reference's returns,for all arguments;no conditions. -/
import Derived.Test.YtijcbaigdbgofaaGreatWA
open Go.Proofs.Tryz renaming prog→J0,f96→Lh,f145→Hr,f41→Ue,f15→Uf,call10→Ql,call9→Qu,f61→Jab,f59→Jac,f17→Jae,call20→Jah,call15→Jai,call16→Jb8,call19→Jch,call18→Jci,call17→Jcj,call14→Jck,f18→Jd2
open Option renaming some→ik,none→im
open Bool renaming true→io,false→iq
namespace Go.Wk
open Go Go.Proofs Go.Ab
set_option maxRecDepth 100000
set_option maxHeartbeats 4000000
section
attribute [local irreducible] RW CW DK OkL Ok wF wK uE uW XS.post rng tR tB ixO yB xW uP xF zI GTo zN FnC FnK uY qL Kp Lk BsL BuL RpL Bk Lc
instance:GHs Ue.results:=⟨⟩
instance:GH Ue.results 2 2 0 (.tr 5 11):=⟨⟩
instance:GH Ue.results 2 2 1 (.tr 6 14):=⟨⟩
instance:GH Ue.results 2 3 0 (.tr 7 15):=⟨⟩
instance:GH Ue.results 0 32 0 (.tr 22 7):=⟨⟩
instance:GH Ue.results 0 36 0 (.fz 7):=⟨⟩
instance:GH Ue.results 0 36 1 (.res 35 7 []):=⟨⟩
instance(x1:zB)(r1:(iw))(r2:(iw)):LH (R:=(iw)) (zNa x1 r1 r2) [3,5,6] [] (fun s1=>[(7,L 1 lV s1.1),(8,I s1.2)]) (.xe 0 [5,6] fun r7=>[(7,L 1 lV r7)]):=⟨⟩
instance t_aM:FI J0 41 (∀(x0:SPr)(x1:zB),FnK J0 41 [qPr x0,xT x1] (fun r:(iw)=>[(L 1 (Ro lV)) r]) (fun _=>[]) (zW6 x0 x1)):=⟨Tryz.call41,fun x0 x1=>iK Tryz.func41⟩
instance(x1:zB)(r2:(iw))(s17:(iw)×Int)(s22:(iw)×Int):LH (R:=(List iw)×Int) (zRm x1 r2 s17 s22) [3,6,7,8,10] [] (fun s23=>[(9,L 1 lV s23.1),(11,I s23.2)]) (.xe 4 [] fun r12=>[(9,L 1 lV r12)]):=⟨⟩
instance(x1:zB)(r2:(iw))(s17:(iw)×Int):LH (R:=(List iw)×Int) (zRn x1 r2 s17) [3,6,7,8] [] (fun s22=>[(9,L 1 lV s22.1),(10,I s22.2)]) (.xe 2 [7] fun r14=>[(9,L 1 lV r14)]):=⟨⟩
instance(x1:zB)(r2:(iw)):LH (R:=(List iw)×Int) (zOr x1 r2) [3,6] [] (fun s17=>[(7,L 1 lV s17.1),(8,I s17.2)]) (.xs (.xe 0 [6] fun r16=>[(7,L 1 lV r16)]) .xr):=⟨⟩
instance(x1:zB)(r16:(iw)):LH (R:=(List iw)×Int) (zUO x1 r16) [3,7] [] (fun s27=>[(12,L 1 lM s27.1),(13,I s27.2)]) (.xe 6 [3,7] fun r21=>[(12,L 1 lM r21)]):=⟨⟩
instance t_p:FI J0 14 (∀(x0:SPr)(x1:zB),FnK J0 14 [qPr x0,xT x1] (fun r:(List iw)×Int=>[lC r.1,I r.2]) (fun _=>[]) (f_p x0 x1)):=⟨Jck,fun x0 x1=>iK Tryz.func14⟩
instance t_bC:FI J0 90 (∀(x0:Int)(x1:Int)(x2:iw),FnK J0 90 [I x0,I x1,T.ro (lM x2)] (fun r:zT=>[zO r]) (fun _=>[]) (zYU x0 x1 x2)):=⟨Tryz.call90,fun x0 x1 x2=>iK Tryz.func90⟩
instance t_bx:FI J0 160 (∀(x0:Int),FnK J0 160 [I x0] (fun r:Bool=>[B r]) (fun _=>[]) (zWy x0)):=⟨Tryz.call160,fun x0=>iK Tryz.func160⟩
instance(x0:iv):LH (R:=Int) (zJ8 x0) [0,1,7] [] (fun s1=>[(8,I s1)]) (.xs (.xe 0 [0,1,7] fun _=>[]) .xr):=⟨⟩
instance t_aq:FJ J0 148 160 (∀(x0:iv),FnK J0 148 [T.ro (lV x0),T.lit (.func (.func 160) #[] #[])] (fun r:Int=>[I r]) (fun _=>[]) (zWz x0)):=⟨Tryz.call148,fun x0=>iK Tryz.func148⟩
instance(x0:iw):LH (R:=(iv)) (zMT x0) [6,7] [] (fun s1=>[(3,L 1 I s1.1),(8,I s1.2)]) (.xe 0 [6,7] fun r5=>[(3,L 1 I r5)]):=⟨⟩
instance t_aF:FI J0 136 (∀(x0:iw),FnK J0 136 [T.ro (lM x0)] (fun r:(iv)=>[lV r]) (fun _=>[]) (zW0 x0)):=⟨Tryz.call136,fun x0=>iK Tryz.func136⟩
instance(x0:zT)(r2:(iv)):LH (R:=(iv)) (zJ9 x0 r2) [2,12,13] [] (fun s1=>[(5,L 1 I s1.1),(14,I s1.2)]) (.xe 0 [2,12,13] fun r9=>[(5,L 1 I r9)]):=⟨⟩
instance t_ar:FI J0 91 (∀(x0:zT)(x1:iv),FnK J0 91 [zFr x0,T.ro (lV x1)] (fun r:(iv)=>[lV r]) (fun _=>[]) (zW1 x0 x1)):=⟨Tryz.call91,fun x0 x1=>iK Tryz.func91⟩
instance t_by:FI J0 46 (∀(x0:SPr)(x1:zB)(x2:iv),FnK J0 46 [T.ro ((Pt yL) x0),T.ro ((Pt zS) x1),T.ro (lV x2)] (fun r:(iw)=>[lM r]) (fun _=>[]) (zW4 x0 x1 x2)):=⟨Tryz.call46,fun x0 x1 x2=>iK Tryz.func46⟩
instance(x0:Int)(v2:iv)(v4:iv):LH (R:=(iw)×Bool) (zRo x0 v2 v4) [0,10,13,19,20,21,30,31,32,36] [] (fun s23=>[(11,L 1 lV s23.1),(37,I s23.2)]) (.xe 4 [13,36] fun r9=>[(11,L 1 lV r9)]):=⟨⟩
instance(x0:Int)(s17:(iw)×Int)(v2:iv):LH (R:=(iw)×Bool) (zRp x0 s17 v2) [0,10,19,20,21,30,31] [] (fun s22=>[(11,L 1 lV s22.1),(32,I s22.2)]) (.xe 2 [10,30,31] fun r11=>[(11,L 1 lV r11)]):=⟨⟩
instance(x0:Int)(x1:iw):LH (R:=(iw)×Bool) (zOs x0 x1) [0,19,20] [] (fun s17=>[(8,L 1 lV s17.1),(21,I s17.2)]) (.xs (.xe 0 [0,19,20] fun r13=>[(8,L 1 lV r13)]) .xr):=⟨⟩
instance t_z:FI J0 47 (∀(x0:Int)(x1:iw)(x2:Int),FnK J0 47 [I x0,T.ro (lM x1),I x2] (fun r:(iw)×Bool=>[lM r.1,B r.2]) (fun _=>[]) (f_z x0 x1 x2)):=⟨Tryz.call47,fun x0 x1 x2=>iK Tryz.func47⟩
instance:GHs Uf.results:=⟨⟩
instance:GH Uf.results 0 27 0 (.tr 22 6):=⟨⟩
instance:GH Uf.results 2 8 0 (.tr 6 27):=⟨⟩
instance:GH Uf.results 2 10 0 (.trq 9 40 [0]):=⟨⟩
instance:GH Uf.results 3 2 0 (.tr 45 9):=⟨⟩
instance:GH Uf.results 0 57 0 (.tr 51 11):=⟨⟩
instance:GH Uf.results 2 17 0 (.tr 11 57):=⟨⟩
instance(x0:SPr)(x1:zB)(r2:(iw)):LH (R:=(List iw)×Int) (zRq x0 x1 r2) [2,3,16,17] [] (fun s1=>[(6,L 1 lV s1.1),(18,I s1.2)]) (.xe 0 [16,17] fun r8=>[(6,L 1 lV r8)]):=⟨⟩
instance(x1:zB)(r12:(iw)×Bool):LH (R:=(List iw)×Int) (zUP x1 r12) [3,45,46] [] (fun s3=>[(11,L 1 lM s3.1),(47,I s3.2)]) (.xe 2 [3,45,46] fun r17=>[(11,L 1 lM r17)]):=⟨⟩
instance t_D:FI J0 15 (∀(x0:SPr)(x1:zB),FnK J0 15 [qPr x0,xT x1] (fun r:(List iw)×Int=>[lC r.1,I r.2]) (fun _=>[]) (f_D x0 x1)):=⟨Jai,fun x0 x1=>iK Tryz.func15⟩
instance:LH (R:=Int×iv) zPP [] [] (fun s1=>[(0,L 1 I s1.1),(1,I s1.2.1),(5,I s1.2.2)]) (.xe 0 [] fun r4=>[(0,L 1 I r4.1),(1,I r4.2)]):=⟨⟩
instance t_ah:FI J0 50 (∀(x0:iv)(x1:Int),FnK J0 50 [L 1 I x0,I x1] (fun r:Int×iv=>[I r.1]) (fun r=>[(0,lV r.2)]) (zQK x0 x1)):=⟨Tryz.call50,fun x0 x1=>iK Tryz.func50⟩
instance:LH (R:=Int×iw) zUw [] [] (fun s1=>[(0,L 1 lV s1.1),(1,I s1.2.1),(5,I s1.2.2)]) (.xe 0 [] fun r4=>[(0,L 1 lV r4.1),(1,I r4.2)]):=⟨⟩
instance t_aw:FI J0 27 (∀(x0:iw)(x1:Int),FnK J0 27 [L 1 lV x0,I x1] (fun r:Int×iw=>[I r.1]) (fun r=>[(0,lM r.2)]) (zQL x0 x1)):=⟨Tryz.call27,fun x0 x1=>iK Tryz.func27⟩
instance:LH (R:=Int×(List iw)) zUx [] [] (fun s1=>[(0,L 1 lM s1.1),(1,I s1.2.1),(5,I s1.2.2)]) (.xe 0 [] fun r4=>[(0,L 1 lM r4.1),(1,I r4.2)]):=⟨⟩
instance t_ai:FI J0 19 (∀(x0:List iw)(x1:Int),FnK J0 19 [L 1 lM x0,I x1] (fun r:Int×(List iw)=>[I r.1]) (fun r=>[(0,lC r.2)]) (zQM x0 x1)):=⟨Jch,fun x0 x1=>iK Tryz.func19⟩
instance:GHs Jae.results:=⟨⟩
instance:GH Jae.results 2 4 0 (.trf 0 0 2 [0,0]):=⟨⟩
instance:GH Jae.results 2 4 1 (.trf 0 1 2 [1,0]):=⟨⟩
instance:GH Jae.results 2 4 2 (.trf 0 2 2 [2,0]):=⟨⟩
instance t_bq:FI J0 17 (∀(x0:SPr)(x1:Int),FnK J0 17 [yL x0,I x1] (fun r:Int×SPr=>[I r.1]) (fun r=>[(0,yL r.2)]) (zWl x0 x1)):=⟨Jcj,fun x0 x1=>iK Tryz.func17⟩
instance:GHs Jd2.results:=⟨⟩
instance:GH Jd2.results 2 2 0 (.trf 0 2 2 [2,0]):=⟨⟩
instance t_bi:FI J0 18 (∀(x0:zB)(x1:Int),FnK J0 18 [zS x0,I x1] (fun r:Int×zB=>[I r.1]) (fun r=>[(0,zS r.2)]) (zWm x0 x1)):=⟨Jci,fun x0 x1=>iK Tryz.func18⟩
instance(x0:iv):LH (R:=Int) (zMG x0) [0] [] (fun s1=>[(1,I s1.1),(5,I s1.2)]) (.xs (.xe 0 [0] fun r4=>[(1,I r4)]) .xr):=⟨⟩
instance t_aj:FI J0 93 (∀(x0:iv)(x1:Int),FnK J0 93 [T.ro (lV x0),I x1] (fun r:Int=>[I r]) (fun _=>[]) (zUy x0 x1)):=⟨Tryz.call93,fun x0 x1=>iK Tryz.func93⟩
instance(x0:iw):LH (R:=Int) (zUz x0) [0] [] (fun s1=>[(1,I s1.1),(5,I s1.2)]) (.xs (.xe 0 [0] fun r4=>[(1,I r4)]) .xr):=⟨⟩
instance t_a0:FI J0 51 (∀(x0:iw)(x1:Int),FnK J0 51 [T.ro (lM x0),I x1] (fun r:Int=>[I r]) (fun _=>[]) (zWn x0 x1)):=⟨Tryz.call51,fun x0 x1=>iK Tryz.func51⟩
instance(x0:List iw):LH (R:=Int) (zU0 x0) [0] [] (fun s1=>[(1,I s1.1),(5,I s1.2)]) (.xs (.xe 0 [0] fun r4=>[(1,I r4)]) .xr):=⟨⟩
instance t_ax:FI J0 20 (∀(x0:List iw)(x1:Int),FnK J0 20 [T.ro (lC x0),I x1] (fun r:Int=>[I r]) (fun _=>[]) (zWo x0 x1)):=⟨Jah,fun x0 x1=>iK Tryz.func20⟩
end
theorem yBF(x0:SPr)(x1:zB)(r:Bool)(h:zUQ x0 x1=ik r):FnC J0 4 [qPr x0,xT x1] [B r] []:=by refine fB Tryz.func4 (fun St W w0 v=>?_);refine sR (zDI ?_);refine zDI ?_;refine yJ ?_;refine rN (sR (yJ ?_));refine rN (sR (tJ ?_));refine zP ?_;obtain⟨r1,eR,h⟩:=bd h;refine cA Tryz.call6 (FnK.go (t_be.h _ _) eR) ?_;refine yJ ?_;refine rN (CW.seq (sR (zP ?_)));refine vS ?_;refine rN (cn h (fun hc h=>?_) (fun hc h=>?_));refine sR (yJ ?_);refine rN (CW.ret (rA ?_));obtain rfl:=sI h;exact rT;refine CW.skip (nA (sR (tJ ?_)));refine zP ?_;obtain⟨r2,fm,h⟩:=bd h;refine cA Tryz.call7 (FnK.go (t_bf.h _ _) fm) ?_;refine yJ ?_;refine rN (CW.seq (sR (zP ?_)));refine vS ?_;refine rN (cn h (fun hc h=>?_) (fun hc h=>?_));refine sR (yJ ?_);refine rN (CW.ret (rA ?_));obtain rfl:=sI h;exact rT;refine CW.skip (nA (CW.seq ?_));obtain⟨r3,p6,h⟩:=bd h;obtain⟨r4,mP,h⟩:=bd h;obtain⟨r5,mO,h⟩:=bd h;refine CW.dk ?_;refine wU [(2,_)] ?_;refine dG [(28,_)] [([(29,ik (yL r3))],[(29,0)])] ⟨rfl,trivial⟩ (fun E h=>zW.opE (wB (xs:=[.tmp 28]) Qu (FnK.go (t_ak.h _) p6) ⟨(agC _ h.1 rfl rfl),trivial⟩ (vQ (f:=yL) inferInstance vF) rfl) rfl) ?_;refine wU [(3,_)] ?_;refine dG [(30,_)] [([(31,ik (zS r4))],[(31,0)])] ⟨rfl,trivial⟩ (fun E h=>zW.opE (wB (xs:=[.tmp 30]) Ql (FnK.go (t_al.h _) mP) ⟨(agC _ h.1 rfl rfl),trivial⟩ (vQ (f:=zS) inferInstance vF) rfl) rfl) ?_;refine dG [(29,_),(31,_)] [([(32,ik (T.tup [L 1 lM r5.1,I r5.2]))],[(32,0)])] ⟨rfl,rfl,trivial⟩ (fun E h=>zW.opE (wB (xs:=[.tmp 29,.tmp 31]) Jck (FnK.go (t_p.h _ _) mO) ⟨(agC _ h.1 (zAC (vM (jI inferInstance) (vM (jI inferInstance) (vM (jI inferInstance) zAD)))) rfl),⟨(agC _ h.2.1 (zAC (vM rfl (vM rfl (vM (jI inferInstance) zAD)))) rfl),trivial⟩⟩ (vQ (f:=lC) inferInstance (vQ (f:=I) inferInstance vF)) rfl) rfl) ?_;refine zWO [(32,_)] ?_;refine zOV [(27,_)] ?_;refine zOV [(27,_)] ?_;refine zBz [(33,_)] ?_;refine zBz [(34,_)] ?_;refine dNA xK ?_;refine nA (CW.ghost (zN.trq 6 32 [0] rfl rfl rfl (zC (zL (Enc.clean (f:=lM)))) rfl) ?_);refine CW.seq (CW.to [(2,T.ptr (qPr x0)),(3,T.ptr (xT x1)),(6,L 1 lM r5.1),(7,I r5.2)] ⟨rfl,rfl,rfl,rfl,trivial⟩ ?_);refine CW.region (tJ ?_);obtain⟨r6,cQ,h⟩:=bd h;refine oP (wB (xs:=[.tmp 35]) Qu (FnK.go (t_ak.h _) cQ) ⟨(agC _ rfl rfl rfl),trivial⟩ (vQ (f:=yL) inferInstance vF) rfl) ?_;refine tU ?_;refine oP (uJ zUS rfl (wA rfl rfl) rfl rfl rfl rfl (zC (yM ⟨(zL (Enc.clean (f:=I))),(zL (Enc.clean (f:=lV))),(zL (Enc.clean (f:=lM))),trivial⟩)) rfl) ?_;refine rN (sR (tJ ?_));obtain⟨r7,dI,h⟩:=bd h;refine oP (wB (xs:=[.tmp 37]) Ql (FnK.go (t_al.h _) dI) ⟨(agC _ rfl rfl rfl),trivial⟩ (vQ (f:=zS) inferInstance vF) rfl) ?_;refine tU ?_;refine oP (uJ zUT rfl (wA rfl rfl) rfl rfl rfl rfl (zC (yM ⟨(Enc.clean (f:=I) _),(Enc.clean (f:=I) _),(zL (Enc.clean (f:=lM))),trivial⟩)) rfl) ?_;refine rN (sR (tJ ?_));refine tJ ?_;obtain⟨r8,mN,h⟩:=bd h;refine oP (wB (xs:=[.tmp 40,.tmp 41]) Jai (FnK.go (t_D.h _ _) mN) ⟨(agC _ rfl (zAC (vM (qB rfl rfl inferInstance) (vM (qB rfl rfl inferInstance) (vM (qB rfl rfl inferInstance) zAD)))) rfl),⟨(agC _ rfl (zAC (vM rfl (vM rfl (vM (qB rfl rfl inferInstance) zAD)))) rfl),trivial⟩⟩ (vQ (f:=lC) inferInstance (vQ (f:=I) inferInstance vF)) rfl) ?_;refine zSl ?_;refine zJe ?_;refine zJe ?_;refine yJ ?_;refine yJ ?_;refine RW.ghost (zN.trq 10 42 [0] rfl rfl rfl (zC (zL (Enc.clean (f:=lM)))) rfl) ?_;refine rN (CW.seq (sR (zP ?_)));refine zP ?_;obtain⟨r9,pT,h⟩:=bd h;refine oP (wB (xs:=[.tmp 45,.tmp 46]) Jb8 (FnK.go (t_S.h _ _) pT) ⟨(agC _ rfl (qB rfl rfl inferInstance) rfl),⟨(agC _ rfl (qB rfl rfl inferInstance) rfl),trivial⟩⟩ (vQ (f:=B) inferInstance vF) rfl) ?_;refine zWK ?_;refine zP ?_;refine RW.cases 49 _ rfl (fun hc=>?_) (fun hc=>?_);have h:=cT hc h;refine sk2 ?_;refine sk2 ?_;refine sk2 ?_;refine tI ?_;refine rN (CW.condT rfl ?_);refine CW.seq (CW.to [] trivial ?_);refine CW.region (yJ ?_);refine rN (CW.ret (rA ?_));obtain rfl:=sI h;exact rT;have h:=cF hc h;refine zCp ?_;refine zCp ?_;refine zSi ?_;refine tI ?_;refine rN (cn h (fun hc h=>?_) (fun hc h=>?_));refine CW.seq (CW.to [] trivial ?_);refine CW.region (yJ ?_);refine rN (CW.ret (rA ?_));obtain rfl:=sI h;exact rT;refine CW.skip (nA (CW.seq (CW.seq (CW.to [(2,T.ptr (qPr x0)),(3,T.ptr (xT x1)),(6,L 1 lM r5.1),(7,I r5.2),(8,T.ptr (yL r6)),(9,T.ptr (zS r7)),(10,L 1 lM r8.1),(11,I r8.2)] ⟨rfl,rfl,rfl,rfl,rfl,rfl,rfl,rfl,trivial⟩ ?_))));obtain⟨r10,fx,h⟩:=bd h;obtain⟨r11,ch,h⟩:=bd h;refine CW.dk ?_;refine wU [(8,_)] ?_;refine wU [(2,_)] ?_;refine dG [(55,_)] [([(56,ik (yL r10))],[(56,0)])] ⟨rfl,trivial⟩ (fun E h=>zW.opE (wB (xs:=[.tmp 55]) Qu (FnK.go (t_ak.h _) fx) ⟨(agC _ h.1 rfl rfl),trivial⟩ (vQ (f:=yL) inferInstance vF) rfl) rfl) ?_;refine dG [(54,_),(8,_),(56,_)] [([(57,ik (B r11))],[(57,0)])] ⟨rfl,rfl,rfl,trivial⟩ (fun E h=>zW.opE (wB (xs:=[.tmp 54,.tmp 56]) Tryz.call12 (FnK.go (t_bh.h _ _) ch) ⟨(agC _ h.1 (zAC (vM (qB h.2.1 rfl inferInstance) (vM (qB h.2.1 rfl inferInstance) (vM (qB h.2.1 rfl inferInstance) zAD)))) rfl),⟨(agC _ h.2.2.1 (zAC (vM (jI inferInstance) (vM (jI inferInstance) (vM (jI inferInstance) zAD)))) rfl),trivial⟩⟩ (vQ (f:=B) inferInstance vF) rfl) rfl) ?_;refine zSm [(57,_)] ?_;refine dNA xK ?_;refine nA (cn h (fun hc h=>?_) (fun hc h=>?_));refine sR (yJ ?_);refine rN (CW.ret (rA ?_));obtain rfl:=sI h;exact rT;refine CW.skip (nA (CW.seq (CW.seq ?_)));obtain⟨r12,fw,h⟩:=bd h;obtain⟨r13,fu,h⟩:=bd h;refine CW.dk ?_;refine wU [(9,_)] ?_;refine wU [(3,_)] ?_;refine dG [(60,_)] [([(61,ik (zS r12))],[(61,0)])] ⟨rfl,trivial⟩ (fun E h=>zW.opE (wB (xs:=[.tmp 60]) Ql (FnK.go (t_al.h _) fw) ⟨(agC _ h.1 rfl rfl),trivial⟩ (vQ (f:=zS) inferInstance vF) rfl) rfl) ?_;refine dG [(59,_),(9,_),(61,_)] [([(62,ik (B r13))],[(62,0)])] ⟨rfl,rfl,rfl,trivial⟩ (fun E h=>zW.opE (wB (xs:=[.tmp 59,.tmp 61]) Tryz.call13 (FnK.go (t_bg.h _ _) fu) ⟨(agC _ h.1 (zAC (vM rfl (vM rfl (vM (qB h.2.1 rfl inferInstance) zAD)))) rfl),⟨(agC _ h.2.2.1 (zAC (vM rfl (vM rfl (vM (jI inferInstance) zAD)))) rfl),trivial⟩⟩ (vQ (f:=B) inferInstance vF) rfl) rfl) ?_;refine zSm [(62,_)] ?_;refine dNA xK ?_;refine nA (cn h (fun hc h=>?_) (fun hc h=>?_));refine sR (yJ ?_);refine rN (CW.ret (rA ?_));obtain rfl:=sI h;exact rT;refine CW.skip (nA (sR (yJ ?_)));refine rN (sR (tJ ?_));refine zP ?_;obtain⟨r14,pu,h⟩:=bd h;refine oP (zOO (xs:=[.tmp 64,.tmp 65]) 0 64 8 [(0,[0,0]),(1,[1,0]),(2,[2,0])] 2 Jcj (t_bq.h _ _ _ pu) (.cons 0 [0,0] _ _ _ _ _ rfl rfl rfl rfl (zC (zL (Enc.clean (f:=I)))) rfl rfl rfl (.cons 1 [1,0] _ _ _ _ _ rfl rfl rfl rfl (zC (zL (Enc.clean (f:=lV)))) rfl rfl rfl (.cons 2 [2,0] _ _ _ _ _ rfl rfl rfl rfl (zC (zL (Enc.clean (f:=lM)))) rfl rfl rfl (.nil _)))) rfl (Enc.clean (f:=yL) _) (Enc.rofree (f:=yL) _) ⟨(zBx rfl (Enc.clean (f:=yL) _) (Enc.rofree (f:=yL) _)),⟨(agM _ rfl rfl rfl),trivial⟩⟩ (vQ (f:=I) inferInstance vF) (.cons 0 [0,0] _ _ _ _ _ _ rfl rfl rfl rfl (zC (zL (Enc.clean (f:=I)))) rfl rfl rfl (.cons 1 [1,0] _ _ _ _ _ _ rfl rfl rfl rfl (zC (zL (Enc.clean (f:=lV)))) rfl rfl rfl (.cons 2 [2,0] _ _ _ _ _ _ rfl rfl rfl rfl (zC (zL (Enc.clean (f:=lM)))) rfl rfl rfl (.nil _)))) rfl rfl rfl) ?_;refine yJ ?_;refine rN (sR (tJ ?_));refine zP ?_;obtain⟨r15,ft,h⟩:=bd h;refine oP (zOO (xs:=[.tmp 67,.tmp 68]) 0 67 9 [(2,[2,0])] 2 Jci (t_bi.h _ _ _ ft) (.cons 2 [2,0] _ _ _ _ _ rfl rfl rfl rfl (zC (zL (Enc.clean (f:=lM)))) rfl rfl rfl (.nil _)) rfl (Enc.clean (f:=zS) _) (Enc.rofree (f:=zS) _) ⟨(zBx rfl (Enc.clean (f:=zS) _) (Enc.rofree (f:=zS) _)),⟨(agM _ rfl rfl rfl),trivial⟩⟩ (vQ (f:=I) inferInstance vF) (.cons 2 [2,0] _ _ _ _ _ _ rfl rfl rfl rfl (zC (zL (Enc.clean (f:=lM)))) rfl rfl rfl (.nil _)) rfl rfl rfl) ?_;refine yJ ?_;refine rN (CW.seq (sR (zP ?_)));refine vS ?_;refine zP ?_;refine RW.cases 72 _ rfl (fun hc=>?_) (fun hc=>?_);have h:=cT hc h;refine sk2 ?_;refine sk2 ?_;refine sk2 ?_;refine sk2 ?_;refine tI ?_;refine zP ?_;refine sk2 ?_;refine sk2 ?_;refine sk2 ?_;refine tI ?_;refine rN (CW.condT rfl ?_);refine CW.seq (CW.to [] trivial ?_);refine CW.region (yJ ?_);refine rN (CW.ret (rA ?_));obtain rfl:=sI h;exact rT;have h:=cF hc h;refine zCp ?_;refine zCp ?_;obtain⟨r16,fq,h⟩:=bd h;refine RW.cons (zW.guard 2 iq 72 (wB (xs:=[.tmp 73,.tmp 74]) Jb8 (FnK.go (t_S.h _ _) fq) ⟨(agC _ rfl (qB rfl rfl inferInstance) rfl),⟨(agC _ rfl (qB rfl rfl inferInstance) rfl),trivial⟩⟩ (vQ (f:=B) inferInstance vF) rfl)) ?_;refine zWL ?_;refine tI ?_;refine zP ?_;refine RW.cases 78 _ rfl (fun hc=>?_) (fun hc=>?_);have h:=cT hc h;refine sk2 ?_;refine sk2 ?_;refine sk2 ?_;refine tI ?_;refine rN (CW.condT rfl ?_);refine CW.seq (CW.to [] trivial ?_);refine CW.region (yJ ?_);refine rN (CW.ret (rA ?_));obtain rfl:=sI h;exact rT;have h:=cF hc h;refine zCp ?_;refine zCp ?_;refine zSi ?_;refine tI ?_;refine rN (cn h (fun hc h=>?_) (fun hc h=>?_));refine CW.seq (CW.to [] trivial ?_);refine CW.region (yJ ?_);refine rN (CW.ret (rA ?_));obtain rfl:=sI h;exact rT;refine CW.skip (nA (CW.seq (CW.to [(2,T.ptr (qPr x0)),(3,T.ptr (xT x1)),(6,L 1 lM r5.1),(7,I r5.2),(10,L 1 lM r8.1)] ⟨rfl,rfl,rfl,rfl,rfl,trivial⟩ ?_)));refine CW.region (yJ ?_);refine rN (sR (zP ?_));refine zP ?_;obtain⟨r17,pt,h⟩:=bd h;refine oP (zAQ (xs:=[.tmp 83,.tmp 84]) 0 83 10 [] Jch (t_ai.h _ _ _ pt) rfl rfl rfl (zC (zL (Enc.clean (f:=lM)))) (zC (zL (Enc.clean (f:=lM)))) (Enc.rofree (f:=L 1 lM) _) (Enc.rofree (f:=L 1 lM) _) ⟨(zBx rfl (zC (zL (Enc.clean (f:=lM)))) (Enc.rofree (f:=L 1 lM) _)),⟨(agM _ rfl rfl rfl),trivial⟩⟩ (vQ (f:=I) inferInstance vF) rfl rfl rfl rfl) ?_;refine yJ ?_;refine rN (sR (yJ ?_));refine rN (sR (zP ?_));refine zP ?_;obtain⟨r18,ce,h⟩:=bd h;refine oP (wB (xs:=[.tmp 86,.tmp 87]) Jah (FnK.go (t_ax.h _ _) ce) ⟨(agC _ rfl (qB rfl rfl inferInstance) rfl),⟨(agC _ rfl rfl rfl),trivial⟩⟩ (vQ (f:=I) inferInstance vF) rfl) ?_;refine yJ ?_;refine rN (CW.seq (sR (zP ?_)));refine vS ?_;refine rN (cn h (fun hc h=>?_) (fun hc h=>?_));refine sR (yJ ?_);refine rN (CW.ret (rA ?_));obtain rfl:=sI h;exact rT;refine CW.skip (nA (CW.seq (sR (zP ?_))));refine zP ?_;refine zOT ?_;refine rN (cn h (fun hc h=>?_) (fun hc h=>?_));refine sR (yJ ?_);refine rN (CW.ret (rA ?_));obtain rfl:=sI h;exact rT;refine CW.skip (nA (CW.seq ?_));obtain⟨r19,fp,h⟩:=bd h;obtain⟨r20,cd,h⟩:=bd h;obtain⟨r21,eQ,h⟩:=bd h;refine CW.dk ?_;refine wU [(2,_)] ?_;refine dG [(95,_)] [([(96,ik (yL r19))],[(96,0)])] ⟨rfl,trivial⟩ (fun E h=>zW.opE (wB (xs:=[.tmp 95]) Qu (FnK.go (t_ak.h _) fp) ⟨(agC _ h.1 rfl rfl),trivial⟩ (vQ (f:=yL) inferInstance vF) rfl) rfl) ?_;refine wU [(3,_)] ?_;refine dG [(97,_)] [([(98,ik (zS r20))],[(98,0)])] ⟨rfl,trivial⟩ (fun E h=>zW.opE (wB (xs:=[.tmp 97]) Ql (FnK.go (t_al.h _) cd) ⟨(agC _ h.1 rfl rfl),trivial⟩ (vQ (f:=zS) inferInstance vF) rfl) rfl) ?_;refine dG [(96,_),(98,_)] [([(99,ik (T.tup [L 1 lM r21.1,I r21.2]))],[(99,0)])] ⟨rfl,rfl,trivial⟩ (fun E h=>zW.opE (wB (xs:=[.tmp 96,.tmp 98]) Jai (FnK.go (t_D.h _ _) eQ) ⟨(agC _ h.1 (zAC (vM (jI inferInstance) (vM (jI inferInstance) (vM (jI inferInstance) zAD)))) rfl),⟨(agC _ h.2.1 (zAC (vM rfl (vM rfl (vM (jI inferInstance) zAD)))) rfl),trivial⟩⟩ (vQ (f:=lC) inferInstance (vQ (f:=I) inferInstance vF)) rfl) rfl) ?_;refine zWO [(99,_)] ?_;refine zOV [(94,_)] ?_;refine zOV [(94,_)] ?_;refine zBz [(100,_)] ?_;refine zBz [(101,_)] ?_;refine dNA xK ?_;refine nA (CW.ghost (zN.trq 15 99 [0] rfl rfl rfl (zC (zL (Enc.clean (f:=lM)))) rfl) ?_);refine CW.seq (CW.seq (CW.to [(6,L 1 lM r5.1),(7,I r5.2),(10,L 1 lM r17.2),(13,I r17.1),(15,L 1 lM r21.1),(16,I r21.2)] ⟨rfl,rfl,rfl,rfl,rfl,rfl,trivial⟩ ?_));refine CW.region (zP ?_);refine zP ?_;obtain⟨r22,fk,h⟩:=bd h;refine cA Jb8 (FnK.go (t_S.h _ _) fk) ?_;refine zWK ?_;refine zP ?_;refine RW.cases 106 _ rfl (fun hc=>?_) (fun hc=>?_);have h:=cT hc h;refine sk2 ?_;refine sk2 ?_;refine sk2 ?_;refine tI ?_;refine rN (CW.condT rfl ?_);refine sR (yJ ?_);refine rN (CW.ret (rA ?_));obtain rfl:=sI h;exact rT;have h:=cF hc h;refine zCp ?_;refine zCp ?_;refine zSi ?_;refine tI ?_;refine rN (cn h (fun hc h=>?_) (fun hc h=>?_));refine sR (yJ ?_);refine rN (CW.ret (rA ?_));obtain rfl:=sI h;exact rT;refine CW.skip (nA (sR (yJ ?_)));refine rN (sR (zP ?_));refine zP ?_;obtain⟨r23,mY,h⟩:=bd h;refine oP (wB (xs:=[.tmp 111,.tmp 112]) Jah (FnK.go (t_ax.h _ _) mY) ⟨(agC _ rfl (qB rfl rfl inferInstance) rfl),⟨(agC _ rfl rfl rfl),trivial⟩⟩ (vQ (f:=I) inferInstance vF) rfl) ?_;refine yJ ?_;refine rN (CW.seq (sR (zP ?_)));refine vS ?_;refine rN (cn h (fun hc h=>?_) (fun hc h=>?_));refine sR (yJ ?_);refine rN (CW.ret (rA ?_));obtain rfl:=sI h;exact rT;refine CW.skip (nA (CW.seq (sR (zP ?_))));refine zP ?_;refine zOT ?_;refine rN (cn h (fun hc h=>?_) (fun hc h=>?_));refine sR (yJ ?_);refine rN (CW.ret (rA ?_));obtain rfl:=sI h;exact rT;refine CW.skip (nA (sR (yJ ?_)));refine rN (CW.ret ?_);obtain rfl:=sI h;exact rT
instance t_a6:FI J0 4 (∀(x0:SPr)(x1:zB),FnK J0 4 [qPr x0,xT x1] (fun r:Bool=>[B r]) (fun _=>[]) (zUQ x0 x1)):=⟨Tryz.call4,fun x0 x1=>FnK.mk (yBF x0 x1)⟩
section
attribute [local irreducible] RW CW DK OkL Ok wF wK uE uW XS.post rng tR tB ixO yB xW uP xF zI GTo zN FnC FnK uY qL Kp Lk BsL BuL RpL Bk Lc
instance:GHs Lh.results:=⟨⟩
instance:GH Lh.results 0 39 0 (.trq 35 9 [0,0]):=⟨⟩
instance:GH Lh.results 0 60 0 (.trq 47 9 [1,0]):=⟨⟩
instance:GH Lh.results 2 12 0 (.tr 12 62):=⟨⟩
instance:GH Lh.results 0 92 0 (.tr 70 12):=⟨⟩
instance:GH Lh.results 2 14 0 (.tr 12 92):=⟨⟩
instance:GH Lh.results 0 111 0 (.tr 98 12):=⟨⟩
instance:GH Lh.results 0 115 0 (.tr 114 12):=⟨⟩
instance:GH Lh.results 0 116 0 (.trq 113 9 [2,0]):=⟨⟩
instance:GH Lh.results 0 130 0 (.trq 124 9 [1,0]):=⟨⟩
instance:GH Lh.results 2 26 0 (.tr 16 132):=⟨⟩
instance:GH Lh.results 0 149 0 (.tr 140 16):=⟨⟩
instance:GH Lh.results 2 28 0 (.tr 16 149):=⟨⟩
instance:GH Lh.results 0 153 0 (.tr 152 16):=⟨⟩
instance:GH Lh.results 0 154 0 (.trq 151 9 [2,0]):=⟨⟩
instance:GH Lh.results 1 6 0 (.trf 156 0 9 [0,0]):=⟨⟩
instance:GH Lh.results 1 6 1 (.trf 156 1 9 [1,0]):=⟨⟩
instance:GH Lh.results 1 6 2 (.trf 156 2 9 [2,0]):=⟨⟩
end
end Go.Wk

namespace Go.Wk
open Go Go.Proofs Go.Ab
set_option maxRecDepth 100000
set_option maxHeartbeats 4000000
section
attribute [local irreducible] RW CW DK OkL Ok wF wK uE uW XS.post rng tR tB ixO yB xW uP xF zI GTo zN FnC FnK uY qL Kp Lk BsL BuL RpL Bk Lc
instance:GHs Hr.results:=⟨⟩
instance:GH Hr.results 0 22 0 (.trq 18 4 [1,0]):=⟨⟩
instance:GH Hr.results 0 36 0 (.tr 31 6):=⟨⟩
instance:GH Hr.results 2 10 0 (.tr 6 36):=⟨⟩
instance:GH Hr.results 0 40 0 (.tr 39 6):=⟨⟩
instance:GH Hr.results 0 41 0 (.trq 38 4 [2,0]):=⟨⟩
instance:GH Hr.results 1 2 0 (.trf 44 0 4 [0,0]):=⟨⟩
instance:GH Hr.results 1 2 1 (.trf 44 1 4 [1,0]):=⟨⟩
instance:GH Hr.results 1 2 2 (.trf 44 2 4 [2,0]):=⟨⟩
end
section
attribute [local irreducible] RW CW DK OkL Ok wF wK uE uW XS.post rng tR tB ixO yB xW uP xF zI GTo zN FnC FnK uY qL Kp Lk BsL BuL RpL Bk Lc
end
section
attribute [local irreducible] RW CW DK OkL Ok wF wK uE uW XS.post rng tR tB ixO yB xW uP xF zI GTo zN FnC FnK uY qL Kp Lk BsL BuL RpL Bk Lc
instance:GHs Jac.results:=⟨⟩
instance:GH Jac.results 2 4 0 (.tr 8 19):=⟨⟩
instance:GH Jac.results 0 35 0 (.fz 34):=⟨⟩
instance:GH Jac.results 2 6 0 (.trq 9 37 [0]):=⟨⟩
instance:GHs Jab.results:=⟨⟩
instance:GH Jab.results 0 20 0 (.fz 18):=⟨⟩
instance:GH Jab.results 0 23 0 (.tr 15 5):=⟨⟩
instance:GH Jab.results 2 6 0 (.tr 5 23):=⟨⟩
end
section
attribute [local irreducible] RW CW DK OkL Ok wF wK uE uW XS.post rng tR tB ixO yB xW uP xF zI GTo zN FnC FnK uY qL Kp Lk BsL BuL RpL Bk Lc
end
section
attribute [local irreducible] RW CW DK OkL Ok wF wK uE uW XS.post rng tR tB ixO yB xW uP xF zI GTo zN FnC FnK uY qL Kp Lk BsL BuL RpL Bk Lc
end
end Go.Wk
