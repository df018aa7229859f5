/- x -/
import Derived.Test.YtcjmcjcfehbboaaGreatRWT
open Go.Proofs.Tryz renaming prog->J1,underlying38->Lb,underlying3->U0
open Option renaming some->Wu,none->Wv
open Bool renaming true->Ww,false->Wx
namespace Go.Wk
open Go Go.Proofs Go.Ab
set_option maxRecDepth 100000
set_option maxHeartbeats 4000000
section
attribute [local irreducible] RW CW DK OkL Ok yX xC wK wY XS.post rng vP vL ixO zT yR wN yO zF GTo zI FnC FnK vB uC Kp Lk BsL BuL RpL Bk Lc
instance t_P:FI J1 108 (∀(a:List Int),FnK J1 108 [T.ro (lV a)] (fun r=>[lV r]) (fun _=>[]) (f_P a)):=⟨Tryz.call108,fun a=>iM Tryz.func108⟩
instance:HS Tryz.f178.8 [(0,20,0,.tr 16 3),(2,8,0,.tr 3 20)]:=⟨⟩
instance(b:(List Int)×Int)(c:Int):LH (R:=(List Int)) (zVp b c) [4,6,7,8,13] [] (fun a=>[(3,L 1 I a.1),(14,I a.2)]) (.xe 2 [4,13] fun d=>[(3,L 1 I d)]):=⟨⟩
instance(b:List Int):LH (R:=(List Int)) (zVq b) [6,7] [] (fun a=>[(3,L 1 I a.1),(8,I a.2)]) (.xe 0 [6,7] fun c=>[(3,L 1 I c)]):=⟨⟩
instance t_C:FI J1 178 (∀(a:List Int),FnK J1 178 [T.ro (lV a)] (fun r=>[lV r]) (fun _=>[]) (f_C a)):=⟨Tryz.call178,fun a=>iM Tryz.func178⟩
end
theorem yEd(x1:Int)(r:(List Int))(h:zVr x1=Wu r):FnC J1 140 [T.lit (.slice Wv 0 0),I x1] [lV r] []:=by
 refine fB Tryz.func140 (fun St W w0 v=>?_);refine sR (oP (zAn 1 rfl) ?_);refine rN (CW.seq (sR (zP ?_)));refine sV ?_;refine rN (cn h (fun hc h=>?_) (fun hc h=>?_))
 ·refine CW.region ?_
  cases h
 ·refine CW.skip (nA (CW.seq (sR (zP ?_))))
  refine zP ?_;refine oP (zLK Lb rfl rfl) ?_;refine zP ?_;refine oP (zLJ Lb rfl rfl) ?_;obtain⟨v1,bF,h⟩:=bd h;refine zLR ?_;obtain⟨v2,eU,h⟩:=bd h;refine zLR ?_;refine xP ?_;refine rN (sR (zP ?_));refine zTb ?_;refine rN (cn h (fun hc h=>?_) (fun hc h=>?_))
  ·refine CW.region (zP ?_)
   refine zP ?_;refine oP (zLK Lb rfl rfl) ?_;refine oP (zWs elt_38 rfl rfl rfl) ?_;refine zP ?_;obtain⟨v3,pu,h⟩:=bd h;refine oP (zSP (f:=I) (z:=0) elt_38 U0 (rfl) pu rfl rfl rfl) ?_;refine zP ?_;refine oP (zLJ Lb rfl rfl) ?_;obtain⟨v4,mT,h⟩:=bd h;refine oP (zSS (f:=I) elt_38 mT rfl rfl (.inl rfl) rfl) ?_;refine xP ?_;refine RW.ghost (zI.tr 0 25 _ rfl rfl (zE (zJ (Enc.clean (f:=I)))) rfl) ?_;refine rN (sR (zP ?_));refine xP ?_;refine RW.ghost (zI.tr 4 0 _ rfl rfl (zE (zJ (Enc.clean (f:=I)))) rfl) ?_;refine rN (CW.ret ?_);obtain rfl:=sI h;exact rT
  ·refine CW.skip (nA (sR (zP ?_)))
   refine xP ?_;refine rN (CW.ghost (zI.nil 4 1 rfl) ?_);refine CW.ret ?_;obtain rfl:=sI h;exact rT
instance t_aY:FI J1 140 (∀(a:Int),FnK J1 140 [T.lit (.slice Wv 0 0),I a] (fun r=>[lV r]) (fun _=>[]) (zVr a)):=⟨Tryz.call140,fun a=>FnK.mk (yEd a)⟩
section
attribute [local irreducible] RW CW DK OkL Ok yX xC wK wY XS.post rng vP vL ixO zT yR wN yO zF GTo zI FnC FnK vB uC Kp Lk BsL BuL RpL Bk Lc
instance t_aJ:FI J1 100 (∀(a b:Int),FnK J1 100 [I a,I b] (fun r=>[I r]) (fun _=>[]) (zLg a b)):=⟨Tryz.call100,fun a b=>iM Tryz.func100⟩
end
theorem u_A(x0:List Int)(r:(List Int))(h:f_A x0=Wu r):FnC J1 107 [T.ro (lV x0)] [lV r] []:=by
 refine fB Tryz.func107 (fun St W w0 v=>?_);refine sR (oP (zAn 1 rfl) ?_);refine rN (CW.seq (sR (zP ?_)));refine RW.isnil Lb (uB rfl rfl) (.inl rfl) rfl rfl (fun b1 uv=>?_);refine rN (CW.cond _ rfl (fun hc=>?_) (fun hc=>?_));have hx:=uv hc;subst hx;have h:Wu ([])=Wu r:=by simpa[yR,f_A]using h
 refine sR (oP (zAn 1 rfl) ?_);refine rN (CW.ret (rA ?_));obtain rfl:=sI h;exact rT;refine CW.skip (nA (sR (oP (zSO elt_38 rfl) ?_)));refine zP ?_;obtain⟨v2,eU,h⟩:=bd h;refine oP (zDR (f:=I) (g:=I) elt_38 (fun _=>rfl) (fun _=>rfl) inferInstance eU rfl (uB rfl rfl) rfl) ?_;refine xP ?_;refine RW.ghost (zI.tr 2 7 _ rfl rfl (zE (zJ (Enc.clean (f:=I)))) rfl) ?_;refine rN (CW.ret ?_);obtain rfl:=sI h;exact rT
instance t_A:FI J1 107 (∀(a:List Int),FnK J1 107 [T.ro (lV a)] (fun r=>[lV r]) (fun _=>[]) (f_A a)):=⟨Tryz.call107,fun a=>FnK.mk (u_A a)⟩
section
attribute [local irreducible] RW CW DK OkL Ok yX xC wK wY XS.post rng vP vL ixO zT yR wN yO zF GTo zI FnC FnK vB uC Kp Lk BsL BuL RpL Bk Lc
instance(g_c:SPr->(List Int)->Int->Option (List Int))(b:SPr)(c:(List Int)×Int)(d:Int):LH (R:=(List Int)) (zVi g_c b c d) [0,6,8,9,10,15] [] (fun a=>[(1,L 1 I a.1),(16,I a.2)]) (.xe 2 [6,15] fun e=>[(1,L 1 I e)]):=⟨⟩
instance(g_c:SPr->(List Int)->Int->Option (List Int))(b:SPr)(c:List Int):LH (R:=(List Int)) (zVj g_c b c) [0,8,9] [] (fun a=>[(1,L 1 I a.1),(10,I a.2)]) (.xe 0 [0,8,9] fun d=>[(1,L 1 I d)]):=⟨⟩
theorem yEe{g_c:SPr->(List Int)->Int->Option (List Int)}[FI J1 146 (∀(x0:SPr)(x1:List Int)(x2:Int),FnK J1 146 [T.ro ((Pt yM) x0),L 1 I x1,I x2] (fun _:(List Int)=>[]) (fun r=>[(1,lV r)]) (g_c x0 x1 x2))]:∀(x0:SPr)(x1:List Int)(x2:List Int),FnK J1 99 [T.ro ((Pt yM) x0),L 1 I x1,T.ro (lV x2)] (fun _:(List Int)=>[]) (fun r=>[(1,lV r)]) (b_b g_c x0 x1 x2):=fun x0 x1 x2=>iM Tryz.func99
theorem yEf{g_c:SPr->(List Int)->Int->Option (List Int)}(H_c:∀(x0:SPr)(x1:List Int)(x2:Int) r,g_c x0 x1 x2=Wu r->FnC J1 146 [T.ro ((Pt yM) x0),L 1 I x1,I x2] [] [(1,lV r)])(x0:SPr)(x1:List Int)(x2:List Int)(r:(List Int))(h:b_b g_c x0 x1 x2=Wu r):FnC J1 99 [T.ro ((Pt yM) x0),L 1 I x1,T.ro (lV x2)] [] [(1,lV r)]:=by have:FI J1 146 (∀(x0:SPr)(x1:List Int)(x2:Int),FnK J1 146 [T.ro ((Pt yM) x0),L 1 I x1,I x2] (fun _:(List Int)=>[]) (fun r=>[(1,lV r)]) (g_c x0 x1 x2)):=⟨Tryz.call146,fun x0 x1 x2=>FnK.mk (H_c x0 x1 x2)⟩;exact(yEe x0 x1 x2).go h
instance(a:List Int):LH (R:=Int) (zNf a) [0,5,6] [] (fun b=>[(7,I b)]) (.xs (.xe 0 [5,6] fun _=>[]) .xr):=⟨⟩
instance t_ae:FI J1 149 (∀(a:List Int),FnK J1 149 [T.ro (lV a)] (fun r=>[I r]) (fun _=>[]) (zO8 a)):=⟨Tryz.call149,fun a=>iM Tryz.func149⟩
instance t_aO:FI J1 71 (∀(a:SPr),FnK J1 71 [qPr a] (fun r=>[lV r]) (fun _=>[]) (zLh a)):=⟨Tryz.call71,fun a=>iM Tryz.func71⟩
instance:HS Tryz.f156.8 [(2,3,0,.tr 8 15)]:=⟨⟩
instance(g_a:SPr->Int->(List Int)->(List Int)->Option (List Int))(c:SPr)(d:Int)(e:List Int)(f:(List Int)×Int):LH (R:=(List Int)) (zVd g_a c d e f) [1,2,3,7,9] [] (fun b=>[(8,L 1 I b.1),(10,I b.2)]) (.xe 2 [] fun a=>[(8,L 1 I a)]):=⟨⟩
instance(g_a:SPr->Int->(List Int)->(List Int)->Option (List Int))(c:SPr)(d:Int)(e:List Int):LH (R:=(List Int)) (zVe g_a c d e) [1,2,3,7] [] (fun b=>[(8,L 1 I b.1),(9,I b.2)]) (.xe 0 [1,2,3,7] fun a=>[(8,L 1 I a)]):=⟨⟩
theorem yEg{g_a:SPr->Int->(List Int)->(List Int)->Option (List Int)}[FI J1 126 (∀(x0:SPr)(x1:Int)(x2:List Int)(x3:List Int),FnK J1 126 [qPr x0,I x1,T.ro (lV x2),T.ro (lV x3)] (fun r:(List Int)=>[lV r]) (fun _=>[]) (g_a x0 x1 x2 x3))]:∀(x0:SPr)(x1:Int)(x2:List Int),FnK J1 156 [qPr x0,I x1,T.ro (lV x2)] (fun r:(List Int)=>[lV r]) (fun _=>[]) (b_h g_a x0 x1 x2):=fun x0 x1 x2=>iM Tryz.func156
theorem yEh{g_a:SPr->Int->(List Int)->(List Int)->Option (List Int)}(H_a:∀(x0:SPr)(x1:Int)(x2:List Int)(x3:List Int) r,g_a x0 x1 x2 x3=Wu r->FnC J1 126 [qPr x0,I x1,T.ro (lV x2),T.ro (lV x3)] [lV r] [])(x0:SPr)(x1:Int)(x2:List Int)(r:(List Int))(h:b_h g_a x0 x1 x2=Wu r):FnC J1 156 [qPr x0,I x1,T.ro (lV x2)] [lV r] []:=by have:FI J1 126 (∀(x0:SPr)(x1:Int)(x2:List Int)(x3:List Int),FnK J1 126 [qPr x0,I x1,T.ro (lV x2),T.ro (lV x3)] (fun r:(List Int)=>[lV r]) (fun _=>[]) (g_a x0 x1 x2 x3)):=⟨Tryz.call126,fun x0 x1 x2 x3=>FnK.mk (H_a x0 x1 x2 x3)⟩;exact(yEg x0 x1 x2).go h
instance t_bb:FI J1 153 (∀(a b:Int),FnK J1 153 [I a,I b] (fun r=>[I r]) (fun _=>[]) (zV4 a b)):=⟨Tryz.call153,fun a b=>iM Tryz.func153⟩
end
end Go.Wk
