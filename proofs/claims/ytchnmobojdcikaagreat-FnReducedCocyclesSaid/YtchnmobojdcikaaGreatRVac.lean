/- x -/
import Derived.Test.YtchnmobojdcikaaGreatRWT
open Go.Proofs.Tryz renaming prog->J0,underlying24->Lj,underlying3->G9,call114->Jb2
open Option renaming some->iW,none->iY
open Bool renaming true->iZ,false->ja
namespace Go.Wk
open Go Go.Proofs Go.Ab
set_option maxRecDepth 100000
set_option maxHeartbeats 4000000
section
attribute [local irreducible] RW CW DK OkL Ok yB yI xF xQ XS.post rng xV xC ixO zL yE yT yD zH GTo zR FnC FnK wA wN Kp Lk BsL BuL RpL Bk Lc JQ AK
instance(b:ByteArray):LH (R:=Int) (zWQ b) [0] [] (fun a=>[(3,I a.1),(4,I a.2)]) (.xs (.xe 0 [0] fun c=>[(3,I c)]) .xr):=⟨⟩
instance(c:ByteArray):LH (R:=Int) (zWR c) [0] [] (fun b=>[(3,I b.1),(4,I b.2)]) (.xs (.xe 0 [0] fun a=>[(3,I a)]) .xr):=⟨⟩
instance t_aF:FI J0 339 (∀(a:ByteArray),FnK J0 339 [Str a] (fun r=>[I r]) (fun _=>[]) (zYV a)):=⟨Tryz.call339,fun a=>iM Tryz.func339⟩
instance t_bc:FI J0 269 (∀(a:SPr),FnK J0 269 [qPr a] (fun r=>[I r]) (fun _=>[]) (zLK a)):=⟨Tryz.call269,fun a=>iM Tryz.func269⟩
instance t_bt:FI J0 321 (∀(a:zO),FnK J0 321 [xM a] (fun r=>[wF r]) (fun _=>[]) (zNV a)):=⟨Tryz.call321,fun a=>iM Tryz.func321⟩
instance t_cj:FI J0 303 (∀(a b c:Int),FnK J0 303 [I a,I b,I c] (fun r=>[I r]) (fun _=>[]) (yCi a b c)):=⟨Tryz.call303,fun a b c=>iM Tryz.func303⟩
instance t_bB:FI J0 326 (∀(a:zO)(b:Int),FnK J0 326 [xM a,I b] (fun r=>[(fun x=>T.agg [(Ro lV) x.x,(Ro lV) x.v]) r]) (fun _=>[]) (zP0 a b)):=⟨Tryz.call326,fun a b=>iM Tryz.func326⟩
instance(a:List Int):LH (R:=Int) (zJA a) [0] [] (fun b=>[(3,I b)]) (.xs (.xe 0 [] fun _=>[]) .xr):=⟨⟩
instance t_P:FI J0 250 (∀(a:List Int),FnK J0 250 [T.ro (lV a)] (fun r=>[I r]) (fun _=>[]) (f_P a)):=⟨Tryz.call250,fun a=>iM Tryz.func250⟩
instance t_a5:FI J0 114 (∀(a b c:Int),FnK J0 114 [I a,I b,I c] (fun r=>[B r]) (fun _=>[]) (zPm a b c)):=⟨Jb2,fun a b c=>iM Tryz.func114⟩
end
theorem u_O(x0:List Int)(r:(List Int))(h:f_O x0=iW r):FnC J0 227 [T.ro (lV x0)] [lV r] []:=by
 refine fB Tryz.func227 (fun St W w0 v=>?_);refine sR (oP (zJW 1 rfl) ?_);refine rN (CW.seq (sR (uI ?_)));refine RW.isnil Lj (zBN rfl rfl) (.inl rfl) rfl rfl (fun b1 iQ=>?_);refine rN (CW.cond _ rfl (fun hc=>?_) (fun hc=>?_));have hx:=iQ hc;subst hx;have h:iW ([])=iW r:=by simpa[yE,f_O]using h
 refine sR (oP (zJW 1 rfl) ?_);refine rN (CW.ret (rA ?_));obtain rfl:=sI h;exact rT;refine CW.skip (nA (sR (oP (zZL elt_24 rfl) ?_)));refine uI ?_;obtain⟨v2,pP,h⟩:=bd h;refine oP (zOv (f:=I) (g:=I) elt_24 (fun _=>rfl) (fun _=>rfl) inferInstance pP rfl (zBN rfl rfl) rfl) ?_;refine kV ?_;refine RW.ghost (zR.tr 2 7 _ rfl rfl (sH (tY (Enc.clean (f:=I)))) rfl) ?_;refine rN (CW.ret ?_);obtain rfl:=sI h;exact rT
instance t_O:FI J0 227 (∀(a:List Int),FnK J0 227 [T.ro (lV a)] (fun r=>[lV r]) (fun _=>[]) (f_O a)):=⟨Tryz.call227,fun a=>FnK.mk (u_O a)⟩
section
attribute [local irreducible] RW CW DK OkL Ok yB yI xF xQ XS.post rng xV xC ixO zL yE yT yD zH GTo zR FnC FnK wA wN Kp Lk BsL BuL RpL Bk Lc JQ AK
instance(g_b:SPr->(List Int)->Int->Option (List Int))(b:SPr)(c:(List Int)×Int)(d:Int):LH (R:=(List Int)) (zV6 g_b b c d) [0,6,8,9,10,15] [] (fun a=>[(1,L 1 I a.1),(16,I a.2)]) (.xe 2 [6,15] fun e=>[(1,L 1 I e)]):=⟨⟩
instance(g_b:SPr->(List Int)->Int->Option (List Int))(b:SPr)(c:List Int):LH (R:=(List Int)) (zV7 g_b b c) [0,8,9] [] (fun a=>[(1,L 1 I a.1),(10,I a.2)]) (.xe 0 [0,8,9] fun d=>[(1,L 1 I d)]):=⟨⟩
theorem yF4{g_b:SPr->(List Int)->Int->Option (List Int)}[FI J0 298 (∀(x0:SPr)(x1:List Int)(x2:Int),FnK J0 298 [T.ro ((Pt vQ) x0),L 1 I x1,I x2] (fun _:(List Int)=>[]) (fun r=>[(1,lV r)]) (g_b x0 x1 x2))]:∀(x0:SPr)(x1:List Int)(x2:List Int),FnK J0 246 [T.ro ((Pt vQ) x0),L 1 I x1,T.ro (lV x2)] (fun _:(List Int)=>[]) (fun r=>[(1,lV r)]) (b_d g_b x0 x1 x2):=fun x0 x1 x2=>iM Tryz.func246
theorem yF5{g_b:SPr->(List Int)->Int->Option (List Int)}(H_b:∀(x0:SPr)(x1:List Int)(x2:Int) r,g_b x0 x1 x2=iW r->FnC J0 298 [T.ro ((Pt vQ) x0),L 1 I x1,I x2] [] [(1,lV r)])(x0:SPr)(x1:List Int)(x2:List Int)(r:(List Int))(h:b_d g_b x0 x1 x2=iW r):FnC J0 246 [T.ro ((Pt vQ) x0),L 1 I x1,T.ro (lV x2)] [] [(1,lV r)]:=by have:FI J0 298 (∀(x0:SPr)(x1:List Int)(x2:Int),FnK J0 298 [T.ro ((Pt vQ) x0),L 1 I x1,I x2] (fun _:(List Int)=>[]) (fun r=>[(1,lV r)]) (g_b x0 x1 x2)):=⟨Tryz.call298,fun x0 x1 x2=>FnK.mk (H_b x0 x1 x2)⟩;exact(yF4 x0 x1 x2).go h
instance(a b:List Int):LH (R:=Bool) (zVB a b) [0,1,12] [] (fun c=>[(13,I c)]) (.xs (.xe 0 [0,1,12] fun _=>[]) .xr):=⟨⟩
instance t_au:FI J0 225 (∀(a b:List Int),FnK J0 225 [T.ro (lV a),T.ro (lV b)] (fun r=>[B r]) (fun _=>[]) (zLH a b)):=⟨Tryz.call225,fun a b=>iM Tryz.func225⟩
instance:HS Tryz.f226.8 [(2,2,0,.tr 5 7)]:=⟨⟩
instance t_a8:FI J0 226 (∀(a b:Int),FnK J0 226 [I a,I b] (fun r=>[lV r]) (fun _=>[]) (zLI a b)):=⟨Tryz.call226,fun a b=>iM Tryz.func226⟩
instance t_aH:FI J0 220 (∀(a b:Int),FnK J0 220 [I a,I b] (fun r=>[I r]) (fun _=>[]) (zJ8 a b)):=⟨Tryz.call220,fun a b=>iM Tryz.func220⟩
end
theorem yF6(x1:Int)(r:(List Int))(h:zVW x1=iW r):FnC J0 219 [T.lit (.slice iY 0 0),I x1] [lV r] []:=by
 refine fB Tryz.func219 (fun St W w0 v=>?_);refine sR (oP (zJW 1 rfl) ?_);refine rN (CW.seq (sR (uI ?_)));refine zHh ?_;refine rN (cn h (fun hc h=>?_) (fun hc h=>?_))
 ·refine CW.region ?_
  cases h
 ·refine CW.skip (nA (CW.seq (sR (uI ?_))))
  refine uI ?_;refine oP (zM2 Lj rfl rfl) ?_;refine uI ?_;refine oP (zM1 Lj rfl rfl) ?_;obtain⟨v1,hv1,h⟩:=bd h;refine zZQ ?_;obtain⟨v2,pP,h⟩:=bd h;refine zZQ ?_;refine kV ?_;refine rN (sR (uI ?_));refine yCW ?_;refine rN (cn h (fun hc h=>?_) (fun hc h=>?_))
  ·refine CW.region (uI ?_)
   refine uI ?_;refine oP (zM2 Lj rfl rfl) ?_;refine oP (zX8 elt_24 rfl rfl rfl) ?_;refine uI ?_;obtain⟨v3,me,h⟩:=bd h;refine oP (zOw (f:=I) (z:=0) elt_24 G9 (rfl) me rfl rfl rfl) ?_;refine uI ?_;refine oP (zM1 Lj rfl rfl) ?_;obtain⟨v4,bx,h⟩:=bd h;refine oP (zZM (f:=I) elt_24 bx rfl rfl (.inl rfl) rfl) ?_;refine kV ?_;refine RW.ghost (zR.tr 0 25 _ rfl rfl (sH (tY (Enc.clean (f:=I)))) rfl) ?_;refine rN (sR (uI ?_));refine kV ?_;refine RW.ghost (zR.tr 4 0 _ rfl rfl (sH (tY (Enc.clean (f:=I)))) rfl) ?_;refine rN (CW.ret ?_);obtain rfl:=sI h;exact rT
  ·refine CW.skip (nA (sR (uI ?_)))
   refine kV ?_;refine rN (CW.ghost (zR.nil 4 1 rfl) ?_);refine CW.ret ?_;obtain rfl:=sI h;exact rT
instance t_bA:FI J0 219 (∀(a:Int),FnK J0 219 [T.lit (.slice iY 0 0),I a] (fun r=>[lV r]) (fun _=>[]) (zVW a)):=⟨Tryz.call219,fun a=>FnK.mk (yF6 a)⟩
end Go.Wk
