/- x -/
import Derived.Test.YtimahceaenahkaaSWT
open Go.Proofs.Try renaming prog→J0,underlying22→Kx
open Option renaming some→df,none→dg
open Bool renaming true→dh,false→di
namespace Go.Wk
open Go Go.Proofs Go.Ab
set_option maxRecDepth 100000
set_option maxHeartbeats 4000000
section
attribute [local irreducible] RW CW DK OkL Ok zW yB yY xP XS.post rng wA wF ixO zS yQ xC yF zC GTo zF FnC FnK xU wM Kp BsL BuL RpL Bk Lc JQ AK
instance t_aH:FI J0 69 (∀(a b c:Int),FnK J0 69 [I a,I b,I c] (fun r=>[B r]) (fun _=>[]) (zOQ a b c)):=⟨Try.call69,fun a b c=>iM Try.func69⟩
instance(a b:List Int):LH (R:=Bool) (zQK a b) [0,1] [] (fun c=>[(5,I c)]) (.xs (.xe 0 [0,1] fun _=>[]) .xr):=⟨⟩
instance t_Y:FI J0 85 (∀(a b:List Int),FnK J0 85 [T.ro (lV a),T.ro (lV b)] (fun r=>[B r]) (fun _=>[]) (f_Y a b)):=⟨Try.call85,fun a b=>iM Try.func85⟩
instance t_aB:FI J0 87 (∀(a b c:Int),FnK J0 87 [I a,I b,I c] (fun r=>[B r]) (fun _=>[]) (zMV a b c)):=⟨Try.call87,fun a b c=>iM Try.func87⟩
end
theorem u_q(x0:List Int)(r:(List Int))(h:f_q x0=df r):FnC J0 64 [T.ro (lV x0)] [lV r] []:=by
 refine fB Try.func64 (fun St W w0 v=>?_);refine sR (oP (zBm 1 rfl) ?_);refine rN (CW.seq (sR (zZ ?_)));refine RW.isnil Kx (vP rfl rfl) (.inl rfl) rfl rfl (fun b1 aU=>?_);refine rN (CW.cond _ rfl (fun hc=>?_) (fun hc=>?_));have hx:=aU hc;subst hx;have h:df ([])=df r:=by simpa[yQ,f_q]using h
 refine sR (oP (zBm 1 rfl) ?_);refine rN (CW.ret (rA ?_));obtain rfl:=sI h;exact rT;refine CW.skip (nA (sR (oP (zKe elt_22 rfl) ?_)));refine zZ ?_;obtain⟨v2,eD,h⟩:=bd h;refine oP (zAK (f:=I) (g:=I) elt_22 (fun _=>rfl) (fun _=>rfl) inferInstance eD rfl (vP rfl rfl) rfl) ?_;refine xX ?_;refine RW.ghost (zF.tr 2 7 _ rfl rfl (zQ (yO (Enc.clean (f:=I)))) rfl) ?_;refine rN (CW.ret ?_);obtain rfl:=sI h;exact rT
instance t_q:FI J0 64 (∀(a:List Int),FnK J0 64 [T.ro (lV a)] (fun r=>[lV r]) (fun _=>[]) (f_q a)):=⟨Try.call64,fun a=>FnK.mk (u_q a)⟩
section
attribute [local irreducible] RW CW DK OkL Ok zW yB yY xP XS.post rng wA wF ixO zS yQ xC yF zC GTo zF FnC FnK xU wM Kp BsL BuL RpL Bk Lc JQ AK
instance(g_b:SPr→(List Int)→Int→Option (List Int))(b:SPr)(c:(List Int)×Int)(d:Int):LH (R:=(List Int)) (zLn g_b b c d) [0,6,8,9,10,15] [] (fun a=>[(1,L 1 I a.1),(16,I a.2)]) (.xe 2 [6,15] fun e=>[(1,L 1 I e)]):=⟨⟩
instance(g_b:SPr→(List Int)→Int→Option (List Int))(b:SPr)(c:List Int):LH (R:=(List Int)) (zLo g_b b c) [0,8,9] [] (fun a=>[(1,L 1 I a.1),(10,I a.2)]) (.xe 0 [0,8,9] fun d=>[(1,L 1 I d)]):=⟨⟩
theorem zR1{g_b:SPr→(List Int)→Int→Option (List Int)}[FI J0 89 (∀(x0:SPr)(x1:List Int)(x2:Int),FnK J0 89 [T.ro ((Pt wH) x0),L 1 I x1,I x2] (fun _:(List Int)=>[]) (fun r=>[(1,lV r)]) (g_b x0 x1 x2))]:∀(x0:SPr)(x1:List Int)(x2:List Int),FnK J0 81 [T.ro ((Pt wH) x0),L 1 I x1,T.ro (lV x2)] (fun _:(List Int)=>[]) (fun r=>[(1,lV r)]) (b_c g_b x0 x1 x2):=fun x0 x1 x2=>iM Try.func81
theorem zR2{g_b:SPr→(List Int)→Int→Option (List Int)}(H_b:∀(x0:SPr)(x1:List Int)(x2:Int) r,g_b x0 x1 x2=df r→FnC J0 89 [T.ro ((Pt wH) x0),L 1 I x1,I x2] [] [(1,lV r)])(x0:SPr)(x1:List Int)(x2:List Int)(r:(List Int))(h:b_c g_b x0 x1 x2=df r):FnC J0 81 [T.ro ((Pt wH) x0),L 1 I x1,T.ro (lV x2)] [] [(1,lV r)]:=by have:FI J0 89 (∀(x0:SPr)(x1:List Int)(x2:Int),FnK J0 89 [T.ro ((Pt wH) x0),L 1 I x1,I x2] (fun _:(List Int)=>[]) (fun r=>[(1,lV r)]) (g_b x0 x1 x2)):=⟨Try.call89,fun x0 x1 x2=>FnK.mk (H_b x0 x1 x2)⟩;exact(zR1 x0 x1 x2).go h
instance(a b:List Int):LH (R:=Bool) (zOY a b) [0,1,12] [] (fun c=>[(13,I c)]) (.xs (.xe 0 [0,1,12] fun _=>[]) .xr):=⟨⟩
instance t_I:FI J0 76 (∀(a b:List Int),FnK J0 76 [T.ro (lV a),T.ro (lV b)] (fun r=>[B r]) (fun _=>[]) (f_I a b)):=⟨Try.call76,fun a b=>iM Try.func76⟩
instance:HS Try.f65.8 [(2,2,0,.tr 5 7)]:=⟨⟩
instance t_ae:FI J0 65 (∀(a b:Int),FnK J0 65 [I a,I b] (fun r=>[lV r]) (fun _=>[]) (zGG a b)):=⟨Try.call65,fun a b=>iM Try.func65⟩
end
end Go.Wk
