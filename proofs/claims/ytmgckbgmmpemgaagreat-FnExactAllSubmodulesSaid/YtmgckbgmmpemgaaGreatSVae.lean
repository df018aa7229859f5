/- x -/
import Derived.Test.YtmgckbgmmpemgaaGreatSVac
import Derived.Test.YtmgckbgmmpemgaaGreatSVad
import Derived.Test.YtmgckbgmmpemgaaGreatSWT
open Go.Proofs.Tryz renaming prog→J0
open Option renaming some→VU,none→VV
open Bool renaming true→VW,false→VX
namespace Go.Wk
open Go Go.Proofs Go.Ab
set_option maxRecDepth 100000
set_option maxHeartbeats 4000000
section
attribute [local irreducible] RW CW DK OkL Ok yM yJ wN vO XS.post rng yQ vN ixO yG xC wV yW zI GTo zN FnC FnK vT uL Kp Lk BsL BuL RpL Bk Lc
instance:HS Tryz.f139.8 [(2,5,0,.tr 10 25),(2,5,1,.tr 11 27),(2,9,0,.tr 10 45),(2,12,0,.tr 13 51),(2,16,0,.tr 13 84),(2,17,0,.tr 15 86)]:=⟨⟩
instance(g_g:SPr→Int→(List Int)→Option (List Int))(b:SPr)(c:Int)(d:List Int):LH (R:=(List Int)) (zRW g_g b c d) [1,2,3,4,11] [] (fun a=>[(10,L 1 I a.1),(12,I a.2)]) (.xe 0 [] fun e=>[(10,L 1 I e)]):=⟨⟩
theorem zXl{g_g:SPr→Int→(List Int)→Option (List Int)}[FI J0 138 (∀(x0:SPr)(x1:Int)(x2:List Int),FnK J0 138 [qPr x0,I x1,T.ro (lV x2)] (fun r:(List Int)=>[lV r]) (fun _=>[]) (g_g x0 x1 x2))]{g_c:SPr→Int→(List Int)→(List Int)→Option (List Int)}[FI J0 139 (∀(x0:SPr)(x1:Int)(x2:List Int)(x3:List Int),FnK J0 139 [qPr x0,I x1,T.ro (lV x2),T.ro (lV x3)] (fun r:(List Int)=>[lV r]) (fun _=>[]) (g_c x0 x1 x2 x3))]:∀(x0:SPr)(x1:Int)(x2:List Int)(x3:List Int),FnK J0 139 [qPr x0,I x1,T.ro (lV x2),T.ro (lV x3)] (fun r:(List Int)=>[lV r]) (fun _=>[]) (b_c g_g g_c x0 x1 x2 x3):=fun x0 x1 x2 x3=>iM Tryz.func139
theorem zXm{g_g:SPr→Int→(List Int)→Option (List Int)}(H_g:∀(x0:SPr)(x1:Int)(x2:List Int) r,g_g x0 x1 x2=VU r→FnC J0 138 [qPr x0,I x1,T.ro (lV x2)] [lV r] []){g_c:SPr→Int→(List Int)→(List Int)→Option (List Int)}(H_c:∀(x0:SPr)(x1:Int)(x2:List Int)(x3:List Int) r,g_c x0 x1 x2 x3=VU r→FnC J0 139 [qPr x0,I x1,T.ro (lV x2),T.ro (lV x3)] [lV r] [])(x0:SPr)(x1:Int)(x2:List Int)(x3:List Int)(r:(List Int))(h:b_c g_g g_c x0 x1 x2 x3=VU r):FnC J0 139 [qPr x0,I x1,T.ro (lV x2),T.ro (lV x3)] [lV r] []:=by have:FI J0 138 (∀(x0:SPr)(x1:Int)(x2:List Int),FnK J0 138 [qPr x0,I x1,T.ro (lV x2)] (fun r:(List Int)=>[lV r]) (fun _=>[]) (g_g x0 x1 x2)):=⟨Tryz.call138,fun x0 x1 x2=>FnK.mk (H_g x0 x1 x2)⟩;have:FI J0 139 (∀(x0:SPr)(x1:Int)(x2:List Int)(x3:List Int),FnK J0 139 [qPr x0,I x1,T.ro (lV x2),T.ro (lV x3)] (fun r:(List Int)=>[lV r]) (fun _=>[]) (g_c x0 x1 x2 x3)):=⟨Tryz.call139,fun x0 x1 x2 x3=>FnK.mk (H_c x0 x1 x2 x3)⟩;exact(zXl x0 x1 x2 x3).go h
instance(a b:Int):LH (R:=Int) (zOd a b) [0,1] [] (fun c=>[(5,I c)]) (.xs (.xe 0 [0,1] fun _=>[]) .xr):=⟨⟩
instance t_X:FI J0 103 (∀(a b:Int),FnK J0 103 [I a,I b] (fun r=>[I r]) (fun _=>[]) (f_X a b)):=⟨Tryz.call103,fun a b=>iM Tryz.func103⟩
instance(a:SPr)(b:List Int):LH (R:=Bool) (zNk a b) [0,15,16] [] (fun c=>[(17,I c)]) (.xs (.xe 0 [0,15,16] fun _=>[]) .xr):=⟨⟩
instance t_aG:FI J0 125 (∀(a:SPr)(b:List Int),FnK J0 125 [T.ro ((Pt uT) a),T.ro (lV b)] (fun r=>[B r]) (fun _=>[]) (zSc a b)):=⟨Tryz.call125,fun a b=>iM Tryz.func125⟩
instance(a:List Int)(b:Int):LH (R:=Bool) (zNl a b) [1,13,14] [] (fun c=>[(15,I c)]) (.xs (.xe 0 [1,13,14] fun _=>[]) .xr):=⟨⟩
instance t_aL:FI J0 77 (∀(a:List Int)(b c:Int),FnK J0 77 [T.ro (lV a),I b,I c] (fun r=>[B r]) (fun _=>[]) (zSf a b c)):=⟨Tryz.call77,fun a b c=>iM Tryz.func77⟩
instance(b c:List Int)(d e:Int):LH (R:=(List Int)) (zKM b c d e) [1,2,3,10] [] (fun a=>[(0,L 1 I a.1),(11,I a.2)]) (.xe 0 [1,2,3,10] fun f=>[(0,L 1 I f)]):=⟨⟩
instance t_F:FI J0 91 (∀(a b:List Int)(c d:Int),FnK J0 91 [L 1 I a,T.ro (lV b),I c,I d] (fun _:(List Int)=>[]) (fun r=>[(0,lV r)]) (f_F a b c d)):=⟨Tryz.call91,fun a b c d=>iM Tryz.func91⟩
instance(a:List (List Int))(b:List (List Int)):LH (R:=Bool) (zQH a b) [1,2,15,16] [] (fun c=>[(17,I c)]) (.xs (.xe 0 [1,2,15,16] fun _=>[]) .xr):=⟨⟩
instance t_a0:FI J0 80 (∀(a:List (List Int))(b:List (List Int)),FnK J0 80 [T.ro (lM a),T.ro (lM b),T.lit (.func (.func 81) #[] #[])] (fun r=>[B r]) (fun _=>[]) (zUU a b)):=⟨Tryz.call80,fun a b=>iM Tryz.func80⟩
end
end Go.Wk
