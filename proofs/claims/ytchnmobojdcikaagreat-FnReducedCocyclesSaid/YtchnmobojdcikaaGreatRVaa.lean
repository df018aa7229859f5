/- x -/
import Derived.Test.YtchnmobojdcikaaGreatRWT
open Go.Proofs.Tryz renaming prog->J0
open Option renaming some->iW,none->iY
open Bool renaming true->iZ,false->ja
namespace Go.Wk
open Go Go.Proofs Go.Ab
set_option maxRecDepth 100000
set_option maxHeartbeats 4000000
section
attribute [local irreducible] RW CW DK OkL Ok yB yI xF xQ XS.post rng xV xC ixO zL yE yT yD zH GTo zR FnC FnK wA wN Kp Lk BsL BuL RpL Bk Lc JQ AK
instance t_q:FI J0 121 (∀(a:List Int),FnK J0 121 [T.ro (lV a)] (fun r=>[lV r]) (fun _=>[]) (f_q a)):=⟨Tryz.call121,fun a=>iM Tryz.func121⟩
instance:HS Tryz.f168.8 [(2,2,0,.tr 5 7)]:=⟨⟩
instance t_aG:FI J0 168 (∀(a b:Int),FnK J0 168 [I a,I b] (fun r=>[lV r]) (fun _=>[]) (zJs a b)):=⟨Tryz.call168,fun a b=>iM Tryz.func168⟩
instance t_aP:FI J0 118 (∀(a b c:Int),FnK J0 118 [I a,I b,I c] (fun r=>[B r]) (fun _=>[]) (zJ7 a b c)):=⟨Tryz.call118,fun a b c=>iM Tryz.func118⟩
instance t_by:FI J0 199 (∀(a:Int),FnK J0 199 [I a] (fun r=>[B r]) (fun _=>[]) (zPf a)):=⟨Tryz.call199,fun a=>iM Tryz.func199⟩
instance:HS Tryz.f335.8 [(2,2,0,.tr 5 8),(0,26,0,.tr 20 5),(2,7,0,.tr 5 26),(0,34,0,.tr 29 5)]:=⟨⟩
instance(c:ByteArray)(d:Int):LH (R:=(List ByteArray)) (zWP c d) [0,1] [] (fun a=>[(5,L 1 Str a.1),(6,I a.2.1),(7,I a.2.2)]) (.xe 0 [1] fun b=>[(5,L 1 Str b.1),(6,I b.2)]):=⟨⟩
instance t_a1:FI J0 335 (∀(a:ByteArray)(b:Int),FnK J0 335 [Str a,(IK .u8) b] (fun r=>[(L 1 Str) r]) (fun _=>[]) (zSG a b)):=⟨Tryz.call335,fun a b=>iM Tryz.func335⟩
instance(b:List Int):LH (R:=Int) (zSm b) [0] [] (fun a=>[(3,I a.1),(4,I a.2)]) (.xe 0 [0] fun c=>[(3,I c)]):=⟨⟩
instance t_Y:FI J0 123 (∀(a:List Int),FnK J0 123 [T.ro (lV a)] (fun r=>[I r]) (fun _=>[]) (f_Y a)):=⟨Tryz.call123,fun a=>iM Tryz.func123⟩
instance:HS Tryz.f341.8 [(2,2,0,.tr 6 9)]:=⟨⟩
instance(c:List Int):LH (R:=(List Int)×Bool) (zWT c) [1] [] (fun b=>[(6,L 1 I b.1),(7,I b.2)]) (.xs (.xe 0 [1] fun a=>[(6,L 1 I a)]) .xr):=⟨⟩
instance t_bw:FI J0 341 (∀(a:Int)(b:List Int),FnK J0 341 [I a,T.ro (lV b)] (fun r:(List Int)×Bool=>[lV r.1,B r.2]) (fun _=>[]) (zYY a b)):=⟨Tryz.call341,fun a b=>iM Tryz.func341⟩
theorem yF0{g_k:Int->Option ByteArray}[FI J0 342 (∀(x0:Int),FnK J0 342 [I x0] (fun r:ByteArray=>[Str r]) (fun _=>[]) (g_k x0))]:∀(x0:Int),FnK J0 342 [I x0] (fun r:ByteArray=>[Str r]) (fun _=>[]) (b_k g_k x0):=fun x0=>iM Tryz.func342
theorem yF1{g_k:Int->Option ByteArray}(H_k:∀(x0:Int) r,g_k x0=iW r->FnC J0 342 [I x0] [Str r] [])(x0:Int)(r:ByteArray)(h:b_k g_k x0=iW r):FnC J0 342 [I x0] [Str r] []:=by have:FI J0 342 (∀(x0:Int),FnK J0 342 [I x0] (fun r:ByteArray=>[Str r]) (fun _=>[]) (g_k x0)):=⟨Tryz.call342,fun x0=>FnK.mk (H_k x0)⟩;exact(yF0 x0).go h
instance(a:List Int):LH (R:=Bool) (zWg a) [0] [] (fun b=>[(3,I b)]) (.xs (.xe 0 [0] fun _=>[]) .xr):=⟨⟩
instance t_am:FI J0 208 (∀(a:List Int),FnK J0 208 [T.ro (lV a)] (fun r=>[B r]) (fun _=>[]) (zJu a)):=⟨Tryz.call208,fun a=>iM Tryz.func208⟩
instance(a b:List Int):LH (R:=Bool) (zVq a b) [0,1] [] (fun c=>[(5,I c)]) (.xs (.xe 0 [0,1] fun _=>[]) .xr):=⟨⟩
instance t_aa:FI J0 231 (∀(a b:List Int),FnK J0 231 [T.ro (lV a),T.ro (lV b)] (fun r=>[B r]) (fun _=>[]) (zGU a b)):=⟨Tryz.call231,fun a b=>iM Tryz.func231⟩
instance:HS Tryz.f299.8 [(2,3,0,.tr 8 15)]:=⟨⟩
instance(g_a:SPr->Int->(List Int)->(List Int)->Option (List Int))(c:SPr)(d:Int)(e:List Int)(f:(List Int)×Int):LH (R:=(List Int)) (zVo g_a c d e f) [1,2,3,7,9] [] (fun b=>[(8,L 1 I b.1),(10,I b.2)]) (.xe 2 [] fun a=>[(8,L 1 I a)]):=⟨⟩
instance(g_a:SPr->Int->(List Int)->(List Int)->Option (List Int))(c:SPr)(d:Int)(e:List Int):LH (R:=(List Int)) (zVp g_a c d e) [1,2,3,7] [] (fun b=>[(8,L 1 I b.1),(9,I b.2)]) (.xe 0 [1,2,3,7] fun a=>[(8,L 1 I a)]):=⟨⟩
theorem yF2{g_a:SPr->Int->(List Int)->(List Int)->Option (List Int)}[FI J0 247 (∀(x0:SPr)(x1:Int)(x2:List Int)(x3:List Int),FnK J0 247 [qPr x0,I x1,T.ro (lV x2),T.ro (lV x3)] (fun r:(List Int)=>[lV r]) (fun _=>[]) (g_a x0 x1 x2 x3))]:∀(x0:SPr)(x1:Int)(x2:List Int),FnK J0 299 [qPr x0,I x1,T.ro (lV x2)] (fun r:(List Int)=>[lV r]) (fun _=>[]) (b_e g_a x0 x1 x2):=fun x0 x1 x2=>iM Tryz.func299
theorem yF3{g_a:SPr->Int->(List Int)->(List Int)->Option (List Int)}(H_a:∀(x0:SPr)(x1:Int)(x2:List Int)(x3:List Int) r,g_a x0 x1 x2 x3=iW r->FnC J0 247 [qPr x0,I x1,T.ro (lV x2),T.ro (lV x3)] [lV r] [])(x0:SPr)(x1:Int)(x2:List Int)(r:(List Int))(h:b_e g_a x0 x1 x2=iW r):FnC J0 299 [qPr x0,I x1,T.ro (lV x2)] [lV r] []:=by have:FI J0 247 (∀(x0:SPr)(x1:Int)(x2:List Int)(x3:List Int),FnK J0 247 [qPr x0,I x1,T.ro (lV x2),T.ro (lV x3)] (fun r:(List Int)=>[lV r]) (fun _=>[]) (g_a x0 x1 x2 x3)):=⟨Tryz.call247,fun x0 x1 x2 x3=>FnK.mk (H_a x0 x1 x2 x3)⟩;exact(yF2 x0 x1 x2).go h
instance:HS Tryz.f241.8 [(2,2,0,.tr 3 6),(2,6,0,.tr 5 13),(0,19,0,.tr 18 5),(0,20,0,.tr 17 3),(2,4,0,.tr 3 20)]:=⟨⟩
instance(b:Int):LH (R:=(List (List Int))) (zJt b) [0] [] (fun a=>[(3,L 1 lV a.1),(4,I a.2)]) (.xe 0 [0] fun c=>[(3,L 1 lV c)]):=⟨⟩
instance t_E:FI J0 241 (∀(a:Int),FnK J0 241 [I a] (fun r:(List (List Int))=>[lM r]) (fun _=>[]) (f_E a)):=⟨Tryz.call241,fun a=>iM Tryz.func241⟩
end
end Go.Wk
