/- x -/
import Derived.Test.YtchnmobojdcikaaGreatVaj
import Derived.Test.YtchnmobojdcikaaGreatVak
import Derived.Test.YtchnmobojdcikaaGreatVal
import Derived.Test.YtchnmobojdcikaaGreatWT
open Go.Proofs.Tryz renaming prog→J0,call84→Ue
open Option renaming some→dS,none→dT
open Bool renaming true→dU,false→dV
namespace Go.Wk
open Go Go.Proofs Go.Ab
set_option maxRecDepth 100000
set_option maxHeartbeats 4000000
section
attribute [local irreducible] RW CW DK OkL Ok zU zY yO yZ XS.post rng xC yL ixO zL zX yM zV zE GTo zK FnC FnK xJ xQ Kp Lk BsL BuL RpL Bk Lc JQ AK
instance(a:SPr):LH (R:=Int) (zM4 a) [0] [] (fun b=>[(3,I b)]) (.xe 0 [0] fun c=>[(3,I c)]):=⟨⟩
instance t_by:FI J0 202 (∀(a:SPr),FnK J0 202 [T.ro ((Pt xR) a)] (fun r=>[I r]) (fun _=>[]) (zZC a)):=⟨Tryz.call202,fun a=>iM Tryz.func202⟩
instance t_aP:FI J0 84 (∀(a:SPr),FnK J0 84 [qPr a] (fun r=>[B r]) (fun _=>[]) (zM5 a)):=⟨Ue,fun a=>iM Tryz.func84⟩
instance t_cx:FI J0 236 (∀(a:SPr),FnK J0 236 [T.ro ((Pt xR) a)] (fun r=>[I r]) (fun _=>[]) (zWy a)):=⟨Tryz.call236,fun a=>iM Tryz.func236⟩
instance(a:zB)(b:List (List Int)):LH (R:=Bool) (zPN a b) [0,7,8] [] (fun c=>[(9,I c)]) (.xs (.xe 0 [0,7,8] fun _=>[]) .xr):=⟨⟩
instance t_bQ:FI J0 237 (∀(a:zB)(b:List (List Int)),FnK J0 237 [T.ro ((Pt yX) a),T.ro (lM b)] (fun r=>[B r]) (fun _=>[]) (zZG a b)):=⟨Tryz.call237,fun a b=>iM Tryz.func237⟩
instance:HS Tryz.f187.8 [(0,23,0,.tr 14 5),(2,4,0,.tr 5 23)]:=⟨⟩
instance(b:List Int)(c:Int):LH (R:=(List (List Int))) (zML b c) [0,1] [] (fun a=>[(5,L 1 lV a.1),(6,I a.2)]) (.xe 0 [0,1] fun d=>[(5,L 1 lV d)]):=⟨⟩
instance t_aW:FI J0 187 (∀(a:List Int)(b:Int),FnK J0 187 [T.ro (lV a),I b] (fun r:(List (List Int))=>[lM r]) (fun _=>[]) (zQU a b)):=⟨Tryz.call187,fun a b=>iM Tryz.func187⟩
instance:HS Tryz.f255.8 [(2,6,0,.tr 6 19),(0,31,0,.tr 30 6),(0,32,0,.tr 29 3),(2,9,0,.tr 3 32)]:=⟨⟩
instance(b:List (List Int)):LH (R:=(List (List Int))) (zME b) [0,7,8] [] (fun a=>[(3,L 1 lV a.1),(9,I a.2)]) (.xe 0 [0,7,8] fun c=>[(3,L 1 lV c)]):=⟨⟩
instance t_aV:FI J0 255 (∀(a:List (List Int)),FnK J0 255 [T.ro (lM a)] (fun r:(List (List Int))=>[lM r]) (fun _=>[]) (zTZ a)):=⟨Tryz.call255,fun a=>iM Tryz.func255⟩
instance(a b:List Int):LH (R:=Bool) (yBV a b) [0,1] [] (fun c=>[(5,I c)]) (.xs (.xe 0 [0,1] fun _=>[]) .xr):=⟨⟩
instance t_R:FI J0 36 (∀(a b:List Int),FnK J0 36 [T.ro (lV a),T.ro (lV b)] (fun r=>[B r]) (fun _=>[]) (f_R a b)):=⟨Tryz.call36,fun a b=>iM Tryz.func36⟩
instance(a:List (List Int))(b:List (List Int)):LH (R:=Bool) (zUT a b) [0,1] [] (fun c=>[(5,I c)]) (.xs (.xe 0 [0,1] fun _=>[]) .xr):=⟨⟩
instance t_al:FI J0 21 (∀(a:List (List Int))(b:List (List Int)),FnK J0 21 [T.ro (lM a),T.ro (lM b)] (fun r=>[B r]) (fun _=>[]) (zG8 a b)):=⟨Tryz.call21,fun a b=>iM Tryz.func21⟩
instance t_bi:FI J0 138 (∀(a:SPr)(b:List Int),FnK J0 138 [qPr a,T.ro (lV b)] (fun r=>[B r]) (fun _=>[]) (zKI a b)):=⟨Tryz.call138,fun a b=>iM Tryz.func138⟩
instance t_bK:FI J0 35 (∀(a:SPr)(b:zB)(c d:List Int),FnK J0 35 [qPr a,xD b,T.ro (lV c),T.ro (lV d)] (fun r:(List Int)×Int=>[lV r.1,I r.2]) (fun _=>[]) (zKQ a b c d)):=⟨Tryz.call35,fun a b c d=>iM Tryz.func35⟩
instance(b:SPr):LH (R:=Int) (zUq b) [1] [] (fun a=>[(3,I a.1),(4,I a.2)]) (.xe 0 [1] fun c=>[(3,I c)]):=⟨⟩
instance t_aX:FI J0 141 (∀(a:SPr),FnK J0 141 [qPr a] (fun r=>[I r]) (fun _=>[]) (zNa a)):=⟨Tryz.call141,fun a=>iM Tryz.func141⟩
instance(a:SPr)(b:List (List Int)):LH (R:=Bool) (zFo a b) [0,12,13] [] (fun c=>[(14,I c)]) (.xs (.xe 0 [0,12,13] fun _=>[]) .xr):=⟨⟩
instance t_aM:FI J0 143 (∀(a:SPr)(b:List (List Int)),FnK J0 143 [T.ro ((Pt xR) a),T.ro (lM b)] (fun r=>[B r]) (fun _=>[]) (zZY a b)):=⟨Tryz.call143,fun a b=>iM Tryz.func143⟩
instance t_cq:FI J0 40 (∀(a:SPr)(b c:List Int),FnK J0 40 [qPr a,T.ro (lV b),T.ro (lV c)] (fun r:(List Int)×Int=>[lV r.1,I r.2]) (fun _=>[]) (zUX a b c)):=⟨Tryz.call40,fun a b c=>iM Tryz.func40⟩
instance t_cp:FI J0 44 (∀(a b:zJ),FnK J0 44 [uS a,uS b] (fun r=>[B r]) (fun _=>[]) (zUZ a b)):=⟨Tryz.call44,fun a b=>iM Tryz.func44⟩
instance:HS Tryz.f191.8 [(2,2,0,.tr 5 7),(0,35,0,.tr 15 5)]:=⟨⟩
instance(b:zB)(c:List Int):LH (R:=(List (List Int))) (zMP b c) [1,2] [] (fun a=>[(5,L 1 lV a.1),(6,I a.2)]) (.xe 0 [1,2] fun d=>[(5,L 1 lV d)]):=⟨⟩
instance t_aT:FI J0 191 (∀(a:zB)(b:List Int),FnK J0 191 [xD a,T.ro (lV b)] (fun r:(List (List Int))=>[lM r]) (fun _=>[]) (zQZ a b)):=⟨Tryz.call191,fun a b=>iM Tryz.func191⟩
instance:HS Tryz.f152.8 [(2,2,0,.tr 3 6),(2,3,0,.tr 4 9),(0,25,0,.tr 16 3)]:=⟨⟩
instance(b:zB)(c:(List (List Int))):LH (R:=(List (List Int))) (zMR b c) [1,4] [] (fun a=>[(3,L 1 lV a.1),(5,I a.2)]) (.xe 0 [1,4] fun d=>[(3,L 1 lV d)]):=⟨⟩
instance t_aU:FI J0 152 (∀(a:zB),FnK J0 152 [xD a] (fun r:(List (List Int))=>[lM r]) (fun _=>[]) (zRb a)):=⟨Tryz.call152,fun a=>iM Tryz.func152⟩
instance t_b2:FI J0 171 (∀(a:SPr)(b:zB)(c:List (List Int)),FnK J0 171 [T.ro ((Pt xR) a),T.ro ((Pt yX) b),T.ro (lM c)] (fun r=>[B r]) (fun _=>[]) (zOz a b c)):=⟨Tryz.call171,fun a b c=>iM Tryz.func171⟩
end
end Go.Wk
