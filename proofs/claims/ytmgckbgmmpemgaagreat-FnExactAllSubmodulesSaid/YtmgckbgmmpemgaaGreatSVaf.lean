/- x -/
import Derived.Test.YtmgckbgmmpemgaaGreatSVad
import Derived.Test.YtmgckbgmmpemgaaGreatSWT
open Go.Proofs.Tryz renaming prog→J0
open Option renaming some→VU,none→VV
open Bool renaming true→VW,false→VX
namespace Go.Wk
open Go Go.Proofs Go.Ab
set_option maxRecDepth 100000
set_option maxHeartbeats 4000000
section
attribute [local irreducible] RW CW DK OkL Ok yM yJ wN vO XS.post rng yQ vN ixO yG xC wV yW zI GTo zN FnC FnK vT uL Kp Lk BsL BuL RpL Bk Lc
instance(a b:List Int)(c:Int):LH (R:=Bool) (zNh a b c) [0,1,2] [] (fun d=>[(7,I d)]) (.xs (.xe 0 [0,1,2] fun _=>[]) .xr):=⟨⟩
instance t_as:FI J0 93 (∀(a b:List Int)(c:Int),FnK J0 93 [T.ro (lV a),T.ro (lV b),I c] (fun r=>[B r]) (fun _=>[]) (zPY a b c)):=⟨Tryz.call93,fun a b c=>iM Tryz.func93⟩
instance(a:Int)(b:List Int):LH (R:=Bool) (zQi a b) [0,2] [] (fun c=>[(7,I c)]) (.xs (.xe 0 [0,2] fun _=>[]) .xr):=⟨⟩
instance t_V:FI J0 95 (∀(a b:Int)(c:List Int),FnK J0 95 [I a,I b,T.ro (lV c)] (fun r=>[B r]) (fun _=>[]) (f_V a b c)):=⟨Tryz.call95,fun a b c=>iM Tryz.func95⟩
instance:HS Tryz.f67.8 [(2,2,0,.tr 9 11),(0,28,0,.tr 18 9),(2,4,0,.tr 9 28)]:=⟨⟩
instance(b:Int)(c:List (List Int))(d:List (List Int))(e:Int):LH (R:=(List (List Int))) (zKH b c d e) [0,1,2,3] [] (fun a=>[(9,L 1 lV a.1),(10,I a.2)]) (.xe 0 [0,1,2,3] fun f=>[(9,L 1 lV f)]):=⟨⟩
instance t_z:FI J0 67 (∀(a:Int)(b:List (List Int))(c:List (List Int))(d:Int),FnK J0 67 [I a,T.ro (lM b),T.ro (lM c),I d] (fun r:(List (List Int))=>[lM r]) (fun _=>[]) (f_z a b c d)):=⟨Tryz.call67,fun a b c d=>iM Tryz.func67⟩
instance(a:List (List Int))(b:List (List Int)):LH (R:=Bool) (zQo a b) [0,1] [] (fun c=>[(5,I c)]) (.xs (.xe 0 [0,1] fun _=>[]) .xr):=⟨⟩
instance t_W:FI J0 68 (∀(a:List (List Int))(b:List (List Int)),FnK J0 68 [T.ro (lM a),T.ro (lM b)] (fun r=>[B r]) (fun _=>[]) (f_W a b)):=⟨Tryz.call68,fun a b=>iM Tryz.func68⟩
instance:HS Tryz.f104.8 [(2,2,0,.tr 9 12)]:=⟨⟩
instance(b c:Int)(d:List Int):LH (R:=(List Int)) (zOc b c d) [0,2,3] [] (fun a=>[(9,L 1 I a.1),(10,I a.2)]) (.xe 0 [0,2,3] fun e=>[(9,L 1 I e)]):=⟨⟩
instance t_A:FI J0 104 (∀(a:Int)(b:List Int)(c:Int)(d:List Int),FnK J0 104 [I a,T.ro (lV b),I c,T.ro (lV d)] (fun r=>[lV r]) (fun _=>[]) (f_A a b c d)):=⟨Tryz.call104,fun a b c d=>iM Tryz.func104⟩
instance:HS Tryz.f74.8 [(2,2,0,.tr 3 5),(0,19,0,.tr 12 3),(2,4,0,.tr 3 19)]:=⟨⟩
instance(b:List (List Int)):LH (R:=(List (List Int))) (zKS b) [0] [] (fun a=>[(3,L 1 lV a.1),(4,I a.2)]) (.xe 0 [0] fun c=>[(3,L 1 lV c)]):=⟨⟩
instance t_aw:FI J0 74 (∀(a:List (List Int)),FnK J0 74 [T.ro (lM a)] (fun r:(List (List Int))=>[lM r]) (fun _=>[]) (zSt a)):=⟨Tryz.call74,fun a=>iM Tryz.func74⟩
instance(a:List Int):LH (R:=Int) (zKT a) [0,1,7] [] (fun b=>[(8,I b)]) (.xs (.xe 0 [0,1,7] fun _=>[]) .xr):=⟨⟩
instance t_ax:FI J0 120 (∀(a:List Int),FnK J0 120 [T.ro (lV a),T.lit (.func (.func 121) #[] #[])] (fun r=>[I r]) (fun _=>[]) (zSv a)):=⟨Tryz.call120,fun a=>iM Tryz.func120⟩
end
end Go.Wk
