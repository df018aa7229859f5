/- x -/
import Derived.Test.YtchnmobojdcikaaGreatQVad
import Derived.Test.YtchnmobojdcikaaGreatQWT
open Go.Proofs.Tryz renaming prog→J0
open Option renaming some→dq,none→dt
open Bool renaming true→du,false→dv
namespace Go.Wk
open Go Go.Proofs Go.Ab
set_option maxRecDepth 100000
set_option maxHeartbeats 4000000
section
attribute [local irreducible] RW CW DK OkL Ok zS zV yQ xI XS.post rng xL yO ixO zP zU yT zZ zG GTo zM FnC FnK xK xN Kp Lk BsL BuL RpL Bk Lc JQ AK
instance(a:List Int):LH (R:=Int) (zV3 a) [0,1,7] [] (fun b=>[(8,I b)]) (.xs (.xe 0 [0,1,7] fun _=>[]) .xr):=⟨⟩
instance t_bX:FJ J0 263 266 (∀(a:List Int),FnK J0 263 [T.ro (lV a),T.lit (.func (.func 266) #[] #[])] (fun r=>[I r]) (fun _=>[]) (yAa a)):=⟨Tryz.call263,fun a=>iM Tryz.func263⟩
instance(a:List (List Int))(b:List (List Int)):LH (R:=Bool) (zSy a b) [0,1] [] (fun c=>[(5,I c)]) (.xs (.xe 0 [0,1] fun _=>[]) .xr):=⟨⟩
instance t_bf:FI J0 21 (∀(a:List (List Int))(b:List (List Int)),FnK J0 21 [T.ro (lM a),T.ro (lM b)] (fun r=>[B r]) (fun _=>[]) (zSz a b)):=⟨Tryz.call21,fun a b=>iM Tryz.func21⟩
instance:HS Tryz.f166.8 [(2,2,0,.tr 3 7),(2,6,0,.tr 5 14),(0,30,0,.tr 21 5),(2,8,0,.tr 5 30),(0,33,0,.tr 32 5),(0,34,0,.tr 31 3),(2,4,0,.tr 3 34)]:=⟨⟩
instance(b:List (List Int))(c:(List (List Int))×Int):LH (R:=(List (List Int))) (zR5 b c) [0,3,4] [] (fun a=>[(5,L 1 I a.1),(6,I a.2)]) (.xe 2 [] fun d=>[(5,L 1 I d)]):=⟨⟩
instance(b:List (List Int)):LH (R:=(List (List Int))) (zKT b) [0] [] (fun a=>[(3,L 1 lV a.1),(4,I a.2)]) (.xe 0 [0] fun c=>[(3,L 1 lV c)]):=⟨⟩
instance t_ai:FI J0 166 (∀(a:List (List Int)),FnK J0 166 [T.ro (lM a)] (fun r:(List (List Int))=>[lM r]) (fun _=>[]) (zTZ a)):=⟨Tryz.call166,fun a=>iM Tryz.func166⟩
instance t_bR:FI J0 182 (∀(a:List Int)(b:Int),FnK J0 182 [T.ro (lV a),I b] (fun r=>[B r]) (fun _=>[]) (zUq a b)):=⟨Tryz.call182,fun a b=>iM Tryz.func182⟩
end
end Go.Wk
