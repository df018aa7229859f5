/- x -/
import Derived.Test.YtcjmcjcfehbboaaGreatQVad
import Derived.Test.YtcjmcjcfehbboaaGreatQWT
open Go.Proofs.Tryz renaming prog→J0,call21→Us
open Option renaming some→jq,none→jr
open Bool renaming true→js,false→jt
namespace Go.Wk
open Go Go.Proofs Go.Ab
set_option maxRecDepth 100000
set_option maxHeartbeats 4000000
section
attribute [local irreducible] RW CW DK OkL Ok yL yM xQ wE XS.post rng wF xN ixO zQ yC xR yH zC GTo zE FnC FnK wJ wS Kp Lk BsL BuL RpL Bk Lc
instance t_R:FI J0 21 (∀(a:zM)(b:List Int),FnK J0 21 [T.ptr (zW a),T.ro (lV b)] (fun r=>[I r.1]) (fun r=>[(0,(Pt (fun x=>T.agg [(Ro (L 1 (IK .u8))) x.code,I x.at_,I x.seed])) r.2)]) (f_R a b)):=⟨Us,fun a b=>iM Tryz.func21⟩
instance:HS Tryz.f133.8 [(2,2,0,.tr 3 5),(0,20,0,.tr 13 3),(2,4,0,.tr 3 20)]:=⟨⟩
instance(b:List Int):LH (R:=(List Int)) (zTd b) [0] [] (fun a=>[(3,L 1 I a.1),(4,I a.2)]) (.xe 0 [0] fun c=>[(3,L 1 I c)]):=⟨⟩
instance t_aL:FI J0 133 (∀(a:List Int),FnK J0 133 [T.ro (lV a)] (fun r=>[lV r]) (fun _=>[]) (zNk a)):=⟨Tryz.call133,fun a=>iM Tryz.func133⟩
instance t_bE:FI J0 172 (∀(a b:Int),FnK J0 172 [(IK .u64) a,(IK .u64) b] (fun r=>[(IK .u64) r.1,(IK .u64) r.2]) (fun _=>[]) (zS5 a b)):=⟨Tryz.call172,fun a b=>iM Tryz.func172⟩
instance(b:List Int)(c:Int)(a:List Int):LH (R:=Bool) (zWQ b c a) [1,2,49,50] [] (fun d=>[(51,I d)]) (.xs (.xe 0 [1,2,49,50] fun _=>[]) .xr):=⟨⟩
instance(a:List Int)(b:Int)(c:List Int):LH (R:=Bool) (zWR a b c) [1,2,49,50] [] (fun d=>[(51,I d)]) (.xs (.xe 0 [1,2,49,50] fun _=>[]) .xr):=⟨⟩
instance t_bp:FI J0 179 (∀(a:SPr)(b:List Int)(c:Int),FnK J0 179 [T.ro ((Pt yI) a),T.ro (lV b),I c] (fun r=>[B r]) (fun _=>[]) (yAP a b c)):=⟨Tryz.call179,fun a b c=>iM Tryz.func179⟩
instance:HS Tryz.f171.8 [(2,6,0,.tr 6 19),(0,31,0,.tr 30 6),(0,32,0,.tr 29 3),(2,9,0,.tr 3 32)]:=⟨⟩
instance(b:List (List Int)):LH (R:=(List (List Int))) (zLz b) [0,7,8] [] (fun a=>[(3,L 1 lV a.1),(9,I a.2)]) (.xe 0 [0,7,8] fun c=>[(3,L 1 lV c)]):=⟨⟩
instance t_aQ:FI J0 171 (∀(a:List (List Int)),FnK J0 171 [T.ro (lM a)] (fun r:(List (List Int))=>[lM r]) (fun _=>[]) (zVc a)):=⟨Tryz.call171,fun a=>iM Tryz.func171⟩
instance t_b6:FI J0 157 (∀(a:Int),FnK J0 157 [I a] (fun r=>[B r]) (fun _=>[]) (zWd a)):=⟨Tryz.call157,fun a=>iM Tryz.func157⟩
end
end Go.Wk
