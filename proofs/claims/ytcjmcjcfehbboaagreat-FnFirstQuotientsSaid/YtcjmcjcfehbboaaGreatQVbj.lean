/- x -/
import Derived.Test.YtcjmcjcfehbboaaGreatQVaf
import Derived.Test.YtcjmcjcfehbboaaGreatQWT
import Derived.Test.YtcjmcjcfehbboaaGreatQVag
open Go.Proofs.Tryz renaming prog→J0
open Option renaming some→jq,none→jr
open Bool renaming true→js,false→jt
namespace Go.Wk
open Go Go.Proofs Go.Ab
set_option maxRecDepth 100000
set_option maxHeartbeats 4000000
section
attribute [local irreducible] RW CW DK OkL Ok yL yM xQ wE XS.post rng wF xN ixO zQ yC xR yH zC GTo zE FnC FnK wJ wS Kp Lk BsL BuL RpL Bk Lc
instance(a b:List Int):LH (R:=Bool) (zWU a b) [0,1] [] (fun c=>[(5,I c)]) (.xs (.xe 0 [0,1] fun _=>[]) .xr):=⟨⟩
instance t_bI:FI J0 35 (∀(a b:List Int),FnK J0 35 [T.ro (lV a),T.ro (lV b)] (fun r=>[B r]) (fun _=>[]) (zY8 a b)):=⟨Tryz.call35,fun a b=>iM Tryz.func35⟩
instance(a:List Int)(b:Int):LH (R:=Bool) (zO5 a b) [1,13,14] [] (fun c=>[(15,I c)]) (.xs (.xe 0 [1,13,14] fun _=>[]) .xr):=⟨⟩
instance t_a5:FI J0 76 (∀(a:List Int)(b c:Int),FnK J0 76 [T.ro (lV a),I b,I c] (fun r=>[B r]) (fun _=>[]) (zUY a b c)):=⟨Tryz.call76,fun a b c=>iM Tryz.func76⟩
end
end Go.Wk

namespace Go.Wk
open Go Go.Proofs Go.Ab
set_option maxRecDepth 100000
set_option maxHeartbeats 4000000
section
attribute [local irreducible] RW CW DK OkL Ok yL yM xQ wE XS.post rng wF xN ixO zQ yC xR yH zC GTo zE FnC FnK wJ wS Kp Lk BsL BuL RpL Bk Lc
instance(a:List (List Int))(b:List (List Int)):LH (R:=Bool) (zLO a b) [0,1] [] (fun c=>[(5,I c)]) (.xs (.xe 0 [0,1] fun _=>[]) .xr):=⟨⟩
instance t_a3:FI J0 9 (∀(a:List (List Int))(b:List (List Int)),FnK J0 9 [T.ro (lM a),T.ro (lM b)] (fun r=>[B r]) (fun _=>[]) (zWc a b)):=⟨Tryz.call9,fun a b=>iM Tryz.func9⟩
instance(a:zN):LH (R:=Bool) (zLy a) [1,22,23] [] (fun b=>[(24,I b)]) (.xs (.xe 0 [1,22,23] fun _=>[]) .xr):=⟨⟩
instance t_aP:FI J0 37 (∀(a:zN),FnK J0 37 [zAR a] (fun r=>[B r]) (fun _=>[]) (zUZ a)):=⟨Tryz.call37,fun a=>iM Tryz.func37⟩
end
end Go.Wk
