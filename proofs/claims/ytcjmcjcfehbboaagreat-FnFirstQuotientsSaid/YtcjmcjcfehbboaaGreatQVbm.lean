/- x -/
import Derived.Test.YtcjmcjcfehbboaaGreatQVad
import Derived.Test.YtcjmcjcfehbboaaGreatQVaf
import Derived.Test.YtcjmcjcfehbboaaGreatQVbe
import Derived.Test.YtcjmcjcfehbboaaGreatQVbk
import Derived.Test.YtcjmcjcfehbboaaGreatQWT
open Go.Proofs.Tryz renaming prog→J0
open Option renaming some→jq,none→jr
open Bool renaming true→js,false→jt
namespace Go.Wk
open Go Go.Proofs Go.Ab
set_option maxRecDepth 100000
set_option maxHeartbeats 4000000
section
attribute [local irreducible] RW CW DK OkL Ok yL yM xQ wE XS.post rng wF xN ixO zQ yC xR yH zC GTo zE FnC FnK wJ wS Kp Lk BsL BuL RpL Bk Lc
instance:HS Tryz.f47.8 [(2,3,0,.tr 6 11),(0,16,0,.tr 15 6)]:=⟨⟩
instance t_bR:FI J0 47 (∀(a:SPr)(b:Int),FnK J0 47 [T.ro ((Pt yI) a),I b] (fun r:(List (List Int))=>[lM r]) (fun _=>[]) (zVT a b)):=⟨Tryz.call47,fun a b=>iM Tryz.func47⟩
end
end Go.Wk
