/- x -/
import Derived.Test.YtcjmcjcfehbboaaGreatQVaa
import Derived.Test.YtcjmcjcfehbboaaGreatQVah
import Derived.Test.YtcjmcjcfehbboaaGreatQVal
import Derived.Test.YtcjmcjcfehbboaaGreatQWT
open Go.Proofs.Tryz renaming prog→J0
open Option renaming some→jq,none→jr
open Bool renaming true→js,false→jt
namespace Go.Wk
open Go Go.Proofs Go.Ab
set_option maxRecDepth 100000
set_option maxHeartbeats 4000000
section
attribute [local irreducible] RW CW DK OkL Ok yL yM xQ wE XS.post rng wF xN ixO zQ yC xR yH zC GTo zE FnC FnK wJ wS Kp Lk BsL BuL RpL Bk Lc
instance:HS Tryz.f187.8 [(2,3,0,.tr 7 19),(2,6,0,.trq 8 50 [0]),(2,9,0,.trq 10 59 [0]),(1,103,0,.tr 102 10),(1,4,0,.trf 104 0 14 [0,0]),(1,4,1,.trf 104 1 14 [1,0]),(1,4,2,.trf 104 2 14 [2,0]),(1,4,3,.trf 124 0 14 [0,0]),(1,4,4,.trf 124 1 14 [1,0]),(1,4,5,.trf 124 2 14 [2,0]),(1,123,0,.tr 122 10)]:=⟨⟩
instance t_b0:FI J0 187 (∀(a:SPr)(b:ByteArray),FnK J0 187 [qPr a,Str b] (fun r=>[(fun x=>T.agg [(Ro lV) x.zA,(Ro lM) x.yB,(Ro lC) x.zD]) r.1,B r.2]) (fun _=>[]) (zVC a b)):=⟨Tryz.call187,fun a b=>iM Tryz.func187⟩
end
end Go.Wk
