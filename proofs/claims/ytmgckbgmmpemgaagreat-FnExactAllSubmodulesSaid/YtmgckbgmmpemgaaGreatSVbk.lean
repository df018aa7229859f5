/- x -/
import Derived.Test.YtmgckbgmmpemgaaGreatSVao
import Derived.Test.YtmgckbgmmpemgaaGreatSVap
import Derived.Test.YtmgckbgmmpemgaaGreatSVba
import Derived.Test.YtmgckbgmmpemgaaGreatSVbj
import Derived.Test.YtmgckbgmmpemgaaGreatSWT
open Go.Proofs.Tryz renaming prog→J0
open Option renaming some→VU,none→VV
open Bool renaming true→VW,false→VX
namespace Go.Wk
open Go Go.Proofs Go.Ab
set_option maxRecDepth 100000
set_option maxHeartbeats 4000000
section
attribute [local irreducible] RW CW DK OkL Ok yM yJ wN vO XS.post rng yQ vN ixO yG xC wV yW zI GTo zN FnC FnK vT uL Kp Lk BsL BuL RpL Bk Lc
instance t_bv:FI J0 53 (∀(a:List zD),FnK J0 53 [L 3 zA a,T.lit (.func (.func 54) #[] #[])] (fun _:(List zD)=>[]) (fun r=>[(0,(L 3 zA) r)]) (zSQ a)):=⟨Tryz.call53,fun a=>iM Tryz.func53⟩
end
end Go.Wk
