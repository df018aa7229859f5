/- x -/
import Derived.Test.YtmgckbgmmpemgaaGreatSVap
import Derived.Test.YtmgckbgmmpemgaaGreatSVat
import Derived.Test.YtmgckbgmmpemgaaGreatSWT
open Go.Proofs.Tryz renaming prog→J0
open Option renaming some→VU,none→VV
open Bool renaming true→VW,false→VX
namespace Go.Wk
open Go Go.Proofs Go.Ab
set_option maxRecDepth 100000
set_option maxHeartbeats 4000000
section
attribute [local irreducible] RW CW DK OkL Ok yM yJ wN vO XS.post rng yQ vN ixO yG xC wV yW zI GTo zN FnC FnK vT uL Kp Lk BsL BuL RpL Bk Lc
instance t_a7:FI J0 136 (∀(a:List zD)(b c:Int)(d e:Int),FnK J0 136 [T.ro ((L 3 zA) a),I b,I c,I d,T.ptr (I e),T.lit (.func (.func 54) #[] #[])] (fun r=>[I r.1]) (fun r=>[(4,(Pt I) r.2)]) (zOi a b c d e)):=⟨Tryz.call136,fun a b c d e=>iM Tryz.func136⟩
end
end Go.Wk
