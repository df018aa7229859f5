/- x -/
import Derived.Test.YtmgckbgmmpemgaaGreatSVbb
import Derived.Test.YtmgckbgmmpemgaaGreatSVbc
import Derived.Test.YtmgckbgmmpemgaaGreatSWT
open Go.Proofs.Tryz renaming prog→J0
open Option renaming some→VU,none→VV
open Bool renaming true→VW,false→VX
namespace Go.Wk
open Go Go.Proofs Go.Ab
set_option maxRecDepth 100000
set_option maxHeartbeats 4000000
section
attribute [local irreducible] RW CW DK OkL Ok yM yJ wN vO XS.post rng yQ vN ixO yG xC wV yW zI GTo zN FnC FnK vT uL Kp Lk BsL BuL RpL Bk Lc
instance t_bh:FI J0 128 (∀(a:SPr)(b c:List Int),FnK J0 128 [T.ro ((Pt uT) a),T.ro (lV b),T.ro (lV c)] (fun r=>[lV r]) (fun _=>[]) (zQ4 a b c)):=⟨Tryz.call128,fun a b c=>iM Tryz.func128⟩
end
end Go.Wk
