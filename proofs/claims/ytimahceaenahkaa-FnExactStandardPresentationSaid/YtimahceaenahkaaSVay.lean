/- x -/
import Derived.Test.YtimahceaenahkaaSVav
import Derived.Test.YtimahceaenahkaaSVaw
import Derived.Test.YtimahceaenahkaaSWT
open Go.Proofs.Try renaming prog→J0
open Option renaming some→df,none→dg
open Bool renaming true→dh,false→di
namespace Go.Wk
open Go Go.Proofs Go.Ab
set_option maxRecDepth 100000
set_option maxHeartbeats 4000000
section
attribute [local irreducible] RW CW DK OkL Ok zW yB yY xP XS.post rng wA wF ixO zS yQ xC yF zC GTo zF FnC FnK xU wM Kp BsL BuL RpL Bk Lc JQ AK
instance t_at:FI J0 79 (∀(a:SPr)(b c:List Int),FnK J0 79 [T.ro ((Pt wH) a),T.ro (lV b),T.ro (lV c)] (fun r=>[lV r]) (fun _=>[]) (zLu a b c)):=⟨Try.call79,fun a b c=>iM Try.func79⟩
end
end Go.Wk
