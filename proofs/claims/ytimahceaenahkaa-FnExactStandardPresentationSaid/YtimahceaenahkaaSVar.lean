/- x -/
import Derived.Test.YtimahceaenahkaaSVam
import Derived.Test.YtimahceaenahkaaSVaq
import Derived.Test.YtimahceaenahkaaSWT
open Go.Proofs.Try renaming prog→J0
open Option renaming some→df,none→dg
open Bool renaming true→dh,false→di
namespace Go.Wk
open Go Go.Proofs Go.Ab
set_option maxRecDepth 100000
set_option maxHeartbeats 4000000
section
attribute [local irreducible] RW CW DK OkL Ok zW yB yY xP XS.post rng wA wF ixO zS yQ xC yF zC GTo zF FnC FnK xU wM Kp BsL BuL RpL Bk Lc JQ AK
instance t_ax:FI J0 55 (∀(a:SPr)(b:List Int),FnK J0 55 [qPr a,T.ro (lV b)] (fun r=>[lV r]) (fun _=>[]) (zL9 a b)):=⟨Try.call55,fun a b=>iM Try.func55⟩
end
end Go.Wk
