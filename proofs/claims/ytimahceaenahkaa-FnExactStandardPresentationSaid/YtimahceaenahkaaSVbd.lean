/- x -/
import Derived.Test.YtimahceaenahkaaSVbc
import Derived.Test.YtimahceaenahkaaSWT
open Go.Proofs.Try renaming prog→J0
open Option renaming some→df,none→dg
open Bool renaming true→dh,false→di
namespace Go.Wk
open Go Go.Proofs Go.Ab
set_option maxRecDepth 100000
set_option maxHeartbeats 4000000
section
attribute [local irreducible] RW CW DK OkL Ok zW yB yY xP XS.post rng wA wF ixO zS yQ xC yF zC GTo zF FnC FnK xU wM Kp BsL BuL RpL Bk Lc JQ AK
instance t_aJ:FI J0 33 (∀(a:SPr),FnK J0 33 [qPr a] (fun r=>[B r]) (fun _=>[]) (zOS a)):=⟨Try.call33,fun a=>iM Try.func33⟩
end
end Go.Wk
