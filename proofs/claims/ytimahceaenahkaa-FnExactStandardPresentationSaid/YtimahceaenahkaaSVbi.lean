/- x -/
import Derived.Test.YtimahceaenahkaaSVac
import Derived.Test.YtimahceaenahkaaSVbb
import Derived.Test.YtimahceaenahkaaSVbh
import Derived.Test.YtimahceaenahkaaSWT
open Go.Proofs.Try renaming prog→J0
open Option renaming some→df,none→dg
open Bool renaming true→dh,false→di
namespace Go.Wk
open Go Go.Proofs Go.Ab
set_option maxRecDepth 100000
set_option maxHeartbeats 4000000
section
attribute [local irreducible] RW CW DK OkL Ok zW yB yY xP XS.post rng wA wF ixO zS yQ xC yF zC GTo zF FnC FnK xU wM Kp BsL BuL RpL Bk Lc JQ AK
instance(a:SPr):LH (R:=SPr×Int) (zPi a) [1,2,14,15] [] (fun b=>[(16,I b)]) (.xs (.xe 0 [14,15] fun _=>[]) .xr):=⟨⟩
instance t_T:FI J0 7 (∀(a:SPr),FnK J0 7 [qPr a] (fun r=>[wH r.1,I r.2]) (fun _=>[]) (f_T a)):=⟨Try.call7,fun a=>iM Try.func7⟩
end
end Go.Wk
