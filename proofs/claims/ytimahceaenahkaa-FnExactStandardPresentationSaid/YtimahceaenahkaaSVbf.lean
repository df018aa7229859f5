/- x -/
import Derived.Test.YtimahceaenahkaaSVaa
import Derived.Test.YtimahceaenahkaaSVax
import Derived.Test.YtimahceaenahkaaSVbe
import Derived.Test.YtimahceaenahkaaSWT
open Go.Proofs.Try renaming prog→J0
open Option renaming some→df,none→dg
open Bool renaming true→dh,false→di
namespace Go.Wk
open Go Go.Proofs Go.Ab
set_option maxRecDepth 100000
set_option maxHeartbeats 4000000
section
attribute [local irreducible] RW CW DK OkL Ok zW yB yY xP XS.post rng wA wF ixO zS yQ xC yF zC GTo zF FnC FnK xU wM Kp BsL BuL RpL Bk Lc JQ AK
instance(a:SPr):LH (R:=SPr×Int) (zFv a) [1,2] [] (fun b=>[(4,I b)]) (.xs (.xe 0 [] fun _=>[]) .xr):=⟨⟩
instance t_z:FI J0 5 (∀(a:SPr),FnK J0 5 [qPr a] (fun r=>[wH r.1,I r.2]) (fun _=>[]) (f_z a)):=⟨Try.call5,fun a=>iM Try.func5⟩
end
end Go.Wk
