/- x -/
import Derived.Test.YtimahceaenahkaaSVas
import Derived.Test.YtimahceaenahkaaSWT
open Go.Proofs.Try renaming prog→J0
open Option renaming some→df,none→dg
open Bool renaming true→dh,false→di
namespace Go.Wk
open Go Go.Proofs Go.Ab
set_option maxRecDepth 100000
set_option maxHeartbeats 4000000
section
attribute [local irreducible] RW CW DK OkL Ok zW yB yY xP XS.post rng wA wF ixO zS yQ xC yF zC GTo zF FnC FnK xU wM Kp BsL BuL RpL Bk Lc JQ AK
instance(a:SPr):LH (R:=yD) (zGF a) [1,2] [] (fun b=>[(3,I b)]) (.xs (.xe 0 [1] fun _=>[]) .xr):=⟨⟩
instance t_aa:FI J0 52 (∀(a:SPr),FnK J0 52 [qPr a] (fun r=>[zCB r]) (fun _=>[]) (zOR a)):=⟨Try.call52,fun a=>iM Try.func52⟩
end
end Go.Wk
