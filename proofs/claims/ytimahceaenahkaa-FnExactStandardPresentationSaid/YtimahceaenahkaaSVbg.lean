/- x -/
import Derived.Test.YtimahceaenahkaaSVba
import Derived.Test.YtimahceaenahkaaSWT
open Go.Proofs.Try renaming prog→J0
open Option renaming some→df,none→dg
open Bool renaming true→dh,false→di
namespace Go.Wk
open Go Go.Proofs Go.Ab
set_option maxRecDepth 100000
set_option maxHeartbeats 4000000
section
attribute [local irreducible] RW CW DK OkL Ok zW yB yY xP XS.post rng wA wF ixO zS yQ xC yF zC GTo zF FnC FnK xU wM Kp BsL BuL RpL Bk Lc JQ AK
instance(a:SPr):LH (R:=Int) (zL0 a) [0] [] (fun b=>[(3,I b)]) (.xe 0 [0] fun c=>[(3,I c)]):=⟨⟩
instance t_Z:FI J0 42 (∀(a:SPr),FnK J0 42 [T.ro ((Pt wH) a)] (fun r=>[I r]) (fun _=>[]) (f_Z a)):=⟨Try.call42,fun a=>iM Try.func42⟩
end
end Go.Wk
