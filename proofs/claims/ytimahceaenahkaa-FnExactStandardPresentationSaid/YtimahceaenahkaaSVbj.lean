/- x -/
import Derived.Test.YtimahceaenahkaaSVat
import Derived.Test.YtimahceaenahkaaSVbf
import Derived.Test.YtimahceaenahkaaSVbi
import Derived.Test.YtimahceaenahkaaSWT
open Go.Proofs.Try renaming prog→J0
open Option renaming some→df,none→dg
open Bool renaming true→dh,false→di
namespace Go.Wk
open Go Go.Proofs Go.Ab
set_option maxRecDepth 100000
set_option maxHeartbeats 4000000
section
attribute [local irreducible] RW CW DK OkL Ok zW yB yY xP XS.post rng wA wF ixO zS yQ xC yF zC GTo zF FnC FnK xU wM Kp BsL BuL RpL Bk Lc JQ AK
instance:HS Try.f3.8 [(1,4,0,.trf 23 0 22 [0,0]),(1,4,1,.trf 23 1 22 [1,0]),(1,4,2,.trf 23 2 22 [2,0]),(1,7,0,.trf 30 0 29 [0,0]),(1,7,1,.trf 30 1 29 [1,0]),(1,7,2,.trf 30 2 29 [2,0]),(1,12,0,.trf 77 0 76 [0,0]),(1,12,1,.trf 77 1 76 [1,0]),(1,12,2,.trf 77 2 76 [2,0])]:=⟨⟩
instance t_az:FI J0 3 (∀(a:SPr),FnK J0 3 [qPr a] (fun r=>[B r]) (fun _=>[]) (zNd a)):=⟨Try.call3,fun a=>iM Try.func3⟩
end
end Go.Wk
