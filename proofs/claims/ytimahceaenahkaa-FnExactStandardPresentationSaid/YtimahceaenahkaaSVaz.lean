/- x -/
import Derived.Test.YtimahceaenahkaaSVad
import Derived.Test.YtimahceaenahkaaSVaf
import Derived.Test.YtimahceaenahkaaSVaw
import Derived.Test.YtimahceaenahkaaSWT
open Go.Proofs.Try renaming prog→J0
open Option renaming some→df,none→dg
open Bool renaming true→dh,false→di
namespace Go.Wk
open Go Go.Proofs Go.Ab
set_option maxRecDepth 100000
set_option maxHeartbeats 4000000
section
attribute [local irreducible] RW CW DK OkL Ok zW yB yY xP XS.post rng wA wF ixO zS yQ xC yF zC GTo zF FnC FnK xU wM Kp BsL BuL RpL Bk Lc JQ AK
instance:HS Try.f43.8 [(2,2,0,.tr 3 11),(0,32,0,.tr 24 7),(2,11,0,.tr 7 32),(0,36,0,.tr 35 7),(0,37,0,.tr 34 4),(2,13,0,.tr 4 37)]:=⟨⟩
instance(b:SPr)(c:(List (List Int)))(d:List Int):LH (R:=(List (List Int))) (zLL b c d) [0,3,4,6,12,13,14,18,19] [] (fun a=>[(7,L 1 I a.1),(20,I a.2)]) (.xe 2 [6,18,19] fun e=>[(7,L 1 I e)]):=⟨⟩
instance(c:SPr)(d:(List (List Int))):LH (R:=(List (List Int))) (zLM c d) [0,3,12,13] [] (fun b=>[(4,L 1 lV b.1),(14,I b.2)]) (.xe 0 [0,3,12,13] fun a=>[(4,L 1 lV a)]):=⟨⟩
instance t_u:FI J0 43 (∀(a:SPr),FnK J0 43 [T.ro ((Pt wH) a)] (fun r:(List (List Int))=>[lM r]) (fun _=>[]) (f_u a)):=⟨Try.call43,fun a=>iM Try.func43⟩
end
end Go.Wk
