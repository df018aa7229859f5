/- x -/
import Derived.Test.YtimahceaenahkaaSVag
import Derived.Test.YtimahceaenahkaaSVal
import Derived.Test.YtimahceaenahkaaSWT
open Go.Proofs.Try renaming prog→J0
open Option renaming some→df,none→dg
open Bool renaming true→dh,false→di
namespace Go.Wk
open Go Go.Proofs Go.Ab
set_option maxRecDepth 100000
set_option maxHeartbeats 4000000
section
attribute [local irreducible] RW CW DK OkL Ok zW yB yY xP XS.post rng wA wF ixO zS yQ xC yF zC GTo zF FnC FnK xU wM Kp BsL BuL RpL Bk Lc JQ AK
instance:HS Try.f72.8 [(2,2,0,.tr 9 14),(2,6,0,.tr 9 25),(2,7,0,.tr 10 30)]:=⟨⟩
instance(b:SPr)(c:Int):LH (R:=(List Int)) (zJg b c) [1,4] [] (fun a=>[(3,I a.1),(9,L 1 I a.2.1),(10,T.ro (lV a.2.2))]) (.xe 0 [1,4] fun d=>[(9,L 1 I d)]):=⟨⟩
instance t_x:FI J0 72 (∀(a:SPr)(b:Int)(c:List Int)(d:Int),FnK J0 72 [qPr a,I b,T.ro (lV c),I d] (fun r=>[lV r]) (fun _=>[]) (f_x a b c d)):=⟨Try.call72,fun a b c d=>iM Try.func72⟩
instance t_ao:FI J0 57 (∀(a:SPr)(b c:List Int),FnK J0 57 [qPr a,T.ro (lV b),T.ro (lV c)] (fun r=>[lV r]) (fun _=>[]) (zH7 a b c)):=⟨Try.call57,fun a b c=>iM Try.func57⟩
end
end Go.Wk
