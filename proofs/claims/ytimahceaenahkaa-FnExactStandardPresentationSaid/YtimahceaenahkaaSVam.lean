/- x -/
import Derived.Test.YtimahceaenahkaaSVaa
import Derived.Test.YtimahceaenahkaaSVag
import Derived.Test.YtimahceaenahkaaSVal
import Derived.Test.YtimahceaenahkaaSWT
open Go.Proofs.Try renaming prog→J0
open Option renaming some→df,none→dg
open Bool renaming true→dh,false→di
namespace Go.Wk
open Go Go.Proofs Go.Ab
set_option maxRecDepth 100000
set_option maxHeartbeats 4000000
section
attribute [local irreducible] RW CW DK OkL Ok zW yB yY xP XS.post rng wA wF ixO zS yQ xC yF zC GTo zF FnC FnK xU wM Kp BsL BuL RpL Bk Lc JQ AK
instance:HS Try.f71.8 [(2,5,0,.tr 8 20),(2,7,0,.tr 9 28),(2,10,0,.tr 10 36)]:=⟨⟩
theorem zR8{g_f:SPr→Int→(List Int)→Option (List Int)}[FI J0 71 (∀(x0:SPr)(x1:Int)(x2:List Int),FnK J0 71 [qPr x0,I x1,T.ro (lV x2)] (fun r:(List Int)=>[lV r]) (fun _=>[]) (g_f x0 x1 x2))]:∀(x0:SPr)(x1:Int)(x2:List Int),FnK J0 71 [qPr x0,I x1,T.ro (lV x2)] (fun r:(List Int)=>[lV r]) (fun _=>[]) (b_f g_f x0 x1 x2):=fun x0 x1 x2=>iM Try.func71
theorem zR9{g_f:SPr→Int→(List Int)→Option (List Int)}(H_f:∀(x0:SPr)(x1:Int)(x2:List Int) r,g_f x0 x1 x2=df r→FnC J0 71 [qPr x0,I x1,T.ro (lV x2)] [lV r] [])(x0:SPr)(x1:Int)(x2:List Int)(r:(List Int))(h:b_f g_f x0 x1 x2=df r):FnC J0 71 [qPr x0,I x1,T.ro (lV x2)] [lV r] []:=by have:FI J0 71 (∀(x0:SPr)(x1:Int)(x2:List Int),FnK J0 71 [qPr x0,I x1,T.ro (lV x2)] (fun r:(List Int)=>[lV r]) (fun _=>[]) (g_f x0 x1 x2)):=⟨Try.call71,fun x0 x1 x2=>FnK.mk (H_f x0 x1 x2)⟩;exact(zR8 x0 x1 x2).go h
end
end Go.Wk
