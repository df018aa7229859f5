/- x -/
import Derived.Test.YtchnmobojdcikaaGreatVam
import Derived.Test.YtchnmobojdcikaaGreatVan
import Derived.Test.YtchnmobojdcikaaGreatVao
import Derived.Test.YtchnmobojdcikaaGreatWT
open Go.Proofs.Tryz renaming prog→J0,f154→Qu
open Option renaming some→dS,none→dT
open Bool renaming true→dU,false→dV
namespace Go.Wk
open Go Go.Proofs Go.Ab
set_option maxRecDepth 100000
set_option maxHeartbeats 4000000
section
attribute [local irreducible] RW CW DK OkL Ok zU zY yO yZ XS.post rng xC yL ixO zL zX yM zV zE GTo zK FnC FnK xJ xQ Kp Lk BsL BuL RpL Bk Lc JQ AK
instance:HS Qu.8 [(2,2,0,.tr 1 13),(0,138,0,.tr 135 1)]:=⟨⟩
instance:yBD Qu.results:=⟨⟩
instance:SwH Qu.8 10 1 [0,5,6,7]:=⟨⟩
instance(a:(List (List Int))×Int×Int):LH (R:=(List (List Int))) (zIB a) [0,1,5,6] [] (fun b=>[(7,I b)]) (.xe 2 [] fun c=>[(7,I c)]):=⟨⟩
instance(f:Int)(b:(List (List Int))×Int×Int)(c:Int×Bool)(d:List Int):LH (R:=(List (List Int))) (zMH f b c d) [0,5,6,8,84] [] (fun a=>[(1,L 1 lV a.1),(85,I a.2)]) (.xe 4 [8,84] fun e=>[(1,L 1 lV e)]):=⟨⟩
instance(e:Int)(b:(List (List Int))×Int×Int)(c:(List (List Int))):LH (R:=(List (List Int))) (zOw e b c) [0,5,6,107] [] (fun a=>[(1,L 1 lV a.1),(108,I a.2)]) (.xe 6 [107] fun d=>[(1,L 1 lV d)]):=⟨⟩
instance(c:Int):LH (R:=(List (List Int))) (zOx c) [0] [] (fun a=>[(1,L 1 lV a.1),(5,I a.2.1),(6,I a.2.2)]) (.xe 0 [0] fun b=>[(1,L 1 lV b.1),(5,I b.2)]):=⟨⟩
instance t_f:FI J0 154 (∀(a:Int)(b:List (List Int)),FnK J0 154 [I a,T.ro (lM b)] (fun r:(List (List Int))=>[lM r]) (fun _=>[]) (f_f a b)):=⟨Tryz.call154,fun a b=>iM Tryz.func154⟩
instance:HS Tryz.f157.8 [(0,14,0,.fz 13),(0,28,0,.tr 23 7),(2,7,0,.tr 7 28)]:=⟨⟩
instance(c:Int)(d:(List (List Int))):LH (R:=(List (List Int))) (zJH c d) [0,2,13,14] [] (fun b=>[(7,L 1 (Ro lV) b.1),(15,I b.2)]) (.xe 0 [2,13,14] fun a=>[(7,L 1 (Ro lV) a)]):=⟨⟩
instance t_ah:FI J0 157 (∀(a:Int)(b:List (List Int))(c:Int),FnK J0 157 [I a,T.ro (lM b),I c] (fun r:(List (List Int))=>[lM r]) (fun _=>[]) (zKJ a b c)):=⟨Tryz.call157,fun a b c=>iM Tryz.func157⟩
end
end Go.Wk
