/- x -/
import Derived.Test.YtchnmobojdcikaaGreatVbj
import Derived.Test.YtchnmobojdcikaaGreatVbk
import Derived.Test.YtchnmobojdcikaaGreatWT
open Go.Proofs.Tryz renaming prog→J0,f282→Jas
open Option renaming some→dS,none→dT
open Bool renaming true→dU,false→dV
namespace Go.Wk
open Go Go.Proofs Go.Ab
set_option maxRecDepth 100000
set_option maxHeartbeats 4000000
section
attribute [local irreducible] RW CW DK OkL Ok zU zY yO yZ XS.post rng xC yL ixO zL zX yM zV zE GTo zK FnC FnK xJ xQ Kp Lk BsL BuL RpL Bk Lc JQ AK
instance:HS Tryz.f4.8 [(1,5,0,.trf 30 0 29 [0,0]),(1,5,1,.trf 30 1 29 [1,0]),(1,5,2,.trf 30 2 29 [2,0]),(1,6,0,.trf 31 2 29 [2,1]),(2,5,0,.trq 7 29 [2]),(1,9,0,.trf 38 0 37 [0,0]),(1,9,1,.trf 38 1 37 [1,0]),(1,9,2,.trf 38 2 37 [2,0]),(1,10,0,.trf 39 2 37 [2,1]),(2,6,0,.trq 11 37 [2]),(1,17,0,.trf 87 0 86 [0,0]),(1,17,1,.trf 87 1 86 [1,0]),(1,17,2,.trf 87 2 86 [2,0])]:=⟨⟩
end
end Go.Wk

namespace Go.Wk
open Go Go.Proofs Go.Ab
set_option maxRecDepth 100000
set_option maxHeartbeats 4000000
section
attribute [local irreducible] RW CW DK OkL Ok zU zY yO yZ XS.post rng xC yL ixO zL zX yM zV zE GTo zK FnC FnK xJ xQ Kp Lk BsL BuL RpL Bk Lc JQ AK
instance:HS Tryz.f276.8 [(0,15,0,.tr 10 3),(2,6,0,.tr 3 15)]:=⟨⟩
instance(b:SPr)(c:Int):LH (R:=(List (List Int))) (zNe b c) [0,6] [] (fun a=>[(3,L 1 lV a.1),(7,I a.2)]) (.xe 0 [0,6] fun d=>[(3,L 1 lV d)]):=⟨⟩
instance t_aY:FI J0 276 (∀(a:SPr),FnK J0 276 [T.ro ((Pt xR) a)] (fun r:(List (List Int))=>[lM r]) (fun _=>[]) (zUy a)):=⟨Tryz.call276,fun a=>iM Tryz.func276⟩
instance t_cB:FI J0 281 (∀(a:SPr)(b c:List Int),FnK J0 281 [qPr a,T.ro (lV b),T.ro (lV c)] (fun r=>[lV r]) (fun _=>[]) (zW5 a b c)):=⟨Tryz.call281,fun a b c=>iM Tryz.func281⟩
end
end Go.Wk

namespace Go.Wk
open Go Go.Proofs Go.Ab
set_option maxRecDepth 100000
set_option maxHeartbeats 4000000
section
attribute [local irreducible] RW CW DK OkL Ok zU zY yO yZ XS.post rng xC yL ixO zL zX yM zV zE GTo zK FnC FnK xJ xQ Kp Lk BsL BuL RpL Bk Lc JQ AK
instance t_bl:FI J0 280 (∀(a:SPr)(b:List Int)(c:Int),FnK J0 280 [qPr a,T.ro (lV b),I c] (fun r=>[lV r]) (fun _=>[]) (zIF a b c)):=⟨Tryz.call280,fun a b c=>iM Tryz.func280⟩
instance:HS Tryz.f279.8 [(2,2,0,.tr 8 11)]:=⟨⟩
instance(c:SPr)(d:List (List Int)):LH (R:=Int×(List Int)) (zNb c d) [1,3] [] (fun b=>[(8,L 1 I b.1),(9,I b.2)]) (.xs (.xe 0 [3] fun a=>[(8,L 1 I a)]) .xr):=⟨⟩
instance t_bm:FI J0 279 (∀(a:SPr)(b:List (List Int))(c:List Int),FnK J0 279 [qPr a,T.ro (lM b),T.ro (lV c)] (fun r:Int×(List Int)=>[I r.1,lV r.2]) (fun _=>[]) (zW4 a b c)):=⟨Tryz.call279,fun a b c=>iM Tryz.func279⟩
instance:HS Jas.8 [(2,2,0,.tr 5 13),(2,14,0,.tr 9 70),(0,89,0,.tr 83 9),(2,16,0,.tr 9 89)]:=⟨⟩
instance:MkH Jas.8 13 I:=⟨⟩
instance(c:SPr)(d:List (List Int))(e:(List (List Int))×Int):LH (R:=(List (List Int))) (zUt c d e) [1,2,5,6] [] (fun b=>[(7,T.ro (lV b.1)),(8,I b.2)]) (.xe 2 [] fun a=>[(7,T.ro (lV a))]):=⟨⟩
instance(c:SPr)(d:List (List Int)):LH (R:=(List (List Int))) (zW6 c d) [1,2] [] (fun b=>[(5,L 1 (Ro lV) b.1),(6,I b.2)]) (.xe 0 [1,2] fun a=>[(5,L 1 (Ro lV) a)]):=⟨⟩
instance(a:(List (List Int))):LH (R:=(List (List Int))) (zRh a) [5] [] (fun c=>[(9,L 1 (Ro lV) c.1),(10,I c.2)]) (.xe 4 [5] fun b=>[(9,L 1 (Ro lV) b)]):=⟨⟩
instance t_J:FI J0 282 (∀(a:SPr)(b:List (List Int)),FnK J0 282 [qPr a,T.ro (lM b)] (fun r:(List (List Int))=>[(L 1 (Ro lV)) r]) (fun _=>[]) (f_J a b)):=⟨Tryz.call282,fun a b=>iM Tryz.func282⟩
end
end Go.Wk
