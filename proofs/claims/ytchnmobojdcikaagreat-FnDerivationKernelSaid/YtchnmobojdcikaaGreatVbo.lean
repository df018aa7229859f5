/- x -/
import Derived.Test.YtchnmobojdcikaaGreatVbl
import Derived.Test.YtchnmobojdcikaaGreatVbm
import Derived.Test.YtchnmobojdcikaaGreatWT
open Go.Proofs.Tryz renaming prog→J0,f209→Qt
open Option renaming some→dS,none→dT
open Bool renaming true→dU,false→dV
namespace Go.Wk
open Go Go.Proofs Go.Ab
set_option maxRecDepth 100000
set_option maxHeartbeats 4000000
section
attribute [local irreducible] RW CW DK OkL Ok zU zY yO yZ XS.post rng xC yL ixO zL zX yM zV zE GTo zK FnC FnK xJ xQ Kp Lk BsL BuL RpL Bk Lc JQ AK
instance:HS Qt.8 [(2,3,0,.tr 6 17),(3,0,0,.tr 7 19),(0,33,0,.tr 29 7),(2,7,0,.tr 7 33),(2,8,0,.trq 10 38 [1]),(2,10,0,.tr 11 56),(1,60,0,.tr 59 11),(0,63,0,.tr 62 10),(0,64,0,.tr 61 7),(2,12,0,.tr 7 64),(0,75,0,.tr 65 7),(2,13,0,.tr 7 75),(0,101,0,.tr 92 7),(0,104,0,.fz 6),(0,104,1,.res 103 6 [])]:=⟨⟩
instance:HX Qt.8 [(0,33,0,.trh 8 7),(2,11,0,.rd2 59 11)]:=⟨⟩
instance:DrH Qt.8 33:=⟨⟩
instance(d:SPr)(e:(List (List Int))×(List (List Int)))(f:Int×(List Int))(a:(List Int)):LH (R:=(List (List Int))) (zRi d e f a) [2,5,6,9,11] [] (fun c=>[(7,L 1 lV c.1),(12,I c.2)]) (.xe 2 [9,11] fun b=>[(7,L 1 lV b)]):=⟨⟩
instance(c:SPr):LH (R:=(List (List Int))) (zRj c) [2,5] [] (fun b=>[(6,L 1 lV b.1),(7,L 1 lV b.2)]) (.xe 0 [5] fun a=>[(6,L 1 lV a)]):=⟨⟩
instance t_Y:FI J0 209 (∀(a:SPr)(b:List (List Int)),FnK J0 209 [qPr a,T.ro (lM b)] (fun r:(List (List Int))=>[(L 1 (Ro lV)) r]) (fun _=>[]) (f_Y a b)):=⟨Tryz.call209,fun a b=>iM Tryz.func209⟩
instance:HS Tryz.f88.8 [(2,7,0,.tr 9 22),(2,11,0,.tr 11 31),(0,38,0,.fz 36),(0,38,1,.fz 11),(0,38,2,.res 37 11 []),(0,43,0,.tr 40 9),(2,9,0,.tr 9 43),(0,46,0,.fz 9),(0,46,1,.res 45 9 [])]:=⟨⟩
instance(c:SPr)(d:zB)(e:List (List Int)):LH (R:=(List (List Int))×Int) (zJM c d e) [2,3,4] [] (fun b=>[(9,L 1 (Ro lV) b.1),(10,I b.2)]) (.xe 0 [2,4] fun a=>[(9,L 1 (Ro lV) a)]):=⟨⟩
instance t_at:FI J0 88 (∀(a:SPr)(b:zB)(c:List (List Int)),FnK J0 88 [qPr a,xD b,T.ro (lM c)] (fun r:(List (List Int))×Int=>[(L 1 (Ro lV)) r.1,I r.2]) (fun _=>[]) (zNd a b c)):=⟨Tryz.call88,fun a b c=>iM Tryz.func88⟩
end
end Go.Wk

namespace Go.Wk
open Go Go.Proofs Go.Ab
set_option maxRecDepth 100000
set_option maxHeartbeats 4000000
section
attribute [local irreducible] RW CW DK OkL Ok zU zY yO yZ XS.post rng xC yL ixO zL zX yM zV zE GTo zK FnC FnK xJ xQ Kp Lk BsL BuL RpL Bk Lc JQ AK
instance t_cL:FI J0 89 (∀(a:SPr)(b:List (List Int)),FnK J0 89 [qPr a,T.ro (lM b)] (fun r=>[B r]) (fun _=>[]) (zXr a b)):=⟨Tryz.call89,fun a b=>iM Tryz.func89⟩
end
end Go.Wk

namespace Go.Wk
open Go Go.Proofs Go.Ab
set_option maxRecDepth 100000
set_option maxHeartbeats 4000000
section
attribute [local irreducible] RW CW DK OkL Ok zU zY yO yZ XS.post rng xC yL ixO zL zX yM zV zE GTo zK FnC FnK xJ xQ Kp Lk BsL BuL RpL Bk Lc JQ AK
instance t_cM:FI J0 90 (∀(a:SPr)(b:List (List Int))(c:List Int),FnK J0 90 [qPr a,T.ro (lM b),T.ro (lV c)] (fun r=>[B r.1,I r.2]) (fun _=>[]) (zXt a b c)):=⟨Tryz.call90,fun a b c=>iM Tryz.func90⟩
end
end Go.Wk
