/- x -/
import Derived.Test.YtchnmobojdcikaaGreatCVac
import Derived.Test.YtchnmobojdcikaaGreatCVad
import Derived.Test.YtchnmobojdcikaaGreatCVaf
import Derived.Test.YtchnmobojdcikaaGreatCVaj
import Derived.Test.YtchnmobojdcikaaGreatCVal
import Derived.Test.YtchnmobojdcikaaGreatCVaw
import Derived.Test.YtchnmobojdcikaaGreatCVay
import Derived.Test.YtchnmobojdcikaaGreatCVba
import Derived.Test.YtchnmobojdcikaaGreatCWT
open Go.Proofs.Tryz renaming prog→J0
open Option renaming some→iz,none→iA
open Bool renaming true→iB,false→iC
namespace Go.Wk
open Go Go.Proofs Go.Ab
set_option maxRecDepth 100000
set_option maxHeartbeats 4000000
section
attribute [local irreducible] RW CW DK OkL Ok zV yA yW xK XS.post rng xN yP ixO zO yG yO yB zG GTo zP FnC FnK xQ wB Kp Lk BsL BuL RpL Bk Lc JQ AK
instance t_bJ:FI J0 117 (∀(a:SPr),FnK J0 117 [qPr a] (fun r=>[B r]) (fun _=>[]) (zT3 a)):=⟨Tryz.call117,fun a=>iM Tryz.func117⟩
instance:HS Tryz.f214.8 [(2,3,0,.tr 8 22),(2,4,0,.tr 9 23),(2,5,0,.fz 8),(2,10,0,.tr 11 43),(0,62,0,.tr 44 9),(2,13,0,.fz 8),(2,20,0,.tr 15 83),(0,102,0,.fz 90),(0,113,0,.tr 103 9),(2,18,0,.tr 9 113)]:=⟨⟩
instance(b:SPr)(c:zC)(d:List (List Int))(e:(List (List Int))×Int):LH (R:=(List (List Int))) (zUx b c d e) [2,3,4,7,8,9,10] [] (fun a=>[(11,T.ro (lV a.1)),(12,I a.2)]) (.xe 2 [] fun f=>[(11,T.ro (lV f))]):=⟨⟩
instance(c:SPr)(d:zC)(e:List (List Int))(f:Nat):LH (R:=(List (List Int))) (zUy c d e f) [2,3,4,7,8] [8] (fun b=>[(9,L 1 lV b.1),(10,I b.2)]) (.xe 0 [] fun a=>[(9,L 1 lV a)]):=⟨⟩
instance(d:SPr)(e:zC)(f:List (List Int))(g:Nat)(b:(List (List Int))×Int):LH (R:=(List (List Int))) (zUz d e f g b) [2,3,4,7,8,13] [] (fun a=>[(9,L 1 lV a.1),(14,I a.2)]) (.xe 6 [] fun c=>[(9,L 1 lV c)]):=⟨⟩
instance(c:SPr)(d:zC)(e:List (List Int))(f:Nat):LH (R:=(List (List Int))) (zU0 c d e f) [2,3,4,7,8] [] (fun a=>[(9,L 1 lV a.1),(13,I a.2)]) (.xe 4 [2,3,4,7,8] fun b=>[(9,L 1 lV b)]):=⟨⟩
instance t_w:FI J0 214 (∀(a:SPr)(b:zC)(c:List (List Int)),FnK J0 214 [qPr a,vC b,T.ro (lM c)] (fun r:(List (List Int))=>[lM r]) (fun _=>[]) (f_w a b c)):=⟨Tryz.call214,fun a b c=>iM Tryz.func214⟩
instance:HS Tryz.f212.8 [(0,13,0,.fz 12),(2,6,0,.tr 10 22),(0,36,0,.tr 35 10),(0,37,0,.tr 34 7),(2,8,0,.tr 7 37)]:=⟨⟩
instance(b:zC)(c:List (List Int))(d:(List ((List Int)×(List Int)))):LH (R:=(List (List Int))) (zM4 b c d) [1,2,12,13] [] (fun a=>[(7,L 1 lV a.1),(14,I a.2)]) (.xe 0 [1,2,12,13] fun e=>[(7,L 1 lV e)]):=⟨⟩
instance t_aj:FI J0 212 (∀(a:SPr)(b:zC)(c:List (List Int)),FnK J0 212 [T.ro ((Pt vE) a),T.ro ((Pt xV) b),T.ro (lM c)] (fun r:(List (List Int))=>[lM r]) (fun _=>[]) (zOj a b c)):=⟨Tryz.call212,fun a b c=>iM Tryz.func212⟩
instance:HS Tryz.f157.8 [(0,14,0,.fz 13),(0,28,0,.tr 23 7),(2,7,0,.tr 7 28)]:=⟨⟩
instance(c:Int)(d:(List (List Int))):LH (R:=(List (List Int))) (zJH c d) [0,2,13,14] [] (fun b=>[(7,L 1 (Ro lV) b.1),(15,I b.2)]) (.xe 0 [2,13,14] fun a=>[(7,L 1 (Ro lV) a)]):=⟨⟩
instance t_aF:FI J0 157 (∀(a:Int)(b:List (List Int))(c:Int),FnK J0 157 [I a,T.ro (lM b),I c] (fun r:(List (List Int))=>[lM r]) (fun _=>[]) (zWC a b c)):=⟨Tryz.call157,fun a b c=>iM Tryz.func157⟩
instance t_cg:FI J0 169 (∀(a b:Int)(c:List (List Int)),FnK J0 169 [I a,I b,T.ro (lM c)] (fun r=>[zCm r]) (fun _=>[]) (zZY a b c)):=⟨Tryz.call169,fun a b c=>iM Tryz.func169⟩
end
end Go.Wk
