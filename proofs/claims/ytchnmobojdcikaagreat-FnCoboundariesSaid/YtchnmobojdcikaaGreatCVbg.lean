/- x -/
import Derived.Test.YtchnmobojdcikaaGreatCVaa
import Derived.Test.YtchnmobojdcikaaGreatCVab
import Derived.Test.YtchnmobojdcikaaGreatCVad
import Derived.Test.YtchnmobojdcikaaGreatCVae
import Derived.Test.YtchnmobojdcikaaGreatCVak
import Derived.Test.YtchnmobojdcikaaGreatCVar
import Derived.Test.YtchnmobojdcikaaGreatCVaz
import Derived.Test.YtchnmobojdcikaaGreatCVbe
import Derived.Test.YtchnmobojdcikaaGreatCWT
open Go.Proofs.Tryz renaming prog→J0
open Option renaming some→iz,none→iA
open Bool renaming true→iB,false→iC
namespace Go.Wk
open Go Go.Proofs Go.Ab
set_option maxRecDepth 100000
set_option maxHeartbeats 4000000
section
attribute [local irreducible] RW CW DK OkL Ok zV yA yW xK XS.post rng xN yP ixO zO yG yO yB zG GTo zP FnC FnK xQ wB Kp Lk BsL BuL RpL Bk Lc JQ AK
instance t_cf:FI J0 232 (∀(a:SPr)(b:Int),FnK J0 232 [qPr a,I b] (fun r=>[I r]) (fun _=>[]) (yAd a b)):=⟨Tryz.call232,fun a b=>iM Tryz.func232⟩
instance t_br:FI J0 136 (∀(a:SPr)(b:zC),FnK J0 136 [qPr a,vC b] (fun r=>[B r]) (fun _=>[]) (zNV a b)):=⟨Tryz.call136,fun a b=>iM Tryz.func136⟩
instance:HS Tryz.f257.8 [(2,2,0,.tr 5 10),(2,3,0,.tr 6 11),(0,30,0,.tr 18 6),(0,33,0,.fz 6),(0,33,1,.res 32 6 [])]:=⟨⟩
instance(b:List (List Int))(c:(List (List Int))):LH (R:=(List (List Int))) (zM0 b c) [0,1,5] [] (fun a=>[(6,L 1 lV a.1),(7,I a.2)]) (.xe 0 [1,5] fun d=>[(6,L 1 lV d)]):=⟨⟩
instance t_aD:FI J0 257 (∀(a:Int)(b:List (List Int)),FnK J0 257 [I a,T.ro (lM b)] (fun r:(List (List Int))=>[(L 1 (Ro lV)) r]) (fun _=>[]) (zUl a b)):=⟨Tryz.call257,fun a b=>iM Tryz.func257⟩
instance:HS Tryz.f217.8 [(0,36,0,.tr 22 6)]:=⟨⟩
instance(b:SPr)(c:zC)(d:Int):LH (R:=(List (List Int))) (zMF b c d) [0,1,5,18] [] (fun a=>[(6,L 1 lV a.1),(19,I a.2)]) (.xe 0 [0,1,5,18] fun e=>[(6,L 1 lV e)]):=⟨⟩
instance t_as:FI J0 217 (∀(a:SPr)(b:zC),FnK J0 217 [T.ro ((Pt vE) a),T.ro ((Pt xV) b)] (fun r:(List (List Int))=>[lM r]) (fun _=>[]) (zQW a b)):=⟨Tryz.call217,fun a b=>iM Tryz.func217⟩
instance t_bX:FI J0 267 (∀(a:zT),FnK J0 267 [qO a] (fun r=>[zCm r]) (fun _=>[]) (yAa a)):=⟨Tryz.call267,fun a=>iM Tryz.func267⟩
instance:HS Tryz.f285.8 [(2,3,0,.tr 6 15),(2,7,0,.tr 8 22),(0,36,0,.tr 26 6)]:=⟨⟩
instance(b:SPr)(c:zC)(d:Int):LH (R:=(List (List Int))) (zME b c d) [2,3,5] [] (fun a=>[(6,L 1 lV a.1),(7,I a.2)]) (.xe 0 [2,3,5] fun e=>[(6,L 1 lV e)]):=⟨⟩
instance t_aG:FI J0 285 (∀(a:SPr)(b:zC),FnK J0 285 [qPr a,vC b] (fun r:(List (List Int))=>[lM r]) (fun _=>[]) (zU1 a b)):=⟨Tryz.call285,fun a b=>iM Tryz.func285⟩
end
end Go.Wk
