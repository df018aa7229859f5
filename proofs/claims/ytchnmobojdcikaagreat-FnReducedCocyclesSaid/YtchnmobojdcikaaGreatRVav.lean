/- x -/
import Derived.Test.YtchnmobojdcikaaGreatRVac
import Derived.Test.YtchnmobojdcikaaGreatRVad
import Derived.Test.YtchnmobojdcikaaGreatRVag
import Derived.Test.YtchnmobojdcikaaGreatRVah
import Derived.Test.YtchnmobojdcikaaGreatRVaj
import Derived.Test.YtchnmobojdcikaaGreatRVak
import Derived.Test.YtchnmobojdcikaaGreatRVap
import Derived.Test.YtchnmobojdcikaaGreatRWT
open Go.Proofs.Tryz renaming prog->J0
open Option renaming some->iW,none->iY
open Bool renaming true->iZ,false->ja
namespace Go.Wk
open Go Go.Proofs Go.Ab
set_option maxRecDepth 100000
set_option maxHeartbeats 4000000
section
attribute [local irreducible] RW CW DK OkL Ok yB yI xF xQ XS.post rng xV xC ixO zL yE yT yD zH GTo zR FnC FnK wA wN Kp Lk BsL BuL RpL Bk Lc JQ AK
instance(a:SPr):LH (R:=yW) (zN6 a) [1,2] [] (fun b=>[(3,I b)]) (.xs (.xe 0 [1] fun _=>[]) .xr):=⟨⟩
instance t_ba:FI J0 291 (∀(a:SPr),FnK J0 291 [qPr a] (fun r=>[zHO r]) (fun _=>[]) (yCb a)):=⟨Tryz.call291,fun a=>iM Tryz.func291⟩
instance:HS Tryz.f175.8 [(2,6,0,.tr 2 29)]:=⟨⟩
instance(b:zB)(c:List (List Int))(d:List Int)(e:(List Int)×Int):LH (R:=(List Int)) (zNR b c d e) [1,3,4,9] [] (fun a=>[(2,T.ro (lV a.1)),(10,I a.2)]) (.xe 2 [] fun f=>[(2,T.ro (lV f))]):=⟨⟩
instance(b:zB)(c:List (List Int))(d:List Int):LH (R:=(List Int)) (zNS b c d) [1,3,4] [] (fun a=>[(2,T.ro (lV a.1)),(9,I a.2)]) (.xe 0 [1,3,4] fun e=>[(2,T.ro (lV e))]):=⟨⟩
instance t_ad:FI J0 175 (∀(a:zB)(b:List (List Int))(c d:List Int),FnK J0 175 [wS a,T.ro (lM b),T.ro (lV c),T.ro (lV d)] (fun r=>[T.ro (lV r)]) (fun _=>[]) (zWf a b c d)):=⟨Tryz.call175,fun a b c d=>iM Tryz.func175⟩
instance t_bC:FI J0 196 (∀(a:SPr)(b:zB)(c:List (List Int)),FnK J0 196 [qPr a,wS b,T.ro (lM c)] (fun r=>[B r]) (fun _=>[]) (zPz a b c)):=⟨Tryz.call196,fun a b c=>iM Tryz.func196⟩
instance(a:zN):LH (R:=Bool) (zNC a) [1,22,23] [] (fun b=>[(24,I b)]) (.xs (.xe 0 [1,22,23] fun _=>[]) .xr):=⟨⟩
instance t_aK:FI J0 147 (∀(a:zN),FnK J0 147 [jW a] (fun r=>[B r]) (fun _=>[]) (zY3 a)):=⟨Tryz.call147,fun a=>iM Tryz.func147⟩
instance:HS Tryz.f234.8 [(0,37,0,.tr 21 3),(0,77,0,.tr 66 3),(2,15,0,.tr 3 77)]:=⟨⟩
instance(b:SPr):LH (R:=(List ((List Int)×(List Int)))) (zVO b) [0,14,15] [] (fun a=>[(3,L 2 (A2 lV) a.1),(16,I a.2)]) (.xe 0 [14,15] fun c=>[(3,L 2 (A2 lV) c)]):=⟨⟩
instance(c:(List ((List Int)×(List Int)))×Int)(d:List (List Int)):LH (R:=(List ((List Int)×(List Int)))) (zVP c d) [0,6,43,44,53,54] [] (fun b=>[(3,L 2 (A2 lV) b.1),(55,I b.2)]) (.xe 4 [6,53,54] fun a=>[(3,L 2 (A2 lV) a)]):=⟨⟩
instance(c:SPr):LH (R:=(List ((List Int)×(List Int)))) (zVQ c) [0,43] [] (fun b=>[(3,L 2 (A2 lV) b.1),(44,I b.2)]) (.xe 2 [0,43] fun a=>[(3,L 2 (A2 lV) a)]):=⟨⟩
instance t_H:FI J0 234 (∀(a:SPr),FnK J0 234 [T.ro ((Pt vQ) a)] (fun r:(List ((List Int)×(List Int)))=>[(L 2 (A2 lV)) r]) (fun _=>[]) (f_H a)):=⟨Tryz.call234,fun a=>iM Tryz.func234⟩
instance:HS Tryz.f133.8 [(2,2,0,.tr 5 10)]:=⟨⟩
instance(b:List Int)(c:zN):LH (R:=(List Int)) (zNE b c) [3,11,12] [] (fun a=>[(5,L 1 I a.1),(13,I a.2)]) (.xe 0 [3,11,12] fun d=>[(5,L 1 I d)]):=⟨⟩
instance t_aI:FI J0 133 (∀(a:List Int)(b:zN),FnK J0 133 [T.ro (lV a),jW b] (fun r=>[lV r]) (fun _=>[]) (zVS a b)):=⟨Tryz.call133,fun a b=>iM Tryz.func133⟩
instance(a:zB)(b:List (List Int)):LH (R:=Bool) (zRp a b) [0,7,8] [] (fun c=>[(9,I c)]) (.xs (.xe 0 [0,7,8] fun _=>[]) .xr):=⟨⟩
instance t_bs:FI J0 237 (∀(a:zB)(b:List (List Int)),FnK J0 237 [T.ro ((Pt wC) a),T.ro (lM b)] (fun r=>[B r]) (fun _=>[]) (yCk a b)):=⟨Tryz.call237,fun a b=>iM Tryz.func237⟩
instance(a:List Int):LH (R:=Int) (zNY a) [0,1,7] [] (fun b=>[(8,I b)]) (.xs (.xe 0 [0,1,7] fun _=>[]) .xr):=⟨⟩
instance t_aW:FJ J0 263 264 (∀(a:List Int),FnK J0 263 [T.ro (lV a),T.lit (.func (.func 264) #[] #[])] (fun r=>[I r]) (fun _=>[]) (zYE a)):=⟨Tryz.call263,fun a=>iM Tryz.func263⟩
end
end Go.Wk
