/- x -/
import Derived.Test.YtchnmobojdcikaaGreatQVaa
import Derived.Test.YtchnmobojdcikaaGreatQVac
import Derived.Test.YtchnmobojdcikaaGreatQVad
import Derived.Test.YtchnmobojdcikaaGreatQVag
import Derived.Test.YtchnmobojdcikaaGreatQVah
import Derived.Test.YtchnmobojdcikaaGreatQVai
import Derived.Test.YtchnmobojdcikaaGreatQVav
import Derived.Test.YtchnmobojdcikaaGreatQVax
import Derived.Test.YtchnmobojdcikaaGreatQVay
import Derived.Test.YtchnmobojdcikaaGreatQWT
open Go.Proofs.Tryz renaming prog→J0
open Option renaming some→dq,none→dt
open Bool renaming true→du,false→dv
namespace Go.Wk
open Go Go.Proofs Go.Ab
set_option maxRecDepth 100000
set_option maxHeartbeats 4000000
section
attribute [local irreducible] RW CW DK OkL Ok zS zV yQ xI XS.post rng xL yO ixO zP zU yT zZ zG GTo zM FnC FnK xK xN Kp Lk BsL BuL RpL Bk Lc JQ AK
instance:HS Tryz.f257.8 [(2,2,0,.tr 5 10),(2,3,0,.tr 6 11),(0,30,0,.tr 18 6),(0,33,0,.fz 6),(0,33,1,.res 32 6 [])]:=⟨⟩
instance(b:List (List Int))(c:(List (List Int))):LH (R:=(List (List Int))) (zLe b c) [0,1,5] [] (fun a=>[(6,L 1 lV a.1),(7,I a.2)]) (.xe 0 [1,5] fun d=>[(6,L 1 lV d)]):=⟨⟩
instance t_aT:FI J0 257 (∀(a:Int)(b:List (List Int)),FnK J0 257 [I a,T.ro (lM b)] (fun r:(List (List Int))=>[(L 1 (Ro lV)) r]) (fun _=>[]) (zUf a b)):=⟨Tryz.call257,fun a b=>iM Tryz.func257⟩
instance:HS Tryz.f157.8 [(0,14,0,.fz 13),(0,28,0,.tr 23 7),(2,7,0,.tr 7 28)]:=⟨⟩
instance(c:Int)(d:(List (List Int))):LH (R:=(List (List Int))) (zIq c d) [0,2,13,14] [] (fun b=>[(7,L 1 (Ro lV) b.1),(15,I b.2)]) (.xe 0 [2,13,14] fun a=>[(7,L 1 (Ro lV) a)]):=⟨⟩
instance t_aJ:FI J0 157 (∀(a:Int)(b:List (List Int))(c:Int),FnK J0 157 [I a,T.ro (lM b),I c] (fun r:(List (List Int))=>[lM r]) (fun _=>[]) (zUp a b c)):=⟨Tryz.call157,fun a b c=>iM Tryz.func157⟩
instance t_bE:FI J0 169 (∀(a b:Int)(c:List (List Int)),FnK J0 169 [I a,I b,T.ro (lM c)] (fun r=>[uP r]) (fun _=>[]) (zRH a b c)):=⟨Tryz.call169,fun a b c=>iM Tryz.func169⟩
instance:HS Tryz.f164.8 [(0,41,0,.trq 35 5 [2,0]),(1,2,0,.trf 44 2 5 [2,0])]:=⟨⟩
instance(a:zF)(c:(List (List Int))):LH (R:=zF×Bool) (zKY a c) [2,4,21,22] [] (fun b=>[(5,T.ptr (T.agg [I a.Prime,I a.yW,L 1 lV b.1])),(23,I b.2)]) (.xs (.xe 0 [4,21,22] fun d=>[(5,T.ptr (T.agg [I a.Prime,I a.yW,L 1 lV d]))]) .xr):=⟨⟩
instance t_aU:FI J0 164 (∀(a:zF),FnK J0 164 [wZ a] (fun r=>[uP r.1,B r.2]) (fun _=>[]) (zUa a)):=⟨Tryz.call164,fun a=>iM Tryz.func164⟩
instance:HS Tryz.f186.8 [(3,0,0,.tr 5 12),(2,3,0,.tr 6 14),(0,34,0,.tr 22 6),(0,38,0,.fz 6),(0,38,1,.res 37 6 []),(2,8,0,.tr 8 38)]:=⟨⟩
instance(b:zC)(c:(List (List Int))):LH (R:=(List (List Int))) (zHw b c) [2,5] [] (fun a=>[(6,L 1 lV a.1),(7,I a.2)]) (.xe 2 [] fun d=>[(6,L 1 lV d)]):=⟨⟩
instance(a:zC):LH (R:=(List (List Int))) (zOT a) [2] [] (fun b=>[(5,L 1 (Ro lV) b)]) .xr:=⟨⟩
instance t_B:FI J0 186 (∀(a:zC)(b:List (List Int)),FnK J0 186 [xQ a,T.ro (lM b)] (fun r:(List (List Int))=>[(L 1 (Ro lV)) r]) (fun _=>[]) (f_B a b)):=⟨Tryz.call186,fun a b=>iM Tryz.func186⟩
instance t_bO:FI J0 262 (∀(a:zF),FnK J0 262 [wZ a] (fun r=>[B r]) (fun _=>[]) (zUh a)):=⟨Tryz.call262,fun a=>iM Tryz.func262⟩
end
end Go.Wk
