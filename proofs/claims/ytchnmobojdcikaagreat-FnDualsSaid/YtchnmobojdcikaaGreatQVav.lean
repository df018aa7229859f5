/- x -/
import Derived.Test.YtchnmobojdcikaaGreatQVaa
import Derived.Test.YtchnmobojdcikaaGreatQVac
import Derived.Test.YtchnmobojdcikaaGreatQVad
import Derived.Test.YtchnmobojdcikaaGreatQVah
import Derived.Test.YtchnmobojdcikaaGreatQVai
import Derived.Test.YtchnmobojdcikaaGreatQVaj
import Derived.Test.YtchnmobojdcikaaGreatQVal
import Derived.Test.YtchnmobojdcikaaGreatQVam
import Derived.Test.YtchnmobojdcikaaGreatQVan
import Derived.Test.YtchnmobojdcikaaGreatQVaq
import Derived.Test.YtchnmobojdcikaaGreatQWT
open Go.Proofs.Tryz renaming prog→J0,call134→Jaf
open Option renaming some→dq,none→dt
open Bool renaming true→du,false→dv
namespace Go.Wk
open Go Go.Proofs Go.Ab
set_option maxRecDepth 100000
set_option maxHeartbeats 4000000
section
attribute [local irreducible] RW CW DK OkL Ok zS zV yQ xI XS.post rng xL yO ixO zP zU yT zZ zG GTo zM FnC FnK xK xN Kp Lk BsL BuL RpL Bk Lc JQ AK
instance:HS Tryz.f331.8 [(2,2,0,.tr 4 10),(2,3,0,.trq 5 15 [0]),(0,7,0,.fz 22)]:=⟨⟩
instance(c:(List ByteArray)):LH (R:=SPr×Int) (zNV c) [0,2,4] [] (fun a=>[(7,T.ptr (T.agg [T.ro (lV a.1),T.ro (lM a.2.1),T.ro (lC a.2.2.1)])),(8,I a.2.2.2)]) (.xs (.xe 0 [4] fun b=>[(7,T.ptr (T.agg [T.ro (lV b.1),T.ro (lM b.2.1),T.ro (lC b.2.2)]))]) .xr):=⟨⟩
instance t_bc:FI J0 331 (∀(a:ByteArray),FnK J0 331 [Str a] (fun r=>[(fun x=>T.agg [(Ro lV) x.zA,(Ro lM) x.zN,(Ro lC) x.zD]) r.1,I r.2]) (fun _=>[]) (zU6 a)):=⟨Tryz.call331,fun a=>iM Tryz.func331⟩
instance:HS Tryz.f305.8 [(2,2,0,.tr 7 12)]:=⟨⟩
instance(b:SPr)(c:List Int)(d:Int):LH (R:=(List Int)) (zRk b c d) [0,1,2,9,19,20,21,32] [] (fun a=>[(7,L 1 I a.1),(33,I a.2)]) (.xe 2 [9,32] fun e=>[(7,L 1 I e)]):=⟨⟩
instance(c:SPr)(d:Int)(e:List Int)(f:List (List Int)):LH (R:=(List Int)) (zRl c d e f) [0,1,2,19,20] [] (fun b=>[(7,L 1 I b.1),(21,I b.2)]) (.xe 0 [0,1,2,19,20] fun a=>[(7,L 1 I a)]):=⟨⟩
instance t_M:FI J0 305 (∀(a:SPr)(b:Int)(c:List Int),FnK J0 305 [T.ro ((Pt vW) a),I b,T.ro (lV c)] (fun r=>[lV r]) (fun _=>[]) (f_M a b c)):=⟨Tryz.call305,fun a b c=>iM Tryz.func305⟩
instance:HS Tryz.f327.8 [(2,2,0,.tr 5 9),(2,3,0,.tr 6 12)]:=⟨⟩
instance(c:SPr)(d:(List Int)×(List Int)×Int):LH (R:=(List Int)) (zOJ c d) [0,7,14,15] [] (fun a=>[(5,L 1 I a.1),(6,L 1 I a.2)]) (.xe 2 [7] fun b=>[(5,L 1 I b.1),(6,L 1 I b.2)]):=⟨⟩
instance(b:SPr)(c:(List Int)):LH (R:=(List Int)) (zRn b c) [0,14] [] (fun a=>[(5,L 1 I a.1),(6,L 1 I a.2.1),(15,I a.2.2)]) (.xe 0 [0,14] fun d=>[(6,L 1 I d)]):=⟨⟩
instance t_R:FI J0 327 (∀(a:SPr)(b:List Int),FnK J0 327 [T.ro ((Pt vW) a),T.ro (lV b)] (fun r=>[lV r]) (fun _=>[]) (f_R a b)):=⟨Tryz.call327,fun a b=>iM Tryz.func327⟩
instance:HS Tryz.f144.8 [(2,2,0,.tr 7 9)]:=⟨⟩
instance t_bA:FI J0 144 (∀(a:SPr)(b c:List Int),FnK J0 144 [T.ro ((Pt vW) a),T.ro (lV b),T.ro (lV c)] (fun r=>[lV r]) (fun _=>[]) (zRo a b c)):=⟨Tryz.call144,fun a b c=>iM Tryz.func144⟩
instance:HS Tryz.f134.8 [(1,4,0,.trf 30 2 5 [2,0])]:=⟨⟩
instance(c:zC)(d:List Int):LH (R:=zF) (zKS c d) [0,4,17,18] [] (fun a=>[(5,T.ptr (T.agg [I a.1,I a.2.1,L 1 lV a.2.2.1])),(19,I a.2.2.2)]) (.xe 0 [0,17,18] fun b=>[(5,T.ptr (T.agg [I b.1,I b.2.1,L 1 lV b.2.2]))]):=⟨⟩
instance t_ap:FI J0 134 (∀(a:zC)(b:List Int),FnK J0 134 [T.ro ((Pt xP) a),T.ro (lV b)] (fun r=>[uP r]) (fun _=>[]) (zR0 a b)):=⟨Jaf,fun a b=>iM Tryz.func134⟩
instance(a b:zF):LH (R:=Bool) (zRJ a b) [0,3,12,13,20,21,22] [] (fun c=>[(23,I c)]) (.xs (.xe 2 [20,21,22] fun _=>[]) .xr):=⟨⟩
instance(a:zC)(b:zF):LH (R:=Bool) (zRK a b) [0,3,12] [] (fun c=>[(13,I c)]) (.xs (.xe 0 [0,3,12] fun _=>[]) .xr):=⟨⟩
instance t_V:FI J0 178 (∀(a:zC)(b:zF),FnK J0 178 [T.ro ((Pt xP) a),wZ b] (fun r=>[B r]) (fun _=>[]) (f_V a b)):=⟨Tryz.call178,fun a b=>iM Tryz.func178⟩
instance(a:zF):LH (R:=Bool) (zLf a) [1] [] (fun b=>[(3,I b)]) (.xs (.xe 0 [1] fun _=>[]) .xr):=⟨⟩
instance t_aS:FI J0 301 (∀(a:zF),FnK J0 301 [wZ a] (fun r=>[B r]) (fun _=>[]) (zUg a)):=⟨Tryz.call301,fun a=>iM Tryz.func301⟩
end
end Go.Wk
