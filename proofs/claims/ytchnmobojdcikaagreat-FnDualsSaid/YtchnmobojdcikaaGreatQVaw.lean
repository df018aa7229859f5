/- x -/
import Derived.Test.YtchnmobojdcikaaGreatQVaa
import Derived.Test.YtchnmobojdcikaaGreatQVah
import Derived.Test.YtchnmobojdcikaaGreatQVai
import Derived.Test.YtchnmobojdcikaaGreatQVal
import Derived.Test.YtchnmobojdcikaaGreatQVav
import Derived.Test.YtchnmobojdcikaaGreatQWT
open Go.Proofs.Tryz renaming prog→J0
open Option renaming some→dq,none→dt
open Bool renaming true→du,false→dv
namespace Go.Wk
open Go Go.Proofs Go.Ab
set_option maxRecDepth 100000
set_option maxHeartbeats 4000000
section
attribute [local irreducible] RW CW DK OkL Ok zS zV yQ xI XS.post rng xL yO ixO zP zU yT zZ zG GTo zM FnC FnK xK xN Kp Lk BsL BuL RpL Bk Lc JQ AK
instance:HS Tryz.f317.8 [(1,2,0,.trf 20 0 4 [0,0]),(1,2,1,.trf 20 1 4 [1,0]),(1,2,2,.trf 20 2 4 [2,0])]:=⟨⟩
instance t_bT:FI J0 317 (∀(a:Int),FnK J0 317 [I a] (fun r=>[(fun x=>T.agg [(Ro lV) x.zA,(Ro lM) x.zN,(Ro lC) x.zD]) r]) (fun _=>[]) (zU7 a)):=⟨Tryz.call317,fun a=>iM Tryz.func317⟩
instance t_bB:FI J0 306 (∀(a:SPr)(b c:List Int),FnK J0 306 [T.ro ((Pt vW) a),T.ro (lV b),T.ro (lV c)] (fun r=>[lV r]) (fun _=>[]) (zRp a b c)):=⟨Tryz.call306,fun a b c=>iM Tryz.func306⟩
instance:HS Tryz.f258.8 [(2,5,0,.tr 8 20),(2,7,0,.tr 9 28),(2,10,0,.tr 10 36)]:=⟨⟩
theorem zZW{g_k:SPr→Int→(List Int)→Option (List Int)}[FI J0 258 (∀(x0:SPr)(x1:Int)(x2:List Int),FnK J0 258 [qPr x0,I x1,T.ro (lV x2)] (fun r:(List Int)=>[lV r]) (fun _=>[]) (g_k x0 x1 x2))]:∀(x0:SPr)(x1:Int)(x2:List Int),FnK J0 258 [qPr x0,I x1,T.ro (lV x2)] (fun r:(List Int)=>[lV r]) (fun _=>[]) (b_k g_k x0 x1 x2):=fun x0 x1 x2=>iM Tryz.func258
theorem zZX{g_k:SPr→Int→(List Int)→Option (List Int)}(H_k:∀(x0:SPr)(x1:Int)(x2:List Int) r,g_k x0 x1 x2=dq r→FnC J0 258 [qPr x0,I x1,T.ro (lV x2)] [lV r] [])(x0:SPr)(x1:Int)(x2:List Int)(r:(List Int))(h:b_k g_k x0 x1 x2=dq r):FnC J0 258 [qPr x0,I x1,T.ro (lV x2)] [lV r] []:=by have:FI J0 258 (∀(x0:SPr)(x1:Int)(x2:List Int),FnK J0 258 [qPr x0,I x1,T.ro (lV x2)] (fun r:(List Int)=>[lV r]) (fun _=>[]) (g_k x0 x1 x2)):=⟨Tryz.call258,fun x0 x1 x2=>FnK.mk (H_k x0 x1 x2)⟩;exact(zZW x0 x1 x2).go h
end
end Go.Wk
