/- x -/
import Derived.Test.YtchnmobojdcikaaGreatCVaa
import Derived.Test.YtchnmobojdcikaaGreatCVab
import Derived.Test.YtchnmobojdcikaaGreatCVac
import Derived.Test.YtchnmobojdcikaaGreatCVad
import Derived.Test.YtchnmobojdcikaaGreatCVae
import Derived.Test.YtchnmobojdcikaaGreatCVaf
import Derived.Test.YtchnmobojdcikaaGreatCVag
import Derived.Test.YtchnmobojdcikaaGreatCVaj
import Derived.Test.YtchnmobojdcikaaGreatCVak
import Derived.Test.YtchnmobojdcikaaGreatCVam
import Derived.Test.YtchnmobojdcikaaGreatCWT
open Go.Proofs.Tryz renaming prog→J0
open Option renaming some→iz,none→iA
open Bool renaming true→iB,false→iC
namespace Go.Wk
open Go Go.Proofs Go.Ab
set_option maxRecDepth 100000
set_option maxHeartbeats 4000000
section
attribute [local irreducible] RW CW DK OkL Ok zV yA yW xK XS.post rng xN yP ixO zO yG yO yB zG GTo zP FnC FnK xQ wB Kp Lk BsL BuL RpL Bk Lc JQ AK
instance t_bi:FI J0 260 (∀(a:zC)(b:List (List Int))(c:List Int)(d:Int),FnK J0 260 [vC a,T.ro (lM b),T.ro (lV c),I d] (fun r=>[lV r]) (fun _=>[]) (zM2 a b c d)):=⟨Tryz.call260,fun a b c d=>iM Tryz.func260⟩
instance:HS Tryz.f325.8 [(0,53,0,.trq 40 7 [0,0])]:=⟨⟩
instance(g_c:zN→Int→zH→zH→Option zH)(c:zN)(d:Int)(e:zH)(f:(List Int)×(List Int)×Int):LH (R:=zH) (zW6 g_c c d e f) [1,3,5,6,8] [] (fun a=>[(7,T.ptr (T.agg [L 1 I a.1,L 1 I a.2.1])),(9,I a.2.2)]) (.xe 2 [] fun b=>[(7,T.ptr (T.agg [L 1 I b.1,L 1 I b.2]))]):=⟨⟩
instance(g_c:zN→Int→zH→zH→Option zH)(c:zN)(d:Int)(e:zH):LH (R:=zH) (zUr g_c c d e) [1,3,5,6] [] (fun b=>[(7,T.ptr (T.agg [L 1 I b.1,L 1 I b.2.1])),(8,I b.2.2)]) (.xe 0 [] fun a=>[(7,T.ptr (T.agg [L 1 I a.1,L 1 I a.2]))]):=⟨⟩
theorem yDh{g_c:zN→Int→zH→zH→Option zH}[FI J0 322 (∀(x0:zN)(x1:Int)(x2:zH)(x3:zH),FnK J0 322 [xG x0,I x1,xC x2,xC x3] (fun r:zH=>[xX r]) (fun _=>[]) (g_c x0 x1 x2 x3))]:∀(x0:zN)(x1:Int)(x2:zH),FnK J0 325 [xG x0,I x1,xC x2] (fun r:zH=>[xX r]) (fun _=>[]) (b_f g_c x0 x1 x2):=fun x0 x1 x2=>iM Tryz.func325
theorem yDi{g_c:zN→Int→zH→zH→Option zH}(H_c:∀(x0:zN)(x1:Int)(x2:zH)(x3:zH) r,g_c x0 x1 x2 x3=iz r→FnC J0 322 [xG x0,I x1,xC x2,xC x3] [xX r] [])(x0:zN)(x1:Int)(x2:zH)(r:zH)(h:b_f g_c x0 x1 x2=iz r):FnC J0 325 [xG x0,I x1,xC x2] [xX r] []:=by have:FI J0 322 (∀(x0:zN)(x1:Int)(x2:zH)(x3:zH),FnK J0 322 [xG x0,I x1,xC x2,xC x3] (fun r:zH=>[xX r]) (fun _=>[]) (g_c x0 x1 x2 x3)):=⟨Tryz.call322,fun x0 x1 x2 x3=>FnK.mk (H_c x0 x1 x2 x3)⟩;exact(yDh x0 x1 x2).go h
instance:HS Tryz.f189.8 [(2,2,0,.tr 7 11)]:=⟨⟩
instance(c:Int)(d:List (List Int)):LH (R:=(List Int)) (zMy c d) [0,1] [] (fun b=>[(7,L 1 I b.1),(8,I b.2)]) (.xe 0 [0,1] fun a=>[(7,L 1 I a)]):=⟨⟩
instance t_al:FI J0 189 (∀(a:Int)(b:List (List Int))(c:List Int),FnK J0 189 [I a,T.ro (lM b),T.ro (lV c)] (fun r=>[lV r]) (fun _=>[]) (zOd a b c)):=⟨Tryz.call189,fun a b c=>iM Tryz.func189⟩
instance t_bD:FI J0 196 (∀(a:SPr)(b:zC)(c:List (List Int)),FnK J0 196 [qPr a,vC b,T.ro (lM c)] (fun r=>[B r]) (fun _=>[]) (zQO a b c)):=⟨Tryz.call196,fun a b c=>iM Tryz.func196⟩
instance:HS Tryz.f234.8 [(0,37,0,.tr 21 3),(0,77,0,.tr 66 3),(2,15,0,.tr 3 77)]:=⟨⟩
instance(b:SPr):LH (R:=(List ((List Int)×(List Int)))) (zTX b) [0,14,15] [] (fun a=>[(3,L 2 (A2 lV) a.1),(16,I a.2)]) (.xe 0 [14,15] fun c=>[(3,L 2 (A2 lV) c)]):=⟨⟩
instance(c:(List ((List Int)×(List Int)))×Int)(d:List (List Int)):LH (R:=(List ((List Int)×(List Int)))) (zTY c d) [0,6,43,44,53,54] [] (fun b=>[(3,L 2 (A2 lV) b.1),(55,I b.2)]) (.xe 4 [6,53,54] fun a=>[(3,L 2 (A2 lV) a)]):=⟨⟩
instance(c:SPr):LH (R:=(List ((List Int)×(List Int)))) (zTZ c) [0,43] [] (fun b=>[(3,L 2 (A2 lV) b.1),(44,I b.2)]) (.xe 2 [0,43] fun a=>[(3,L 2 (A2 lV) a)]):=⟨⟩
instance t_B:FI J0 234 (∀(a:SPr),FnK J0 234 [T.ro ((Pt vE) a)] (fun r:(List ((List Int)×(List Int)))=>[(L 2 (A2 lV)) r]) (fun _=>[]) (f_B a)):=⟨Tryz.call234,fun a=>iM Tryz.func234⟩
instance:HS Tryz.f148.8 [(0,26,0,.trq 21 5 [2,0]),(1,4,0,.trf 29 2 5 [2,0])]:=⟨⟩
instance(a b:zT):LH (R:=zT) (zMt a b) [3,4,14,15] [] (fun c=>[(5,T.ptr (T.agg [I a.Prime,I b.wA,L 1 lV c.1])),(16,I c.2)]) (.xe 0 [3,14,15] fun d=>[(5,T.ptr (T.agg [I a.Prime,I b.wA,L 1 lV d]))]):=⟨⟩
instance t_aM:FI J0 148 (∀(a b:zT),FnK J0 148 [qO a,qO b] (fun r=>[zCm r]) (fun _=>[]) (zWv a b)):=⟨Tryz.call148,fun a b=>iM Tryz.func148⟩
instance t_bS:FI J0 213 (∀(a:SPr)(b:zC)(c:List (List Int)),FnK J0 213 [qPr a,vC b,T.ro (lM c)] (fun r=>[B r]) (fun _=>[]) (zW3 a b c)):=⟨Tryz.call213,fun a b c=>iM Tryz.func213⟩
end
end Go.Wk
