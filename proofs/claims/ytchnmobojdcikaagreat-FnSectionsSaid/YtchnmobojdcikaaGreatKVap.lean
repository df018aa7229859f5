/- x -/
import Derived.Test.YtchnmobojdcikaaGreatKVai
import Derived.Test.YtchnmobojdcikaaGreatKVaj
import Derived.Test.YtchnmobojdcikaaGreatKVak
import Derived.Test.YtchnmobojdcikaaGreatKVal
import Derived.Test.YtchnmobojdcikaaGreatKWT
open Go.Proofs.Tryz renaming prog→J0
open Option renaming some→dJ,none→dK
open Bool renaming true→dL,false→dM
namespace Go.Wk
open Go Go.Proofs Go.Ab
set_option maxRecDepth 100000
set_option maxHeartbeats 4000000
section
attribute [local irreducible] RW CW DK OkL Ok yO yY wQ wK XS.post rng wS xR ixO zQ zZ wP yG zH GTo zX FnC FnK vM uH Kp Lk BsL BuL RpL Bk Lc JQ AK
instance:HS Tryz.f325.8 [(0,53,0,.trq 40 7 [0,0])]:=⟨⟩
instance(g_c:zN→Int→zI→zI→Option zI)(c:zN)(d:Int)(e:zI)(f:(List Int)×(List Int)×Int):LH (R:=zI) (zX0 g_c c d e f) [1,3,5,6,8] [] (fun a=>[(7,T.ptr (T.agg [L 1 I a.1,L 1 I a.2.1])),(9,I a.2.2)]) (.xe 2 [] fun b=>[(7,T.ptr (T.agg [L 1 I b.1,L 1 I b.2]))]):=⟨⟩
instance(g_c:zN→Int→zI→zI→Option zI)(c:zN)(d:Int)(e:zI):LH (R:=zI) (zUT g_c c d e) [1,3,5,6] [] (fun b=>[(7,T.ptr (T.agg [L 1 I b.1,L 1 I b.2.1])),(8,I b.2.2)]) (.xe 0 [] fun a=>[(7,T.ptr (T.agg [L 1 I a.1,L 1 I a.2]))]):=⟨⟩
theorem yEz{g_c:zN→Int→zI→zI→Option zI}[FI J0 322 (∀(x0:zN)(x1:Int)(x2:zI)(x3:zI),FnK J0 322 [xG x0,I x1,xD x2,xD x3] (fun r:zI=>[xS r]) (fun _=>[]) (g_c x0 x1 x2 x3))]:∀(x0:zN)(x1:Int)(x2:zI),FnK J0 325 [xG x0,I x1,xD x2] (fun r:zI=>[xS r]) (fun _=>[]) (b_f g_c x0 x1 x2):=fun x0 x1 x2=>iM Tryz.func325
theorem yE0{g_c:zN→Int→zI→zI→Option zI}(H_c:∀(x0:zN)(x1:Int)(x2:zI)(x3:zI) r,g_c x0 x1 x2 x3=dJ r→FnC J0 322 [xG x0,I x1,xD x2,xD x3] [xS r] [])(x0:zN)(x1:Int)(x2:zI)(r:zI)(h:b_f g_c x0 x1 x2=dJ r):FnC J0 325 [xG x0,I x1,xD x2] [xS r] []:=by have:FI J0 322 (∀(x0:zN)(x1:Int)(x2:zI)(x3:zI),FnK J0 322 [xG x0,I x1,xD x2,xD x3] (fun r:zI=>[xS r]) (fun _=>[]) (g_c x0 x1 x2 x3)):=⟨Tryz.call322,fun x0 x1 x2 x3=>FnK.mk (H_c x0 x1 x2 x3)⟩;exact(yEz x0 x1 x2).go h
instance t_bk:FI J0 324 (∀(a:zN)(b c:zI),FnK J0 324 [xG a,xD b,xD c] (fun r=>[lV r]) (fun _=>[]) (zNo a b c)):=⟨Tryz.call324,fun a b c=>iM Tryz.func324⟩
instance:HS Tryz.f189.8 [(2,2,0,.tr 7 11)]:=⟨⟩
instance(c:Int)(d:List (List Int)):LH (R:=(List Int)) (zNf c d) [0,1] [] (fun b=>[(7,L 1 I b.1),(8,I b.2)]) (.xe 0 [0,1] fun a=>[(7,L 1 I a)]):=⟨⟩
instance t_aP:FI J0 189 (∀(a:Int)(b:List (List Int))(c:List Int),FnK J0 189 [I a,T.ro (lM b),T.ro (lV c)] (fun r=>[lV r]) (fun _=>[]) (zXs a b c)):=⟨Tryz.call189,fun a b c=>iM Tryz.func189⟩
instance t_bV:FI J0 251 (∀(a b:Int)(c:List Int),FnK J0 251 [I a,I b,T.ro (lV c)] (fun r=>[lV r]) (fun _=>[]) (zXu a b c)):=⟨Tryz.call251,fun a b c=>iM Tryz.func251⟩
instance:HS Tryz.f151.8 [(2,2,0,.tr 5 12),(2,6,0,.tr 7 25),(0,7,0,.fz 40),(2,10,0,.tr 9 41),(0,62,0,.tr 59 9),(2,15,0,.tr 9 62),(0,80,0,.fz 79),(0,81,0,.tr 63 9),(0,87,0,.tr 84 9),(2,19,0,.tr 9 87),(2,4,0,.tr 5 9)]:=⟨⟩
instance(c:Int)(d:(List (List Int))×Int)(e:Int)(f:(List Int)):LH (R:=(List (List Int))) (zIX c d e f) [0,1,5,6,7,8] [] (fun b=>[(9,L 1 (Ro lV) b.1),(10,B b.2.1),(11,I b.2.2)]) (.xe 2 [5,8] fun a=>[(9,L 1 (Ro lV) a.1),(10,B a.2)]):=⟨⟩
instance(c:Int)(d:List (List Int)):LH (R:=(List (List Int))) (zRs c d) [0,1] [] (fun b=>[(5,L 1 (Ro lV) b.1),(6,I b.2)]) (.xe 0 [0,1] fun a=>[(5,L 1 (Ro lV) a)]):=⟨⟩
instance t_E:FI J0 151 (∀(a:Int)(b:List (List Int)),FnK J0 151 [I a,T.ro (lM b)] (fun r:(List (List Int))=>[(L 1 (Ro lV)) r]) (fun _=>[]) (f_E a b)):=⟨Tryz.call151,fun a b=>iM Tryz.func151⟩
instance:HS Tryz.f257.8 [(2,2,0,.tr 5 10),(2,3,0,.tr 6 11),(0,30,0,.tr 18 6),(0,33,0,.fz 6),(0,33,1,.res 32 6 [])]:=⟨⟩
instance(b:List (List Int))(c:(List (List Int))):LH (R:=(List (List Int))) (zNh b c) [0,1,5] [] (fun a=>[(6,L 1 lV a.1),(7,I a.2)]) (.xe 0 [1,5] fun d=>[(6,L 1 lV d)]):=⟨⟩
instance t_aQ:FI J0 257 (∀(a:Int)(b:List (List Int)),FnK J0 257 [I a,T.ro (lM b)] (fun r:(List (List Int))=>[(L 1 (Ro lV)) r]) (fun _=>[]) (zXv a b)):=⟨Tryz.call257,fun a b=>iM Tryz.func257⟩
instance:HS Tryz.f163.8 [(2,2,0,.tr 7 12),(2,3,0,.tr 8 13),(0,36,0,.tr 27 8),(2,5,0,.tr 8 36)]:=⟨⟩
instance(c:Int)(d:(List (List Int))):LH (R:=(List (List Int))) (zJS c d) [2,7] [] (fun b=>[(8,L 1 lV b.1),(9,I b.2)]) (.xe 0 [2,7] fun a=>[(8,L 1 lV a)]):=⟨⟩
instance t_aH:FI J0 163 (∀(a:Int)(b:List (List Int))(c:Int),FnK J0 163 [I a,T.ro (lM b),I c] (fun r:(List (List Int))=>[lM r]) (fun _=>[]) (zXw a b c)):=⟨Tryz.call163,fun a b c=>iM Tryz.func163⟩
end
end Go.Wk
