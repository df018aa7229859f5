/- x -/
import Derived.Test.YtchnmobojdcikaaGreatKVaa
import Derived.Test.YtchnmobojdcikaaGreatKVab
import Derived.Test.YtchnmobojdcikaaGreatKVac
import Derived.Test.YtchnmobojdcikaaGreatKVad
import Derived.Test.YtchnmobojdcikaaGreatKWT
open Go.Proofs.Tryz renaming prog→J0
open Option renaming some→dJ,none→dK
open Bool renaming true→dL,false→dM
namespace Go.Wk
open Go Go.Proofs Go.Ab
set_option maxRecDepth 100000
set_option maxHeartbeats 4000000
section
attribute [local irreducible] RW CW DK OkL Ok yO yY wQ wK XS.post rng wS xR ixO zQ zZ wP yG zH GTo zX FnC FnK vM uH Kp Lk BsL BuL RpL Bk Lc JQ AK
instance:HS Tryz.f336.8 [(2,2,0,.tr 4 8),(2,5,0,.tr 5 13),(0,35,0,.tr 32 4),(2,7,0,.tr 4 35)]:=⟨⟩
instance(b:(List ByteArray)):LH (R:=(List Int)×Bool) (zQt b) [5] [] (fun a=>[(4,L 1 I a.1),(6,I a.2)]) (.xs (.xe 0 [5] fun c=>[(4,L 1 I c)]) .xr):=⟨⟩
instance t_ba:FI J0 336 (∀(a:ByteArray),FnK J0 336 [Str a] (fun r:(List Int)×Bool=>[lV r.1,B r.2]) (fun _=>[]) (zXE a)):=⟨Tryz.call336,fun a=>iM Tryz.func336⟩
instance(c:SPr):LH (R:=ByteArray) (zXI c) [1,3] [] (fun b=>[(4,Str b.1),(5,I b.2)]) (.xe 0 [] fun a=>[(4,Str a)]):=⟨⟩
instance(c:SPr):LH (R:=ByteArray) (zXJ c) [1,3] [] (fun b=>[(4,Str b.1),(6,I b.2)]) (.xe 2 [] fun a=>[(4,Str a)]):=⟨⟩
instance(c:SPr)(d:ByteArray×Int):LH (R:=ByteArray) (zXK c d) [1,3,7] [] (fun a=>[(4,Str a.1),(8,I a.2)]) (.xe 6 [] fun b=>[(4,Str b)]):=⟨⟩
instance(c:SPr):LH (R:=ByteArray) (zXL c) [1,3] [] (fun b=>[(4,Str b.1),(7,I b.2)]) (.xe 4 [1,3] fun a=>[(4,Str a)]):=⟨⟩
instance t_I:FI J0 338 (∀(a:SPr),FnK J0 338 [qPr a] (fun r=>[Str r]) (fun _=>[]) (f_I a)):=⟨Tryz.call338,fun a=>iM Tryz.func338⟩
instance:HS Tryz.f140.8 [(2,2,0,.tr 5 10)]:=⟨⟩
instance(b:zC)(c:List Int)(d:(List (List Int))×Int):LH (R:=(List (List Int))) (zMU b c d) [1,2,6] [] (fun a=>[(5,L 1 lV a.1),(7,I a.2)]) (.xe 2 [] fun e=>[(5,L 1 lV e)]):=⟨⟩
instance(b:zC)(c:List Int):LH (R:=(List (List Int))) (zMV b c) [1,2] [] (fun a=>[(5,L 1 lV a.1),(6,I a.2)]) (.xe 0 [1,2] fun d=>[(5,L 1 lV d)]):=⟨⟩
instance t_aa:FI J0 140 (∀(a:zC)(b:List Int),FnK J0 140 [wL a,T.ro (lV b)] (fun r:(List (List Int))=>[lM r]) (fun _=>[]) (zUl a b)):=⟨Tryz.call140,fun a b=>iM Tryz.func140⟩
instance:HS Tryz.f243.8 [(2,13,0,.tr 8 56),(2,23,0,.tr 11 108),(2,24,0,.tr 12 131)]:=⟨⟩
instance(a:SPr)(b:zC):LH (R:=Bool) (zUn a b) [2,3,5] [] (fun c=>[(6,I c)]) (.xs (.xe 0 [] fun _=>[]) .xr):=⟨⟩
instance(d:SPr)(e:zC)(b:Int):LH (R:=Bool) (zUo d e b) [2,3,5,7] [] (fun a=>[(8,L 1 lV a.1),(9,I a.2)]) (.xe 4 [] fun c=>[(8,L 1 lV c)]):=⟨⟩
instance(c:SPr)(d:zC)(a:Int):LH (R:=Bool) (zUp c d a) [2,3,5,7] [] (fun b=>[(10,I b)]) (.xs (.xe 6 [] fun _=>[]) .xr):=⟨⟩
instance(b:SPr)(c:zC):LH (R:=Bool) (zUq b c) [2,3,5] [] (fun a=>[(7,I a)]) (.xs (.xe 2 [2,3,5] fun _=>[]) .xr):=⟨⟩
instance t_A:FI J0 243 (∀(a:SPr)(b:zC),FnK J0 243 [qPr a,wL b] (fun r=>[B r]) (fun _=>[]) (f_A a b)):=⟨Tryz.call243,fun a b=>iM Tryz.func243⟩
end
end Go.Wk
