/- x -/
import Derived.Test.YtchnmobojdcikaaGreatRVaa
import Derived.Test.YtchnmobojdcikaaGreatRVab
import Derived.Test.YtchnmobojdcikaaGreatRVae
import Derived.Test.YtchnmobojdcikaaGreatRVah
import Derived.Test.YtchnmobojdcikaaGreatRWT
open Go.Proofs.Tryz renaming prog->J0
open Option renaming some->iW,none->iY
open Bool renaming true->iZ,false->ja
namespace Go.Wk
open Go Go.Proofs Go.Ab
set_option maxRecDepth 100000
set_option maxHeartbeats 4000000
section
attribute [local irreducible] RW CW DK OkL Ok yB yI xF xQ XS.post rng xV xC ixO zL yE yT yD zH GTo zR FnC FnK wA wN Kp Lk BsL BuL RpL Bk Lc JQ AK
instance(c:SPr):LH (R:=ByteArray) (zZa c) [1,3] [] (fun b=>[(4,Str b.1),(5,I b.2)]) (.xe 0 [] fun a=>[(4,Str a)]):=⟨⟩
instance(c:SPr):LH (R:=ByteArray) (zZb c) [1,3] [] (fun b=>[(4,Str b.1),(6,I b.2)]) (.xe 2 [] fun a=>[(4,Str a)]):=⟨⟩
instance(c:SPr)(d:ByteArray×Int):LH (R:=ByteArray) (zZc c d) [1,3,7] [] (fun a=>[(4,Str a.1),(8,I a.2)]) (.xe 6 [] fun b=>[(4,Str b)]):=⟨⟩
instance(c:SPr):LH (R:=ByteArray) (zZd c) [1,3] [] (fun b=>[(4,Str b.1),(7,I b.2)]) (.xe 4 [1,3] fun a=>[(4,Str a)]):=⟨⟩
instance t_I:FI J0 338 (∀(a:SPr),FnK J0 338 [qPr a] (fun r=>[Str r]) (fun _=>[]) (f_I a)):=⟨Tryz.call338,fun a=>iM Tryz.func338⟩
instance:HS Tryz.f140.8 [(2,2,0,.tr 5 10)]:=⟨⟩
instance(b:zB)(c:List Int)(d:(List (List Int))×Int):LH (R:=(List (List Int))) (zN7 b c d) [1,2,6] [] (fun a=>[(5,L 1 lV a.1),(7,I a.2)]) (.xe 2 [] fun e=>[(5,L 1 lV e)]):=⟨⟩
instance(b:zB)(c:List Int):LH (R:=(List (List Int))) (zN8 b c) [1,2] [] (fun a=>[(5,L 1 lV a.1),(6,I a.2)]) (.xe 0 [1,2] fun d=>[(5,L 1 lV d)]):=⟨⟩
instance t_ab:FI J0 140 (∀(a:zB)(b:List Int),FnK J0 140 [wS a,T.ro (lV b)] (fun r:(List (List Int))=>[lM r]) (fun _=>[]) (zVx a b)):=⟨Tryz.call140,fun a b=>iM Tryz.func140⟩
instance t_br:FI J0 260 (∀(a:zB)(b:List (List Int))(c:List Int)(d:Int),FnK J0 260 [wS a,T.ro (lM b),T.ro (lV c),I d] (fun r=>[lV r]) (fun _=>[]) (zNQ a b c d)):=⟨Tryz.call260,fun a b c d=>iM Tryz.func260⟩
instance t_bu:FI J0 324 (∀(a:zO)(b c:zI),FnK J0 324 [xM a,xH b,xH c] (fun r=>[lV r]) (fun _=>[]) (zNW a b c)):=⟨Tryz.call324,fun a b c=>iM Tryz.func324⟩
instance t_bR:FI J0 251 (∀(a b:Int)(c:List Int),FnK J0 251 [I a,I b,T.ro (lV c)] (fun r=>[lV r]) (fun _=>[]) (zWc a b c)):=⟨Tryz.call251,fun a b c=>iM Tryz.func251⟩
end
end Go.Wk
