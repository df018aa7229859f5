/- x -/
import Derived.Test.YtchnmobojdcikaaGreatRVad
import Derived.Test.YtchnmobojdcikaaGreatRVaf
import Derived.Test.YtchnmobojdcikaaGreatRVag
import Derived.Test.YtchnmobojdcikaaGreatRVah
import Derived.Test.YtchnmobojdcikaaGreatRVak
import Derived.Test.YtchnmobojdcikaaGreatRVav
import Derived.Test.YtchnmobojdcikaaGreatRWT
open Go.Proofs.Tryz renaming prog->J0
open Option renaming some->iW,none->iY
open Bool renaming true->iZ,false->ja
namespace Go.Wk
open Go Go.Proofs Go.Ab
set_option maxRecDepth 100000
set_option maxHeartbeats 4000000
section
attribute [local irreducible] RW CW DK OkL Ok yB yI xF xQ XS.post rng xV xC ixO zL yE yT yD zH GTo zR FnC FnK wA wN Kp Lk BsL BuL RpL Bk Lc JQ AK
instance t_ci:FI J0 229 (∀(a:SPr),FnK J0 229 [qPr a] (fun r=>[B r]) (fun _=>[]) (yCc a)):=⟨Tryz.call229,fun a=>iM Tryz.func229⟩
instance:HS Tryz.f214.8 [(2,3,0,.tr 8 22),(2,4,0,.tr 9 23),(2,5,0,.fz 8),(2,10,0,.tr 11 43),(0,62,0,.tr 44 9),(2,13,0,.fz 8),(2,20,0,.tr 15 83),(0,102,0,.fz 90),(0,113,0,.tr 103 9),(2,18,0,.tr 9 113)]:=⟨⟩
instance(b:SPr)(c:zB)(d:List (List Int))(e:(List (List Int))×Int):LH (R:=(List (List Int))) (zWp b c d e) [2,3,4,7,8,9,10] [] (fun a=>[(11,T.ro (lV a.1)),(12,I a.2)]) (.xe 2 [] fun f=>[(11,T.ro (lV f))]):=⟨⟩
instance(c:SPr)(d:zB)(e:List (List Int))(f:Nat):LH (R:=(List (List Int))) (zWq c d e f) [2,3,4,7,8] [8] (fun b=>[(9,L 1 lV b.1),(10,I b.2)]) (.xe 0 [] fun a=>[(9,L 1 lV a)]):=⟨⟩
instance(d:SPr)(e:zB)(f:List (List Int))(g:Nat)(b:(List (List Int))×Int):LH (R:=(List (List Int))) (zWr d e f g b) [2,3,4,7,8,13] [] (fun a=>[(9,L 1 lV a.1),(14,I a.2)]) (.xe 6 [] fun c=>[(9,L 1 lV c)]):=⟨⟩
instance(c:SPr)(d:zB)(e:List (List Int))(f:Nat):LH (R:=(List (List Int))) (zWs c d e f) [2,3,4,7,8] [] (fun a=>[(9,L 1 lV a.1),(13,I a.2)]) (.xe 4 [2,3,4,7,8] fun b=>[(9,L 1 lV b)]):=⟨⟩
instance t_y:FI J0 214 (∀(a:SPr)(b:zB)(c:List (List Int)),FnK J0 214 [qPr a,wS b,T.ro (lM c)] (fun r:(List (List Int))=>[lM r]) (fun _=>[]) (f_y a b c)):=⟨Tryz.call214,fun a b c=>iM Tryz.func214⟩
instance:HS Tryz.f148.8 [(0,26,0,.trq 21 5 [2,0]),(1,4,0,.trf 29 2 5 [2,0])]:=⟨⟩
instance(a b:zN):LH (R:=zN) (zNF a b) [3,4,14,15] [] (fun c=>[(5,T.ptr (T.agg [I a.Prime,I b.xT,L 1 lV c.1])),(16,I c.2)]) (.xe 0 [3,14,15] fun d=>[(5,T.ptr (T.agg [I a.Prime,I b.xT,L 1 lV d]))]):=⟨⟩
instance t_aR:FI J0 148 (∀(a b:zN),FnK J0 148 [jW a,jW b] (fun r=>[zCD r]) (fun _=>[]) (zY4 a b)):=⟨Tryz.call148,fun a b=>iM Tryz.func148⟩
instance:HS Tryz.f173.8 [(2,2,0,.tr 7 14),(2,6,0,.tr 7 26)]:=⟨⟩
instance(c:zB)(d:List (List Int))(e:List Int):LH (R:=(List Int)) (zNT c d e) [0,1,15,16] [] (fun b=>[(7,L 1 I b.1),(17,I b.2)]) (.xe 0 [0,1,15,16] fun a=>[(7,L 1 I a)]):=⟨⟩
instance t_aL:FI J0 173 (∀(a:zB)(b:List (List Int))(c:List Int),FnK J0 173 [T.ro ((Pt wC) a),T.ro (lM b),T.ro (lV c)] (fun r=>[lV r]) (fun _=>[]) (zWh a b c)):=⟨Tryz.call173,fun a b c=>iM Tryz.func173⟩
instance:HS Tryz.f181.8 [(0,16,0,.tr 12 3),(2,6,0,.tr 3 16)]:=⟨⟩
instance(b:List (List Int)):LH (R:=(List Int)) (zNZ b) [6,7] [] (fun a=>[(3,L 1 I a.1),(8,I a.2)]) (.xe 0 [6,7] fun c=>[(3,L 1 I c)]):=⟨⟩
instance t_aX:FI J0 181 (∀(a:List (List Int)),FnK J0 181 [T.ro (lM a)] (fun r=>[lV r]) (fun _=>[]) (zYF a)):=⟨Tryz.call181,fun a=>iM Tryz.func181⟩
end
end Go.Wk
