/- x -/
import Derived.Test.YtchnmobojdcikaaGreatRVad
import Derived.Test.YtchnmobojdcikaaGreatRVai
import Derived.Test.YtchnmobojdcikaaGreatRVan
import Derived.Test.YtchnmobojdcikaaGreatRVaz
import Derived.Test.YtchnmobojdcikaaGreatRWT
open Go.Proofs.Tryz renaming prog->J0,call134->Jb1
open Option renaming some->iW,none->iY
open Bool renaming true->iZ,false->ja
namespace Go.Wk
open Go Go.Proofs Go.Ab
set_option maxRecDepth 100000
set_option maxHeartbeats 4000000
section
attribute [local irreducible] RW CW DK OkL Ok yB yI xF xQ XS.post rng xV xC ixO zL yE yT yD zH GTo zR FnC FnK wA wN Kp Lk BsL BuL RpL Bk Lc JQ AK
instance t_bO:FI J0 117 (∀(a:SPr),FnK J0 117 [qPr a] (fun r=>[B r]) (fun _=>[]) (zVw a)):=⟨Tryz.call117,fun a=>iM Tryz.func117⟩
instance(b:SPr):LH (R:=Bool) (zPn b) [1,3,30,31] [] (fun a=>[(4,I a.1),(32,I a.2)]) (.xs (.xe 0 [30,31] fun _=>[]) .xr):=⟨⟩
instance(b:SPr)(c:Int)(a:List (List Int)):LH (R:=Bool) (zV4 b c a) [1,3,7,49,50,78,79] [] (fun d=>[(80,I d)]) (.xs (.xe 4 [7,78,79] fun _=>[]) .xr):=⟨⟩
instance(a:SPr):LH (R:=Bool) (zPo a) [1,3,49] [] (fun b=>[(50,I b)]) (.xs (.xe 2 [1,3,49] fun _=>[]) .xr):=⟨⟩
instance t_G:FI J0 201 (∀(a:SPr),FnK J0 201 [qPr a] (fun r=>[B r]) (fun _=>[]) (f_G a)):=⟨Tryz.call201,fun a=>iM Tryz.func201⟩
instance:HS Tryz.f134.8 [(1,4,0,.trf 30 2 5 [2,0])]:=⟨⟩
instance(c:zB)(d:List Int):LH (R:=zN) (zNG c d) [0,4,17,18] [] (fun a=>[(5,T.ptr (T.agg [I a.1,I a.2.1,L 1 lV a.2.2.1])),(19,I a.2.2.2)]) (.xe 0 [0,17,18] fun b=>[(5,T.ptr (T.agg [I b.1,I b.2.1,L 1 lV b.2.2]))]):=⟨⟩
instance t_ac:FI J0 134 (∀(a:zB)(b:List Int),FnK J0 134 [T.ro ((Pt wC) a),T.ro (lV b)] (fun r=>[zCD r]) (fun _=>[]) (zLJ a b)):=⟨Jb1,fun a b=>iM Tryz.func134⟩
end
end Go.Wk
