/- x -/
import Derived.Test.YtchnmobojdcikaaGreatRVac
import Derived.Test.YtchnmobojdcikaaGreatRVas
import Derived.Test.YtchnmobojdcikaaGreatRVaw
import Derived.Test.YtchnmobojdcikaaGreatRWT
import Derived.Test.YtchnmobojdcikaaGreatRVbd
import Derived.Test.YtchnmobojdcikaaGreatRVbe
open Go.Proofs.Tryz renaming prog->J0,call84->Ur
open Option renaming some->iW,none->iY
open Bool renaming true->iZ,false->ja
namespace Go.Wk
open Go Go.Proofs Go.Ab
set_option maxRecDepth 100000
set_option maxHeartbeats 4000000
section
attribute [local irreducible] RW CW DK OkL Ok yB yI xF xQ XS.post rng xV xC ixO zL yE yT yD zH GTo zR FnC FnK wA wN Kp Lk BsL BuL RpL Bk Lc JQ AK
instance:HS Tryz.f274.8 [(2,23,0,.tr 12 152),(2,26,0,.tr 12 165)]:=⟨⟩
instance(a:SPr)(b:Int):LH (R:=yW) (zVF a b) [0,1,4,5,6] [] (fun c=>[(7,I c)]) (.xs (.xe 0 [] fun _=>[]) .xr):=⟨⟩
instance(a:SPr)(b c:Int):LH (R:=yW) (zVG a b c) [0,1,4,5,6,8] [] (fun d=>[(9,I d)]) (.xs (.xe 4 [] fun _=>[]) .xr):=⟨⟩
instance(a:SPr)(b:Int):LH (R:=yW) (zVH a b) [0,1,4,5,6] [] (fun c=>[(8,I c)]) (.xs (.xe 2 [] fun _=>[]) .xr):=⟨⟩
instance(d:SPr)(e b:Int):LH (R:=yW) (zVI d e b) [0,1,4,5,6,10,11,159] [] (fun a=>[(12,L 1 I a.1),(160,I a.2)]) (.xe 8 [159] fun c=>[(12,L 1 I c)]):=⟨⟩
instance(c:SPr)(d:Int)(a:List Int):LH (R:=yW) (zVJ c d a) [0,1,4,5,6,10] [] (fun b=>[(11,I b)]) (.xs (.xe 6 [0,1,5,6,10] fun _=>[]) .xr):=⟨⟩
instance t_u:FI J0 274 (∀(a:SPr)(b:Int),FnK J0 274 [T.ro ((Pt vQ) a),I b] (fun r=>[zHO r]) (fun _=>[]) (f_u a b)):=⟨Tryz.call274,fun a b=>iM Tryz.func274⟩
instance(a:SPr):LH (R:=Int) (zHs a) [0] [] (fun b=>[(3,I b)]) (.xe 0 [0] fun c=>[(3,I c)]):=⟨⟩
instance t_al:FI J0 202 (∀(a:SPr),FnK J0 202 [T.ro ((Pt vQ) a)] (fun r=>[I r]) (fun _=>[]) (zSt a)):=⟨Tryz.call202,fun a=>iM Tryz.func202⟩
instance t_bn:FI J0 84 (∀(a:SPr),FnK J0 84 [qPr a] (fun r=>[B r]) (fun _=>[]) (zY2 a)):=⟨Ur,fun a=>iM Tryz.func84⟩
instance t_b6:FI J0 126 (∀(a:SPr)(b:zB)(c:List (List Int)),FnK J0 126 [T.ro ((Pt vQ) a),T.ro ((Pt wC) b),T.ro (lM c)] (fun r=>[B r]) (fun _=>[]) (zYC a b c)):=⟨Tryz.call126,fun a b c=>iM Tryz.func126⟩
end
end Go.Wk
