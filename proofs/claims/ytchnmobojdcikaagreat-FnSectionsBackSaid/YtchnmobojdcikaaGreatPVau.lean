/- x -/
import Derived.Test.YtchnmobojdcikaaGreatPVad
import Derived.Test.YtchnmobojdcikaaGreatPVak
import Derived.Test.YtchnmobojdcikaaGreatPVar
import Derived.Test.YtchnmobojdcikaaGreatPWT
open Go.Proofs.Tryz renaming prog→J0,call134→Ja0
open Option renaming some→aB,none→aC
open Bool renaming true→aD,false→aE
namespace Go.Wk
open Go Go.Proofs Go.Ab
set_option maxRecDepth 100000
set_option maxHeartbeats 4000000
section
attribute [local irreducible] RW CW DK OkL Ok yA yB xE xH XS.post rng xK yV ixO zN yD xC zU zC GTo zO FnC FnK xV wG Kp Lk BsL BuL RpL Bk Lc JQ AK
instance(b:SPr):LH (R:=Bool) (zKz b) [1,3,30,31] [] (fun a=>[(4,I a.1),(32,I a.2)]) (.xs (.xe 0 [30,31] fun _=>[]) .xr):=⟨⟩
instance(b:SPr)(c:Int)(a:List (List Int)):LH (R:=Bool) (zPi b c a) [1,3,7,49,50,78,79] [] (fun d=>[(80,I d)]) (.xs (.xe 4 [7,78,79] fun _=>[]) .xr):=⟨⟩
instance(a:SPr):LH (R:=Bool) (zK0 a) [1,3,49] [] (fun b=>[(50,I b)]) (.xs (.xe 2 [1,3,49] fun _=>[]) .xr):=⟨⟩
instance t_q:FI J0 201 (∀(a:SPr),FnK J0 201 [qPr a] (fun r=>[B r]) (fun _=>[]) (f_q a)):=⟨Tryz.call201,fun a=>iM Tryz.func201⟩
instance:HS Tryz.f134.8 [(1,4,0,.trf 30 2 5 [2,0])]:=⟨⟩
instance(c:zG)(d:List Int):LH (R:=yE) (zP5 c d) [0,4,17,18] [] (fun a=>[(5,T.ptr (T.agg [I a.1,I a.2.1,L 1 lV a.2.2.1])),(19,I a.2.2.2)]) (.xe 0 [0,17,18] fun b=>[(5,T.ptr (T.agg [I b.1,I b.2.1,L 1 lV b.2.2]))]):=⟨⟩
instance t_Z:FI J0 134 (∀(a:zG)(b:List Int),FnK J0 134 [T.ro ((Pt xU) a),T.ro (lV b)] (fun r=>[zDD r]) (fun _=>[]) (f_Z a b)):=⟨Ja0,fun a b=>iM Tryz.func134⟩
instance t_bh:FI J0 125 (∀(a:SPr)(b:zG)(c:List (List Int)),FnK J0 125 [T.ro ((Pt xT) a),T.ro ((Pt xU) b),T.ro (lM c)] (fun r=>[B r]) (fun _=>[]) (zPJ a b c)):=⟨Tryz.call125,fun a b c=>iM Tryz.func125⟩
end
end Go.Wk
