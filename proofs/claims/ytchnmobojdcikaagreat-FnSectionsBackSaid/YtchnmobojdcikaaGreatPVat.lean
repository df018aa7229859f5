/- x -/
import Derived.Test.YtchnmobojdcikaaGreatPVab
import Derived.Test.YtchnmobojdcikaaGreatPVac
import Derived.Test.YtchnmobojdcikaaGreatPVao
import Derived.Test.YtchnmobojdcikaaGreatPVar
import Derived.Test.YtchnmobojdcikaaGreatPWT
open Go.Proofs.Tryz renaming prog→J0
open Option renaming some→aB,none→aC
open Bool renaming true→aD,false→aE
namespace Go.Wk
open Go Go.Proofs Go.Ab
set_option maxRecDepth 100000
set_option maxHeartbeats 4000000
section
attribute [local irreducible] RW CW DK OkL Ok yA yB xE xH XS.post rng xK yV ixO zN yD xC zU zC GTo zO FnC FnK xV wG Kp Lk BsL BuL RpL Bk Lc JQ AK
instance:HS Tryz.f274.8 [(2,23,0,.tr 12 152),(2,26,0,.tr 12 165)]:=⟨⟩
instance(a:SPr)(b:Int):LH (R:=yH) (zPs a b) [0,1,4,5,6] [] (fun c=>[(7,I c)]) (.xs (.xe 0 [] fun _=>[]) .xr):=⟨⟩
instance(a:SPr)(b c:Int):LH (R:=yH) (zPt a b c) [0,1,4,5,6,8] [] (fun d=>[(9,I d)]) (.xs (.xe 4 [] fun _=>[]) .xr):=⟨⟩
instance(a:SPr)(b:Int):LH (R:=yH) (zPu a b) [0,1,4,5,6] [] (fun c=>[(8,I c)]) (.xs (.xe 2 [] fun _=>[]) .xr):=⟨⟩
instance(d:SPr)(e b:Int):LH (R:=yH) (zPv d e b) [0,1,4,5,6,10,11,159] [] (fun a=>[(12,L 1 I a.1),(160,I a.2)]) (.xe 8 [159] fun c=>[(12,L 1 I c)]):=⟨⟩
instance(c:SPr)(d:Int)(a:List Int):LH (R:=yH) (zPw c d a) [0,1,4,5,6,10] [] (fun b=>[(11,I b)]) (.xs (.xe 6 [0,1,5,6,10] fun _=>[]) .xr):=⟨⟩
instance t_j:FI J0 274 (∀(a:SPr)(b:Int),FnK J0 274 [T.ro ((Pt xT) a),I b] (fun r=>[zEV r]) (fun _=>[]) (f_j a b)):=⟨Tryz.call274,fun a b=>iM Tryz.func274⟩
end
end Go.Wk
