/- x -/
import Derived.Test.YtchnmobojdcikaaGreatPVaa
import Derived.Test.YtchnmobojdcikaaGreatPVab
import Derived.Test.YtchnmobojdcikaaGreatPVac
import Derived.Test.YtchnmobojdcikaaGreatPVad
import Derived.Test.YtchnmobojdcikaaGreatPVaf
import Derived.Test.YtchnmobojdcikaaGreatPVah
import Derived.Test.YtchnmobojdcikaaGreatPVaj
import Derived.Test.YtchnmobojdcikaaGreatPVak
import Derived.Test.YtchnmobojdcikaaGreatPVal
import Derived.Test.YtchnmobojdcikaaGreatPWT
open Go.Proofs.Tryz renaming prog→J0
open Option renaming some→aB,none→aC
open Bool renaming true→aD,false→aE
namespace Go.Wk
open Go Go.Proofs Go.Ab
set_option maxRecDepth 100000
set_option maxHeartbeats 4000000
section
attribute [local irreducible] RW CW DK OkL Ok yA yB xE xH XS.post rng xK yV ixO zN yD xC zU zC GTo zO FnC FnK xV wG Kp Lk BsL BuL RpL Bk Lc JQ AK
instance:HS Tryz.f331.8 [(2,2,0,.tr 4 10),(2,3,0,.trq 5 15 [0]),(0,7,0,.fz 22)]:=⟨⟩
instance(c:(List ByteArray)):LH (R:=SPr×Int) (zMi c) [0,2,4] [] (fun a=>[(7,T.ptr (T.agg [T.ro (lV a.1),T.ro (lM a.2.1),T.ro (lC a.2.2.1)])),(8,I a.2.2.2)]) (.xs (.xe 0 [4] fun b=>[(7,T.ptr (T.agg [T.ro (lV b.1),T.ro (lM b.2.1),T.ro (lC b.2.2)]))]) .xr):=⟨⟩
instance t_aD:FI J0 331 (∀(a:ByteArray),FnK J0 331 [Str a] (fun r=>[(fun x=>T.agg [(Ro lV) x.zA,(Ro lM) x.zF,(Ro lC) x.zB]) r.1,I r.2]) (fun _=>[]) (zSf a)):=⟨Tryz.call331,fun a=>iM Tryz.func331⟩
instance(a:yE):LH (R:=Bool) (zJw a) [1,22,23] [] (fun b=>[(24,I b)]) (.xs (.xe 0 [1,22,23] fun _=>[]) .xr):=⟨⟩
instance t_ai:FI J0 147 (∀(a:yE),FnK J0 147 [zEW a] (fun r=>[B r]) (fun _=>[]) (zR5 a)):=⟨Tryz.call147,fun a=>iM Tryz.func147⟩
instance(a:SPr)(b:Int)(c:List (List Int)):LH (R:=Bool) (zK9 a b c) [0,1,5,6,63,64] [] (fun d=>[(65,I d)]) (.xs (.xe 2 [63,64] fun _=>[]) .xr):=⟨⟩
instance(a:SPr)(b:Int):LH (R:=Bool) (zNh a b) [0,1,5] [] (fun c=>[(6,I c)]) (.xs (.xe 0 [0,1,5] fun _=>[]) .xr):=⟨⟩
instance t_F:FI J0 115 (∀(a:SPr)(b:Int),FnK J0 115 [T.ro ((Pt xT) a),I b] (fun r=>[B r]) (fun _=>[]) (f_F a b)):=⟨Tryz.call115,fun a b=>iM Tryz.func115⟩
instance(a:List (List (List Int)))(b:List (List (List Int))):LH (R:=Bool) (zQm a b) [0,1] [] (fun c=>[(5,I c)]) (.xs (.xe 0 [0,1] fun _=>[]) .xr):=⟨⟩
instance t_aP:FI J0 122 (∀(a:List (List (List Int)))(b:List (List (List Int))),FnK J0 122 [T.ro (lC a),T.ro (lC b)] (fun r=>[B r]) (fun _=>[]) (zSo a b)):=⟨Tryz.call122,fun a b=>iM Tryz.func122⟩
end
end Go.Wk
