/- x -/
import Derived.Test.YtchnmobojdcikaaGreatPVaa
import Derived.Test.YtchnmobojdcikaaGreatPVab
import Derived.Test.YtchnmobojdcikaaGreatPVad
import Derived.Test.YtchnmobojdcikaaGreatPVae
import Derived.Test.YtchnmobojdcikaaGreatPVaf
import Derived.Test.YtchnmobojdcikaaGreatPVag
import Derived.Test.YtchnmobojdcikaaGreatPWT
open Go.Proofs.Tryz renaming prog→J0
open Option renaming some→aB,none→aC
open Bool renaming true→aD,false→aE
namespace Go.Wk
open Go Go.Proofs Go.Ab
set_option maxRecDepth 100000
set_option maxHeartbeats 4000000
section
attribute [local irreducible] RW CW DK OkL Ok yA yB xE xH XS.post rng xK yV ixO zN yD xC zU zC GTo zO FnC FnK xV wG Kp Lk BsL BuL RpL Bk Lc JQ AK
instance:HS Tryz.f313.8 [(2,4,0,.trq 4 14 [0]),(1,2,0,.trf 42 0 6 [0,0]),(1,2,1,.trf 42 1 6 [1,0]),(1,2,2,.trf 42 2 6 [2,0])]:=⟨⟩
instance(a:(List Int)×Bool):LN (zMg a) 6:=⟨⟩
instance(b:(List Int)×Bool)(A0 A1 A2:T):LHk (R:=SPr×Int) (zMg b) (T.ptr (T.agg [A0,A1,A2])) [2,4] [] (fun a=>[(6,T.ptr (T.agg [A0,L 1 lV a.1,A2])),(7,I a.2)]) (.xe 0 [4] fun c=>[(6,T.ptr (T.agg [A0,L 1 lV c,A2]))]):=⟨⟩
instance t_aA:FI J0 313 (∀(a:Int),FnK J0 313 [I a] (fun r=>[xT r.1,I r.2]) (fun _=>[]) (zRP a)):=⟨Tryz.call313,fun a=>iM Tryz.func313⟩
instance(c:SPr):LH (R:=ByteArray) (zSb c) [1,3] [] (fun b=>[(4,Str b.1),(5,I b.2)]) (.xe 0 [] fun a=>[(4,Str a)]):=⟨⟩
instance(c:SPr):LH (R:=ByteArray) (zSc c) [1,3] [] (fun b=>[(4,Str b.1),(6,I b.2)]) (.xe 2 [] fun a=>[(4,Str a)]):=⟨⟩
instance(c:SPr)(d:ByteArray×Int):LH (R:=ByteArray) (zSd c d) [1,3,7] [] (fun a=>[(4,Str a.1),(8,I a.2)]) (.xe 6 [] fun b=>[(4,Str b)]):=⟨⟩
instance(c:SPr):LH (R:=ByteArray) (zSe c) [1,3] [] (fun b=>[(4,Str b.1),(7,I b.2)]) (.xe 4 [1,3] fun a=>[(4,Str a)]):=⟨⟩
instance t_v:FI J0 338 (∀(a:SPr),FnK J0 338 [qPr a] (fun r=>[Str r]) (fun _=>[]) (f_v a)):=⟨Tryz.call338,fun a=>iM Tryz.func338⟩
instance t_bb:FI J0 273 (∀(a:SPr)(b:Int)(c:List Int),FnK J0 273 [T.ro ((Pt xT) a),I b,T.ro (lV c)] (fun r=>[B r]) (fun _=>[]) (zPh a b c)):=⟨Tryz.call273,fun a b c=>iM Tryz.func273⟩
end
end Go.Wk
