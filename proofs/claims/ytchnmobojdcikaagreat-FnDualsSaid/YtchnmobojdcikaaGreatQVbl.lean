/- x -/
import Derived.Test.YtchnmobojdcikaaGreatQVae
import Derived.Test.YtchnmobojdcikaaGreatQVak
import Derived.Test.YtchnmobojdcikaaGreatQVan
import Derived.Test.YtchnmobojdcikaaGreatQVav
import Derived.Test.YtchnmobojdcikaaGreatQVbe
import Derived.Test.YtchnmobojdcikaaGreatQVbi
import Derived.Test.YtchnmobojdcikaaGreatQVbk
import Derived.Test.YtchnmobojdcikaaGreatQWT
open Go.Proofs.Tryz renaming prog→J0
open Option renaming some→dq,none→dt
open Bool renaming true→du,false→dv
namespace Go.Wk
open Go Go.Proofs Go.Ab
set_option maxRecDepth 100000
set_option maxHeartbeats 4000000
section
attribute [local irreducible] RW CW DK OkL Ok zS zV yQ xI XS.post rng xL yO ixO zP zU yT zZ zG GTo zM FnC FnK xK xN Kp Lk BsL BuL RpL Bk Lc JQ AK
instance t_bs:FI J0 30 (∀(a:SPr)(b:zC),FnK J0 30 [qPr a,xQ b] (fun r=>[B r]) (fun _=>[]) (zMy a b)):=⟨Tryz.call30,fun a b=>iM Tryz.func30⟩
instance:HS Tryz.f57.8 [(0,20,0,.tr 17 6),(2,8,0,.tr 6 20)]:=⟨⟩
instance(b:SPr)(c:zC):LH (R:=zF×Int) (zIp b c) [3,4,13] [] (fun a=>[(6,L 1 lV a.1),(14,I a.2)]) (.xe 0 [13] fun d=>[(6,L 1 lV d)]):=⟨⟩
instance t_as:FI J0 57 (∀(a:SPr)(b:zC),FnK J0 57 [qPr a,xQ b] (fun r=>[uP r.1,I r.2]) (fun _=>[]) (zOW a b)):=⟨Tryz.call57,fun a b=>iM Tryz.func57⟩
instance:HS Tryz.f67.8 [(0,53,0,.tr 50 8),(2,11,0,.tr 8 53),(2,21,0,.tr 15 81),(0,94,0,.tr 88 16),(2,26,0,.tr 16 94),(0,98,0,.tr 97 16),(0,99,0,.tr 96 12),(2,28,0,.tr 12 99),(0,104,0,.tr 103 12),(0,105,0,.trq 102 10 [2,0]),(1,6,0,.trf 108 2 10 [2,0])]:=⟨⟩
instance(b:zC)(c:zF):LH (R:=zC×Int) (zOY b c) [3,4,5,6,40] [] (fun a=>[(8,L 1 I a.1),(41,I a.2)]) (.xe 0 [40] fun d=>[(8,L 1 I d)]):=⟨⟩
instance(d b:(List Int)):LH (R:=zC×Int) (zRP d b) [4,5,6,8,10,11,12,15,62,63,66,67,68,82,83] [] (fun a=>[(16,L 1 I a.1),(84,I a.2)]) (.xe 6 [15,82,83] fun c=>[(16,L 1 I c)]):=⟨⟩
instance(d:zC)(e:zF)(f:(List Int))(b:(List (List (List Int)))×Int):LH (R:=zC×Int) (zRQ d e f b) [4,5,6,8,10,11,62,63,66,67] [] (fun a=>[(12,L 1 lV a.1),(68,I a.2)]) (.xe 4 [11,66,67] fun c=>[(12,L 1 lV c)]):=⟨⟩
instance(e:SPr)(b:zC)(f:zF)(c:(List Int)):LH (R:=zC×Int) (zOZ e b f c) [4,5,6,8,62] [] (fun a=>[(10,T.ptr (T.agg [I b.Prime,I (c.length:Int),L 1 lM a.1])),(63,I a.2)]) (.xe 2 [4,5,8,62] fun d=>[(10,T.ptr (T.agg [I b.Prime,I (c.length:Int),L 1 lM d]))]):=⟨⟩
instance t_v:FI J0 67 (∀(a:SPr)(b:zC)(c:zF),FnK J0 67 [qPr a,xQ b,wZ c] (fun r=>[xP r.1,I r.2]) (fun _=>[]) (f_v a b c)):=⟨Tryz.call67,fun a b c=>iM Tryz.func67⟩
end
end Go.Wk
