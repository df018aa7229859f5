/- x -/
import Derived.Test.YtchnmobojdcikaaGreatQVan
import Derived.Test.YtchnmobojdcikaaGreatQVbb
import Derived.Test.YtchnmobojdcikaaGreatQVbe
import Derived.Test.YtchnmobojdcikaaGreatQWT
import Derived.Test.YtchnmobojdcikaaGreatQVad
import Derived.Test.YtchnmobojdcikaaGreatQVai
import Derived.Test.YtchnmobojdcikaaGreatQVbi
import Derived.Test.YtchnmobojdcikaaGreatQVbl
import Derived.Test.YtchnmobojdcikaaGreatQVbm
import Derived.Test.YtchnmobojdcikaaGreatQVbq
open Go.Proofs.Tryz renaming prog→J0,f9→Jak
open Option renaming some→dq,none→dt
open Bool renaming true→du,false→dv
namespace Go.Wk
open Go Go.Proofs Go.Ab
set_option maxRecDepth 100000
set_option maxHeartbeats 4000000
section
attribute [local irreducible] RW CW DK OkL Ok zS zV yQ xI XS.post rng xL yO ixO zP zU yT zZ zG GTo zM FnC FnK xK xN Kp Lk BsL BuL RpL Bk Lc JQ AK
instance t_bP:FI J0 179 (∀(a:zC)(b:zF),FnK J0 179 [xQ a,wZ b] (fun r=>[B r]) (fun _=>[]) (zUi a b)):=⟨Tryz.call179,fun a b=>iM Tryz.func179⟩
instance t_bQ:FI J0 180 (∀(a:zC)(b:List (List Int)),FnK J0 180 [xQ a,T.ro (lM b)] (fun r=>[B r]) (fun _=>[]) (zUj a b)):=⟨Tryz.call180,fun a b=>iM Tryz.func180⟩
instance:HS Tryz.f69.8 [(2,4,0,.tr 6 13),(0,30,0,.tr 21 6),(0,37,0,.fz 6),(0,37,1,.res 36 6 [])]:=⟨⟩
instance(b:zC):LH (R:=zF×Int) (zIo b) [3,4] [] (fun a=>[(6,L 1 lV a.1),(7,I a.2)]) (.xe 0 [] fun c=>[(6,L 1 lV c)]):=⟨⟩
instance t_aK:FI J0 69 (∀(a:SPr)(b:zC),FnK J0 69 [qPr a,xQ b] (fun r=>[uP r.1,I r.2]) (fun _=>[]) (zUn a b)):=⟨Tryz.call69,fun a b=>iM Tryz.func69⟩
end
end Go.Wk

namespace Go.Wk
open Go Go.Proofs Go.Ab
set_option maxRecDepth 100000
set_option maxHeartbeats 4000000
section
attribute [local irreducible] RW CW DK OkL Ok zS zV yQ xI XS.post rng xL yO ixO zP zU yT zZ zG GTo zM FnC FnK xK xN Kp Lk BsL BuL RpL Bk Lc JQ AK
instance t_aY:FI J0 65 (∀(a:SPr)(b:zC)(c:zF),FnK J0 65 [qPr a,xQ b,wZ c] (fun r=>[B r.1,I r.2]) (fun _=>[]) (zHx a b c)):=⟨Tryz.call65,fun a b c=>iM Tryz.func65⟩
end
end Go.Wk

namespace Go.Wk
open Go Go.Proofs Go.Ab
set_option maxRecDepth 100000
set_option maxHeartbeats 4000000
section
attribute [local irreducible] RW CW DK OkL Ok zS zV yQ xI XS.post rng xL yO ixO zP zU yT zZ zG GTo zM FnC FnK xK xN Kp Lk BsL BuL RpL Bk Lc JQ AK
instance:JNs Jak.results:=⟨⟩
instance:HS Jak.8 [(1,5,0,.trf 33 2 30 [2,2]),(1,10,0,.trf 65 2 64 [2,0]),(1,12,0,.trf 72 2 71 [2,0]),(1,14,0,.trf 141 2 140 [2,0]),(1,16,0,.trf 147 2 146 [2,0]),(1,18,0,.trf 153 2 152 [2,0]),(1,20,0,.trf 159 2 158 [2,0])]:=⟨⟩
instance(a:Bool×Int)(b:Bool×Int):JN (zS4 a b) 1009 6 1:=⟨⟩
instance(a:Bool×Int)(b:Bool×Int):LH (R:=Bool) (zS4 a b) [3,4,5,6,7,8,9] [] (fun _=>[]) (.xe 1009 [9] fun c=>[(55,B c)]):=⟨⟩
instance(a:zC×Int)(b:zC×Int):JN (zUT a b) 1010 13 1:=⟨⟩
instance(a:zC×Int)(b:zC×Int):LH (R:=Bool) (zUT a b) [11,13] [] (fun _=>[]) (.xe 1010 [11,13] fun c=>[(2,B c)]):=⟨⟩
instance(a:SPr×zC×zF)(b:zC×Int)(c:zC×Int):JN (zS5 a b c) 1011 14 1:=⟨⟩
instance(b:SPr×zC×zF)(c:zC×Int)(d:zC×Int):LH (R:=Bool) (zS5 b c d) [3,4,5,10,11,12,13] [] (fun _=>[]) (.xe 1011 [10,12] fun a=>[(118,B a)]):=⟨⟩
instance(a:SPr×zC×zF)(b:zC×Int)(c:zC×Int):JN (zS6 a b c) 1012 16 1:=⟨⟩
instance(b:SPr×zC×zF)(c:zC×Int)(d:zC×Int):LH (R:=Bool) (zS6 b c d) [3,4,5,11,13] [] (fun _=>[]) (.xe 1012 [5,11,13] fun a=>[(136,B a)]):=⟨⟩
instance(a:zF×Int)(b:zF×Int)(c:zF×Int)(d:zF×Int):JN (zS7 a b c d) 1013 22 1:=⟨⟩
instance(a:zF×Int)(b:zF×Int)(c:zF×Int)(d:zF×Int):LH (R:=Bool) (zS7 a b c d) [3,4,14,15,16,17,18,19,20,21] [] (fun _=>[]) (.xe 1013 [14,15,17,18,19,21] fun e=>[(186,B e)]):=⟨⟩
instance t_t:FI J0 9 (∀(a:List Int),FnK J0 9 [T.ro ((L 1 (IK .u8)) a)] (fun r=>[B r]) (fun _=>[]) (f_t a)):=⟨Tryz.call9,fun a=>iM Tryz.func9⟩
end
end Go.Wk
