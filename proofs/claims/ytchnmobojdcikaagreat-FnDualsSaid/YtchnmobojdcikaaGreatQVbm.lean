/- x -/
import Derived.Test.YtchnmobojdcikaaGreatQVad
import Derived.Test.YtchnmobojdcikaaGreatQVak
import Derived.Test.YtchnmobojdcikaaGreatQVam
import Derived.Test.YtchnmobojdcikaaGreatQVan
import Derived.Test.YtchnmobojdcikaaGreatQVav
import Derived.Test.YtchnmobojdcikaaGreatQVbe
import Derived.Test.YtchnmobojdcikaaGreatQVbi
import Derived.Test.YtchnmobojdcikaaGreatQVbk
import Derived.Test.YtchnmobojdcikaaGreatQWT
open Go.Proofs.Tryz renaming prog→J0,f51→Jae
open Option renaming some→dq,none→dt
open Bool renaming true→du,false→dv
namespace Go.Wk
open Go Go.Proofs Go.Ab
set_option maxRecDepth 100000
set_option maxHeartbeats 4000000
section
attribute [local irreducible] RW CW DK OkL Ok zS zV yQ xI XS.post rng xL yO ixO zP zU yT zZ zG GTo zM FnC FnK xK xN Kp Lk BsL BuL RpL Bk Lc JQ AK
instance:HS Jae.8 [(2,4,0,.tr 6 15)]:=⟨⟩
instance:HX Jae.8 [(0,37,0,.trh 35 6)]:=⟨⟩
instance(b:(List (List Int))):LH (R:=zF×Int) (zRO b) [3,4,18,19,23,24] [] (fun a=>[(6,L 1 lV a.1),(25,I a.2)]) (.xe 2 [23,24] fun c=>[(6,L 1 lV c)]):=⟨⟩
instance(c:SPr)(d:zC):LH (R:=zF×Int) (zOX c d) [3,4,18] [] (fun b=>[(6,L 1 lV b.1),(19,I b.2)]) (.xe 0 [18] fun a=>[(6,L 1 lV a)]):=⟨⟩
instance t_L:FI J0 51 (∀(a:SPr)(b:zC),FnK J0 51 [qPr a,xQ b] (fun r=>[uP r.1,I r.2]) (fun _=>[]) (f_L a b)):=⟨Tryz.call51,fun a b=>iM Tryz.func51⟩
instance t_bo:FI J0 159 (∀(a:SPr)(b c:zC),FnK J0 159 [T.ro ((Pt vW) a),T.ro ((Pt xP) b),T.ro ((Pt xP) c)] (fun r=>[I r]) (fun _=>[]) (zMp a b c)):=⟨Tryz.call159,fun a b c=>iM Tryz.func159⟩
instance t_at:FI J0 64 (∀(a:SPr)(b:zC)(c:zF),FnK J0 64 [qPr a,xQ b,wZ c] (fun r=>[B r.1,I r.2]) (fun _=>[]) (zEM a b c)):=⟨Tryz.call64,fun a b c=>iM Tryz.func64⟩
instance:HS Tryz.f66.8 [(2,7,0,.fz 4),(0,70,0,.tr 64 13),(2,18,0,.tr 13 70),(0,74,0,.tr 73 13),(0,75,0,.tr 72 10),(2,20,0,.tr 10 75),(0,80,0,.tr 79 10),(0,81,0,.trq 78 8 [2,0]),(2,23,0,.fz 4),(1,6,0,.trf 84 2 8 [2,0])]:=⟨⟩
instance(c:List Int)(d:(List Int)):LH (R:=zC×Int) (zRR c d) [4,5,6,8,10,12,42,43,49,50,51,52,58,59] [] (fun a=>[(13,L 1 I a.1),(60,I a.2)]) (.xe 4 [12,58,59] fun b=>[(13,L 1 I b)]):=⟨⟩
instance(c d:zF):LH (R:=zC×Int) (zRS c d) [4,5,6,8,42,43,49,50,51] [] (fun a=>[(10,L 1 lV a.1),(52,I a.2)]) (.xe 2 [49,50,51] fun b=>[(10,L 1 lV b)]):=⟨⟩
instance(e:SPr)(b:zC)(c:zF):LH (R:=zC×Int) (zPa e b c) [4,5,6,42] [4] (fun a=>[(8,T.ptr (T.agg [I b.Prime,I (c.Rows.length:Int),L 1 lM a.1])),(43,I a.2)]) (.xe 0 [4,5,42] fun d=>[(8,T.ptr (T.agg [I b.Prime,I (c.Rows.length:Int),L 1 lM d]))]):=⟨⟩
instance t_D:FI J0 66 (∀(a:SPr)(b:zC)(c:zF),FnK J0 66 [qPr a,xQ b,wZ c] (fun r=>[xP r.1,I r.2]) (fun _=>[]) (f_D a b c)):=⟨Tryz.call66,fun a b c=>iM Tryz.func66⟩
end
end Go.Wk
