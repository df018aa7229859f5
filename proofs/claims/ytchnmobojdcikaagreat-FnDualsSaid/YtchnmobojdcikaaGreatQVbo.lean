/- x -/
import Derived.Test.YtchnmobojdcikaaGreatQVbm
import Derived.Test.YtchnmobojdcikaaGreatQWT
open Go.Proofs.Tryz renaming prog→J0
open Option renaming some→dq,none→dt
open Bool renaming true→du,false→dv
namespace Go.Wk
open Go Go.Proofs Go.Ab
set_option maxRecDepth 100000
set_option maxHeartbeats 4000000
section
attribute [local irreducible] RW CW DK OkL Ok zS zV yQ xI XS.post rng xL yO ixO zP zU yT zZ zG GTo zM FnC FnK xK xN Kp Lk BsL BuL RpL Bk Lc JQ AK
instance:HS Tryz.f58.8 [(0,87,0,.tr 79 16),(2,25,0,.tr 16 87),(0,92,0,.tr 91 16),(0,93,0,.tr 90 11),(2,28,0,.tr 11 93),(0,99,0,.tr 98 11),(0,100,0,.trq 97 9 [2,0]),(1,6,0,.trf 103 2 9 [2,0])]:=⟨⟩
instance(c:zC)(d:List Int)(e:Int):LH (R:=zC×Int) (zPi c d e) [4,5,6,9,10,11,13,15,18,43,44,51,52,53,61,62,63,67,68,69,73,74] [] (fun a=>[(16,L 1 I a.1),(75,I a.2)]) (.xe 8 [18,73,74] fun b=>[(16,L 1 I b)]):=⟨⟩
instance(c:zC)(d e:List Int):LH (R:=zC×Int) (zS1 c d e) [4,5,6,9,10,11,13,15,43,44,51,52,53,61,62,63,67,68] [] (fun a=>[(16,L 1 I a.1),(69,I a.2)]) (.xe 6 [15,67,68] fun b=>[(16,L 1 I b)]):=⟨⟩
instance(c:zC)(d:List Int)(e:List (List Int)):LH (R:=zC×Int) (zPj c d e) [4,5,6,9,10,13,43,44,51,52,53,61,62] [] (fun a=>[(11,L 1 lV a.1),(63,I a.2)]) (.xe 4 [13,61,62] fun b=>[(11,L 1 lV b)]):=⟨⟩
instance(d e:zC)(b:(List (List (List Int)))×Int)(f:List (List Int)):LH (R:=zC×Int) (zS2 d e b f) [4,5,6,9,10,43,44,51,52] [] (fun a=>[(11,L 1 lV a.1),(53,I a.2)]) (.xe 2 [10,51,52] fun c=>[(11,L 1 lV c)]):=⟨⟩
instance(a:SPr)(b c:zC):LN (zPk a b c) 9:=⟨⟩
instance(d:SPr)(b e:zC)(A0 A1 A2:T):LHk (R:=zC×Int) (zPk d b e) (T.ptr (T.agg [A0,A1,A2])) [4,5,6,43] [] (fun a=>[(9,T.ptr (T.agg [I b.Prime,A1,L 1 lM a.1])),(44,I a.2)]) (.xe 0 [4,5,43] fun c=>[(9,T.ptr (T.agg [I b.Prime,A1,L 1 lM c]))]):=⟨⟩
instance t_m:FI J0 58 (∀(a:SPr)(b c:zC),FnK J0 58 [qPr a,xQ b,xQ c] (fun r=>[xP r.1,I r.2]) (fun _=>[]) (f_m a b c)):=⟨Tryz.call58,fun a b c=>iM Tryz.func58⟩
end
end Go.Wk
