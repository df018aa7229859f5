/- x -/
import Derived.Test.YtimahceaenahkaaSVab
import Derived.Test.YtimahceaenahkaaSVav
import Derived.Test.YtimahceaenahkaaSVaw
import Derived.Test.YtimahceaenahkaaSVay
import Derived.Test.YtimahceaenahkaaSWT
open Go.Proofs.Try renaming prog→J0
open Option renaming some→df,none→dg
open Bool renaming true→dh,false→di
namespace Go.Wk
open Go Go.Proofs Go.Ab
set_option maxRecDepth 100000
set_option maxHeartbeats 4000000
section
attribute [local irreducible] RW CW DK OkL Ok zW yB yY xP XS.post rng wA wF ixO zS yQ xC yF zC GTo zF FnC FnK xU wM Kp BsL BuL RpL Bk Lc JQ AK
instance:HS Try.f60.8 [(2,23,0,.tr 12 152),(2,26,0,.tr 12 165)]:=⟨⟩
instance(a:SPr)(b:Int):LH (R:=yD) (zLv a b) [0,1,4,5,6] [] (fun c=>[(7,I c)]) (.xs (.xe 0 [] fun _=>[]) .xr):=⟨⟩
instance(a:SPr)(b c:Int):LH (R:=yD) (zLw a b c) [0,1,4,5,6,8] [] (fun d=>[(9,I d)]) (.xs (.xe 4 [] fun _=>[]) .xr):=⟨⟩
instance(a:SPr)(b:Int):LH (R:=yD) (zLx a b) [0,1,4,5,6] [] (fun c=>[(8,I c)]) (.xs (.xe 2 [] fun _=>[]) .xr):=⟨⟩
instance(d:SPr)(e b:Int):LH (R:=yD) (zLy d e b) [0,1,4,5,6,10,11,159] [] (fun a=>[(12,L 1 I a.1),(160,I a.2)]) (.xe 8 [159] fun c=>[(12,L 1 I c)]):=⟨⟩
instance(c:SPr)(d:Int)(a:List Int):LH (R:=yD) (zLz c d a) [0,1,4,5,6,10] [] (fun b=>[(11,I b)]) (.xs (.xe 6 [0,1,5,6,10] fun _=>[]) .xr):=⟨⟩
instance t_g:FI J0 60 (∀(a:SPr)(b:Int),FnK J0 60 [T.ro ((Pt wH) a),I b] (fun r=>[zCB r]) (fun _=>[]) (f_g a b)):=⟨Try.call60,fun a b=>iM Try.func60⟩
end
end Go.Wk
