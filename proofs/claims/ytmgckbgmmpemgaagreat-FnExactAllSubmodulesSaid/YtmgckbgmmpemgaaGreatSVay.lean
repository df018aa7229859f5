/- x -/
import Derived.Test.YtmgckbgmmpemgaaGreatSVac
import Derived.Test.YtmgckbgmmpemgaaGreatSVaj
import Derived.Test.YtmgckbgmmpemgaaGreatSVar
import Derived.Test.YtmgckbgmmpemgaaGreatSWT
open Go.Proofs.Tryz renaming prog→J0
open Option renaming some→VU,none→VV
open Bool renaming true→VW,false→VX
namespace Go.Wk
open Go Go.Proofs Go.Ab
set_option maxRecDepth 100000
set_option maxHeartbeats 4000000
section
attribute [local irreducible] RW CW DK OkL Ok yM yJ wN vO XS.post rng yQ vN ixO yG xC wV yW zI GTo zN FnC FnK vT uL Kp Lk BsL BuL RpL Bk Lc
instance(b:List (List (List Int))):LH (R:=Int) (zT7 b) [0] [] (fun a=>[(1,I a.1),(5,I a.2)]) (.xs (.xe 0 [0] fun c=>[(1,I c)]) .xr):=⟨⟩
instance t_aZ:FI J0 19 (∀(a:List (List (List Int)))(b:Int),FnK J0 19 [T.ro (lC a),I b] (fun r=>[I r]) (fun _=>[]) (zRS a b)):=⟨Tryz.call19,fun a b=>iM Tryz.func19⟩
instance(a b:zD):LH (R:=Bool) (zQV a b) [0,3,12,13,20,21,22] [] (fun c=>[(23,I c)]) (.xs (.xe 2 [20,21,22] fun _=>[]) .xr):=⟨⟩
instance(a:zS)(b:zD):LH (R:=Bool) (zQW a b) [0,3,12] [] (fun c=>[(13,I c)]) (.xs (.xe 0 [0,3,12] fun _=>[]) .xr):=⟨⟩
instance t_B:FI J0 28 (∀(a:zS)(b:zD),FnK J0 28 [T.ro ((Pt wB) a),vZ b] (fun r=>[B r]) (fun _=>[]) (f_B a b)):=⟨Tryz.call28,fun a b=>iM Tryz.func28⟩
instance t_br:FI J0 29 (∀(a b:zD),FnK J0 29 [vZ a,vZ b] (fun r=>[B r]) (fun _=>[]) (zSy a b)):=⟨Tryz.call29,fun a b=>iM Tryz.func29⟩
instance(a:List (List (List Int)))(b:List (List (List Int))):LH (R:=Bool) (zQN a b) [0,1] [] (fun c=>[(5,I c)]) (.xs (.xe 0 [0,1] fun _=>[]) .xr):=⟨⟩
instance t_aP:FI J0 32 (∀(a:List (List (List Int)))(b:List (List (List Int))),FnK J0 32 [T.ro (lC a),T.ro (lC b)] (fun r=>[B r]) (fun _=>[]) (zSm a b)):=⟨Tryz.call32,fun a b=>iM Tryz.func32⟩
instance:LH (R:=Int×(List (List (List Int)))) zQO [] [] (fun a=>[(0,L 1 lM a.1),(1,I a.2.1),(5,I a.2.2)]) (.xe 0 [] fun b=>[(0,L 1 lM b.1),(1,I b.2)]):=⟨⟩
instance t_aD:FI J0 35 (∀(a:List (List (List Int)))(b:Int),FnK J0 35 [L 1 lM a,I b] (fun r:Int×(List (List (List Int)))=>[I r.1]) (fun r=>[(0,lC r.2)]) (zQP a b)):=⟨Tryz.call35,fun a b=>iM Tryz.func35⟩
instance:LH (R:=Int×(List zD)) zNp [] [] (fun a=>[(0,L 3 zA a.1),(1,I a.2.1),(5,I a.2.2)]) (.xe 0 [] fun b=>[(0,L 3 zA b.1),(1,I b.2)]):=⟨⟩
instance t_aA:FI J0 15 (∀(a:List zD)(b:Int),FnK J0 15 [L 3 zA a,I b] (fun r:Int×(List zD)=>[I r.1]) (fun r=>[(0,(L 3 zA) r.2)]) (zSX a b)):=⟨Tryz.call15,fun a b=>iM Tryz.func15⟩
end
end Go.Wk
