/- x -/
import Derived.Test.YtmgckbgmmpemgaaGreatSWT
open Go.Proofs.Tryz renaming prog→J0,call43→Uq,call44→Ja1
open Option renaming some→VU,none→VV
open Bool renaming true→VW,false→VX
namespace Go.Wk
open Go Go.Proofs Go.Ab
set_option maxRecDepth 100000
set_option maxHeartbeats 4000000
section
attribute [local irreducible] RW CW DK OkL Ok yM yJ wN vO XS.post rng yQ vN ixO yG xC wV yW zI GTo zN FnC FnK vT uL Kp Lk BsL BuL RpL Bk Lc
instance t_aR:FI J0 63 (∀(a:Int),FnK J0 63 [I a] (fun r=>[B r]) (fun _=>[]) (zKD a)):=⟨Tryz.call63,fun a=>iM Tryz.func63⟩
instance t_aF:FI J0 43 (∀(a:Int),FnK J0 43 [I a] (fun r=>[B r]) (fun _=>[]) (zNU a)):=⟨Uq,fun a=>iM Tryz.func43⟩
instance t_aE:FI J0 44 (∀(a b c:Int),FnK J0 44 [I a,I b,I c] (fun r=>[B r]) (fun _=>[]) (zLL a b c)):=⟨Ja1,fun a b c=>iM Tryz.func44⟩
instance(a:List Int):LH (R:=Bool) (zI5 a) [5,6] [] (fun b=>[(7,I b)]) (.xs (.xe 0 [5,6] fun _=>[]) .xr):=⟨⟩
instance t_ab:FI J0 58 (∀(a:List Int),FnK J0 58 [T.ro (lV a)] (fun r=>[B r]) (fun _=>[]) (zQt a)):=⟨Tryz.call58,fun a=>iM Tryz.func58⟩
instance(g_d:SPr→(List Int)→Int→Option (List Int))(b:SPr)(c:(List Int)×Int)(d:Int):LH (R:=(List Int)) (zQx g_d b c d) [0,6,8,9,10,15] [] (fun a=>[(1,L 1 I a.1),(16,I a.2)]) (.xe 2 [6,15] fun e=>[(1,L 1 I e)]):=⟨⟩
instance(g_d:SPr→(List Int)→Int→Option (List Int))(b:SPr)(c:List Int):LH (R:=(List Int)) (zQy g_d b c) [0,8,9] [] (fun a=>[(1,L 1 I a.1),(10,I a.2)]) (.xe 0 [0,8,9] fun d=>[(1,L 1 I d)]):=⟨⟩
theorem zXh{g_d:SPr→(List Int)→Int→Option (List Int)}[FI J0 145 (∀(x0:SPr)(x1:List Int)(x2:Int),FnK J0 145 [T.ro ((Pt uT) x0),L 1 I x1,I x2] (fun _:(List Int)=>[]) (fun r=>[(1,lV r)]) (g_d x0 x1 x2))]:∀(x0:SPr)(x1:List Int)(x2:List Int),FnK J0 141 [T.ro ((Pt uT) x0),L 1 I x1,T.ro (lV x2)] (fun _:(List Int)=>[]) (fun r=>[(1,lV r)]) (b_e g_d x0 x1 x2):=fun x0 x1 x2=>iM Tryz.func141
theorem zXi{g_d:SPr→(List Int)→Int→Option (List Int)}(H_d:∀(x0:SPr)(x1:List Int)(x2:Int) r,g_d x0 x1 x2=VU r→FnC J0 145 [T.ro ((Pt uT) x0),L 1 I x1,I x2] [] [(1,lV r)])(x0:SPr)(x1:List Int)(x2:List Int)(r:(List Int))(h:b_e g_d x0 x1 x2=VU r):FnC J0 141 [T.ro ((Pt uT) x0),L 1 I x1,T.ro (lV x2)] [] [(1,lV r)]:=by have:FI J0 145 (∀(x0:SPr)(x1:List Int)(x2:Int),FnK J0 145 [T.ro ((Pt uT) x0),L 1 I x1,I x2] (fun _:(List Int)=>[]) (fun r=>[(1,lV r)]) (g_d x0 x1 x2)):=⟨Tryz.call145,fun x0 x1 x2=>FnK.mk (H_d x0 x1 x2)⟩;exact(zXh x0 x1 x2).go h
instance(a b:List Int):LH (R:=Bool) (zUS a b) [0,1,12] [] (fun c=>[(13,I c)]) (.xs (.xe 0 [0,1,12] fun _=>[]) .xr):=⟨⟩
instance t_T:FI J0 81 (∀(a b:List Int),FnK J0 81 [T.ro (lV a),T.ro (lV b)] (fun r=>[B r]) (fun _=>[]) (f_T a b)):=⟨Tryz.call81,fun a b=>iM Tryz.func81⟩
instance:HS Tryz.f129.8 [(2,2,0,.tr 5 7)]:=⟨⟩
instance t_bi:FI J0 129 (∀(a b:Int),FnK J0 129 [I a,I b] (fun r=>[lV r]) (fun _=>[]) (zQ5 a b)):=⟨Tryz.call129,fun a b=>iM Tryz.func129⟩
instance t_aT:FI J0 46 (∀(a:zS)(b:Int),FnK J0 46 [T.ro ((Pt wB) a),I b] (fun r=>[(fun x=>T.agg [I x.Prime,I x.yC,(Ro lM) x.Rows]) r]) (fun _=>[]) (zLO a b)):=⟨Tryz.call46,fun a b=>iM Tryz.func46⟩
instance:HS Tryz.f79.8 [(0,20,0,.tr 16 3),(2,8,0,.tr 3 20)]:=⟨⟩
instance(b:(List Int)×Int)(c:Int):LH (R:=(List Int)) (zQB b c) [4,6,7,8,13] [] (fun a=>[(3,L 1 I a.1),(14,I a.2)]) (.xe 2 [4,13] fun d=>[(3,L 1 I d)]):=⟨⟩
instance(b:List Int):LH (R:=(List Int)) (zQC b) [6,7] [] (fun a=>[(3,L 1 I a.1),(8,I a.2)]) (.xe 0 [6,7] fun c=>[(3,L 1 I c)]):=⟨⟩
instance t_I:FI J0 79 (∀(a:List Int),FnK J0 79 [T.ro (lV a)] (fun r=>[lV r]) (fun _=>[]) (f_I a)):=⟨Tryz.call79,fun a=>iM Tryz.func79⟩
instance:HS Tryz.f82.8 [(2,6,0,.tr 7 16),(0,23,0,.tr 22 7),(0,24,0,.trq 21 5 [2,0]),(1,4,0,.trf 27 2 5 [2,0])]:=⟨⟩
instance(a:Int):LN (zI6 a) 5:=⟨⟩
instance(a:Int)(A0 A1 A2:T):LHk (R:=zD) (zI6 a) (T.ptr (T.agg [A0,A1,A2])) [1,4,11] [] (fun b=>[(5,T.ptr (T.agg [A0,I a,L 1 lV b.1])),(12,I b.2)]) (.xe 0 [1,11] fun c=>[(5,T.ptr (T.agg [A0,I a,L 1 lV c]))]):=⟨⟩
instance t_ai:FI J0 82 (∀(a b:Int),FnK J0 82 [I a,I b] (fun r=>[zA r]) (fun _=>[]) (zSi a b)):=⟨Tryz.call82,fun a b=>iM Tryz.func82⟩
instance t_aK:FI J0 122 (∀(a b:Int),FnK J0 122 [I a,I b] (fun r=>[I r]) (fun _=>[]) (zJo a b)):=⟨Tryz.call122,fun a b=>iM Tryz.func122⟩
end
end Go.Wk
