/- x -/
import Derived.Test.YtcjmcjcfehbboaaGreatRWT
open Go.Proofs.Tryz renaming prog->J1,f101->Jbi,call58->Jbv
open Option renaming some->Wu,none->Wv
open Bool renaming true->Ww,false->Wx
namespace Go.Wk
open Go Go.Proofs Go.Ab
set_option maxRecDepth 100000
set_option maxHeartbeats 4000000
section
attribute [local irreducible] RW CW DK OkL Ok yX xC wK wY XS.post rng vP vL ixO zT yR wN yO zF GTo zI FnC FnK vB uC Kp Lk BsL BuL RpL Bk Lc
instance t_ba:FI J1 31 (∀(a b c:Int),FnK J1 31 [I a,I b,I c] (fun r=>[B r]) (fun _=>[]) (zVc a b c)):=⟨Tryz.call31,fun a b c=>iM Tryz.func31⟩
instance t_bs:FI J1 30 (∀(a:Int),FnK J1 30 [I a] (fun r=>[B r]) (fun _=>[]) (yAA a)):=⟨Tryz.call30,fun a=>iM Tryz.func30⟩
instance(a b:List Int):LH (R:=Bool) (zZc a b) [0,1] [] (fun c=>[(5,I c)]) (.xs (.xe 0 [0,1] fun _=>[]) .xr):=⟨⟩
instance t_a3:FI J1 73 (∀(a b:List Int),FnK J1 73 [T.ro (lV a),T.ro (lV b)] (fun r=>[B r]) (fun _=>[]) (yAB a b)):=⟨Tryz.call73,fun a b=>iM Tryz.func73⟩
instance t_aX:FI J1 25 (∀(a b c:Int),FnK J1 25 [I a,I b,I c] (fun r=>[B r]) (fun _=>[]) (zOv a b c)):=⟨Tryz.call25,fun a b c=>iM Tryz.func25⟩
instance t_bg:FI J1 24 (∀(a:Int),FnK J1 24 [I a] (fun r=>[B r]) (fun _=>[]) (zXA a)):=⟨Tryz.call24,fun a=>iM Tryz.func24⟩
instance:HS Tryz.f139.8 [(0,34,0,.tr 24 5),(2,10,0,.tr 5 34),(0,39,0,.tr 38 5),(0,40,0,.trq 37 3 [2,0]),(1,2,0,.trf 43 2 3 [2,0])]:=⟨⟩
instance(b:zM)(c:(List (List Int))×Int):LH (R:=zM) (zV2 b c) [1,2,3,4,14,15,20] [] (fun a=>[(5,L 1 I a.1),(21,I a.2)]) (.xe 2 [4,20] fun d=>[(5,L 1 I d)]):=⟨⟩
instance(a:zM):LH (R:=zM) (zV3 a) [1,2,14] [] (fun b=>[(3,T.ptr (T.agg [I a.Prime,I (a.Rows.length:Int),L 1 lV b.1])),(15,I b.2)]) (.xe 0 [1,14] fun c=>[(3,T.ptr (T.agg [I a.Prime,I (a.Rows.length:Int),L 1 lV c]))]):=⟨⟩
instance t_T:FI J1 139 (∀(a:zM),FnK J1 139 [zDx a] (fun r=>[zU r]) (fun _=>[]) (f_T a)):=⟨Tryz.call139,fun a=>iM Tryz.func139⟩
instance(a:List Int)(b:Int):LH (R:=Int) (zMY a b) [0,1,7] [] (fun c=>[(8,I c)]) (.xs (.xe 0 [0,1,7] fun _=>[]) .xr):=⟨⟩
instance t_aL:FI J1 145 (∀(a:List Int)(b:Int),FnK J1 145 [T.ro (lV a),I b] (fun r=>[I r]) (fun _=>[]) (yAH a b)):=⟨Tryz.call145,fun a b=>iM Tryz.func145⟩
instance t_bw:FI J1 74 (∀(a:Int),FnK J1 74 [I a] (fun r=>[I r]) (fun _=>[]) (yAO a)):=⟨Tryz.call74,fun a=>iM Tryz.func74⟩
instance:HS Jbi.8 []:=⟨⟩
instance:MkN Jbi.8 9 I:=⟨⟩
instance t_bu:FI J1 101 (∀(a:SPr),FnK J1 101 [T.ro ((Pt yM) a)] (fun r=>[(Pt (fun x=>T.agg [(Ro (Pt yM)) x.p,(L 1 (Ro (Nz 1 I))) x.base])) r]) (fun _=>[]) (yAL a)):=⟨Tryz.call101,fun a=>iM Tryz.func101⟩
instance(b:SPr):LH (R:=Int) (zNc b) [9,10] [] (fun a=>[(3,I a.1),(11,I a.2)]) (.xe 0 [9,10] fun c=>[(3,I c)]):=⟨⟩
instance t_aG:FI J1 27 (∀(a:SPr),FnK J1 27 [T.ro ((Pt yM) a)] (fun r=>[I r]) (fun _=>[]) (zXN a)):=⟨Tryz.call27,fun a=>iM Tryz.func27⟩
instance(b:SPr)(c:List Int):LH (R:=Int) (zJN b c) [0,8,9] [] (fun a=>[(5,I a.1),(10,I a.2)]) (.xe 0 [0,8,9] fun d=>[(5,I d)]):=⟨⟩
instance t_ab:FI J1 58 (∀(a:SPr)(b:List Int),FnK J1 58 [T.ro ((Pt yM) a),T.ro (lV b)] (fun r=>[I r]) (fun _=>[]) (zVP a b)):=⟨Jbv,fun a b=>iM Tryz.func58⟩
instance(b:SPr):LH (R:=Int) (zZe b) [1] [] (fun a=>[(3,I a.1),(4,I a.2)]) (.xe 0 [1] fun c=>[(3,I c)]):=⟨⟩
instance t_a9:FI J1 33 (∀(a:SPr),FnK J1 33 [qPr a] (fun r=>[I r]) (fun _=>[]) (yAK a)):=⟨Tryz.call33,fun a=>iM Tryz.func33⟩
instance t_bf:FI J1 78 (∀(a:List Int)(b:Int),FnK J1 78 [T.ro (lV a),I b] (fun r=>[I r]) (fun _=>[]) (zX7 a b)):=⟨Tryz.call78,fun a b=>iM Tryz.func78⟩
instance(a b:List Int):LH (R:=Bool) (zVv a b) [0,1] [] (fun c=>[(5,I c)]) (.xs (.xe 0 [0,1] fun _=>[]) .xr):=⟨⟩
instance t_aR:FI J1 41 (∀(a b:List Int),FnK J1 41 [T.ro (lV a),T.ro (lV b)] (fun r=>[B r]) (fun _=>[]) (zXE a b)):=⟨Tryz.call41,fun a b=>iM Tryz.func41⟩
end
end Go.Wk
