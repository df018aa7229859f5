/- x -/
import Derived.Test.YtchnmobojdcikaaGreatRWT
open Go.Proofs.Tryz renaming prog->J0,call233->Qf
open Option renaming some->iW,none->iY
open Bool renaming true->iZ,false->ja
namespace Go.Wk
open Go Go.Proofs Go.Ab
set_option maxRecDepth 100000
set_option maxHeartbeats 4000000
section
attribute [local irreducible] RW CW DK OkL Ok yB yI xF xQ XS.post rng xV xC ixO zL yE yT yD zH GTo zR FnC FnK wA wN Kp Lk BsL BuL RpL Bk Lc JQ AK
instance t_ce:FI J0 15 (∀(a:List Int),FnK J0 15 [T.ro ((L 1 (IK .u8)) a)] (fun r=>[B r]) (fun _=>[]) (zYO a)):=⟨Tryz.call15,fun a=>iM Tryz.func15⟩
instance:HS Tryz.f110.8 [(2,2,0,.tr 3 7)]:=⟨⟩
instance(a:List Int):LH (R:=zE) (zWF a) [0] [] (fun b=>[(3,T.ptr (T.agg [T.ro ((L 1 (IK .u8)) a),I 0,I b.1])),(4,I b.2)]) (.xe 0 [0] fun c=>[(3,T.ptr (T.agg [T.ro ((L 1 (IK .u8)) a),I 0,I c]))]):=⟨⟩
instance t_a3:FI J0 110 (∀(a:List Int),FnK J0 110 [T.ro ((L 1 (IK .u8)) a)] (fun r=>[(Pt (fun x=>T.agg [(Ro (L 1 (IK .u8))) x.code,I x.at_,I x.seed])) r]) (fun _=>[]) (zSD a)):=⟨Tryz.call110,fun a=>iM Tryz.func110⟩
instance:HS Tryz.f107.8 [(2,2,0,.tr 3 5),(0,17,0,.tr 12 3),(2,4,0,.tr 3 17)]:=⟨⟩
instance(b:List (List Int)):LH (R:=(List Int)) (zWn b) [0] [] (fun a=>[(3,L 1 I a.1),(4,I a.2)]) (.xe 0 [0] fun c=>[(3,L 1 I c)]):=⟨⟩
instance t_M:FI J0 107 (∀(a:List (List Int)),FnK J0 107 [T.ro (lM a)] (fun r=>[lV r]) (fun _=>[]) (f_M a)):=⟨Tryz.call107,fun a=>iM Tryz.func107⟩
instance t_a6:FI J0 233 (∀(a:Int),FnK J0 233 [I a] (fun r=>[B r]) (fun _=>[]) (zSq a)):=⟨Qf,fun a=>iM Tryz.func233⟩
instance(a:List Int):LH (R:=Bool) (zNA a) [5,6] [] (fun b=>[(7,I b)]) (.xs (.xe 0 [5,6] fun _=>[]) .xr):=⟨⟩
instance t_V:FI J0 207 (∀(a:List Int),FnK J0 207 [T.ro (lV a)] (fun r=>[B r]) (fun _=>[]) (f_V a)):=⟨Tryz.call207,fun a=>iM Tryz.func207⟩
instance t_bo:FI J0 160 (∀(a:zB)(b:Int),FnK J0 160 [T.ro ((Pt wC) a),I b] (fun r=>[(fun x=>T.agg [I x.Prime,I x.xT,(Ro lM) x.Rows]) r]) (fun _=>[]) (zPp a b)):=⟨Tryz.call160,fun a b=>iM Tryz.func160⟩
instance t_cs:FI J0 332 (∀(a b:Int),FnK J0 332 [(IK .u32) a,(IK .u32) b] (fun r=>[(IK .u32) r.1,(IK .u32) r.2]) (fun _=>[]) (yFG a b)):=⟨Tryz.call332,fun a b=>iM Tryz.func332⟩
instance t_cr:FI J0 333 (∀(a b:Int),FnK J0 333 [(IK .u64) a,(IK .u64) b] (fun r=>[(IK .u64) r.1,(IK .u64) r.2]) (fun _=>[]) (yE6 a b)):=⟨Tryz.call333,fun a b=>iM Tryz.func333⟩
instance:HS Tryz.f135.8 [(0,20,0,.tr 16 3),(2,8,0,.tr 3 20)]:=⟨⟩
instance(b:(List Int)×Int)(c:Int):LH (R:=(List Int)) (zVM b c) [4,6,7,8,13] [] (fun a=>[(3,L 1 I a.1),(14,I a.2)]) (.xe 2 [4,13] fun d=>[(3,L 1 I d)]):=⟨⟩
instance(b:List Int):LH (R:=(List Int)) (zVN b) [6,7] [] (fun a=>[(3,L 1 I a.1),(8,I a.2)]) (.xe 0 [6,7] fun c=>[(3,L 1 I c)]):=⟨⟩
instance t_L:FI J0 135 (∀(a:List Int),FnK J0 135 [T.ro (lV a)] (fun r=>[lV r]) (fun _=>[]) (f_L a)):=⟨Tryz.call135,fun a=>iM Tryz.func135⟩
instance:HS Tryz.f242.8 [(2,6,0,.tr 7 16),(0,23,0,.tr 22 7),(0,24,0,.trq 21 5 [2,0]),(1,4,0,.trf 27 2 5 [2,0])]:=⟨⟩
instance(a:Int):LN (zK3 a) 5:=⟨⟩
instance(a:Int)(A0 A1 A2:T):LHk (R:=zN) (zK3 a) (T.ptr (T.agg [A0,A1,A2])) [1,4,11] [] (fun b=>[(5,T.ptr (T.agg [A0,I a,L 1 lV b.1])),(12,I b.2)]) (.xe 0 [1,11] fun c=>[(5,T.ptr (T.agg [A0,I a,L 1 lV c]))]):=⟨⟩
instance t_aB:FI J0 242 (∀(a b:Int),FnK J0 242 [I a,I b] (fun r=>[zCD r]) (fun _=>[]) (zVR a b)):=⟨Tryz.call242,fun a b=>iM Tryz.func242⟩
instance t_bS:FI J0 236 (∀(a:SPr),FnK J0 236 [T.ro ((Pt vQ) a)] (fun r=>[I r]) (fun _=>[]) (zWe a)):=⟨Tryz.call236,fun a=>iM Tryz.func236⟩
instance t_ck:FI J0 193 (∀(a:Int)(b:List (List Int)),FnK J0 193 [I a,T.ro (lM b)] (fun r=>[(fun x=>T.agg [I x.Prime,I x.xT,(Ro lM) x.Rows]) r]) (fun _=>[]) (yCm a b)):=⟨Tryz.call193,fun a b=>iM Tryz.func193⟩
instance:HS Tryz.f255.8 [(2,6,0,.tr 6 19),(0,31,0,.tr 30 6),(0,32,0,.tr 29 3),(2,9,0,.tr 3 32)]:=⟨⟩
instance(b:List (List Int)):LH (R:=(List (List Int))) (zNH b) [0,7,8] [] (fun a=>[(3,L 1 lV a.1),(9,I a.2)]) (.xe 0 [0,7,8] fun c=>[(3,L 1 lV c)]):=⟨⟩
instance t_aC:FI J0 255 (∀(a:List (List Int)),FnK J0 255 [T.ro (lM a)] (fun r:(List (List Int))=>[lM r]) (fun _=>[]) (zVZ a)):=⟨Tryz.call255,fun a=>iM Tryz.func255⟩
instance t_b3:FI J0 266 (∀(a:Int),FnK J0 266 [I a] (fun r=>[B r]) (fun _=>[]) (zYH a)):=⟨Tryz.call266,fun a=>iM Tryz.func266⟩
instance t_b2:FI J0 264 (∀(a:Int),FnK J0 264 [I a] (fun r=>[B r]) (fun _=>[]) (zYD a)):=⟨Tryz.call264,fun a=>iM Tryz.func264⟩
end
end Go.Wk
