/- x -/
import Derived.Test.YtbemegmelmannaaGreatDoorAbC
import Derived.Test.YtbemegmelmannaaGreatDoorWF
import Derived.Test.YtbemegmelmannaaGreatDoorProg
import Derived.RangeFuncBound
import Derived.WalkKit
import Derived.OwnWalkIn
import Derived.TacticsInMore
import Derived.LoopNIn
import Derived.LoopIn
import Derived.Shelf.Abstract
namespace Go.Wk
open Go Go.Proofs Go.Ab
abbrev lV:=L 1 I
abbrev lM:=L 1 lV
abbrev lC:=L 1 lM
abbrev qPr (x:SPr):T:=T.agg [T.ro (lV x.Orders),T.ro (lM x.Powers),T.ro (lC x.Conjugates)]
theorem mixedP:Tryz.prog.follows .mixedOrders = true:=rfl
instance:Mix Tryz.prog:=⟨mixedP⟩
instance fld_40_0:FldT Tryz.prog 40 0 0:=⟨_,_,_,Tryz.underlying40,rfl,info_of Tryz.type9,by decide,rfl⟩
instance fld_40_1:FldT Tryz.prog 40 1 1:=⟨_,_,_,Tryz.underlying40,rfl,info_of Tryz.type3,by decide,rfl⟩
instance fld_40_2:FldT Tryz.prog 40 2 2:=⟨_,_,_,Tryz.underlying40,rfl,info_of Tryz.type4,by decide,rfl⟩
theorem inf_4:Tryz.prog.info? 4 = some Tryz.t4:=info_of Tryz.type4
instance infI_4:InfI Tryz.prog 4 Tryz.t4:=⟨inf_4⟩
instance str_9:StrI Tryz.prog 9:=⟨Tryz.underlying9⟩
instance var_3:VarI Tryz.prog 3 true 1:=⟨fun u h1 h2 => ⟨_,_,Tryz.underlying3,info_of Tryz.type3,by rw [h1];rfl,by rw [h2];rfl⟩⟩
instance var_9:VarI Tryz.prog 9 true 1:=⟨fun u h1 h2 => ⟨_,_,Tryz.underlying9,info_of Tryz.type9,by rw [h1];rfl,by rw [h2];rfl⟩⟩
instance bld_73:BldT Tryz.prog 73 [I 0,Str ByteArray.empty,Str ByteArray.empty]:=⟨_,_,fun ps => built_struct (info_of Tryz.type73) Tryz.underlying73 rfl (places:=[(0,1),(1,1),(2,1)]) (by simp [info_of Tryz.type2,info_of Tryz.type9];decide) ps,rfl,rfl,(by intro i u hu;match i,hu with | 0,hu => cases hu;rfl | 1,hu => cases hu;rfl | 2,hu => cases hu;rfl | _ + 3,hu => simp at hu)⟩
instance elt_70:ElT Tryz.prog 70 73 Tryz.t73 3 (T.agg [I 0,Str ByteArray.empty,Str ByteArray.empty]):=⟨Tryz.underlying70,info_of Tryz.type73,⟨_,rfl,rfl⟩,rfl,Nat.le_of_ble_eq_true rfl,rfl,rfl,Nat.le_of_ble_eq_true rfl⟩
instance row_70:RowT Tryz.prog 70 73 Tryz.t73 3:=⟨Tryz.underlying70,info_of Tryz.type73,rfl⟩
instance rp_73 {a0:Int} {a1:ByteArray} {a2:ByteArray}:Rp (.agg [I a0,Str a1,Str a2]) eSl30Row (Sl30Row.mk a0 a1 a2):=⟨rfl⟩
instance fld_73_0:FldT Tryz.prog 73 0 0:=⟨_,_,_,Tryz.underlying73,rfl,info_of Tryz.type2,by decide,rfl⟩
instance fld_73_1:FldT Tryz.prog 73 1 1:=⟨_,_,_,Tryz.underlying73,rfl,info_of Tryz.type9,by decide,rfl⟩
instance sli_70:SliI Tryz.prog 70 73:=⟨Tryz.underlying70⟩
instance var_2:VarI Tryz.prog 2 true 1:=⟨fun u h1 h2 => ⟨_,_,Tryz.underlying2,info_of Tryz.type2,by rw [h1];rfl,by rw [h2];rfl⟩⟩
instance elt_86:ElT Tryz.prog 86 9 Tryz.t9 1 (Str ByteArray.empty):=⟨Tryz.underlying86,info_of Tryz.type9,⟨_,rfl,rfl⟩,rfl,Nat.le_of_ble_eq_true rfl,rfl,rfl,Nat.le_of_ble_eq_true rfl⟩
instance row_86:RowT Tryz.prog 86 9 Tryz.t9 1:=⟨Tryz.underlying86,info_of Tryz.type9,rfl⟩
instance int_2:IntT Tryz.prog 2 .i64:=⟨Tryz.underlying2⟩
instance und_5:UndT Tryz.prog 5:=⟨_,Tryz.underlying5⟩
instance row_74:RowT Tryz.prog 74 2 Tryz.t2 1:=⟨Tryz.underlying74,info_of Tryz.type2,rfl⟩
instance sli_74:SliI Tryz.prog 74 2:=⟨Tryz.underlying74⟩
instance elt_74:ElT Tryz.prog 74 2 Tryz.t2 1 (I 0):=⟨Tryz.underlying74,info_of Tryz.type2,⟨_,rfl,rfl⟩,rfl,Nat.le_of_ble_eq_true rfl,rfl,rfl,Nat.le_of_ble_eq_true rfl⟩
instance sli_86:SliI Tryz.prog 86 9:=⟨Tryz.underlying86⟩
theorem inf_2:Tryz.prog.info? 2 = some Tryz.t2:=info_of Tryz.type2
instance infI_2:InfI Tryz.prog 2 Tryz.t2:=⟨inf_2⟩
instance mkz_74:MkZ Tryz.prog 74 I 0 (I 0):=⟨rfl⟩
instance bld_78:BldT Tryz.prog 78 [L 1 I [],L 1 (L 1 I) [],L 1 (L 1 (L 1 I)) []]:=⟨_,_,fun ps => built_struct (info_of Tryz.type78) Tryz.underlying78 rfl (places:=[(0,1),(1,1),(2,1)]) (by simp [info_of Tryz.type74,info_of Tryz.type75,info_of Tryz.type76];decide) ps,rfl,rfl,(by intro i u hu;match i,hu with | 0,hu => cases hu;rfl | 1,hu => cases hu;rfl | 2,hu => cases hu;rfl | _ + 3,hu => simp at hu)⟩
instance elt_75:ElT Tryz.prog 75 74 Tryz.t74 1 (L 1 I []):=⟨Tryz.underlying75,info_of Tryz.type74,⟨_,rfl,rfl⟩,rfl,Nat.le_of_ble_eq_true rfl,rfl,rfl,Nat.le_of_ble_eq_true rfl⟩
instance elt_76:ElT Tryz.prog 76 75 Tryz.t75 1 (L 1 (L 1 I) []):=⟨Tryz.underlying76,info_of Tryz.type75,⟨_,rfl,rfl⟩,rfl,Nat.le_of_ble_eq_true rfl,rfl,rfl,Nat.le_of_ble_eq_true rfl⟩
instance fld_78_1:FldT Tryz.prog 78 1 1:=⟨_,_,_,Tryz.underlying78,rfl,info_of Tryz.type75,by decide,rfl⟩
instance fld_78_2:FldT Tryz.prog 78 2 2:=⟨_,_,_,Tryz.underlying78,rfl,info_of Tryz.type76,by decide,rfl⟩
theorem inf_75:Tryz.prog.info? 75 = some Tryz.t75:=info_of Tryz.type75
instance infI_75:InfI Tryz.prog 75 Tryz.t75:=⟨inf_75⟩
theorem inf_76:Tryz.prog.info? 76 = some Tryz.t76:=info_of Tryz.type76
instance infI_76:InfI Tryz.prog 76 Tryz.t76:=⟨inf_76⟩
theorem inf_78:Tryz.prog.info? 78 = some Tryz.t78:=info_of Tryz.type78
instance infI_78:InfI Tryz.prog 78 Tryz.t78:=⟨inf_78⟩
instance var_75:VarI Tryz.prog 75 true 1:=⟨fun u h1 h2 => ⟨_,_,Tryz.underlying75,info_of Tryz.type75,by rw [h1];rfl,by rw [h2];rfl⟩⟩
instance var_76:VarI Tryz.prog 76 true 1:=⟨fun u h1 h2 => ⟨_,_,Tryz.underlying76,info_of Tryz.type76,by rw [h1];rfl,by rw [h2];rfl⟩⟩
instance var_78:VarI Tryz.prog 78 false 3:=⟨fun u h1 h2 => ⟨_,_,Tryz.underlying78,info_of Tryz.type78,by rw [h1];rfl,by rw [h2];rfl⟩⟩
instance zer_78:ZerT Tryz.prog 78 (T.agg [L 1 I [],L 1 (L 1 I) [],L 1 (L 1 (L 1 I)) []]):=⟨_,_,info_of Tryz.type78,rfl,rfl,rfl,rfl⟩
instance row_75:RowT Tryz.prog 75 74 Tryz.t74 1:=⟨Tryz.underlying75,info_of Tryz.type74,rfl⟩
instance sli_75:SliI Tryz.prog 75 74:=⟨Tryz.underlying75⟩
instance var_74:VarI Tryz.prog 74 true 1:=⟨fun u h1 h2 => ⟨_,_,Tryz.underlying74,info_of Tryz.type74,by rw [h1];rfl,by rw [h2];rfl⟩⟩
instance fld_78_0:FldT Tryz.prog 78 0 0:=⟨_,_,_,Tryz.underlying78,rfl,info_of Tryz.type74,by decide,rfl⟩
instance row_76:RowT Tryz.prog 76 75 Tryz.t75 1:=⟨Tryz.underlying76,info_of Tryz.type75,rfl⟩
instance sli_76:SliI Tryz.prog 76 75:=⟨Tryz.underlying76⟩
instance elt_62:ElT Tryz.prog 62 5 Tryz.t5 1 ((IK .u8) 0):=⟨Tryz.underlying62,info_of Tryz.type5,⟨_,rfl,rfl⟩,rfl,Nat.le_of_ble_eq_true rfl,rfl,rfl,Nat.le_of_ble_eq_true rfl⟩
instance int_5:IntT Tryz.prog 5 .u8:=⟨Tryz.underlying5⟩
instance sli_62:SliI Tryz.prog 62 5:=⟨Tryz.underlying62⟩
instance und_2:UndT Tryz.prog 2:=⟨_,Tryz.underlying2⟩
theorem inf_74:Tryz.prog.info? 74 = some Tryz.t74:=info_of Tryz.type74
instance infI_74:InfI Tryz.prog 74 Tryz.t74:=⟨inf_74⟩
instance int_3:IntT Tryz.prog 3 .i64:=⟨Tryz.underlying3⟩
instance bld_95:BldT Tryz.prog 95 [I 0,I 0,I 0,I 0]:=⟨_,_,fun ps => built_struct (info_of Tryz.type95) Tryz.underlying95 rfl (places:=[(0,1),(1,1),(2,1),(3,1)]) (by simp [info_of Tryz.type2];decide) ps,rfl,rfl,(by intro i u hu;match i,hu with | 0,hu => cases hu;rfl | 1,hu => cases hu;rfl | 2,hu => cases hu;rfl | 3,hu => cases hu;rfl | _ + 4,hu => simp at hu)⟩
theorem inf_95:Tryz.prog.info? 95 = some Tryz.t95:=info_of Tryz.type95
instance infI_95:InfI Tryz.prog 95 Tryz.t95:=⟨inf_95⟩
instance var_95:VarI Tryz.prog 95 false 4:=⟨fun u h1 h2 => ⟨_,_,Tryz.underlying95,info_of Tryz.type95,by rw [h1];rfl,by rw [h2];rfl⟩⟩
instance zer_95:ZerT Tryz.prog 95 (T.agg [I 0,I 0,I 0,I 0]):=⟨_,_,info_of Tryz.type95,rfl,rfl,rfl,rfl⟩
instance fld_95_0:FldT Tryz.prog 95 0 0:=⟨_,_,_,Tryz.underlying95,rfl,info_of Tryz.type2,by decide,rfl⟩
theorem fldv_95_0 {u:T} (h1:u.single = true) (h2:u.size = 1):∃ (ds:TypeDesc) (ti:TypeInfo) (fs:Array Field) (f:Field),Tryz.prog.underlying 95 = some (.struct fs) ∧ fs[0]? = some f ∧ Tryz.prog.underlying f.type = some ds ∧ Tryz.prog.info? f.type = some ti ∧ aggB ds = !u.single ∧ ti.size = u.size:=⟨_,_,_,_,Tryz.underlying95,rfl,Tryz.underlying2,info_of Tryz.type2,by rw [h1];rfl,by rw [h2];rfl⟩
instance fldw_95_0:FldV Tryz.prog 95 0 true 1:=⟨fun _ h1 h2 => fldv_95_0 h1 h2⟩
instance fld_49_0:FldT Tryz.prog 49 0 0:=⟨_,_,_,Tryz.underlying49,rfl,info_of Tryz.type2,by decide,rfl⟩
instance fld_49_1:FldT Tryz.prog 49 1 1:=⟨_,_,_,Tryz.underlying49,rfl,info_of Tryz.type9,by decide,rfl⟩
instance fld_49_2:FldT Tryz.prog 49 2 2:=⟨_,_,_,Tryz.underlying49,rfl,info_of Tryz.type9,by decide,rfl⟩
theorem inf_3:Tryz.prog.info? 3 = some Tryz.t3:=info_of Tryz.type3
instance infI_3:InfI Tryz.prog 3 Tryz.t3:=⟨inf_3⟩
instance var_4:VarI Tryz.prog 4 true 1:=⟨fun u h1 h2 => ⟨_,_,Tryz.underlying4,info_of Tryz.type4,by rw [h1];rfl,by rw [h2];rfl⟩⟩
instance bld_49:BldT Tryz.prog 49 [I 0,Str ByteArray.empty,Str ByteArray.empty]:=⟨_,_,fun ps => built_struct (info_of Tryz.type49) Tryz.underlying49 rfl (places:=[(0,1),(1,1),(2,1)]) (by simp [info_of Tryz.type2,info_of Tryz.type9];decide) ps,rfl,rfl,(by intro i u hu;match i,hu with | 0,hu => cases hu;rfl | 1,hu => cases hu;rfl | 2,hu => cases hu;rfl | _ + 3,hu => simp at hu)⟩
instance elt_22:ElT Tryz.prog 22 49 Tryz.t49 3 (T.agg [I 0,Str ByteArray.empty,Str ByteArray.empty]):=⟨Tryz.underlying22,info_of Tryz.type49,⟨_,rfl,rfl⟩,rfl,Nat.le_of_ble_eq_true rfl,rfl,rfl,Nat.le_of_ble_eq_true rfl⟩
theorem inf_49:Tryz.prog.info? 49 = some Tryz.t49:=info_of Tryz.type49
instance infI_49:InfI Tryz.prog 49 Tryz.t49:=⟨inf_49⟩
instance row_22:RowT Tryz.prog 22 49 Tryz.t49 3:=⟨Tryz.underlying22,info_of Tryz.type49,rfl⟩
instance rp_49 {a0:Int} {a1:ByteArray} {a2:ByteArray}:Rp (.agg [I a0,Str a1,Str a2]) eSNode (SNode.mk a0 a1 a2):=⟨rfl⟩
instance var_49:VarI Tryz.prog 49 false 3:=⟨fun u h1 h2 => ⟨_,_,Tryz.underlying49,info_of Tryz.type49,by rw [h1];rfl,by rw [h2];rfl⟩⟩
instance zer_49:ZerT Tryz.prog 49 (T.agg [I 0,Str ByteArray.empty,Str ByteArray.empty]):=⟨_,_,info_of Tryz.type49,rfl,rfl,rfl,rfl⟩
instance bld_40:BldT Tryz.prog 40 [Str ByteArray.empty,I 0,B false]:=⟨_,_,fun ps => built_struct (info_of Tryz.type40) Tryz.underlying40 rfl (places:=[(0,1),(1,1),(2,1)]) (by simp [info_of Tryz.type3,info_of Tryz.type4,info_of Tryz.type9];decide) ps,rfl,rfl,(by intro i u hu;match i,hu with | 0,hu => cases hu;rfl | 1,hu => cases hu;rfl | 2,hu => cases hu;rfl | _ + 3,hu => simp at hu)⟩
instance sli_22:SliI Tryz.prog 22 49:=⟨Tryz.underlying22⟩
instance fld_44_0:FldT Tryz.prog 44 0 0:=⟨_,_,_,Tryz.underlying44,rfl,info_of Tryz.type9,by decide,rfl⟩
instance fld_44_1:FldT Tryz.prog 44 1 1:=⟨_,_,_,Tryz.underlying44,rfl,info_of Tryz.type3,by decide,rfl⟩
instance row_62:RowT Tryz.prog 62 5 Tryz.t5 1:=⟨Tryz.underlying62,info_of Tryz.type5,rfl⟩
instance var_5:VarI Tryz.prog 5 true 1:=⟨fun u h1 h2 => ⟨_,_,Tryz.underlying5,info_of Tryz.type5,by rw [h1];rfl,by rw [h2];rfl⟩⟩
instance int_21:IntT Tryz.prog 21 .i32:=⟨Tryz.underlying21⟩
instance und_3:UndT Tryz.prog 3:=⟨_,Tryz.underlying3⟩
instance und_21:UndT Tryz.prog 21:=⟨_,Tryz.underlying21⟩
instance und_123:UndT Tryz.prog 123:=⟨_,Tryz.underlying123⟩
instance fld_100_3:FldT Tryz.prog 100 3 3:=⟨_,_,_,Tryz.underlying100,rfl,info_of Tryz.type9,by decide,rfl⟩
instance fld_100_2:FldT Tryz.prog 100 2 2:=⟨_,_,_,Tryz.underlying100,rfl,info_of Tryz.type9,by decide,rfl⟩
theorem inf_100:Tryz.prog.info? 100 = some Tryz.t100:=info_of Tryz.type100
instance infI_100:InfI Tryz.prog 100 Tryz.t100:=⟨inf_100⟩
instance row_97:RowT Tryz.prog 97 100 Tryz.t100 4:=⟨Tryz.underlying97,info_of Tryz.type100,rfl⟩
instance sli_97:SliI Tryz.prog 97 100:=⟨Tryz.underlying97⟩
instance var_100:VarI Tryz.prog 100 false 4:=⟨fun u h1 h2 => ⟨_,_,Tryz.underlying100,info_of Tryz.type100,by rw [h1];rfl,by rw [h2];rfl⟩⟩
instance zer_100:ZerT Tryz.prog 100 (T.agg [I 0,I 0,Str ByteArray.empty,Str ByteArray.empty]):=⟨_,_,info_of Tryz.type100,rfl,rfl,rfl,rfl⟩
instance eqs_95:EqS4 Tryz.prog 95:=⟨⟨_,_,_,_,Tryz.underlying95,⟨by decide,rfl,Tryz.underlying2⟩,⟨by decide,rfl,Tryz.underlying2⟩,⟨by decide,rfl,Tryz.underlying2⟩,⟨by decide,rfl,Tryz.underlying2⟩⟩,Tryz.stoodInHeld95,Tryz.eqGuardType95⟩
instance mkz_22:MkZ Tryz.prog 22 eSNode (SNode.mk 0 ByteArray.empty ByteArray.empty) (T.agg [I 0,Str ByteArray.empty,Str ByteArray.empty]):=⟨rfl⟩
instance row_68:RowT Tryz.prog 68 22 Tryz.t22 1:=⟨Tryz.underlying68,info_of Tryz.type22,rfl⟩
instance sli_68:SliI Tryz.prog 68 22:=⟨Tryz.underlying68⟩
instance var_22:VarI Tryz.prog 22 true 1:=⟨fun u h1 h2 => ⟨_,_,Tryz.underlying22,info_of Tryz.type22,by rw [h1];rfl,by rw [h2];rfl⟩⟩
instance elt_68:ElT Tryz.prog 68 22 Tryz.t22 1 (L 3 eSNode []):=⟨Tryz.underlying68,info_of Tryz.type22,⟨_,rfl,rfl⟩,rfl,Nat.le_of_ble_eq_true rfl,rfl,rfl,Nat.le_of_ble_eq_true rfl⟩
instance bld_44:BldT Tryz.prog 44 [Str ByteArray.empty,I 0]:=⟨_,_,fun ps => built_struct (info_of Tryz.type44) Tryz.underlying44 rfl (places:=[(0,1),(1,1)]) (by simp [info_of Tryz.type3,info_of Tryz.type9];decide) ps,rfl,rfl,(by intro i u hu;match i,hu with | 0,hu => cases hu;rfl | 1,hu => cases hu;rfl | _ + 2,hu => simp at hu)⟩
theorem inf_9:Tryz.prog.info? 9 = some Tryz.t9:=info_of Tryz.type9
instance infI_9:InfI Tryz.prog 9 Tryz.t9:=⟨inf_9⟩
instance fld_52_1:FldT Tryz.prog 52 1 1:=⟨_,_,_,Tryz.underlying52,rfl,info_of Tryz.type9,by decide,rfl⟩
instance fld_52_2:FldT Tryz.prog 52 2 2:=⟨_,_,_,Tryz.underlying52,rfl,info_of Tryz.type9,by decide,rfl⟩
instance row_28:RowT Tryz.prog 28 52 Tryz.t52 3:=⟨Tryz.underlying28,info_of Tryz.type52,rfl⟩
instance sli_28:SliI Tryz.prog 28 52:=⟨Tryz.underlying28⟩
instance var_52:VarI Tryz.prog 52 false 3:=⟨fun u h1 h2 => ⟨_,_,Tryz.underlying52,info_of Tryz.type52,by rw [h1];rfl,by rw [h2];rfl⟩⟩
instance fld_52_0:FldT Tryz.prog 52 0 0:=⟨_,_,_,Tryz.underlying52,rfl,info_of Tryz.type2,by decide,rfl⟩
instance boo_4:BoolI Tryz.prog 4:=⟨Tryz.underlying4⟩
end Go.Wk

namespace Go.Wk
open Go Go.Proofs Go.Ab
set_option maxRecDepth 100000
set_option maxHeartbeats 4000000
instance bld_100:BldT Tryz.prog 100 [I 0,I 0,Str ByteArray.empty,Str ByteArray.empty]:=⟨_,_,fun ps => built_struct (info_of Tryz.type100) Tryz.underlying100 rfl (places:=[(0,1),(1,1),(2,1),(3,1)]) (by simp [info_of Tryz.type2,info_of Tryz.type9];decide) ps,rfl,rfl,(by intro i u hu;match i,hu with | 0,hu => cases hu;rfl | 1,hu => cases hu;rfl | 2,hu => cases hu;rfl | 3,hu => cases hu;rfl | _ + 4,hu => simp at hu)⟩
instance elt_97:ElT Tryz.prog 97 100 Tryz.t100 4 (T.agg [I 0,I 0,Str ByteArray.empty,Str ByteArray.empty]):=⟨Tryz.underlying97,info_of Tryz.type100,⟨_,rfl,rfl⟩,rfl,Nat.le_of_ble_eq_true rfl,rfl,rfl,Nat.le_of_ble_eq_true rfl⟩
instance fld_100_0:FldT Tryz.prog 100 0 0:=⟨_,_,_,Tryz.underlying100,rfl,info_of Tryz.type2,by decide,rfl⟩
instance fld_100_1:FldT Tryz.prog 100 1 1:=⟨_,_,_,Tryz.underlying100,rfl,info_of Tryz.type2,by decide,rfl⟩
theorem inf_97:Tryz.prog.info? 97 = some Tryz.t97:=info_of Tryz.type97
instance infI_97:InfI Tryz.prog 97 Tryz.t97:=⟨inf_97⟩
instance rp_100 {a0:Int} {a1:Int} {a2:ByteArray} {a3:ByteArray}:Rp (.agg [I a0,I a1,Str a2,Str a3]) eSlibraryGroup (SlibraryGroup.mk a0 a1 a2 a3):=⟨rfl⟩
instance var_97:VarI Tryz.prog 97 true 1:=⟨fun u h1 h2 => ⟨_,_,Tryz.underlying97,info_of Tryz.type97,by rw [h1];rfl,by rw [h2];rfl⟩⟩
def findRF:Code → Option (Operand × Array Tmp × Code × Code)
  | .rangeFunc g ps a b => some (g,ps,a,b)
  | .seq a b => match findRF a with
    | some x => some x
    | none => findRF b
  | .block _ b => findRF b
  | _ => none
noncomputable abbrev lgRF:Operand × Array Tmp × Code × Code:=((Tryz.f64.body.bind findRF).getD (.tmp 0,#[],.skip,.skip))
noncomputable def lgR (x1:List SlibraryGroup) (x2:ByteArray):Option (List SlibraryGroup) :=
  (f_L x2 (ByteArray.mk #[124])).bind fun r1 =>
  (ixO r1 0).bind fun v2 =>
  (f_ad v2 10 64).bind fun r3 =>
  (ixO r1 1).bind fun v4 =>
  (ixO r1 2).bind fun v5 =>
  cond (decide ((x1.length:Int) > 0)) (
    (rng ((x1.length:Int) - 1)).bind fun v6 =>
    (ixO x1 v6).bind fun v7 =>
    cond (v7.order == r3.1) (
      (rng ((x1.length:Int) - 1)).bind fun v8 =>
      (ixO x1 v8).bind fun v9 =>
      (rng (v9.number + 1)).bind fun v10 =>
      (appO x1 [(SlibraryGroup.mk r3.1 v10 v4 v5)]).bind fun v11 =>
      some v11) (
      (appO x1 [(SlibraryGroup.mk r3.1 0 v4 v5)]).bind fun v12 =>
      some v12)) (
    (appO x1 [(SlibraryGroup.mk r3.1 0 v4 v5)]).bind fun v13 =>
    some v13)
theorem lg_round (x1:List SlibraryGroup) (x2:ByteArray) (q:List SlibraryGroup) (h:lgR x1 x2 = some q) {St:Stb} {W:Nat → Prop} {w0:World} {v:Value} {l n:Nat} :
    CI Tryz.prog ⟨St,W,w0,Tryz.f64.ntmps⟩ [(1,v)] l n lgRF.2.2.2 (envL [(1,T.ptr (L 4 eSlibraryGroup x1)),(2,Str x2)]) (fun e E => e = .normal ∧ E 1 = some (T.ptr (L 4 eSlibraryGroup q))):=by
 refine CI.block ?_
 refine ciR ?_
 refine a_mv ?_
 obtain ⟨r1,hr1,h⟩:=bd h
 refine oP (x_callF (xs:=[.tmp 10,.const _]) Tryz.call86 (tk_strings_Split _ _ _ hr1) (afC rfl rfl (afC rfl rfl afN)) rfl ⟨trivial,trivial⟩ rfl rfl) ?_
 refine a_as ?_
 refine ciN ?_
 refine ciR ?_
 refine a_mv ?_
 obtain ⟨v2,hv2,h⟩:=bd h
 refine a_ixr ?_
 refine a_ldr ?_
 obtain ⟨r3,hr3,h⟩:=bd h
 refine oP (x_callF (xs:=[.tmp 15,.const _,.const _]) Tryz.call87 (tk_strconv_ParseInt _ _ _ _ hr3) (afC rfl rfl (afC rfl rfl (afC rfl rfl afN))) rfl ⟨(Enc.clean (f:=I) _),trivial,trivial⟩ rfl rfl) ?_
 refine a_mvT ?_
 refine a_ext ?_
 refine a_ext ?_
 refine a_as ?_
 refine a_as ?_
 refine ciN ?_
 refine CI.seq ?_
 obtain ⟨v4,hv4,h⟩:=bd h
 obtain ⟨v5,hv5,h⟩:=bd h
 refine CI.dk ?_
 refine ci_mv [(4,_)] ?_
 refine ci_mv [(3,_)] ?_
 refine ci_ixr [(20,_)] ?_
 refine ci_ldr [(21,_)] ?_
 refine ci_mv [(3,_)] ?_
 refine ci_ixr [(23,_)] ?_
 refine ci_ldr [(24,_)] ?_
 refine ciG [(19,_),(22,_),(25,_)] [([(26,some (T.agg [I r3.1,I 0,Str v4,Str v5]))],[(26,0)])] ⟨rfl,rfl,rfl,trivial⟩ (fun E h => IxOk.opE (x_build bld_100 [(0,.tmp 19),(2,.tmp 22),(3,.tmp 25)] [(0,.slot 19 (I r3.1)),(2,.slot 22 (Str v4)),(3,.slot 25 (Str v5))] [.slot 19 (I r3.1),.zero (I 0),.slot 22 (Str v4),.slot 25 (Str v5)] (pkS h.1 (clean_of (Enc.clean (f:=I) _)) rfl (pkZ rfl (pkS h.2.1 (clean_of (Enc.clean (f:=Str) _)) rfl (pkS h.2.2.1 (clean_of (Enc.clean (f:=Str) _)) rfl pkN)))) (bqC (.slot _ _) (bqC (.slot _ _) (bqC (.slot _ _) bqN))) rfl) rfl) ?_
 refine ci_alloc [] ?_
 refine ciG [(6,_),(26,_)] [([(6,some (T.ptr (T.agg [I r3.1,I 0,Str v4,Str v5]))),(26,some (T.agg [I r3.1,I 0,Str v4,Str v5]))],[(6,1),(26,1)])] ⟨rfl,rfl,trivial⟩ (fun E h => IxOk.opE (x_stp inf_100 rfl (locB h.1 rfl) h.1 rfl rfl h.2.1 (clean_of (cleanA ⟨(Enc.clean (f:=I) _),(Enc.clean (f:=I) _),(Enc.clean (f:=Str) _),(Enc.clean (f:=Str) _),trivial⟩)) rfl) rfl) ?_
 refine ciE mixedP ?_
 refine ciA ?_
 refine CI.seq ?_
 refine ciR ?_
 refine a_ldp ?_
 refine a_len ?_
 refine a_as ?_
 refine ciN ?_
 refine CI.seq ?_
 refine CI.to [(1,T.ptr (L 4 eSlibraryGroup x1)),(4,I r3.1),(6,T.ptr (T.agg [I r3.1,I 0,Str v4,Str v5])),(7,I (x1.length:Int))] ⟨rfl,rfl,rfl,rfl,trivial⟩ ?_
 refine CI.region rfl ?_
 refine a_mv ?_
 refine a_gtr ?_
 refine a_mv ?_
 refine RW.cases 31 _ rfl (fun hc => ?_) (fun hc => ?_)
 ·have h:=cT hc h
  refine g_ldp ?_
  refine g_mv ?_
  obtain ⟨v6,hv6,h⟩:=bd h
  refine RW.cons (IxOk.guard 2 true 31 (x_sub hv6 rfl rfl rfl)) ?_
  obtain ⟨v7,hv7,h⟩:=bd h
  refine g_ix ?_
  refine RW.cons (IxOk.guard 2 true 31 (x_faa fld_100_0 rfl rfl (getp (getc hv7 rfl)) rfl rfl rfl)) ?_
  refine g_ld ?_
  refine g_mv ?_
  refine g_eql ?_
  refine a_pick ?_
  refine ciN ?_
  refine ci_cn h (fun hc h => ?_) (fun hc h => ?_)
  ·refine CI.region rfl ?_
   refine a_ldp ?_
   refine a_mv ?_
   obtain ⟨v8,hv8,h⟩:=bd h
   refine oP (x_sub hv8 rfl rfl rfl) ?_
   obtain ⟨v9,hv9,h⟩:=bd h
   refine a_ix ?_
   refine oP (x_faa fld_100_1 rfl rfl (getp (getc hv9 rfl)) rfl rfl rfl) ?_
   refine a_ld ?_
   obtain ⟨v10,hv10,h⟩:=bd h
   refine a_add ?_
   refine a_fa ?_
   refine oP (x_st inf_2 rfl rfl rfl rfl rfl rfl (clean_of (Enc.clean (f:=I) _)) rfl) ?_
   refine ciN ?_
   refine CI.region rfl ?_
   refine a_ldp ?_
   refine a_ldp ?_
   refine oP (x_bs elt_97 [.tmp 50] [.slot 50 (T.agg [I r3.1,I v10,Str v4,Str v5])] [(SlibraryGroup.mk r3.1 v10 v4 v5)] eSlibraryGroup ⟨.slot _ _,trivial⟩ (pkS rfl (clean_of (cleanA ⟨(Enc.clean (f:=I) _),(Enc.clean (f:=I) _),(Enc.clean (f:=Str) _),(Enc.clean (f:=Str) _),trivial⟩)) rfl pkN) rfl rfl) ?_
   refine RW.ghost (Ghost.trq 49 1 [0] rfl rfl rfl (clean_of (cleanL (Enc.clean (f:=eSlibraryGroup)))) rfl) ?_
   obtain ⟨v11,hv11,h⟩:=bd h
   refine oP (x_appc (f:=eSlibraryGroup) elt_97 (fun _ => rfl) hv11 rfl (locB rfl rfl) rfl) ?_
   refine oP (x_stp inf_97 rfl (locB rfl rfl) rfl rfl rfl rfl (clean_of (cleanL (Enc.clean (f:=eSlibraryGroup)))) rfl) ?_
   refine RW.nil ?_
   refine nB ?_
   obtain rfl:=sI h
   exact ⟨rfl,rfl⟩
  ·refine CI.skip ?_
   refine ciA ?_
   refine CI.region rfl ?_
   refine a_ldp ?_
   refine a_ldp ?_
   refine oP (x_bs elt_97 [.tmp 50] [.slot 50 (T.agg [I r3.1,I 0,Str v4,Str v5])] [(SlibraryGroup.mk r3.1 0 v4 v5)] eSlibraryGroup ⟨.slot _ _,trivial⟩ (pkS rfl (clean_of (cleanA ⟨(Enc.clean (f:=I) _),(Enc.clean (f:=I) _),(Enc.clean (f:=Str) _),(Enc.clean (f:=Str) _),trivial⟩)) rfl pkN) rfl rfl) ?_
   refine RW.ghost (Ghost.trq 49 1 [0] rfl rfl rfl (clean_of (cleanL (Enc.clean (f:=eSlibraryGroup)))) rfl) ?_
   obtain ⟨v12,hv12,h⟩:=bd h
   refine oP (x_appc (f:=eSlibraryGroup) elt_97 (fun _ => rfl) hv12 rfl (locB rfl rfl) rfl) ?_
   refine oP (x_stp inf_97 rfl (locB rfl rfl) rfl rfl rfl rfl (clean_of (cleanL (Enc.clean (f:=eSlibraryGroup)))) rfl) ?_
   refine RW.nil ?_
   refine nB ?_
   obtain rfl:=sI h
   exact ⟨rfl,rfl⟩
 ·have h:=cF hc h
  refine sk2 ?_
  refine sk2 ?_
  refine sk2 ?_
  refine sk2 ?_
  refine sk2 ?_
  refine sk2 ?_
  refine sk2 ?_
  refine sk2 ?_
  refine a_pick ?_
  refine ciN ?_
  refine CI.condF rfl ?_
  refine CI.skip ?_
  refine ciA ?_
  refine CI.region rfl ?_
  refine a_ldp ?_
  refine a_ldp ?_
  refine oP (x_bs elt_97 [.tmp 50] [.slot 50 (T.agg [I r3.1,I 0,Str v4,Str v5])] [(SlibraryGroup.mk r3.1 0 v4 v5)] eSlibraryGroup ⟨.slot _ _,trivial⟩ (pkS rfl (clean_of (cleanA ⟨(Enc.clean (f:=I) _),(Enc.clean (f:=I) _),(Enc.clean (f:=Str) _),(Enc.clean (f:=Str) _),trivial⟩)) rfl pkN) rfl rfl) ?_
  refine RW.ghost (Ghost.trq 49 1 [0] rfl rfl rfl (clean_of (cleanL (Enc.clean (f:=eSlibraryGroup)))) rfl) ?_
  obtain ⟨v13,hv13,h⟩:=bd h
  refine oP (x_appc (f:=eSlibraryGroup) elt_97 (fun _ => rfl) hv13 rfl (locB rfl rfl) rfl) ?_
  refine oP (x_stp inf_97 rfl (locB rfl rfl) rfl rfl rfl rfl (clean_of (cleanL (Enc.clean (f:=eSlibraryGroup)))) rfl) ?_
  refine RW.nil ?_
  refine nB ?_
  obtain rfl:=sI h
  exact ⟨rfl,rfl⟩
end Go.Wk

namespace Go.Wk
open Go Go.Proofs Go.Ab Go.RowKit Go.Shelf
attribute [local go_sem] Oper.semAt_some
set_option maxRecDepth 100000
set_option maxHeartbeats 4000000
def strAt (W:World) (B:Nat):Nat:=match W.cell? ⟨B,0,none⟩ with
  | some (.string s) => s.size
  | _ => 0
theorem sq_iter (l B N:Nat) (ln rs:Nat → ByteArray) (J:Nat → World → Prop)
    (hix:∀ k,k < N → ∃ i:Nat,Lib.indexByte (rs k).data.toList 10 = i ∧ i + 1 ≤ (rs k).size ∧ (rs k).size ≤ 1000000 ∧ (rs k).extract 0 i = ln k ∧ (rs k).extract (i + 1) (rs k).size = rs (k + 1))
    (hl:Lib.indexByte (rs N).data.toList 10 = -1 ∧ rs N = ln N)
    (hB:∀ k W,J k W → W.cell? ⟨B + 1,0,none⟩ = some (.string ⟨#[10]⟩) ∧ W.cell? ⟨B + 2,0,none⟩ = some (.int .i64 0) ∧ W.frozen? ⟨B,0,none⟩ = false)
    (hS:∀ k W v u,J k W → W.cell? ⟨B,0,none⟩ = some (.string u) → J k (W.setCell ⟨B,0,none⟩ (.string v)))
    (hY:∀ k W,k ≤ N → J k W → YieldAt Fence.wide 0 Tryz.prog l #[.string (ln k)] W fun e W' => e = .returned (.bool true) ∧ J (k + 1) W' ∧ W'.cell? ⟨B,0,none⟩ = W.cell? ⟨B,0,none⟩)
    (W:World) (h0:J 0 W) (hs0:W.cell? ⟨B,0,none⟩ = some (.string (rs 0))) :
    CallsIn Fence.wide 0 Tryz.prog 120 #[.func (.yield l) #[] #[],.pointer (some ⟨B + 1,0,none⟩),.pointer (some ⟨B,0,none⟩),.pointer (some ⟨B + 2,0,none⟩)] W fun e W' => (∃ v,e = .returned v) ∧ J (N + 1) W':=by
  refine callsIn_of_wp Tryz.func120 rfl trivial ?_ rfl
  simp only [Tryz.ntmps120,List.size_toArray,List.length_cons,List.length_nil,Nat.reduceAdd,Nat.reduceSub,Array.replicate_succ,Array.replicate_zero,List.push_toArray,List.append_toArray,List.nil_append,List.cons_append]
  obtain ⟨c1,c2,c3⟩:=hB 0 W h0
  gi_wp2
  gi_loopw [] (fun wr => ∃ k,k ≤ N ∧ J k wr ∧ wr.cell? ⟨B,0,none⟩ = some (.string (rs k))) (fun wr => strAt wr B)
  case atStart => exact ⟨0,Nat.zero_le _,h0,hs0⟩
  case round =>
    obtain ⟨k,hk,hj,hs⟩:=hrel
    obtain ⟨c1,c2,c3⟩:=hB k _ hj
    rcases Nat.lt_or_ge k N with hkN | hkN
    · obtain ⟨i,e1,e2,e5,e3,e4⟩:=hix k hkN
      gi_wp2
      refine ⟨trivial,rfl,?_⟩
      refine ((callsIn_wide (n:=0)).2 (Tryz.strings_Index_one _ _ _)).mono ?_
      rintro e w' ⟨rfl,rfl⟩
      rw [e1]
      have hw:wrap64 (i:Int) = (i:Int):=by unfold wrap64;omega
      have hw1:wrap64 ((i:Int) + 1) = ((i + 1:Nat):Int):=by unfold wrap64;omega
      obtain ⟨fn,tmps,assign,body,hy,hR⟩:=hY k w' hk hj
      gi_wp2
      refine ⟨rfl,?_⟩
      refine hR.mono ?_
      rintro e W3 ⟨rfl,hJ3,hc3⟩
      have hs3:=hc3.trans hs
      obtain ⟨d1,d2,d3⟩:=hB _ _ hJ3
      gi_wp2
      refine ⟨⟨k + 1,by omega,hS _ _ _ _ hJ3 hs3,World.cell?_setCell_same _ _ _ hs3⟩,?_⟩
      unfold strAt
      rw [World.cell?_setCell_same _ _ _ hs3,hs]
      simp only
      rw [← e4,ByteArray.size_extract]
      omega
    · obtain rfl:k = N:=by omega
      gi_wp2
      refine ⟨trivial,rfl,?_⟩
      refine ((callsIn_wide (n:=0)).2 (Tryz.strings_Index_one _ _ _)).mono ?_
      rintro e w' ⟨rfl,rfl⟩
      rw [show Lib.indexByte (ln k).data.toList 10 = -1 from hl.2 ▸ hl.1]
      obtain ⟨fn,tmps,assign,body,hy,hR⟩:=hY k w' (Nat.le_refl _) hj
      gi_wp2
      refine ⟨rfl,?_⟩
      refine hR.mono ?_
      rintro e W3 ⟨rfl,hJ3,hc3⟩
      gi_wp2
      go_end0
      exact ⟨⟨_,rfl⟩,hJ3⟩
end Go.Wk

namespace Go.Wk
open Go Go.Proofs Go.Ab Go.RowKit
structure LG (St:Stb) (w0:World) (K:Nat → Prop) (p:Value) (xs:List SlibraryGroup) (W:World):Prop where
  ex:∃ (S:Stb) (G:Gh) (Ws:Nat → Prop),Mem ⟨S,Ws,W,0⟩ G W ∧ R S G W 1 (.ptr (L 4 eSlibraryGroup xs)) [] ∧ G.hd 1 [] = p ∧ (∀ b,Ws b → w0.heap.size ≤ b ∧ b < W.heap.size) ∧
    (∀ b,K b → w0.heap.size ≤ b ∧ b < W.heap.size ∧ ¬ Ws b ∧ S b = none) ∧ (∀ b x,St b = some x → S b = some x) ∧ (∀ b,St b = none → S b ≠ none → w0.heap.size ≤ b)
  bel:Bel w0.heap.size w0 W
section
variable {St:Stb} {w0 W W':World} {K K':Nat → Prop} {p:Value} {xs q:List SlibraryGroup}
theorem lg_top (xs:List SlibraryGroup):Top (.ptr (L 4 eSlibraryGroup xs)):=by
  simp only [Top];exact clean_of (cleanL (Enc.clean (f:=eSlibraryGroup)))
theorem LG.step (h:LG St w0 K p xs W) (hb:∀ b,b < W.heap.size → ¬ K b → W'.heap[b]? = W.heap[b]?) (hsz:W.heap.size ≤ W'.heap.size) (hblk:Blk W W') (ho:W'.os = W.os) (hq:W'.output = W.output)
    (hK:∀ b,K' b → K b ∨ (W.heap.size ≤ b ∧ b < W'.heap.size)):LG St w0 K' p xs W':=by
  obtain ⟨⟨S,G,Ws,hm,hr,hp,hWs,hKs,hSt,hSn⟩,hbel⟩:=h
  have hlt:∀ b x,S b = some x → b < W.heap.size:=fun b x hx => (Array.getElem?_eq_some_iff.1 (hm.st b x hx)).1
  have hws:∀ b,BlkOk ⟨S,Ws,W,0⟩ W b → Ws b ∧ b < W.heap.size ∧ S b = none:=fun b ⟨k1,k2,k3⟩ => ⟨by
    rcases k2 with k2 | k2
    · exact absurd k1 (by simp only at k2;omega)
    · exact k2,k1,k3⟩
  have hsame:∀ b,BlkOk ⟨S,Ws,W,0⟩ W b → W'.heap[b]? = W.heap[b]?:=fun b hbk => hb b (hws b hbk).2.1 fun k => (hKs b k).2.2.1 (hws b hbk).1
  have hblk':∀ b,BlkOk ⟨S,Ws,W,0⟩ W b → BlkOk ⟨S,Ws,W',0⟩ W' b:=fun b hbk => ⟨by have:=(hws b hbk).2.1;omega,.inr (hws b hbk).1,(hws b hbk).2.2⟩
  refine ⟨⟨S,G,Ws,⟨hm.one,fun b o l hl => hblk' b (hm.lb b o l hl),fun b l hl => hblk' b (hm.ow b l hl),fun b x hx => ?_,fun _ _ _ => rfl,Nat.le_refl _,⟨fun b cs e h => ⟨cs,h,rfl⟩,rfl,rfl⟩,hm.gl⟩,?_,hp,fun b hb' => ⟨(hWs b hb').1,by have:=(hWs b hb').2;omega⟩,fun b hb' => ?_,hSt,hSn⟩,?_⟩
  · have hx':S b = some x:=hx
    rw [hb b (hlt b x hx) fun k => by rw [(hKs b k).2.2.2] at hx';cases hx'];exact hm.st b x hx
  · have:=Ent.keep (Γ:=⟨S,Ws,W,0⟩) (chg:=[]) (G:=G) (w:=W) (G':=G) (w':=W') (s:=1) (v:=some (mkV G 1 (.ptr (L 4 eSlibraryGroup xs)) [])) (t:=.ptr (L 4 eSlibraryGroup xs))
      ⟨fun _ _ _ => rfl,fun _ _ _ => rfl,fun b o f s p ⟨y,hy⟩ hl _ => ⟨hl,by simp only [cellAt,World.cell?,hsame b (hm.ow b _ hy)]⟩,fun _ _ _ h _ => h,hblk,fun b s p ms _ hy _ hms => by rw [hsame b (hm.ow b _ hy)];exact hms⟩
      (by simp) (okB_nil _) ⟨rfl,hr,lg_top xs⟩
    exact this.2.1
  · rcases hK b hb' with k | ⟨k1,k2⟩
    · obtain ⟨a1,a2,a3,a4⟩:=hKs b k
      exact ⟨a1,by omega,a3,a4⟩
    · exact ⟨by have:=hbel.size;omega,k2,fun k => by have:=(hWs b k).2;omega,by
        cases hs:S b with
        | none => rfl
        | some x => have:=hlt b x hs;omega⟩
  · exact ⟨ho.trans hbel.os,hq.trans hbel.output,Nat.le_trans hbel.size hsz,fun b hb' => (hb b (by have:=hbel.size;omega) fun k => by have:=(hKs b k).1;omega).trans (hbel.block b hb')⟩
theorem LG.round (h:LG St w0 K p xs W) {line:ByteArray} (hg:lgR xs line = some q) {l n:Nat} {a:Act} (hd:a.defers = []) (hsz:a.tmps.size = Tryz.f64.ntmps) (h1:a.tmps[1]? = some p) (h2:a.tmps[2]? = some (.string line))
    {Q':Exit → Act → World → Prop} (hq:¬ LetsOut Q') (hQ:∀ a' W',LG St w0 K p q W' → (∀ b,K b → W'.heap[b]? = W.heap[b]?) → W.heap.size ≤ W'.heap.size → Q' .normal a' W'):lgRF.2.2.2.wpIn (Fence.wide.inRound l) n Tryz.prog Q' a W:=by
  obtain ⟨⟨S,G,Ws,hm,hr,hp,hWs,hKs,hSt,hSn⟩,hbel⟩:=h
  let G2:Gh:={ G with hd:=fun s z => if s = 2 ∧ z = [] then .string line else G.hd s z }
  have hhd:∀ s z,s ≠ 2 → G2.hd s z = G.hd s z:=fun s z h => if_neg fun k => h k.1
  have hone:(Value.string line).oneCell' = true:=rfl
  have hr2:R S G2 W 1 (.ptr (L 4 eSlibraryGroup xs)) []:=by
    have:=Ent.keep (Γ:=⟨S,Ws,W,0⟩) (chg:=[(2,0)]) (G:=G) (w:=W) (G':=G2) (w':=W) (s:=1) (v:=some (mkV G 1 (.ptr (L 4 eSlibraryGroup xs)) [])) (t:=.ptr (L 4 eSlibraryGroup xs))
      ⟨fun s z ho => by
        by_cases e:s = 2
        · subst e;exact absurd (ho 0 (by simp)) (by omega)
        · exact hhd s z e,fun _ _ _ => rfl,fun b o f s p _ hl _ => ⟨hl,rfl⟩,fun _ _ _ h _ => h,fun b cs e h => ⟨cs,h,rfl⟩,fun b s p ms _ _ _ hms => hms⟩
      (by simp) (by rfl) ⟨rfl,hr,lg_top xs⟩
    exact this.2.1
  have hrep:Rep ⟨S,Ws,W,Tryz.f64.ntmps⟩ (envL [(1,T.ptr (L 4 eSlibraryGroup xs)),(2,Str line)]) G2 a.tmps W:=by
    refine ⟨hsz,fun s t hs => ?_,⟨fun s z => ?_,hm.lb,hm.ow,hm.st,hm.fr,hm.sz,hm.bk,hm.gl⟩⟩
    · simp only [envL] at hs
      split at hs
      · rename_i e
        subst e
        cases hs
        exact ⟨by rw [h1];simp only [mkV];rw [hhd 1 [] (by omega),hp],hr2,lg_top xs⟩
      · split at hs
        · rename_i e
          subst e
          cases hs
          exact ⟨by rw [h2];simp [mkV,G2],by simp [R,G2],by simp only [Top]⟩
        · cases hs
    · show (if _ then _ else _:Value).oneCell' = true
      split
      · exact hone
      · exact hm.one s z
  refine lg_round xs line q hg (St:=S) (W:=Ws) (w0:=W) (v:=p) a W Q' hq ⟨S,.refl,hd,G2,hrep⟩ (fun x hx => ?_) fun e E' a' w' ⟨he,hE⟩ hs hpn => ?_
  · simp only [List.mem_singleton] at hx
    subst hx;exact h1
  · subst he
    obtain ⟨S',hgr,_,G',hrep'⟩:=hs
    obtain ⟨k1,k2,_⟩:=hrep'.ent 1 _ hE
    have k4:=hpn (1,p) (by simp)
    have hm':=hrep'.mem
    have hp':G'.hd 1 [] = p:=by
      have:some p = some (mkV G' 1 (.ptr (L 4 eSlibraryGroup q)) []):=k4.symm.trans k1
      simpa [mkV] using this.symm
    have hsz':W.heap.size ≤ w'.heap.size:=hm'.sz
    have hkeep:∀ b,K b → w'.heap[b]? = W.heap[b]?:=fun b hb => hm'.fr b (hKs b hb).2.1 (hKs b hb).2.2.1
    refine hQ a' w' ⟨⟨S',G',fun b => (∃ o l,G'.lb b o = some l) ∨ ∃ l,G'.ow b = some l,⟨hm'.one,fun b o l hl => ?_,fun b l hl => ?_,hm'.st,fun _ _ _ => rfl,Nat.le_refl _,⟨fun b cs e h => ⟨cs,h,rfl⟩,rfl,rfl⟩,hm'.gl⟩,k2,hp',fun b hb => ?_,fun b hb => ?_,fun b x hx => hgr.le b x (hSt b x hx),fun b h1 h2 => ?_⟩,?_⟩ hkeep hsz'
    · exact ⟨(hm'.lb b o l hl).1,.inr (.inl ⟨o,l,hl⟩),(hm'.lb b o l hl).2.2⟩
    · exact ⟨(hm'.ow b l hl).1,.inr (.inr ⟨l,hl⟩),(hm'.ow b l hl).2.2⟩
    · have hbk:BlkOk ⟨S',Ws,W,Tryz.f64.ntmps⟩ w' b:=by
        rcases hb with ⟨o,l,hl⟩ | ⟨l,hl⟩
        · exact hm'.lb b o l hl
        · exact hm'.ow b l hl
      refine ⟨?_,hbk.1⟩
      rcases hbk.2.1 with k | k
      · have:=hbel.size;simp only at k;omega
      · exact (hWs b k).1
    · obtain ⟨a1,a2,a3,a4⟩:=hKs b hb
      refine ⟨a1,by omega,fun hbw => ?_,?_⟩
      · have hbk:BlkOk ⟨S',Ws,W,Tryz.f64.ntmps⟩ w' b:=by
          rcases hbw with ⟨o,l,hl⟩ | ⟨l,hl⟩
          · exact hm'.lb b o l hl
          · exact hm'.ow b l hl
        rcases hbk.2.1 with k | k
        · simp only at k;omega
        · exact a3 k
      · cases hs:S' b with
        | none => rfl
        | some x =>
          rcases hgr.nw b a4 (by rw [hs];simp) with k | k
          · simp only at k;omega
          · exact absurd k a3
    · by_cases hs:S b = none
      · rcases hgr.nw b hs h2 with k | k
        · have:=hbel.size;simp only at k;omega
        · exact (hWs b k).1
      · exact hSn b h1 hs
    · refine ⟨hm'.bk.os.trans hbel.os,hm'.bk.out.trans hbel.output,Nat.le_trans hbel.size hsz',fun b hb => ?_⟩
      rw [hm'.fr b (by have:=hbel.size;simp only;omega) fun k => by have:=(hWs b k).1;omega]
      exact hbel.block b hb
theorem LG.start (hst:∀ b x,St b = some x → w0.heap[b]? = some x) (hgl:Gl St):LG St w0 (fun _ => False) (.pointer (some ⟨w0.heap.size,0,none⟩)) [] (w0.alloc (.cells #[.slice none 0 0] 97 (0,0))):=by
  have hlt:∀ b x,St b = some x → b < w0.heap.size:=fun b x hx => (Array.getElem?_eq_some_iff.1 (hst b x hx)).1
  have hheap:(w0.alloc (.cells #[.slice none 0 0] 97 (0,0))).heap = w0.heap.push (.cells #[.slice none 0 0] 97 (0,0)):=rfl
  have hbl:∀ b,b < w0.heap.size → (w0.alloc (.cells #[.slice none 0 0] 97 (0,0))).heap[b]? = w0.heap[b]?:=fun b hb => by rw [hheap,Array.getElem?_push_lt hb,Array.getElem?_eq_getElem hb]
  have hnew:(w0.alloc (.cells #[.slice none 0 0] 97 (0,0))).heap[w0.heap.size]? = some (.cells #[.slice none 0 0] 97 (0,0)):=by rw [hheap];simp
  have hnone:St w0.heap.size = none:=by
    cases hs:St w0.heap.size with
    | none => rfl
    | some x => have:=hlt _ x hs;omega
  let G:Gh:={ hd:=fun s z => if s = 1 ∧ z = [] then .pointer (some ⟨w0.heap.size,0,none⟩) else if s = 1 ∧ z = [0] then .slice none 0 0 else .bool false,ad:=fun _ _ => ⟨w0.heap.size,0,none⟩,lb:=fun b o => if b = w0.heap.size ∧ o = 0 then some (false,1,[0]) else none,ow:=fun b => if b = w0.heap.size then some (1,[]) else none }
  have hmem:Mem ⟨St,fun b => b = w0.heap.size,w0.alloc (.cells #[.slice none 0 0] 97 (0,0)),0⟩ G (w0.alloc (.cells #[.slice none 0 0] 97 (0,0))):=by
    refine ⟨fun s z => ?_,fun b o l hl => ?_,fun b l hl => ?_,fun b x hx => ?_,fun _ _ _ => rfl,Nat.le_refl _,⟨fun b cs e h => ⟨cs,h,rfl⟩,rfl,rfl⟩,hgl⟩
    · show (if _ then _ else if _ then _ else _:Value).oneCell' = true
      split
      · rfl
      · split <;> rfl
    · simp only [G] at hl
      split at hl
      · rename_i e
        obtain ⟨rfl,_⟩:=e
        exact ⟨by rw [hheap];simp,.inr rfl,hnone⟩
      · cases hl
    · simp only [G] at hl
      split at hl
      · rename_i e
        subst e
        exact ⟨by rw [hheap];simp,.inr rfl,hnone⟩
      · cases hl
    · rw [hbl b (hlt b x hx)];exact hst b x hx
  refine ⟨⟨St,G,fun b => b = w0.heap.size,hmem,?_,by simp [G],fun b hb => ⟨by omega,by rw [hheap];simp;omega⟩,fun b hb => hb.elim,fun _ _ h => h,fun b h1 h2 => absurd h1 h2⟩,⟨rfl,rfl,by rw [hheap];simp,hbl⟩⟩
  · simp only [R]
    refine ⟨w0.heap.size,#[.slice none 0 0],97,by simp [G],hnew,rfl,by simp [G],?_,?_⟩
    · simp only [L]
      exact ⟨rfl,by simp [G],by simp only [cellAt,World.cell?,hnew];simp [G]⟩
    · exact .inl ⟨rfl,none,by simp [G]⟩
theorem LG.final {b0:Nat} (h:LG St w0 K (.pointer (some ⟨b0,0,none⟩)) xs W):∃ (v:Value) (S':Stb),W.cell? ⟨b0,0,none⟩ = some v ∧ Lfs S' [.ro (L 4 eSlibraryGroup xs)] [v] ∧ (∀ b x,St b = some x → S' b = some x) ∧ (∀ b,St b = none → S' b ≠ none → w0.heap.size ≤ b) ∧
    ∀ b x,S' b = some x → W.heap[b]? = some x:=by
  classical
  obtain ⟨⟨S,G,Ws,hm,hr,hp,hWs,hKs,hSt,hSn⟩,hbel⟩:=h
  simp only [R] at hr
  obtain ⟨b,cs,e,e1,e2,e3,e4,e5,e6⟩:=hr
  rw [hp] at e1
  cases e1
  simp only [L] at e5
  obtain ⟨_,f2,f3⟩:=e5
  let Sc:Stb:=fun b => if ∃ y,G.ow b = some (1,y) then W.heap[b]? else S b
  have hup:∀ b x,S b = some x → Sc b = some x:=fun b x hx => by
    have:¬ ∃ y,G.ow b = some (1,y):=fun ⟨y,hy⟩ => by have h2:S b = none:=(hm.ow b _ hy).2.2;rw [hx] at h2;cases h2
    simp only [Sc,if_neg this];exact hx
  have hro:=frz1 hm.one hup (fun b hb => if_pos hb) (L 4 eSlibraryGroup xs) [0] rfl e6
  rw [StripTo.h (f:=L 4 eSlibraryGroup) (g:=L 4 eSlibraryGroup)] at hro
  refine ⟨G.hd 1 [0],Sc,?_,⟨⟨hm.one 1 [0],hro⟩,trivial⟩,fun b x hx => hup b x (hSt b x hx),fun b h1 h2 => ?_,fun b x hx => ?_⟩
  · simpa [cellAt] using f3
  · by_cases hy:∃ y,G.ow b = some (1,y)
    · obtain ⟨y,hy⟩:=hy
      rcases (hm.ow b _ hy).2.1 with k | k
      · have:=(hm.ow b _ hy).1;simp only at k;omega
      · exact (hWs b k).1
    · simp only [Sc,if_neg hy] at h2
      exact hSn b h1 h2
  · simp only [Sc] at hx
    split at hx
    · exact hx
    · exact hm.st b x hx
end
end Go.Wk

namespace Go.Wk
open Go Go.Proofs Go.Ab Go.RowKit
set_option maxRecDepth 100000
set_option maxHeartbeats 4000000
def strOf:Code → Option ByteArray
  | .region _ ops _ => ops.toList.findSome? fun o => match o.op with
    | .call c => c.args.toList.findSome? fun x => match x with
      | .const (.string s) => some s
      | _ => none
    | _ => none
  | .seq a b => match strOf a with
    | some x => some x
    | none => strOf b
  | _ => none
noncomputable def lgT:ByteArray:=(Tryz.f64.body.bind strOf).getD ByteArray.empty
noncomputable def lgs:List SlibraryGroup:=f_aF.getD []
def lgl (g:SlibraryGroup):List UInt8:=Lib.decDigits g.order.toNat ++ 124 :: (g.name.data.toList ++ 124 :: g.text.data.toList)
noncomputable def lnl:List (List UInt8):=lgs.map lgl
noncomputable def lgn (k:Nat):ByteArray:=⟨(lnl.getD k []).toArray⟩
noncomputable def lgr (k:Nat):ByteArray:=⟨(Lib.join (lnl.drop k) [10]).toArray⟩
theorem lgs_len:lgs.length = 82:=by kernel_rfl
theorem lgT_eq:lgT = lgr 0:=by
  have h:(lgT.data.toList == Lib.join lnl [10]) = true:=by decide +kernel
  have h:lgT.data.toList = Lib.join lnl [10]:=by simpa using h
  show lgT = ⟨(Lib.join lnl [10]).toArray⟩
  rw [← h]
theorem lg_no:lnl.all (fun x => !x.contains 10) = true:=by decide +kernel
theorem lg_step:(k:Nat) → k < 82 → lgR (lgs.take k) (lgn k) = some (lgs.take (k + 1))
  | 0,_ => by kernel_rfl
  | 1,_ => by kernel_rfl
  | 2,_ => by kernel_rfl
  | 3,_ => by kernel_rfl
  | 4,_ => by kernel_rfl
  | 5,_ => by kernel_rfl
  | 6,_ => by kernel_rfl
  | 7,_ => by kernel_rfl
  | 8,_ => by kernel_rfl
  | 9,_ => by kernel_rfl
  | 10,_ => by kernel_rfl
  | 11,_ => by kernel_rfl
  | 12,_ => by kernel_rfl
  | 13,_ => by kernel_rfl
  | 14,_ => by kernel_rfl
  | 15,_ => by kernel_rfl
  | 16,_ => by kernel_rfl
  | 17,_ => by kernel_rfl
  | 18,_ => by kernel_rfl
  | 19,_ => by kernel_rfl
  | 20,_ => by kernel_rfl
  | 21,_ => by kernel_rfl
  | 22,_ => by kernel_rfl
  | 23,_ => by kernel_rfl
  | 24,_ => by kernel_rfl
  | 25,_ => by kernel_rfl
  | 26,_ => by kernel_rfl
  | 27,_ => by kernel_rfl
  | 28,_ => by kernel_rfl
  | 29,_ => by kernel_rfl
  | 30,_ => by kernel_rfl
  | 31,_ => by kernel_rfl
  | 32,_ => by kernel_rfl
  | 33,_ => by kernel_rfl
  | 34,_ => by kernel_rfl
  | 35,_ => by kernel_rfl
  | 36,_ => by kernel_rfl
  | 37,_ => by kernel_rfl
  | 38,_ => by kernel_rfl
  | 39,_ => by kernel_rfl
  | 40,_ => by kernel_rfl
  | 41,_ => by kernel_rfl
  | 42,_ => by kernel_rfl
  | 43,_ => by kernel_rfl
  | 44,_ => by kernel_rfl
  | 45,_ => by kernel_rfl
  | 46,_ => by kernel_rfl
  | 47,_ => by kernel_rfl
  | 48,_ => by kernel_rfl
  | 49,_ => by kernel_rfl
  | 50,_ => by kernel_rfl
  | 51,_ => by kernel_rfl
  | 52,_ => by kernel_rfl
  | 53,_ => by kernel_rfl
  | 54,_ => by kernel_rfl
  | 55,_ => by kernel_rfl
  | 56,_ => by kernel_rfl
  | 57,_ => by kernel_rfl
  | 58,_ => by kernel_rfl
  | 59,_ => by kernel_rfl
  | 60,_ => by kernel_rfl
  | 61,_ => by kernel_rfl
  | 62,_ => by kernel_rfl
  | 63,_ => by kernel_rfl
  | 64,_ => by kernel_rfl
  | 65,_ => by kernel_rfl
  | 66,_ => by kernel_rfl
  | 67,_ => by kernel_rfl
  | 68,_ => by kernel_rfl
  | 69,_ => by kernel_rfl
  | 70,_ => by kernel_rfl
  | 71,_ => by kernel_rfl
  | 72,_ => by kernel_rfl
  | 73,_ => by kernel_rfl
  | 74,_ => by kernel_rfl
  | 75,_ => by kernel_rfl
  | 76,_ => by kernel_rfl
  | 77,_ => by kernel_rfl
  | 78,_ => by kernel_rfl
  | 79,_ => by kernel_rfl
  | 80,_ => by kernel_rfl
  | 81,_ => by kernel_rfl
  | n + 82,h => by omega
theorem ib_hit {c:UInt8}:∀ (x rest:List UInt8),c ∉ x → Lib.indexByte (x ++ c :: rest) c = (x.length:Int)
  | [],rest,_ => by rw [List.nil_append,Lib.indexByte,if_pos (by simp)];rfl
  | b :: x,rest,h => by
    simp only [List.mem_cons,not_or] at h
    rw [List.cons_append,Lib.indexByte,if_neg (by simp;exact fun e => h.1 e.symm),ib_hit x rest h.2,if_neg (by simp)]
    simp
theorem ib_miss {c:UInt8}:∀ (x:List UInt8),c ∉ x → Lib.indexByte x c = -1
  | [],_ => rfl
  | b :: x,h => by
    simp only [List.mem_cons,not_or] at h
    rw [Lib.indexByte,if_neg (by simp;exact fun e => h.1 e.symm),ib_miss x h.2,if_pos (by simp)]
theorem lnl_len:lnl.length = 82:=by unfold lnl;rw [List.length_map,lgs_len]
theorem lnl_no {x:List UInt8} (h:x ∈ lnl):(10:UInt8) ∉ x:=by
  have:=List.all_eq_true.1 lg_no x h
  simpa using this
theorem lgr_size:(List.range 82).all (fun k => decide ((Lib.join (lnl.drop k) [10]).length ≤ 1000000)) = true:=by decide +kernel
theorem ba_ext {a b:ByteArray} (h:a.data.toList = b.data.toList):a = b:=by
  cases a;cases b;simp only [ByteArray.mk.injEq];exact Array.toList_inj.1 h
theorem lg_ix (k:Nat) (hk:k < 81):∃ i:Nat,Lib.indexByte (lgr k).data.toList 10 = i ∧ i + 1 ≤ (lgr k).size ∧ (lgr k).size ≤ 1000000 ∧ (lgr k).extract 0 i = lgn k ∧ (lgr k).extract (i + 1) (lgr k).size = lgr (k + 1):=by
  have hl:=lnl_len
  have e1:lnl.drop k = lnl[k] :: lnl.drop (k + 1):=List.drop_eq_getElem_cons (by omega)
  have e2:lnl.drop (k + 1) = lnl[k + 1] :: lnl.drop (k + 2):=List.drop_eq_getElem_cons (by omega)
  have e3:(lgr k).data.toList = lnl[k] ++ 10 :: (lgr (k + 1)).data.toList:=by
    show (Lib.join (lnl.drop k) [10]) = lnl[k] ++ 10 :: (Lib.join (lnl.drop (k + 1)) [10])
    rw [e1,e2,Lib.join_cons,Lib.join_cons]
    simp only [Lib.joinTail,List.map_cons,List.flatten_cons,List.cons_append,List.nil_append]
  have hsz:(lgr k).size = lnl[k].length + 1 + (lgr (k + 1)).data.toList.length:=by
    have:(lgr k).size = (lgr k).data.toList.length:=rfl
    rw [this,e3];simp;omega
  have hle:=List.all_eq_true.1 lgr_size k (List.mem_range.2 (by omega))
  refine ⟨lnl[k].length,by rw [e3];exact ib_hit _ _ (lnl_no (List.getElem_mem _)),by omega,?_,ba_ext ?_,ba_ext ?_⟩
  · exact of_decide_eq_true hle
  · rw [Lib.extract_from_zero,e3]
    show _ = lnl.getD k []
    rw [List.take_left',List.getD_eq_getElem?_getD,List.getElem?_eq_getElem (by omega)]
    · rfl
    · rfl
  · rw [Lib.extract_to_end,e3]
    rw [show lnl[k].length + 1 = (lnl[k] ++ [(10:UInt8)]).length by simp,show lnl[k] ++ 10 :: (lgr (k + 1)).data.toList = (lnl[k] ++ [10]) ++ (lgr (k + 1)).data.toList by simp]
    exact List.drop_left' rfl
theorem lg_last:Lib.indexByte (lgr 81).data.toList 10 = -1 ∧ lgr 81 = lgn 81:=by
  have hl:=lnl_len
  have e1:lnl.drop 81 = [lnl[81]]:=by
    rw [List.drop_eq_getElem_cons (by omega),List.drop_eq_nil_of_le (by omega)]
  have e:lgr 81 = lgn 81:=by
    show (⟨(Lib.join (lnl.drop 81) [10]).toArray⟩:ByteArray) = ⟨(lnl.getD 81 []).toArray⟩
    rw [e1,Lib.join_one,List.getD_eq_getElem?_getD,List.getElem?_eq_getElem (by omega)]
    rfl
  refine ⟨?_,e⟩
  rw [e]
  show Lib.indexByte (lnl.getD 81 []) 10 = -1
  rw [List.getD_eq_getElem?_getD,List.getElem?_eq_getElem (by omega)]
  exact ib_miss _ (lnl_no (List.getElem_mem _))
end Go.Wk

namespace Go.Wk
open Go Go.Proofs Go.Ab Go.RowKit Go.Shelf
attribute [local go_sem] Oper.semAt_some
set_option maxRecDepth 100000
set_option maxHeartbeats 4000000
abbrev sqW (w:World) (s sep:ByteArray):World:=((w.alloc (.cells #[.string s] 9 (0,0))).alloc (.cells #[.string sep] 9 (0,0))).alloc (.cells #[.int .i64 0] 3 (0,0))
abbrev sqV (b:Nat):Value:=.func (.func 120) #[] #[.pointer (some ⟨b + 1,0,none⟩),.pointer (some ⟨b,0,none⟩),.pointer (some ⟨b + 2,0,none⟩)]
theorem splitSeq_calls (w:World) (s sep:ByteArray):Calls Tryz.prog 101 #[.string s,.string sep,.int .i64 0] w fun e w' => e = .returned (sqV w.heap.size) ∧ w' = sqW w s sep:=by
  go_enter Tryz.func101,Tryz.ntmps101
  go_wp2
  all_goals go_ret
  exact ⟨rfl,rfl⟩
theorem SplitSeq_calls (w:World) (s sep:ByteArray):Calls Tryz.prog 85 #[.string s,.string sep] w fun e w' => e = .returned (sqV w.heap.size) ∧ w' = sqW w s sep:=by
  go_enter Tryz.func85,Tryz.ntmps85
  go_wp2_with (go_at_call 101;refine (splitSeq_calls _ _ _).mono ?_;rintro e w' ⟨rfl,rfl⟩)
  all_goals go_ret
  exact ⟨rfl,rfl⟩
abbrev lgK (w:World) (b:Nat):Prop:=w.heap.size + 1 ≤ b ∧ b < w.heap.size + 6
noncomputable def lgRec (fn:FuncId) (t:Array Value) (w:World) (st:LoopState):Loop:={ state:=st,pending:=none,fn:=fn,tmps:=t,params:=#[9],assign:=lgRF.2.2.1,body:=lgRF.2.2.2,defers:=w.heap.size + 4 }
structure LJ (St:Stb) (w:World) (fn:FuncId) (t:Array Value) (k:Nat) (W:World):Prop where
  lg:LG St w (lgK w) (.pointer (some ⟨w.heap.size,0,none⟩)) (lgs.take k) W
  s:∃ u,W.heap[w.heap.size + 1]? = some (.cells #[.string u] 9 (0,0))
  sep:W.heap[w.heap.size + 2]? = some (.cells #[.string ⟨#[10]⟩] 9 (0,0))
  sv:W.heap[w.heap.size + 3]? = some (.cells #[.int .i64 0] 3 (0,0))
  df:W.heap[w.heap.size + 4]? = some (.deferred (some []))
  rc:W.heap[w.heap.size + 5]? = some (.loop (lgRec fn t w .ready))
section
variable {St:Stb} {w W W':World} {fn:FuncId} {t:Array Value} {k:Nat}
theorem heap_put {b r:Nat} {o:Obj}:(W.putObj r o).heap[b]? = if b = r ∧ r < W.heap.size then some o else W.heap[b]?:=by
  simp only [World.putObj,Array.getElem?_setIfInBounds]
  by_cases h:r = b
  · subst h
    by_cases h2:r < W.heap.size
    · simp [h2]
    · simp [h2]
  · simp [h,Ne.symm h]
theorem blk_put {r:Nat} {o o':Obj} (h:W.heap[r]? = some o) (hc:o.isCells = false):Blk W (W.putObj r o'):=fun b cs e hb => by
  rw [heap_put]
  by_cases e':b = r
  · subst e';rw [h] at hb;cases hb;cases hc
  · rw [if_neg fun k => e' k.1];exact ⟨cs,hb,rfl⟩
theorem heap_set {b r:Nat} {v:Value} {u:Value} {ty:TypeId} (h:W.heap[r]? = some (.cells #[u] ty (0,0))):(W.setCell ⟨r,0,none⟩ v).heap[b]? = if b = r then some (.cells #[v] ty (0,0)) else W.heap[b]?:=by
  simp only [World.setCell,Array.getElem?_modify]
  by_cases e:r = b
  · subst e;rw [h];simp
  · simp [e,Ne.symm e]
theorem wpIn_assign {F:Fence} {n id:Nat} {P:Program} {d sl:Nat} {ty:TypeId} {ps:String} {af:Array Edge} {Q:Exit → Act → World → Prop} {a:Act} {w:World} (hF:∀ f,F.fn f) {l:Nat} (hr:F.round = some l)
    (hQ:Q .normal (a.put (some d) (a.eval (.tmp sl))) w):(Code.region id #[⟨some d,.assign (.tmp sl),ty,ps,af,none⟩] false).wpIn F n P Q a w:=by
  refine wpIn_region ?_
  show wpOpsIn F n P _ Q [0] a w
  simp only [wpOpsIn,List.getElem?_toArray,List.getElem?_cons_zero,Region.wanted,if_true,Oper.wpIn,hr]
  refine ⟨fun f _ => hF f,?_⟩
  rw [Oper.semAt_some _ _ _ (by simp)]
  simp only [execOp,Sem.run_pure,Oper.uponIn]
  exact hQ
theorem LJ.put (h:LJ St w fn t k W) {o:Obj}:LG St w (lgK w) (.pointer (some ⟨w.heap.size,0,none⟩)) (lgs.take k) (W.putObj (w.heap.size + 5) o):=by
  have hlt:=(Array.getElem?_eq_some_iff.1 h.rc).1
  exact h.lg.step (fun b _ hk => by rw [heap_put,if_neg fun e => hk (by rw [e.1];exact ⟨by omega,by omega⟩)]) (by simp) (blk_put h.rc rfl) rfl rfl fun b hb => .inl hb
theorem LJ.set (h:LJ St w fn t k W) (v u:ByteArray) (hu:W.cell? ⟨w.heap.size + 1,0,none⟩ = some (.string u)):LJ St w fn t k (W.setCell ⟨w.heap.size + 1,0,none⟩ (.string v)):=by
  have _:=hu
  obtain ⟨u',hs⟩:=h.s
  have hb:=fun b => heap_set (b:=b) (v:=.string v) hs
  refine ⟨h.lg.step (fun b _ hk => by rw [hb,if_neg fun e => hk (by rw [e];exact ⟨by omega,by omega⟩)]) (by simp [World.setCell]) (fun b cs e hh => ?_) rfl rfl fun b hb => .inl hb,⟨v,by rw [hb,if_pos rfl]⟩,by rw [hb,if_neg (by omega)];exact h.sep,by rw [hb,if_neg (by omega)];exact h.sv,
    by rw [hb,if_neg (by omega)];exact h.df,by rw [hb,if_neg (by omega)];exact h.rc⟩
  rw [hb]
  by_cases e':b = w.heap.size + 1
  · subst e';rw [hs] at hh;cases hh;exact ⟨_,if_pos rfl,rfl⟩
  · rw [if_neg e'];exact ⟨cs,hh,rfl⟩
theorem LJ.round (h:LJ St w fn t k W) (hk:k ≤ 81) (ht:t.size = Tryz.f64.ntmps) (h1:t[1]? = some (.pointer (some ⟨w.heap.size,0,none⟩))) :
    YieldAt Fence.wide 0 Tryz.prog (w.heap.size + 5) #[.string (lgn k)] W fun e W' => e = .returned (.bool true) ∧ LJ St w fn t (k + 1) W' ∧ W'.cell? ⟨w.heap.size + 1,0,none⟩ = W.cell? ⟨w.heap.size + 1,0,none⟩:=by
  refine ⟨fn,_,lgRF.2.2.1,lgRF.2.2.2,run_yield h.rc rfl,roundIn_of_wpIn trivial ?_⟩
  have ht':t.size = 54:=ht
  have h9:(t.setIfInBounds 9 (.string (lgn k)))[9]? = some (.string (lgn k)):=by simp [ht']
  refine wpIn_assign (fun _ => trivial) rfl ?_
  refine ⟨_,run_beginRound h.rc rfl,?_⟩
  have hlt:=(Array.getElem?_eq_some_iff.1 h.rc).1
  refine (h.put).round (lg_step k (by omega)) rfl ?_ ?_ ?_ (fun ⟨_,_,e⟩ => e) fun a' W' hg hkeep hsz => ?_
  · simp [Act.put,lgRec,ht]
  · simp [Act.put,lgRec,h1]
  · simp [Act.put,lgRec,Act.eval,ht']
  · have hp:=fun (b:Nat) (hb:lgK w b) => hkeep b hb
    have h5:=hp (w.heap.size + 5) ⟨by omega,by omega⟩
    rw [heap_put,if_pos ⟨rfl,hlt⟩] at h5
    have hoth:∀ b,w.heap.size + 1 ≤ b → b < w.heap.size + 5 → W'.heap[b]? = W.heap[b]?:=fun b h2 h3 => by rw [hp b ⟨h2,by omega⟩,heap_put,if_neg (by omega)]
    have hlt':=(Array.getElem?_eq_some_iff.1 h5).1
    have hne:=fun (b:Nat) (h2:w.heap.size + 1 ≤ b) (h3:b < w.heap.size + 5) (o:Obj) => (show (W'.putObj (w.heap.size + 5) o).heap[b]? = W.heap[b]? by rw [heap_put,if_neg (by omega),hoth b h2 h3])
    refine ⟨_,_,run_endRound none h5,rfl,⟨?_,?_,?_,?_,?_,?_⟩,?_⟩
    · exact hg.step (fun b _ hk => by rw [heap_put,if_neg fun e => hk (by rw [e.1];exact ⟨by omega,by omega⟩)]) (by simp) (blk_put h5 rfl) rfl rfl fun b hb => .inl hb
    · obtain ⟨u,hu⟩:=h.s
      exact ⟨u,by rw [hne _ (by omega) (by omega)];exact hu⟩
    · rw [hne _ (by omega) (by omega)];exact h.sep
    · rw [hne _ (by omega) (by omega)];exact h.sv
    · rw [hne _ (by omega) (by omega)];exact h.df
    · rw [heap_put,if_pos ⟨rfl,hlt'⟩];rfl
    · simp only [World.cell?,hne (w.heap.size + 1) (by omega) (by omega)]
noncomputable abbrev lgW (w:World):World:=sqW (w.alloc (.cells #[.slice none 0 0] 97 (0,0))) lgT ⟨#[10]⟩
theorem lg_range {Q:Exit → Act → World → Prop} {a:Act} (hst:∀ b x,St b = some x → w.heap[b]? = some x) (hgl:Gl St) (ht:a.tmps.size = Tryz.f64.ntmps) (h1:a.tmps[1]? = some (.pointer (some ⟨w.heap.size,0,none⟩))) (h8:a.eval (.tmp 8) = sqV (w.heap.size + 1))
    (hQ:∀ W,LG St w (lgK w) (.pointer (some ⟨w.heap.size,0,none⟩)) lgs W → W.heap[w.heap.size + 4]? = some (.deferred (some [])) → Q .normal { a with defers:={ target:=.collected (w.heap.size + 4),args:=#[] } :: a.defers } W) :
    (Code.rangeFunc (.tmp 8) #[9] lgRF.2.2.1 lgRF.2.2.2).wpIn Fence.wide 0 Tryz.prog Q a (lgW w):=by
  refine wpIn_rangeFunc ?_
  intro fn _
  have hsz:(lgW w).heap.size = w.heap.size + 4:=by simp
  obtain ⟨W1,hW1⟩:∃ W1,((lgW w).alloc (.deferred (some []))).alloc (.loop (lgRec fn a.tmps w .ready)) = W1:=⟨_,rfl⟩
  have hh:W1.heap = (((((w.heap.push (.cells #[.slice none 0 0] 97 (0,0))).push (.cells #[.string lgT] 9 (0,0))).push (.cells #[.string ⟨#[10]⟩] 9 (0,0))).push (.cells #[.int .i64 0] 3 (0,0))).push (.deferred (some []))).push (.loop (lgRec fn a.tmps w .ready)):=by
    rw [← hW1];rfl
  have hJ:LJ St w fn a.tmps 0 W1:=by
    refine ⟨(LG.start hst hgl).step (fun b hb _ => ?_) ?_ (fun b cs e hb => ⟨cs,?_,rfl⟩) (by rw [← hW1];rfl) (by rw [← hW1];rfl) fun b hb => .inr ?_,⟨lgT,?_⟩,?_,?_,?_,?_⟩
    · rw [hh];simp only [World.alloc,Array.size_push] at hb ⊢;grind
    · rw [hh];show (w.heap.push _).size ≤ _;simp only [Array.size_push];omega
    · rw [hh];simp only [World.alloc] at hb;grind
    · rw [hh];show (w.heap.push _).size ≤ b ∧ _;simp only [Array.size_push];exact ⟨hb.1,by have:=hb.2;omega⟩
    all_goals rw [hh];grind
  have hs0:W1.cell? ⟨w.heap.size + 1,0,none⟩ = some (.string (lgr 0)):=by
    rw [← lgT_eq]
    simp only [World.cell?,show W1.heap[w.heap.size + 1]? = some (.cells #[.string lgT] 9 (0,0)) by rw [hh];grind]
    rfl
  refine ⟨w.heap.size + 5,[{ target:=.collected (w.heap.size + 4),args:=#[] }],W1,{ target:=.fn (.func 120) #[.pointer (some ⟨w.heap.size + 1 + 1,0,none⟩),.pointer (some ⟨w.heap.size + 1,0,none⟩),.pointer (some ⟨w.heap.size + 1 + 2,0,none⟩)],args:=#[.func (.yield (w.heap.size + 5)) #[] #[]] },W1,120,
    #[.func (.yield (w.heap.size + 5)) #[] #[],.pointer (some ⟨w.heap.size + 1 + 1,0,none⟩),.pointer (some ⟨w.heap.size + 1,0,none⟩),.pointer (some ⟨w.heap.size + 1 + 2,0,none⟩)],W1,?_,?_,fun _ _ => trivial,?_,fun h => (by cases h),?_⟩
  · have:=run_enterLoop_outer (P:=Tryz.prog) (w:=lgW w) fn a.tmps #[9] lgRF.2.2.1 lgRF.2.2.2
    rw [hsz] at this
    rw [← hW1]
    exact this
  · simp only [resolve,h8]
    simp [go_sem]
  · simp [invoke,go_sem]
  · refine (sq_iter (w.heap.size + 5) (w.heap.size + 1) 81 lgn lgr (fun k W => LJ St w fn a.tmps k W) lg_ix lg_last (fun k W h => ⟨?_,?_,?_⟩) (fun k W v u h hu => h.set v u hu) (fun k W hk h => h.round hk ht h1) W1 hJ hs0).mono ?_
    · simp only [World.cell?,show w.heap.size + 1 + 1 = w.heap.size + 2 by omega,h.sep];rfl
    · simp only [World.cell?,show w.heap.size + 1 + 2 = w.heap.size + 3 by omega,h.sv];rfl
    · obtain ⟨u,hu⟩:=h.s
      simp only [World.frozen?,hu]
      rfl
    · rintro e W2 ⟨⟨v,rfl⟩,hJ2⟩
      refine ⟨_,_,run_endLoop hJ2.rc (by simp [lgRec]),?_⟩
      show Q .normal _ _
      have hg:=hJ2.put (o:=.loop { lgRec fn a.tmps w .ready with state:=.exhausted })
      rw [List.take_of_length_le (by rw [lgs_len];decide)] at hg
      exact hQ _ hg (by rw [heap_put,if_neg (by omega)];exact hJ2.df)
end
theorem lg_calls (St:Stb) (w:World) (hgl:Gl St) (hst:∀ b x,St b = some x → w.heap[b]? = some x) :
    Calls Tryz.prog 64 #[] w fun e W => ∃ (v:Value) (S':Stb),e = .returned v ∧ Bel w.heap.size w W ∧ (∀ b x,St b = some x → S' b = some x) ∧ (∀ b,St b = none → S' b ≠ none → w.heap.size ≤ b) ∧ (∀ b x,S' b = some x → W.heap[b]? = some x) ∧ Lfs S' [.ro (L 4 eSlibraryGroup lgs)] [v]:=by
  refine (callsIn_wide (n:=0)).1 ?_
  refine callsIn_of_wp_marks Tryz.func64 rfl trivial ?_ rfl
  simp only [Tryz.ntmps64,List.size_toArray,List.length_nil,Nat.reduceSub,Array.replicate_succ,Array.replicate_zero,List.push_toArray,List.append_toArray,List.nil_append,List.cons_append]
  gi_wp2
  refine ⟨trivial,rfl,?_⟩
  refine ((callsIn_wide (n:=0)).2 (SplitSeq_calls _ lgT _)).mono ?_
  rintro e w' ⟨rfl,rfl⟩
  gi_wp2
  refine lg_range (w:=w) (St:=St) hst hgl rfl rfl rfl fun W hg hd => ?_
  have hg2:LG St w (lgK w) (.pointer (some ⟨w.heap.size,0,none⟩)) lgs (W.putObj (w.heap.size + 4) (.deferred none)) :=
    hg.step (fun b _ hk => by rw [heap_put,if_neg fun e => hk (by rw [e.1];exact ⟨by omega,by omega⟩)]) (by simp) (blk_put hd rfl) rfl rfl fun b hb => .inl hb
  obtain ⟨v,S',hc2,hl,hs1,hs2,hs3⟩:=hg2.final
  have hc:W.cell? ⟨w.heap.size,0,none⟩ = some v:=by
    rw [← hc2];simp only [World.cell?,heap_put,show ¬ (w.heap.size = w.heap.size + 4 ∧ w.heap.size + 4 < W.heap.size) from fun e => by omega,if_false]
  gi_wp2
  refine ⟨by simp,.inl ⟨_,_,rfl,run_takeDeferred hd,?_⟩⟩
  exact ⟨_,results_tmp rfl _ _ _,v,S',rfl,hg2.bel,hs1,hs2,hs3,hl⟩
theorem t0_impl_libraryGroups (r:List SlibraryGroup) (h:f_aF = some r):FnC Tryz.prog 64 [] [T.ro (L 4 eSlibraryGroup r)] []:=by
  obtain rfl:lgs = r:=by unfold lgs;rw [h];rfl
  refine FnC.libB rfl fun St w vs hl hg hs => ?_
  match vs,hl with
  | [],_ => exact (lg_calls St w hg hs).mono fun e W ⟨v,S',h1,h2,h3,h4,h5,h6⟩ => ⟨S',[v],h1,h2,h3,h4,h5,h6⟩
end Go.Wk
