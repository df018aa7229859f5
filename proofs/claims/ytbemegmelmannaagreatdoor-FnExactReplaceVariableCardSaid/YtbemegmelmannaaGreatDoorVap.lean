/- x -/
import Derived.Test.YtbemegmelmannaaGreatDoorVaa
import Derived.Test.YtbemegmelmannaaGreatDoorVab
import Derived.Test.YtbemegmelmannaaGreatDoorWT
namespace Go.Wk
open Go Go.Proofs Go.Ab
set_option maxRecDepth 100000
set_option maxHeartbeats 4000000
section
attribute [local irreducible] RW CW DK OkL Ok Andthen InBlock Round RetG XS.post rng quoO remO ixO sliceO appO appzO lenOk loopO GTo Ghost FnC FnK LocL OptL Kp BsL BuL RpL Bk Lc JQ AK
instance:HS Tryz.f93.results [(0,26,0,.tr 22 3),(2,6,0,.tr 3 26),(2,9,0,.tr 3 31),(2,10,0,.tr 6 34),(0,63,0,.tr 48 6),(0,110,0,.tr 97 6),(2,25,0,.tr 6 110)]:=⟨⟩
instance (x0:SPr):LH (R:=ByteArray) (l1_g x0) [0,16,17] [] (fun s1 => [(3,L 1 Str s1.1),(18,I s1.2)]) (.xe 0 [16,17] fun r5 => [(3,L 1 Str r5)]):=⟨⟩
instance (x0:SPr):LH (R:=ByteArray) (l2_g x0) [0,3,38,39] [] (fun s3 => [(6,L 1 Str s3.1),(40,I s3.2)]) (.xe 2 [3,38,39] fun r20 => [(6,L 1 Str r20)]):=⟨⟩
instance (s9:(List ByteArray) × Int) (v21:List (List Int)):LH (R:=ByteArray) (l3_g s9 v21) [0,9,69,70,79,80] [] (fun s10 => [(6,L 1 Str s10.1),(81,I s10.2)]) (.xe 6 [9,79,80] fun r38 => [(6,L 1 Str r38)]):=⟨⟩
instance (x0:SPr):LH (R:=ByteArray) (l4_g x0) [0,69] [] (fun s9 => [(6,L 1 Str s9.1),(70,I s9.2)]) (.xe 4 [0,69] fun r40 => [(6,L 1 Str r40)]):=⟨⟩
instance (x0:SPr) (r5:(List ByteArray)):LH (R:=ByteArray) (l5_g x0 r5) [0,3,38,39] [] (fun s13 => [(6,L 1 Str s13.1),(40,I s13.2)]) (.xe 2 [3,38,39] fun r56 => [(6,L 1 Str r56)]):=⟨⟩
instance (s19:(List ByteArray) × Int) (v57:List (List Int)):LH (R:=ByteArray) (l6_g s19 v57) [0,9,69,70,79,80] [] (fun s20 => [(6,L 1 Str s20.1),(81,I s20.2)]) (.xe 6 [9,79,80] fun r74 => [(6,L 1 Str r74)]):=⟨⟩
instance (x0:SPr):LH (R:=ByteArray) (l7_g x0) [0,69] [] (fun s19 => [(6,L 1 Str s19.1),(70,I s19.2)]) (.xe 4 [0,69] fun r76 => [(6,L 1 Str r76)]):=⟨⟩
instance t_g:FI Tryz.prog 93 (∀ (x0:SPr),FnK Tryz.prog 93 [T.ro ((Pt eSPr) x0)] (fun r:ByteArray => [Str r]) (fun _ => []) (f_g x0)):=⟨Tryz.call93,fun x0 => iM Tryz.func93⟩
end
end Go.Wk
