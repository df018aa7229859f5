/- x -/
import Derived.Test.YtbemegmelmannaaGreatDoorCards
import Derived.Test.YtbemegmelmannaaGreatDoorTie
import Derived.Test.YtbemegmelmannaaGreatDoorAbC
import Derived.Stop.LaidErr
import Derived.Deep.DeepWitnessRowRef
/-
 THE PACKAGE VARIABLES OF THE LANGUAGE'S ROWS: what the rows list is what the contracts ask; a world that holds it.
-/
namespace Go.Proofs.YtbemegmelmannaaGreatDoor
open Go Go.Ab Go.ChangeShapes Go.RowKit
theorem Tryz.own : ownKnob Tryz.prog.godebug = none := by kernel_rfl
theorem Tryz.laidOut : laidOutB Tryz.prog = true := by kernel_rfl
theorem c1 {P : Program} {t : TypeId} {ti : TypeInfo} {k : Nat} (h : P.info? t = some ti) (h2 : ti.size = k) : P.cellsOf t = k := by simp [Program.cellsOf, h, h2]
theorem gR : Tryz.prog.globalNamed "strconv.ErrRange" = some 2 := by kernel_rfl
theorem gS : Tryz.prog.globalNamed "strconv.ErrSyntax" = some 1 := by kernel_rfl
theorem gRt : (Tryz.prog.globals[2]?).map (·.type) = some 123 := by kernel_rfl
theorem gSt : (Tryz.prog.globals[1]?).map (·.type) = some 123 := by kernel_rfl
theorem star : "*" ++ "errors.errorString" = "*errors.errorString" := by decide
theorem row188 (u : TypeId) (h : Tryz.prog.typeName? 3 u = some "*errors.errorString") : u = 188 :=
 typeName_ptr_named (nm := "errors.errorString") (by rw [star]; kernel_rfl) (by kernel_rfl) (by decide) u (by rw [star]; exact h)
theorem z0 : ((begin Tryz.prog (fun _ _ => 0) default).world.heap[0]?).bind Obj.row? = some (#[.int .i64 0], 3) := by kernel_rfl
theorem z1 : ((begin Tryz.prog (fun _ _ => 0) default).world.heap[1]?).bind Obj.row? = some (#[.nilIface], 123) := by kernel_rfl
theorem z2 : ((begin Tryz.prog (fun _ _ => 0) default).world.heap[2]?).bind Obj.row? = some (#[.nilIface], 123) := by kernel_rfl
theorem gsz : Tryz.prog.globals.size = 8 := by kernel_rfl
theorem ct3 : Tryz.prog.cellTypes Tryz.prog.depth 3 = some [3] := by kernel_rfl
theorem bt3 : Tryz.prog.buildable 3 = true := by kernel_rfl
abbrev LL : List (String × DataW Unit) := Rows.fnExactParseExpressionRow.laid
theorem shape0 {W : World} (hs : W.ShapedOpen Tryz.prog) : ∃ n, W.heap[0]? = some (.cells #[.int .i64 n] 3) :=
 int_of_shape hs (by rw [gsz]; decide) z0 rfl bt3 ct3 Tryz.underlying3
theorem hgl (W : World) (h : laidMetH Tryz.prog LL W) (hs : W.ShapedOpen Tryz.prog) : Gl (stOf W) := by
 have h' : laidMet Tryz.prog LL W := h
 have hR := h'.tail.tail.tail.tail
 obtain ⟨a2, _, e2, _⟩ := laid_sentinel hR gR gRt Tryz.underlying123 row188 Tryz.underlying188 Tryz.underlying190 rfl rfl Tryz.underlying9 (c1 (info_of Tryz.type190) rfl) (c1 (info_of Tryz.type9) rfl)
 obtain ⟨a1, _, e1, _⟩ := laid_sentinel hR.tail gS gSt Tryz.underlying123 row188 Tryz.underlying188 Tryz.underlying190 rfl rfl Tryz.underlying9 (c1 (info_of Tryz.type190) rfl) (c1 (info_of Tryz.type9) rfl)
 obtain ⟨n, q0⟩ := shape0 hs
 obtain ⟨cs1, q1, _, _⟩ := hs.1 1 _ _ (by rw [gsz]; decide) z1
 obtain ⟨cs2, q2, _, _⟩ := hs.1 2 _ _ (by rw [gsz]; decide) z2
 clear h h' hR hs
 unfold World.var? at e1 e2
 rw [gS, Option.bind_some, q1] at e1
 rw [gR, Option.bind_some, q2] at e2
 simp only [Option.some.injEq] at e1 e2
 intro g hg
 simp only [glob, List.mem_cons, List.mem_nil_iff, or_false] at hg
 rcases hg with rfl | rfl | rfl
 ·exact ⟨_, _, _, q0, n, rfl⟩
 ·exact ⟨_, _, _, q1, _, _, e1⟩
 ·exact ⟨_, _, _, q2, _, _, e2⟩

/-- A world that holds what the rows list. -/
noncomputable def N0 : Nat := (World.settled Tryz.prog default).heap.size
def nums (k : IntKind) (l : List Int) : Array Value := (l.map fun n => Value.int k n).toArray
def put (h : Array Obj) (g : Nat) (cs : Array Value) : Array Obj := h.modify g fun
 | .cells _ t frozen => .cells cs t frozen
 | o => o
mutual
/-- The cells of a datum that holds numbers. -/
def cellsD : DataW Unit → List Value
 | .lit (.int k n) => [.int k n]
 | .agg l => cellsL l
 | _ => []
def cellsL : List (DataW Unit) → List Value
 | [] => []
 | d :: r => cellsD d ++ cellsL r
end
noncomputable def laidWorld (os : Os) : World :=
 let w0 := World.holding Tryz.prog os ⟨#[.cells #[.string ⟨#[118, 97, 108, 117, 101, 32, 111, 117, 116, 32, 111, 102, 32, 114, 97, 110, 103, 101]⟩] 190, .cells #[.string ⟨#[105, 110, 118, 97, 108, 105, 100, 32, 115, 121, 110, 116, 97, 120]⟩] 190], #[], []⟩
 let h1 := put (put w0.heap 2 #[.iface 188 (.pointer (some ⟨N0, 0, none⟩))]) 1 #[.iface 188 (.pointer (some ⟨N0 + 1, 0, none⟩))]
 let h2 := put (put h1 3 (cellsD Rows.laid_unicode_utf8_first).toArray) 4 (cellsD Rows.laid_unicode_utf8_acceptRanges).toArray
 let h3 := put (put (put h2 5 (cellsD Rows.laid_internal_strconv_uint64pow10).toArray) 6 (cellsD Rows.laid_math_bits_deBruijn32tab).toArray) 7 (cellsD Rows.laid_math_bits_deBruijn64tab).toArray
 { w0 with heap := h3 }
set_option maxRecDepth 100000 in
theorem laid_met (os : Os) (args : Array Value) : laidMet Tryz.prog LL ((laidWorld os).forCall (fun _ _ => 0) ⟨#[], args, []⟩).memory :=
 laidMet_of_run' 8 (by kernel_rfl) (by kernel_rfl)
end Go.Proofs.YtbemegmelmannaaGreatDoor
