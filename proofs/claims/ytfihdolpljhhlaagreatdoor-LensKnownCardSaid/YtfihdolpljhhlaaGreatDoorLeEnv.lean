/- What the interpreter is told of the program: types, functions, which types are compared. PRINTED BY GenEnv.lean, a program of this claim's author; Lean checks it. -/
import Derived.Test.YtfihdolpljhhlaaGreatDoorChecked
import Derived.Test.YtfihdolpljhhlaaGreatDoorLeEvE
import Derived.Test.YtfihdolpljhhlaaGreatDoorLeLib
namespace Go.Proofs.YtfihdolpljhhlaaGreatDoor
open Go.Ev
def evTys : List (Nat × Ty) := [
  (25, ⟨1, 2, 16, [.v (Go.Value.int (Go.IntKind.i64) 0), .v (Go.Value.int (Go.IntKind.i64) 0)], [(0, 3), (1, 3)], 0, 0⟩),
  (9, ⟨4, 1, 16, [.str []], [], 0, 0⟩),
  (62, ⟨1, 14, 120, [.v (Go.Value.bool false), .v (Go.Value.int (Go.IntKind.i64) 0), .v (Go.Value.int (Go.IntKind.i64) 0), .v (Go.Value.int (Go.IntKind.i64) 0), .v (Go.Value.int (Go.IntKind.i64) 0), .v (Go.Value.int (Go.IntKind.i64) 0), .v (Go.Value.int (Go.IntKind.i64) 0), .v (Go.Value.int (Go.IntKind.i64) 0), .v (Go.Value.int (Go.IntKind.i64) 0), .v (Go.Value.int (Go.IntKind.i64) 0), .v (Go.Value.int (Go.IntKind.i64) 0), .v (Go.Value.int (Go.IntKind.i64) 0), .v (Go.Value.int (Go.IntKind.i64) 0), .str []], [(0, 4), (1, 25), (3, 25), (5, 25), (7, 25), (9, 25), (11, 25), (13, 9)], 0, 0⟩),
  (28, ⟨1, 4, 56, [.str [], .v (Go.Value.int (Go.IntKind.i64) 0), .v (Go.Value.int (Go.IntKind.i64) 0), .nil], [(0, 9), (1, 25), (3, 26)], 0, 0⟩),
  (3, ⟨0, 1, 8, [.v (Go.Value.int (Go.IntKind.i64) 0)], [], 0, 0⟩),
  (77, ⟨1, 3, 40, [.v (Go.Value.int (Go.IntKind.i64) 0), .str [], .v (Go.Value.complex (Go.FloatKind.f64) 0 0)], [(0, 3), (1, 9), (2, 29)], 0, 0⟩),
  (26, ⟨3, 1, 24, [.nil], [], 62, 0⟩),
  (70, ⟨3, 1, 24, [.nil], [], 77, 0⟩),
  (75, ⟨1, 4, 72, [.nil, .nil, .v (Go.Value.complex (Go.FloatKind.f64) 0 0), .v (Go.Value.int (Go.IntKind.i64) 0)], [(0, 70), (1, 22), (2, 29), (3, 30)], 0, 0⟩),
  (22, ⟨3, 1, 24, [.nil], [], 46, 0⟩),
  (46, ⟨1, 13, 112, [.str [], .v (Go.Value.int (Go.IntKind.i64) 0), .v (Go.Value.int (Go.IntKind.i64) 0), .v (Go.Value.int (Go.IntKind.i64) 0), .v (Go.Value.int (Go.IntKind.i64) 0), .v (Go.Value.int (Go.IntKind.i64) 0), .v (Go.Value.int (Go.IntKind.i64) 0), .v (Go.Value.int (Go.IntKind.i64) 0), .v (Go.Value.int (Go.IntKind.i64) 0), .v (Go.Value.int (Go.IntKind.i64) 0), .v (Go.Value.int (Go.IntKind.i64) 0), .v (Go.Value.int (Go.IntKind.i64) 0), .v (Go.Value.int (Go.IntKind.i64) 0)], [(0, 9), (1, 44), (7, 44)], 0, 0⟩),
  (29, ⟨0, 1, 16, [.v (Go.Value.complex (Go.FloatKind.f64) 0 0)], [], 0, 0⟩),
  (30, ⟨0, 1, 8, [.v (Go.Value.int (Go.IntKind.i64) 0)], [], 0, 0⟩),
  (107, ⟨3, 1, 24, [.nil], [], 5, 0⟩),
  (44, ⟨2, 6, 48, [.v (Go.Value.int (Go.IntKind.i64) 0), .v (Go.Value.int (Go.IntKind.i64) 0), .v (Go.Value.int (Go.IntKind.i64) 0), .v (Go.Value.int (Go.IntKind.i64) 0), .v (Go.Value.int (Go.IntKind.i64) 0), .v (Go.Value.int (Go.IntKind.i64) 0)], [], 25, 3⟩),
  (66, ⟨3, 1, 24, [.nil], [], 3, 0⟩),
  (5, ⟨0, 1, 1, [.v (Go.Value.int (Go.IntKind.u8) 0)], [], 0, 0⟩),
  (4, ⟨0, 1, 1, [.v (Go.Value.bool false)], [], 0, 0⟩),
  (141, ⟨0, 1, 8, [.v (Go.Value.float (Go.FloatKind.f64) 0)], [], 0, 0⟩),
  (116, ⟨2, 3, 48, [.str [], .str [], .str []], [], 9, 3⟩),
  (167, ⟨0, 1, 4, [.v (Go.Value.int (Go.IntKind.u32) 0)], [], 0, 0⟩),
  (115, ⟨3, 1, 24, [.nil], [], 25, 0⟩),
  (109, ⟨1, 2, 32, [.v (Go.Value.pointer none), .nil], [(0, 106), (1, 107)], 0, 0⟩),
  (106, ⟨0, 1, 8, [.v (Go.Value.pointer none)], [], 0, 0⟩)]
theorem evTys_ok : TyOk Tryz.prog evTys :=
  tyOk_cons (by kernel_rfl) <|
  tyOk_cons (by kernel_rfl) <|
  tyOk_cons (by kernel_rfl) <|
  tyOk_cons (by kernel_rfl) <|
  tyOk_cons (by kernel_rfl) <|
  tyOk_cons (by kernel_rfl) <|
  tyOk_cons (by kernel_rfl) <|
  tyOk_cons (by kernel_rfl) <|
  tyOk_cons (by kernel_rfl) <|
  tyOk_cons (by kernel_rfl) <|
  tyOk_cons (by kernel_rfl) <|
  tyOk_cons (by kernel_rfl) <|
  tyOk_cons (by kernel_rfl) <|
  tyOk_cons (by kernel_rfl) <|
  tyOk_cons (by kernel_rfl) <|
  tyOk_cons (by kernel_rfl) <|
  tyOk_cons (by kernel_rfl) <|
  tyOk_cons (by kernel_rfl) <|
  tyOk_cons (by kernel_rfl) <|
  tyOk_cons (by kernel_rfl) <|
  tyOk_cons (by kernel_rfl) <|
  tyOk_cons (by kernel_rfl) <|
  tyOk_cons (by kernel_rfl) <|
  tyOk_cons (by kernel_rfl) <|
  tyOk_nil
noncomputable def evFns : List (Nat × Func) := [(5, Tryz.f5), (6, Tryz.f6), (22, Tryz.f22), (7, Tryz.f7), (23, Tryz.f23), (24, Tryz.f24), (25, Tryz.f25), (26, Tryz.f26), (27, Tryz.f27), (28, Tryz.f28), (29, Tryz.f29), (30, Tryz.f30), (31, Tryz.f31), (32, Tryz.f32), (33, Tryz.f33), (34, Tryz.f34), (55, Tryz.f55), (54, Tryz.f54), (57, Tryz.f57), (58, Tryz.f58), (59, Tryz.f59), (61, Tryz.f61), (60, Tryz.f60), (62, Tryz.f62), (64, Tryz.f64), (65, Tryz.f65), (66, Tryz.f66), (67, Tryz.f67), (68, Tryz.f68), (69, Tryz.f69), (70, Tryz.f70), (71, Tryz.f71), (72, Tryz.f72), (73, Tryz.f73), (74, Tryz.f74), (75, Tryz.f75), (76, Tryz.f76), (56, Tryz.f56), (88, Tryz.f88), (89, Tryz.f89), (77, Tryz.f77), (96, Tryz.f96), (97, Tryz.f97), (98, Tryz.f98), (78, Tryz.f78), (91, Tryz.f91), (92, Tryz.f92), (101, Tryz.f101), (90, Tryz.f90), (109, Tryz.f109), (110, Tryz.f110), (80, Tryz.f80), (121, Tryz.f121), (123, Tryz.f123), (140, Tryz.f140), (142, Tryz.f142), (143, Tryz.f143), (156, Tryz.f156)]
theorem evFns_ok : FnsOk Tryz.prog evFns :=
  fnsOk_cons Tryz.func5 Tryz.call5 <|
  fnsOk_cons Tryz.func6 Tryz.call6 <|
  fnsOk_cons Tryz.func22 Tryz.call22 <|
  fnsOk_cons Tryz.func7 Tryz.call7 <|
  fnsOk_cons Tryz.func23 Tryz.call23 <|
  fnsOk_cons Tryz.func24 Tryz.call24 <|
  fnsOk_cons Tryz.func25 Tryz.call25 <|
  fnsOk_cons Tryz.func26 Tryz.call26 <|
  fnsOk_cons Tryz.func27 Tryz.call27 <|
  fnsOk_cons Tryz.func28 Tryz.call28 <|
  fnsOk_cons Tryz.func29 Tryz.call29 <|
  fnsOk_cons Tryz.func30 Tryz.call30 <|
  fnsOk_cons Tryz.func31 Tryz.call31 <|
  fnsOk_cons Tryz.func32 Tryz.call32 <|
  fnsOk_cons Tryz.func33 Tryz.call33 <|
  fnsOk_cons Tryz.func34 Tryz.call34 <|
  fnsOk_cons Tryz.func55 Tryz.call55 <|
  fnsOk_cons Tryz.func54 Tryz.call54 <|
  fnsOk_cons Tryz.func57 Tryz.call57 <|
  fnsOk_cons Tryz.func58 Tryz.call58 <|
  fnsOk_cons Tryz.func59 Tryz.call59 <|
  fnsOk_cons Tryz.func61 Tryz.call61 <|
  fnsOk_cons Tryz.func60 Tryz.call60 <|
  fnsOk_cons Tryz.func62 Tryz.call62 <|
  fnsOk_cons Tryz.func64 Tryz.call64 <|
  fnsOk_cons Tryz.func65 Tryz.call65 <|
  fnsOk_cons Tryz.func66 Tryz.call66 <|
  fnsOk_cons Tryz.func67 Tryz.call67 <|
  fnsOk_cons Tryz.func68 Tryz.call68 <|
  fnsOk_cons Tryz.func69 Tryz.call69 <|
  fnsOk_cons Tryz.func70 Tryz.call70 <|
  fnsOk_cons Tryz.func71 Tryz.call71 <|
  fnsOk_cons Tryz.func72 Tryz.call72 <|
  fnsOk_cons Tryz.func73 Tryz.call73 <|
  fnsOk_cons Tryz.func74 Tryz.call74 <|
  fnsOk_cons Tryz.func75 Tryz.call75 <|
  fnsOk_cons Tryz.func76 Tryz.call76 <|
  fnsOk_cons Tryz.func56 Tryz.call56 <|
  fnsOk_cons Tryz.func88 Tryz.call88 <|
  fnsOk_cons Tryz.func89 Tryz.call89 <|
  fnsOk_cons Tryz.func77 Tryz.call77 <|
  fnsOk_cons Tryz.func96 Tryz.call96 <|
  fnsOk_cons Tryz.func97 Tryz.call97 <|
  fnsOk_cons Tryz.func98 Tryz.call98 <|
  fnsOk_cons Tryz.func78 Tryz.call78 <|
  fnsOk_cons Tryz.func91 Tryz.call91 <|
  fnsOk_cons Tryz.func92 Tryz.call92 <|
  fnsOk_cons Tryz.func101 Tryz.call101 <|
  fnsOk_cons Tryz.func90 Tryz.call90 <|
  fnsOk_cons Tryz.func109 Tryz.call109 <|
  fnsOk_cons Tryz.func110 Tryz.call110 <|
  fnsOk_cons Tryz.func80 Tryz.call80 <|
  fnsOk_cons Tryz.func121 Tryz.call121 <|
  fnsOk_cons Tryz.func123 Tryz.call123 <|
  fnsOk_cons Tryz.func140 Tryz.call140 <|
  fnsOk_cons Tryz.func142 Tryz.call142 <|
  fnsOk_cons Tryz.func143 Tryz.call143 <|
  fnsOk_cons Tryz.func156 Tryz.call156 <|
  fnsOk_nil
def evEqs : List (Nat × List Nat) := [(62, [1, 0, 0, 0, 0, 0, 0, 0, 0, 0, 0, 0, 0, 2]), (25, [0, 0])]
theorem evEqs_ok : EqsOk Tryz.prog evEqs :=
  eqsOk_cons (eqOk_deep (d := 8) (by kernel_rfl) (by kernel_rfl) (fun w => by simp [isAgg, run_underlying Tryz.underlying62]) (i := (Tryz.prog.info? 62).get (by kernel_rfl)) (by kernel_rfl) (by kernel_rfl) (by kernel_rfl)) <|
  eqsOk_cons (eqOk_deep (d := 8) (by kernel_rfl) (by kernel_rfl) (fun w => by simp [isAgg, run_underlying Tryz.underlying25]) (i := (Tryz.prog.info? 25).get (by kernel_rfl)) (by kernel_rfl) (by kernel_rfl) (by kernel_rfl)) <|
  eqsOk_nil
def evInts : List (Nat × IntKind) := [(3, Go.IntKind.i64), (5, Go.IntKind.u8), (167, Go.IntKind.u32)]
theorem evInts_ok : IntsOk Tryz.prog evInts :=
  intsOk_cons Tryz.underlying3 <|
  intsOk_cons Tryz.underlying5 <|
  intsOk_cons Tryz.underlying167 <|
  intsOk_nil
def evFlts : List (Nat × FloatKind) := [(141, Go.FloatKind.f64)]
theorem evFlts_ok : FltsOk Tryz.prog evFlts :=
  fltsOk_cons Tryz.underlying141 <|
  fltsOk_nil
theorem evIfcs_ok : IfcsOk Tryz.prog [] :=
  ifcsOk_nil
noncomputable def evEnv : Env := ⟨evTys, evEqs, [], evInts, evFlts, [], evFns, [31, 32, 33, 34, 73, 75, 76, 101], [94, 95, 99, 100, 111, 155], evLib, [60], [93], [(63, 5)]⟩
theorem evCCs_ok : CCsOk Tryz.prog [93] :=
  ccsOk_cons (ccOk_of (ρ := Tryz.lays105_ren) { Tryz.lays105 with } Tryz.Builder_Extra_105.toX72 rfl Tryz.call93) <|
  ccsOk_nil
theorem evBsts_ok : BStrsOk Tryz.prog [(63, 5)] :=
  bstrsOk_cons (bstrOk_of (ρ := Tryz.lays105_ren) { Tryz.lays105 with } Tryz.Builder_Extra_105 Tryz.call63) <|
  bstrsOk_nil
theorem evBools_ok : ∀ T, has T [] = true → Tryz.prog.underlying T = some .bool := by
  intro T h
  have h := has_iff.1 h
  exact absurd h (by simp)
theorem evEnv_ok : EnvOk Tryz.prog evEnv := ⟨evTys_ok, by kernel_rfl, evEqs_ok, evBools_ok, evInts_ok, evFlts_ok, evIfcs_ok, evLib_ok, evCCs_ok, evBsts_ok, evFns_ok⟩
def evRoot : Nat := 5
end Go.Proofs.YtfihdolpljhhlaaGreatDoor
