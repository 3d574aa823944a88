/- What the interpreter is told of the program: types, functions, which types are compared. PRINTED BY GenEnv.lean, a program of this claim's author; Lean checks it. -/
import Derived.Test.YtfihdolpljhhlaaGreatDoorChecked
import Derived.Test.YtfihdolpljhhlaaGreatDoorShEvE
import Derived.Test.YtfihdolpljhhlaaGreatDoorShLib
namespace Go.Proofs.YtfihdolpljhhlaaGreatDoor
open Go.Ev
def evTys : List (Nat × Ty) := [
  (36, ⟨1, 3, 24, [.v (Go.Value.int (Go.IntKind.i64) 0), .v (Go.Value.int (Go.IntKind.i64) 0), .v (Go.Value.bool false)], [(0, 3), (1, 3), (2, 4)], 0, 0⟩),
  (3, ⟨0, 1, 8, [.v (Go.Value.int (Go.IntKind.i64) 0)], [], 0, 0⟩),
  (25, ⟨1, 2, 16, [.v (Go.Value.int (Go.IntKind.i64) 0), .v (Go.Value.int (Go.IntKind.i64) 0)], [(0, 3), (1, 3)], 0, 0⟩),
  (9, ⟨4, 1, 16, [.str []], [], 0, 0⟩),
  (62, ⟨1, 14, 120, [.v (Go.Value.bool false), .v (Go.Value.int (Go.IntKind.i64) 0), .v (Go.Value.int (Go.IntKind.i64) 0), .v (Go.Value.int (Go.IntKind.i64) 0), .v (Go.Value.int (Go.IntKind.i64) 0), .v (Go.Value.int (Go.IntKind.i64) 0), .v (Go.Value.int (Go.IntKind.i64) 0), .v (Go.Value.int (Go.IntKind.i64) 0), .v (Go.Value.int (Go.IntKind.i64) 0), .v (Go.Value.int (Go.IntKind.i64) 0), .v (Go.Value.int (Go.IntKind.i64) 0), .v (Go.Value.int (Go.IntKind.i64) 0), .v (Go.Value.int (Go.IntKind.i64) 0), .str []], [(0, 4), (1, 25), (3, 25), (5, 25), (7, 25), (9, 25), (11, 25), (13, 9)], 0, 0⟩),
  (28, ⟨1, 4, 56, [.str [], .v (Go.Value.int (Go.IntKind.i64) 0), .v (Go.Value.int (Go.IntKind.i64) 0), .nil], [(0, 9), (1, 25), (3, 26)], 0, 0⟩),
  (48, ⟨1, 23, 176, [.v (Go.Value.bool false), .v (Go.Value.bool false), .v (Go.Value.int (Go.IntKind.i64) 0), .v (Go.Value.int (Go.IntKind.i64) 0), .v (Go.Value.bool false), .v (Go.Value.int (Go.IntKind.i64) 0), .v (Go.Value.int (Go.IntKind.i64) 0), .v (Go.Value.bool false), .v (Go.Value.int (Go.IntKind.i64) 0), .v (Go.Value.int (Go.IntKind.i64) 0), .v (Go.Value.bool false), .v (Go.Value.int (Go.IntKind.i64) 0), .v (Go.Value.int (Go.IntKind.i64) 0), .v (Go.Value.bool false), .v (Go.Value.int (Go.IntKind.i64) 0), .v (Go.Value.int (Go.IntKind.i64) 0), .v (Go.Value.bool false), .v (Go.Value.int (Go.IntKind.i64) 0), .v (Go.Value.int (Go.IntKind.i64) 0), .v (Go.Value.bool false), .v (Go.Value.int (Go.IntKind.i64) 0), .v (Go.Value.int (Go.IntKind.i64) 0), .v (Go.Value.bool false)], [(0, 4), (1, 4), (2, 36), (5, 36), (8, 36), (11, 36), (14, 36), (17, 36), (20, 36)], 0, 0⟩),
  (26, ⟨3, 1, 24, [.nil], [], 62, 0⟩),
  (38, ⟨1, 4, 48, [.nil, .v (Go.Value.int (Go.IntKind.i64) 0), .v (Go.Value.int (Go.IntKind.i64) 0), .v (Go.Value.bool false)], [(0, 34), (1, 36)], 0, 0⟩),
  (46, ⟨1, 13, 112, [.str [], .v (Go.Value.int (Go.IntKind.i64) 0), .v (Go.Value.int (Go.IntKind.i64) 0), .v (Go.Value.int (Go.IntKind.i64) 0), .v (Go.Value.int (Go.IntKind.i64) 0), .v (Go.Value.int (Go.IntKind.i64) 0), .v (Go.Value.int (Go.IntKind.i64) 0), .v (Go.Value.int (Go.IntKind.i64) 0), .v (Go.Value.int (Go.IntKind.i64) 0), .v (Go.Value.int (Go.IntKind.i64) 0), .v (Go.Value.int (Go.IntKind.i64) 0), .v (Go.Value.int (Go.IntKind.i64) 0), .v (Go.Value.int (Go.IntKind.i64) 0)], [(0, 9), (1, 44), (7, 44)], 0, 0⟩),
  (55, ⟨3, 1, 24, [.nil], [], 36, 0⟩),
  (96, ⟨1, 6, 48, [.v (Go.Value.int (Go.IntKind.i64) 0), .v (Go.Value.int (Go.IntKind.i64) 0), .v (Go.Value.int (Go.IntKind.i64) 0), .v (Go.Value.int (Go.IntKind.i64) 0), .v (Go.Value.int (Go.IntKind.i64) 0), .v (Go.Value.int (Go.IntKind.i64) 0)], [(0, 3), (1, 3), (2, 3), (3, 3), (4, 3), (5, 3)], 0, 0⟩),
  (70, ⟨3, 1, 24, [.nil], [], 77, 0⟩),
  (34, ⟨3, 1, 24, [.nil], [], 48, 0⟩),
  (4, ⟨0, 1, 1, [.v (Go.Value.bool false)], [], 0, 0⟩),
  (22, ⟨3, 1, 24, [.nil], [], 46, 0⟩),
  (66, ⟨3, 1, 24, [.nil], [], 3, 0⟩),
  (44, ⟨2, 6, 48, [.v (Go.Value.int (Go.IntKind.i64) 0), .v (Go.Value.int (Go.IntKind.i64) 0), .v (Go.Value.int (Go.IntKind.i64) 0), .v (Go.Value.int (Go.IntKind.i64) 0), .v (Go.Value.int (Go.IntKind.i64) 0), .v (Go.Value.int (Go.IntKind.i64) 0)], [], 25, 3⟩),
  (5, ⟨0, 1, 1, [.v (Go.Value.int (Go.IntKind.u8) 0)], [], 0, 0⟩),
  (77, ⟨1, 3, 40, [.v (Go.Value.int (Go.IntKind.i64) 0), .str [], .v (Go.Value.complex (Go.FloatKind.f64) 0 0)], [(0, 3), (1, 9), (2, 29)], 0, 0⟩),
  (99, ⟨1, 12, 96, [.v (Go.Value.int (Go.IntKind.i64) 0), .v (Go.Value.int (Go.IntKind.i64) 0), .v (Go.Value.bool false), .v (Go.Value.int (Go.IntKind.i64) 0), .v (Go.Value.int (Go.IntKind.i64) 0), .v (Go.Value.bool false), .v (Go.Value.int (Go.IntKind.i64) 0), .v (Go.Value.int (Go.IntKind.i64) 0), .v (Go.Value.bool false), .v (Go.Value.int (Go.IntKind.i64) 0), .v (Go.Value.int (Go.IntKind.i64) 0), .v (Go.Value.bool false)], [(0, 36), (3, 36), (6, 36), (9, 36)], 0, 0⟩),
  (135, ⟨2, 2, 16, [.v (Go.Value.int (Go.IntKind.i64) 0), .v (Go.Value.int (Go.IntKind.i64) 0)], [], 3, 2⟩),
  (141, ⟨0, 1, 8, [.v (Go.Value.float (Go.FloatKind.f64) 0)], [], 0, 0⟩),
  (167, ⟨0, 1, 4, [.v (Go.Value.int (Go.IntKind.u32) 0)], [], 0, 0⟩),
  (107, ⟨3, 1, 24, [.nil], [], 5, 0⟩),
  (94, ⟨3, 1, 24, [.nil], [], 96, 0⟩),
  (29, ⟨0, 1, 16, [.v (Go.Value.complex (Go.FloatKind.f64) 0 0)], [], 0, 0⟩)]
theorem evTys_ok : TyOk Tryz.prog evTys :=
  tyOk_cons (by kernel_rfl) <|
  tyOk_cons (by kernel_rfl) <|
  tyOk_cons (by kernel_rfl) <|
  tyOk_cons (by kernel_rfl) <|
  tyOk_cons (by kernel_rfl) <|
  tyOk_cons (by kernel_rfl) <|
  tyOk_cons (by kernel_rfl) <|
  tyOk_cons (by kernel_rfl) <|
  tyOk_cons (by kernel_rfl) <|
  tyOk_cons (by kernel_rfl) <|
  tyOk_cons (by kernel_rfl) <|
  tyOk_cons (by kernel_rfl) <|
  tyOk_cons (by kernel_rfl) <|
  tyOk_cons (by kernel_rfl) <|
  tyOk_cons (by kernel_rfl) <|
  tyOk_cons (by kernel_rfl) <|
  tyOk_cons (by kernel_rfl) <|
  tyOk_cons (by kernel_rfl) <|
  tyOk_cons (by kernel_rfl) <|
  tyOk_cons (by kernel_rfl) <|
  tyOk_cons (by kernel_rfl) <|
  tyOk_cons (by kernel_rfl) <|
  tyOk_cons (by kernel_rfl) <|
  tyOk_cons (by kernel_rfl) <|
  tyOk_cons (by kernel_rfl) <|
  tyOk_cons (by kernel_rfl) <|
  tyOk_cons (by kernel_rfl) <|
  tyOk_nil
noncomputable def evFns : List (Nat × Func) := [(4, Tryz.f4), (6, Tryz.f6), (17, Tryz.f17), (18, Tryz.f18), (10, Tryz.f10), (11, Tryz.f11), (19, Tryz.f19), (20, Tryz.f20), (21, Tryz.f21), (27, Tryz.f27), (28, Tryz.f28), (29, Tryz.f29), (52, Tryz.f52), (44, Tryz.f44), (37, Tryz.f37), (9, Tryz.f9), (53, Tryz.f53), (50, Tryz.f50), (84, Tryz.f84), (41, Tryz.f41), (77, Tryz.f77), (78, Tryz.f78), (79, Tryz.f79), (36, Tryz.f36), (24, Tryz.f24), (35, Tryz.f35), (38, Tryz.f38), (39, Tryz.f39), (13, Tryz.f13), (40, Tryz.f40), (43, Tryz.f43), (87, Tryz.f87), (46, Tryz.f46), (55, Tryz.f55), (54, Tryz.f54), (57, Tryz.f57), (58, Tryz.f58), (59, Tryz.f59), (42, Tryz.f42), (80, Tryz.f80), (12, Tryz.f12), (47, Tryz.f47), (48, Tryz.f48), (49, Tryz.f49), (81, Tryz.f81), (82, Tryz.f82), (83, Tryz.f83), (56, Tryz.f56), (88, Tryz.f88), (30, Tryz.f30), (89, Tryz.f89), (62, Tryz.f62), (74, Tryz.f74), (45, Tryz.f45), (86, Tryz.f86), (102, Tryz.f102), (90, Tryz.f90), (91, Tryz.f91), (92, Tryz.f92), (65, Tryz.f65), (66, Tryz.f66), (67, Tryz.f67), (68, Tryz.f68), (69, Tryz.f69), (70, Tryz.f70), (71, Tryz.f71), (72, Tryz.f72), (61, Tryz.f61), (85, Tryz.f85), (96, Tryz.f96), (97, Tryz.f97), (98, Tryz.f98), (109, Tryz.f109), (110, Tryz.f110), (121, Tryz.f121), (123, Tryz.f123), (140, Tryz.f140), (142, Tryz.f142), (143, Tryz.f143), (156, Tryz.f156)]
theorem evFns_ok : FnsOk Tryz.prog evFns :=
  fnsOk_cons Tryz.func4 Tryz.call4 <|
  fnsOk_cons Tryz.func6 Tryz.call6 <|
  fnsOk_cons Tryz.func17 Tryz.call17 <|
  fnsOk_cons Tryz.func18 Tryz.call18 <|
  fnsOk_cons Tryz.func10 Tryz.call10 <|
  fnsOk_cons Tryz.func11 Tryz.call11 <|
  fnsOk_cons Tryz.func19 Tryz.call19 <|
  fnsOk_cons Tryz.func20 Tryz.call20 <|
  fnsOk_cons Tryz.func21 Tryz.call21 <|
  fnsOk_cons Tryz.func27 Tryz.call27 <|
  fnsOk_cons Tryz.func28 Tryz.call28 <|
  fnsOk_cons Tryz.func29 Tryz.call29 <|
  fnsOk_cons Tryz.func52 Tryz.call52 <|
  fnsOk_cons Tryz.func44 Tryz.call44 <|
  fnsOk_cons Tryz.func37 Tryz.call37 <|
  fnsOk_cons Tryz.func9 Tryz.call9 <|
  fnsOk_cons Tryz.func53 Tryz.call53 <|
  fnsOk_cons Tryz.func50 Tryz.call50 <|
  fnsOk_cons Tryz.func84 Tryz.call84 <|
  fnsOk_cons Tryz.func41 Tryz.call41 <|
  fnsOk_cons Tryz.func77 Tryz.call77 <|
  fnsOk_cons Tryz.func78 Tryz.call78 <|
  fnsOk_cons Tryz.func79 Tryz.call79 <|
  fnsOk_cons Tryz.func36 Tryz.call36 <|
  fnsOk_cons Tryz.func24 Tryz.call24 <|
  fnsOk_cons Tryz.func35 Tryz.call35 <|
  fnsOk_cons Tryz.func38 Tryz.call38 <|
  fnsOk_cons Tryz.func39 Tryz.call39 <|
  fnsOk_cons Tryz.func13 Tryz.call13 <|
  fnsOk_cons Tryz.func40 Tryz.call40 <|
  fnsOk_cons Tryz.func43 Tryz.call43 <|
  fnsOk_cons Tryz.func87 Tryz.call87 <|
  fnsOk_cons Tryz.func46 Tryz.call46 <|
  fnsOk_cons Tryz.func55 Tryz.call55 <|
  fnsOk_cons Tryz.func54 Tryz.call54 <|
  fnsOk_cons Tryz.func57 Tryz.call57 <|
  fnsOk_cons Tryz.func58 Tryz.call58 <|
  fnsOk_cons Tryz.func59 Tryz.call59 <|
  fnsOk_cons Tryz.func42 Tryz.call42 <|
  fnsOk_cons Tryz.func80 Tryz.call80 <|
  fnsOk_cons Tryz.func12 Tryz.call12 <|
  fnsOk_cons Tryz.func47 Tryz.call47 <|
  fnsOk_cons Tryz.func48 Tryz.call48 <|
  fnsOk_cons Tryz.func49 Tryz.call49 <|
  fnsOk_cons Tryz.func81 Tryz.call81 <|
  fnsOk_cons Tryz.func82 Tryz.call82 <|
  fnsOk_cons Tryz.func83 Tryz.call83 <|
  fnsOk_cons Tryz.func56 Tryz.call56 <|
  fnsOk_cons Tryz.func88 Tryz.call88 <|
  fnsOk_cons Tryz.func30 Tryz.call30 <|
  fnsOk_cons Tryz.func89 Tryz.call89 <|
  fnsOk_cons Tryz.func62 Tryz.call62 <|
  fnsOk_cons Tryz.func74 Tryz.call74 <|
  fnsOk_cons Tryz.func45 Tryz.call45 <|
  fnsOk_cons Tryz.func86 Tryz.call86 <|
  fnsOk_cons Tryz.func102 Tryz.call102 <|
  fnsOk_cons Tryz.func90 Tryz.call90 <|
  fnsOk_cons Tryz.func91 Tryz.call91 <|
  fnsOk_cons Tryz.func92 Tryz.call92 <|
  fnsOk_cons Tryz.func65 Tryz.call65 <|
  fnsOk_cons Tryz.func66 Tryz.call66 <|
  fnsOk_cons Tryz.func67 Tryz.call67 <|
  fnsOk_cons Tryz.func68 Tryz.call68 <|
  fnsOk_cons Tryz.func69 Tryz.call69 <|
  fnsOk_cons Tryz.func70 Tryz.call70 <|
  fnsOk_cons Tryz.func71 Tryz.call71 <|
  fnsOk_cons Tryz.func72 Tryz.call72 <|
  fnsOk_cons Tryz.func61 Tryz.call61 <|
  fnsOk_cons Tryz.func85 Tryz.call85 <|
  fnsOk_cons Tryz.func96 Tryz.call96 <|
  fnsOk_cons Tryz.func97 Tryz.call97 <|
  fnsOk_cons Tryz.func98 Tryz.call98 <|
  fnsOk_cons Tryz.func109 Tryz.call109 <|
  fnsOk_cons Tryz.func110 Tryz.call110 <|
  fnsOk_cons Tryz.func121 Tryz.call121 <|
  fnsOk_cons Tryz.func123 Tryz.call123 <|
  fnsOk_cons Tryz.func140 Tryz.call140 <|
  fnsOk_cons Tryz.func142 Tryz.call142 <|
  fnsOk_cons Tryz.func143 Tryz.call143 <|
  fnsOk_cons Tryz.func156 Tryz.call156 <|
  fnsOk_nil
def evEqs : List (Nat × List Nat) := [(36, [0, 0, 1]), (62, [1, 0, 0, 0, 0, 0, 0, 0, 0, 0, 0, 0, 0, 2])]
theorem evEqs_ok : EqsOk Tryz.prog evEqs :=
  eqsOk_cons (eqOk_deep (d := 8) (by kernel_rfl) (by kernel_rfl) (fun w => by simp [isAgg, run_underlying Tryz.underlying36]) (i := (Tryz.prog.info? 36).get (by kernel_rfl)) (by kernel_rfl) (by kernel_rfl) (by kernel_rfl)) <|
  eqsOk_cons (eqOk_deep (d := 8) (by kernel_rfl) (by kernel_rfl) (fun w => by simp [isAgg, run_underlying Tryz.underlying62]) (i := (Tryz.prog.info? 62).get (by kernel_rfl)) (by kernel_rfl) (by kernel_rfl) (by kernel_rfl)) <|
  eqsOk_nil
def evInts : List (Nat × IntKind) := [(3, Go.IntKind.i64), (5, Go.IntKind.u8), (167, Go.IntKind.u32)]
theorem evInts_ok : IntsOk Tryz.prog evInts :=
  intsOk_cons Tryz.underlying3 <|
  intsOk_cons Tryz.underlying5 <|
  intsOk_cons Tryz.underlying167 <|
  intsOk_nil
def evFlts : List (Nat × FloatKind) := [(141, Go.FloatKind.f64)]
theorem evFlts_ok : FltsOk Tryz.prog evFlts :=
  fltsOk_cons Tryz.underlying141 <|
  fltsOk_nil
theorem evIfcs_ok : IfcsOk Tryz.prog [] :=
  ifcsOk_nil
noncomputable def evEnv : Env := ⟨evTys, evEqs, [4], evInts, evFlts, [], evFns, [], [99, 100, 94, 95, 111, 155], evLib⟩
theorem evBools_ok : ∀ T, has T [4] = true → Tryz.prog.underlying T = some .bool := by
  intro T h
  have h := has_iff.1 h
  simp only [List.mem_cons, List.not_mem_nil, or_false] at h
  subst h; exact Tryz.underlying4
theorem evEnv_ok : EnvOk Tryz.prog evEnv := ⟨evTys_ok, by kernel_rfl, evEqs_ok, evBools_ok, evInts_ok, evFlts_ok, evIfcs_ok, evLib_ok, evFns_ok⟩
def evRoot : Nat := 4
end Go.Proofs.YtfihdolpljhhlaaGreatDoor
