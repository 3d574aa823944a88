/- What the interpreter is told of the program: types, functions, which types are compared. PRINTED BY GenEnv.lean, a program of this claim's author; Lean checks it. -/
import Derived.Test.YtecbleigjefciaaChecked
import Derived.Test.YtecbleigjefciaaEvD
namespace Go.Proofs.Ytecbleigjefciaa
open Go.Ev
def evTys : List (Nat × Ty) := [
  (23, ⟨1, 3, 24, [.v (Go.Value.int (Go.IntKind.i64) 0), .v (Go.Value.int (Go.IntKind.i64) 0), .v (Go.Value.bool false)], [(0, 3), (1, 3), (2, 4)], 0, 0⟩),
  (3, ⟨0, 1, 8, [.v (Go.Value.int (Go.IntKind.i64) 0)], [], 0, 0⟩),
  (31, ⟨1, 12, 96, [.v (Go.Value.int (Go.IntKind.i64) 0), .v (Go.Value.int (Go.IntKind.i64) 0), .v (Go.Value.int (Go.IntKind.i64) 0), .v (Go.Value.int (Go.IntKind.i64) 0), .v (Go.Value.int (Go.IntKind.i64) 0), .v (Go.Value.int (Go.IntKind.i64) 0), .v (Go.Value.int (Go.IntKind.i64) 0), .v (Go.Value.int (Go.IntKind.i64) 0), .v (Go.Value.int (Go.IntKind.i64) 0), .v (Go.Value.int (Go.IntKind.i64) 0), .v (Go.Value.int (Go.IntKind.i64) 0), .v (Go.Value.int (Go.IntKind.i64) 0)], [(0, 3), (1, 28), (3, 28), (5, 28), (7, 28), (9, 29)], 0, 0⟩),
  (34, ⟨1, 9, 72, [.v (Go.Value.int (Go.IntKind.i64) 0), .v (Go.Value.int (Go.IntKind.i64) 0), .v (Go.Value.bool false), .v (Go.Value.int (Go.IntKind.i64) 0), .v (Go.Value.int (Go.IntKind.i64) 0), .v (Go.Value.bool false), .v (Go.Value.int (Go.IntKind.i64) 0), .v (Go.Value.int (Go.IntKind.i64) 0), .v (Go.Value.bool false)], [(0, 23), (3, 23), (6, 23)], 0, 0⟩),
  (28, ⟨1, 2, 16, [.v (Go.Value.int (Go.IntKind.i64) 0), .v (Go.Value.int (Go.IntKind.i64) 0)], [(0, 3), (1, 3)], 0, 0⟩),
  (36, ⟨1, 18, 144, [.v (Go.Value.int (Go.IntKind.i64) 0), .v (Go.Value.int (Go.IntKind.i64) 0), .v (Go.Value.bool false), .v (Go.Value.int (Go.IntKind.i64) 0), .v (Go.Value.int (Go.IntKind.i64) 0), .v (Go.Value.bool false), .v (Go.Value.int (Go.IntKind.i64) 0), .v (Go.Value.int (Go.IntKind.i64) 0), .v (Go.Value.bool false), .v (Go.Value.int (Go.IntKind.i64) 0), .v (Go.Value.int (Go.IntKind.i64) 0), .v (Go.Value.bool false), .v (Go.Value.int (Go.IntKind.i64) 0), .v (Go.Value.int (Go.IntKind.i64) 0), .v (Go.Value.bool false), .v (Go.Value.int (Go.IntKind.i64) 0), .v (Go.Value.int (Go.IntKind.i64) 0), .v (Go.Value.bool false)], [(0, 34), (9, 34)], 0, 0⟩),
  (43, ⟨3, 1, 24, [.nil], [], 31, 0⟩),
  (50, ⟨3, 1, 24, [.nil], [], 23, 0⟩),
  (75, ⟨2, 2, 16, [.v (Go.Value.int (Go.IntKind.i64) 0), .v (Go.Value.int (Go.IntKind.i64) 0)], [], 3, 2⟩),
  (4, ⟨0, 1, 1, [.v (Go.Value.bool false)], [], 0, 0⟩),
  (29, ⟨2, 3, 24, [.v (Go.Value.int (Go.IntKind.i64) 0), .v (Go.Value.int (Go.IntKind.i64) 0), .v (Go.Value.int (Go.IntKind.i64) 0)], [], 3, 3⟩),
  (62, ⟨3, 1, 24, [.nil], [], 3, 0⟩)]
theorem evTys_ok : TyOk Try.prog evTys :=
  tyOk_cons (by kernel_rfl) <|
  tyOk_cons (by kernel_rfl) <|
  tyOk_cons (by kernel_rfl) <|
  tyOk_cons (by kernel_rfl) <|
  tyOk_cons (by kernel_rfl) <|
  tyOk_cons (by kernel_rfl) <|
  tyOk_cons (by kernel_rfl) <|
  tyOk_cons (by kernel_rfl) <|
  tyOk_cons (by kernel_rfl) <|
  tyOk_cons (by kernel_rfl) <|
  tyOk_cons (by kernel_rfl) <|
  tyOk_cons (by kernel_rfl) <|
  tyOk_nil
noncomputable def evFns : List (Nat × Func) := [(3, Try.f3), (5, Try.f5), (7, Try.f7), (6, Try.f6), (4, Try.f4), (8, Try.f8), (9, Try.f9), (10, Try.f10), (11, Try.f11), (12, Try.f12), (13, Try.f13), (16, Try.f16), (14, Try.f14), (15, Try.f15), (17, Try.f17), (18, Try.f18), (19, Try.f19), (20, Try.f20), (23, Try.f23), (22, Try.f22), (25, Try.f25), (26, Try.f26), (28, Try.f28), (27, Try.f27), (24, Try.f24), (29, Try.f29), (30, Try.f30), (21, Try.f21), (33, Try.f33), (35, Try.f35), (36, Try.f36), (39, Try.f39), (37, Try.f37), (41, Try.f41), (40, Try.f40), (38, Try.f38), (42, Try.f42), (43, Try.f43), (44, Try.f44), (45, Try.f45), (31, Try.f31), (32, Try.f32), (34, Try.f34), (48, Try.f48), (47, Try.f47), (46, Try.f46)]
theorem evFns_ok : FnsOk Try.prog evFns :=
  fnsOk_cons Try.func3 Try.call3 <|
  fnsOk_cons Try.func5 Try.call5 <|
  fnsOk_cons Try.func7 Try.call7 <|
  fnsOk_cons Try.func6 Try.call6 <|
  fnsOk_cons Try.func4 Try.call4 <|
  fnsOk_cons Try.func8 Try.call8 <|
  fnsOk_cons Try.func9 Try.call9 <|
  fnsOk_cons Try.func10 Try.call10 <|
  fnsOk_cons Try.func11 Try.call11 <|
  fnsOk_cons Try.func12 Try.call12 <|
  fnsOk_cons Try.func13 Try.call13 <|
  fnsOk_cons Try.func16 Try.call16 <|
  fnsOk_cons Try.func14 Try.call14 <|
  fnsOk_cons Try.func15 Try.call15 <|
  fnsOk_cons Try.func17 Try.call17 <|
  fnsOk_cons Try.func18 Try.call18 <|
  fnsOk_cons Try.func19 Try.call19 <|
  fnsOk_cons Try.func20 Try.call20 <|
  fnsOk_cons Try.func23 Try.call23 <|
  fnsOk_cons Try.func22 Try.call22 <|
  fnsOk_cons Try.func25 Try.call25 <|
  fnsOk_cons Try.func26 Try.call26 <|
  fnsOk_cons Try.func28 Try.call28 <|
  fnsOk_cons Try.func27 Try.call27 <|
  fnsOk_cons Try.func24 Try.call24 <|
  fnsOk_cons Try.func29 Try.call29 <|
  fnsOk_cons Try.func30 Try.call30 <|
  fnsOk_cons Try.func21 Try.call21 <|
  fnsOk_cons Try.func33 Try.call33 <|
  fnsOk_cons Try.func35 Try.call35 <|
  fnsOk_cons Try.func36 Try.call36 <|
  fnsOk_cons Try.func39 Try.call39 <|
  fnsOk_cons Try.func37 Try.call37 <|
  fnsOk_cons Try.func41 Try.call41 <|
  fnsOk_cons Try.func40 Try.call40 <|
  fnsOk_cons Try.func38 Try.call38 <|
  fnsOk_cons Try.func42 Try.call42 <|
  fnsOk_cons Try.func43 Try.call43 <|
  fnsOk_cons Try.func44 Try.call44 <|
  fnsOk_cons Try.func45 Try.call45 <|
  fnsOk_cons Try.func31 Try.call31 <|
  fnsOk_cons Try.func32 Try.call32 <|
  fnsOk_cons Try.func34 Try.call34 <|
  fnsOk_cons Try.func48 Try.call48 <|
  fnsOk_cons Try.func47 Try.call47 <|
  fnsOk_cons Try.func46 Try.call46 <|
  fnsOk_nil
def evEqs : List (Nat × List Nat) := [(23, [0, 0, 1]), (28, [0, 0])]
theorem evEqs_ok : EqsOk Try.prog evEqs :=
  eqsOk_cons (eqOk_flat (by kernel_rfl) (by kernel_rfl) (by kernel_rfl) (by kernel_rfl)) <|
  eqsOk_cons (eqOk_flat (by kernel_rfl) (by kernel_rfl) (by kernel_rfl) (by kernel_rfl)) <|
  eqsOk_nil
noncomputable def evEnv : Env := ⟨evTys, evEqs, [4], evFns, []⟩
theorem evBools_ok : ∀ T, has T [4] = true → Try.prog.underlying T = some .bool := by
  intro T h
  have h := has_iff.1 h
  simp only [List.mem_cons, List.not_mem_nil, or_false] at h
  subst h; exact Try.underlying4
theorem evEnv_ok : EnvOk Try.prog evEnv := ⟨evTys_ok, by kernel_rfl, evEqs_ok, evBools_ok, evFns_ok⟩
def evRoot : Nat := 3
end Go.Proofs.Ytecbleigjefciaa
