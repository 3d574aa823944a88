/- What the interpreter is told of the program: types, functions, which types are compared. PRINTED BY GenEnv.lean, a program of this claim's author; Lean checks it. -/
import Derived.Test.YtbbnkadjmioalaaGreatDoorChecked
import Derived.Test.YtbbnkadjmioalaaGreatDoorFiEvF
import Derived.Test.YtbbnkadjmioalaaGreatDoorFiLib
namespace Go.Proofs.YtbbnkadjmioalaaGreatDoor
open Go.Ev
def evTys : List (Nat × Ty) := [
  (24, ⟨1, 3, 24, [.v (Go.Value.int (Go.IntKind.i64) 0), .v (Go.Value.int (Go.IntKind.i64) 0), .v (Go.Value.bool false)], [(0, 3), (1, 3), (2, 4)], 0, 0⟩),
  (115, ⟨1, 9, 72, [.v (Go.Value.int (Go.IntKind.i64) 0), .v (Go.Value.int (Go.IntKind.i64) 0), .v (Go.Value.bool false), .v (Go.Value.int (Go.IntKind.i64) 0), .v (Go.Value.int (Go.IntKind.i64) 0), .v (Go.Value.bool false), .v (Go.Value.int (Go.IntKind.i64) 0), .v (Go.Value.int (Go.IntKind.i64) 0), .v (Go.Value.bool false)], [(0, 24), (3, 24), (6, 24)], 0, 0⟩),
  (3, ⟨0, 1, 8, [.v (Go.Value.int (Go.IntKind.i64) 0)], [], 0, 0⟩),
  (117, ⟨1, 18, 144, [.v (Go.Value.int (Go.IntKind.i64) 0), .v (Go.Value.int (Go.IntKind.i64) 0), .v (Go.Value.bool false), .v (Go.Value.int (Go.IntKind.i64) 0), .v (Go.Value.int (Go.IntKind.i64) 0), .v (Go.Value.bool false), .v (Go.Value.int (Go.IntKind.i64) 0), .v (Go.Value.int (Go.IntKind.i64) 0), .v (Go.Value.bool false), .v (Go.Value.int (Go.IntKind.i64) 0), .v (Go.Value.int (Go.IntKind.i64) 0), .v (Go.Value.bool false), .v (Go.Value.int (Go.IntKind.i64) 0), .v (Go.Value.int (Go.IntKind.i64) 0), .v (Go.Value.bool false), .v (Go.Value.int (Go.IntKind.i64) 0), .v (Go.Value.int (Go.IntKind.i64) 0), .v (Go.Value.bool false)], [(0, 115), (9, 115)], 0, 0⟩),
  (42, ⟨2, 3, 24, [.v (Go.Value.int (Go.IntKind.i64) 0), .v (Go.Value.int (Go.IntKind.i64) 0), .v (Go.Value.int (Go.IntKind.i64) 0)], [], 3, 3⟩),
  (31, ⟨1, 23, 176, [.v (Go.Value.bool false), .v (Go.Value.bool false), .v (Go.Value.int (Go.IntKind.i64) 0), .v (Go.Value.int (Go.IntKind.i64) 0), .v (Go.Value.bool false), .v (Go.Value.int (Go.IntKind.i64) 0), .v (Go.Value.int (Go.IntKind.i64) 0), .v (Go.Value.bool false), .v (Go.Value.int (Go.IntKind.i64) 0), .v (Go.Value.int (Go.IntKind.i64) 0), .v (Go.Value.bool false), .v (Go.Value.int (Go.IntKind.i64) 0), .v (Go.Value.int (Go.IntKind.i64) 0), .v (Go.Value.bool false), .v (Go.Value.int (Go.IntKind.i64) 0), .v (Go.Value.int (Go.IntKind.i64) 0), .v (Go.Value.bool false), .v (Go.Value.int (Go.IntKind.i64) 0), .v (Go.Value.int (Go.IntKind.i64) 0), .v (Go.Value.bool false), .v (Go.Value.int (Go.IntKind.i64) 0), .v (Go.Value.int (Go.IntKind.i64) 0), .v (Go.Value.bool false)], [(0, 4), (1, 4), (2, 24), (5, 24), (8, 24), (11, 24), (14, 24), (17, 24), (20, 24)], 0, 0⟩),
  (26, ⟨1, 4, 48, [.nil, .v (Go.Value.int (Go.IntKind.i64) 0), .v (Go.Value.int (Go.IntKind.i64) 0), .v (Go.Value.bool false)], [(0, 22), (1, 24)], 0, 0⟩),
  (48, ⟨1, 12, 96, [.v (Go.Value.int (Go.IntKind.i64) 0), .v (Go.Value.int (Go.IntKind.i64) 0), .v (Go.Value.int (Go.IntKind.i64) 0), .v (Go.Value.int (Go.IntKind.i64) 0), .v (Go.Value.int (Go.IntKind.i64) 0), .v (Go.Value.int (Go.IntKind.i64) 0), .v (Go.Value.int (Go.IntKind.i64) 0), .v (Go.Value.int (Go.IntKind.i64) 0), .v (Go.Value.int (Go.IntKind.i64) 0), .v (Go.Value.int (Go.IntKind.i64) 0), .v (Go.Value.int (Go.IntKind.i64) 0), .v (Go.Value.int (Go.IntKind.i64) 0)], [(0, 3), (1, 46), (3, 46), (5, 46), (7, 46), (9, 42)], 0, 0⟩),
  (46, ⟨1, 2, 16, [.v (Go.Value.int (Go.IntKind.i64) 0), .v (Go.Value.int (Go.IntKind.i64) 0)], [(0, 3), (1, 3)], 0, 0⟩),
  (22, ⟨3, 1, 24, [.nil], [], 31, 0⟩),
  (44, ⟨1, 7, 56, [.v (Go.Value.int (Go.IntKind.i64) 0), .v (Go.Value.int (Go.IntKind.i64) 0), .v (Go.Value.int (Go.IntKind.i64) 0), .v (Go.Value.int (Go.IntKind.i64) 0), .v (Go.Value.int (Go.IntKind.i64) 0), .v (Go.Value.int (Go.IntKind.i64) 0), .v (Go.Value.int (Go.IntKind.i64) 0)], [(0, 42), (3, 42), (6, 3)], 0, 0⟩),
  (195, ⟨3, 1, 24, [.nil], [], 24, 0⟩),
  (32, ⟨3, 1, 24, [.nil], [], 44, 0⟩),
  (27, ⟨2, 12, 144, [.nil, .v (Go.Value.int (Go.IntKind.i64) 0), .v (Go.Value.int (Go.IntKind.i64) 0), .v (Go.Value.bool false), .nil, .v (Go.Value.int (Go.IntKind.i64) 0), .v (Go.Value.int (Go.IntKind.i64) 0), .v (Go.Value.bool false), .nil, .v (Go.Value.int (Go.IntKind.i64) 0), .v (Go.Value.int (Go.IntKind.i64) 0), .v (Go.Value.bool false)], [], 26, 3⟩),
  (4, ⟨0, 1, 1, [.v (Go.Value.bool false)], [], 0, 0⟩),
  (39, ⟨3, 1, 24, [.nil], [], 38, 0⟩),
  (161, ⟨1, 20, 160, [.v (Go.Value.int (Go.IntKind.i64) 0), .v (Go.Value.int (Go.IntKind.i64) 0), .v (Go.Value.int (Go.IntKind.i64) 0), .v (Go.Value.int (Go.IntKind.i64) 0), .v (Go.Value.bool false), .v (Go.Value.int (Go.IntKind.i64) 0), .v (Go.Value.int (Go.IntKind.i64) 0), .v (Go.Value.bool false), .v (Go.Value.int (Go.IntKind.i64) 0), .v (Go.Value.int (Go.IntKind.i64) 0), .v (Go.Value.bool false), .v (Go.Value.int (Go.IntKind.i64) 0), .v (Go.Value.int (Go.IntKind.i64) 0), .v (Go.Value.bool false), .v (Go.Value.int (Go.IntKind.i64) 0), .v (Go.Value.int (Go.IntKind.i64) 0), .v (Go.Value.bool false), .v (Go.Value.int (Go.IntKind.i64) 0), .v (Go.Value.int (Go.IntKind.i64) 0), .v (Go.Value.bool false)], [(0, 3), (1, 3), (2, 117)], 0, 0⟩),
  (36, ⟨3, 1, 24, [.nil], [], 48, 0⟩),
  (38, ⟨0, 1, 16, [.v (Go.Value.complex (Go.FloatKind.f64) 0 0)], [], 0, 0⟩),
  (63, ⟨3, 1, 24, [.nil], [], 3, 0⟩),
  (109, ⟨0, 1, 8, [.v (Go.Value.float (Go.FloatKind.f64) 0)], [], 0, 0⟩),
  (286, ⟨2, 2, 16, [.v (Go.Value.int (Go.IntKind.i64) 0), .v (Go.Value.int (Go.IntKind.i64) 0)], [], 3, 2⟩),
  (77, ⟨3, 1, 24, [.nil], [], 5, 0⟩),
  (9, ⟨4, 1, 16, [.str []], [], 0, 0⟩),
  (79, ⟨1, 2, 32, [.v (Go.Value.pointer none), .nil], [(0, 76), (1, 77)], 0, 0⟩),
  (86, ⟨3, 1, 24, [.nil], [], 9, 0⟩),
  (69, ⟨3, 1, 24, [.nil], [], 26, 0⟩),
  (5, ⟨0, 1, 1, [.v (Go.Value.int (Go.IntKind.u8) 0)], [], 0, 0⟩),
  (76, ⟨0, 1, 8, [.v (Go.Value.pointer none)], [], 0, 0⟩)]
theorem evTys_ok : TyOk Tryz.prog evTys :=
  tyOk_cons (by kernel_rfl) <|
  tyOk_cons (by kernel_rfl) <|
  tyOk_cons (by kernel_rfl) <|
  tyOk_cons (by kernel_rfl) <|
  tyOk_cons (by kernel_rfl) <|
  tyOk_cons (by kernel_rfl) <|
  tyOk_cons (by kernel_rfl) <|
  tyOk_cons (by kernel_rfl) <|
  tyOk_cons (by kernel_rfl) <|
  tyOk_cons (by kernel_rfl) <|
  tyOk_cons (by kernel_rfl) <|
  tyOk_cons (by kernel_rfl) <|
  tyOk_cons (by kernel_rfl) <|
  tyOk_cons (by kernel_rfl) <|
  tyOk_cons (by kernel_rfl) <|
  tyOk_cons (by kernel_rfl) <|
  tyOk_cons (by kernel_rfl) <|
  tyOk_cons (by kernel_rfl) <|
  tyOk_cons (by kernel_rfl) <|
  tyOk_cons (by kernel_rfl) <|
  tyOk_cons (by kernel_rfl) <|
  tyOk_cons (by kernel_rfl) <|
  tyOk_cons (by kernel_rfl) <|
  tyOk_cons (by kernel_rfl) <|
  tyOk_cons (by kernel_rfl) <|
  tyOk_cons (by kernel_rfl) <|
  tyOk_cons (by kernel_rfl) <|
  tyOk_cons (by kernel_rfl) <|
  tyOk_cons (by kernel_rfl) <|
  tyOk_nil
noncomputable def evFns : List (Nat × Func) := [(3, Tryz.f3), (5, Tryz.f5), (6, Tryz.f6), (8, Tryz.f8), (7, Tryz.f7), (9, Tryz.f9), (10, Tryz.f10), (11, Tryz.f11), (12, Tryz.f12), (19, Tryz.f19), (20, Tryz.f20), (21, Tryz.f21), (23, Tryz.f23), (22, Tryz.f22), (25, Tryz.f25), (26, Tryz.f26), (27, Tryz.f27), (28, Tryz.f28), (29, Tryz.f29), (30, Tryz.f30), (31, Tryz.f31), (32, Tryz.f32), (34, Tryz.f34), (36, Tryz.f36), (46, Tryz.f46), (47, Tryz.f47), (48, Tryz.f48), (49, Tryz.f49), (50, Tryz.f50), (51, Tryz.f51), (24, Tryz.f24), (52, Tryz.f52), (54, Tryz.f54), (55, Tryz.f55), (56, Tryz.f56), (58, Tryz.f58), (59, Tryz.f59), (82, Tryz.f82), (83, Tryz.f83), (84, Tryz.f84), (53, Tryz.f53), (86, Tryz.f86), (57, Tryz.f57), (90, Tryz.f90), (91, Tryz.f91), (92, Tryz.f92), (94, Tryz.f94), (93, Tryz.f93), (95, Tryz.f95), (96, Tryz.f96), (97, Tryz.f97), (134, Tryz.f134), (85, Tryz.f85), (64, Tryz.f64), (87, Tryz.f87), (88, Tryz.f88), (89, Tryz.f89), (136, Tryz.f136), (117, Tryz.f117), (139, Tryz.f139), (119, Tryz.f119), (138, Tryz.f138), (137, Tryz.f137), (140, Tryz.f140), (141, Tryz.f141), (135, Tryz.f135), (103, Tryz.f103), (171, Tryz.f171), (172, Tryz.f172), (173, Tryz.f173), (174, Tryz.f174), (168, Tryz.f168), (195, Tryz.f195), (196, Tryz.f196), (197, Tryz.f197), (199, Tryz.f199), (198, Tryz.f198), (200, Tryz.f200), (201, Tryz.f201), (194, Tryz.f194), (219, Tryz.f219), (218, Tryz.f218), (234, Tryz.f234), (235, Tryz.f235), (236, Tryz.f236), (237, Tryz.f237), (238, Tryz.f238), (177, Tryz.f177), (243, Tryz.f243), (239, Tryz.f239), (240, Tryz.f240), (242, Tryz.f242), (241, Tryz.f241), (114, Tryz.f114), (244, Tryz.f244), (245, Tryz.f245), (230, Tryz.f230), (231, Tryz.f231), (260, Tryz.f260), (261, Tryz.f261), (262, Tryz.f262), (263, Tryz.f263), (264, Tryz.f264), (167, Tryz.f167), (271, Tryz.f271), (272, Tryz.f272), (273, Tryz.f273), (274, Tryz.f274), (275, Tryz.f275), (278, Tryz.f278)]
theorem evFns_ok : FnsOk Tryz.prog evFns :=
  fnsOk_cons Tryz.func3 Tryz.call3 <|
  fnsOk_cons Tryz.func5 Tryz.call5 <|
  fnsOk_cons Tryz.func6 Tryz.call6 <|
  fnsOk_cons Tryz.func8 Tryz.call8 <|
  fnsOk_cons Tryz.func7 Tryz.call7 <|
  fnsOk_cons Tryz.func9 Tryz.call9 <|
  fnsOk_cons Tryz.func10 Tryz.call10 <|
  fnsOk_cons Tryz.func11 Tryz.call11 <|
  fnsOk_cons Tryz.func12 Tryz.call12 <|
  fnsOk_cons Tryz.func19 Tryz.call19 <|
  fnsOk_cons Tryz.func20 Tryz.call20 <|
  fnsOk_cons Tryz.func21 Tryz.call21 <|
  fnsOk_cons Tryz.func23 Tryz.call23 <|
  fnsOk_cons Tryz.func22 Tryz.call22 <|
  fnsOk_cons Tryz.func25 Tryz.call25 <|
  fnsOk_cons Tryz.func26 Tryz.call26 <|
  fnsOk_cons Tryz.func27 Tryz.call27 <|
  fnsOk_cons Tryz.func28 Tryz.call28 <|
  fnsOk_cons Tryz.func29 Tryz.call29 <|
  fnsOk_cons Tryz.func30 Tryz.call30 <|
  fnsOk_cons Tryz.func31 Tryz.call31 <|
  fnsOk_cons Tryz.func32 Tryz.call32 <|
  fnsOk_cons Tryz.func34 Tryz.call34 <|
  fnsOk_cons Tryz.func36 Tryz.call36 <|
  fnsOk_cons Tryz.func46 Tryz.call46 <|
  fnsOk_cons Tryz.func47 Tryz.call47 <|
  fnsOk_cons Tryz.func48 Tryz.call48 <|
  fnsOk_cons Tryz.func49 Tryz.call49 <|
  fnsOk_cons Tryz.func50 Tryz.call50 <|
  fnsOk_cons Tryz.func51 Tryz.call51 <|
  fnsOk_cons Tryz.func24 Tryz.call24 <|
  fnsOk_cons Tryz.func52 Tryz.call52 <|
  fnsOk_cons Tryz.func54 Tryz.call54 <|
  fnsOk_cons Tryz.func55 Tryz.call55 <|
  fnsOk_cons Tryz.func56 Tryz.call56 <|
  fnsOk_cons Tryz.func58 Tryz.call58 <|
  fnsOk_cons Tryz.func59 Tryz.call59 <|
  fnsOk_cons Tryz.func82 Tryz.call82 <|
  fnsOk_cons Tryz.func83 Tryz.call83 <|
  fnsOk_cons Tryz.func84 Tryz.call84 <|
  fnsOk_cons Tryz.func53 Tryz.call53 <|
  fnsOk_cons Tryz.func86 Tryz.call86 <|
  fnsOk_cons Tryz.func57 Tryz.call57 <|
  fnsOk_cons Tryz.func90 Tryz.call90 <|
  fnsOk_cons Tryz.func91 Tryz.call91 <|
  fnsOk_cons Tryz.func92 Tryz.call92 <|
  fnsOk_cons Tryz.func94 Tryz.call94 <|
  fnsOk_cons Tryz.func93 Tryz.call93 <|
  fnsOk_cons Tryz.func95 Tryz.call95 <|
  fnsOk_cons Tryz.func96 Tryz.call96 <|
  fnsOk_cons Tryz.func97 Tryz.call97 <|
  fnsOk_cons Tryz.func134 Tryz.call134 <|
  fnsOk_cons Tryz.func85 Tryz.call85 <|
  fnsOk_cons Tryz.func64 Tryz.call64 <|
  fnsOk_cons Tryz.func87 Tryz.call87 <|
  fnsOk_cons Tryz.func88 Tryz.call88 <|
  fnsOk_cons Tryz.func89 Tryz.call89 <|
  fnsOk_cons Tryz.func136 Tryz.call136 <|
  fnsOk_cons Tryz.func117 Tryz.call117 <|
  fnsOk_cons Tryz.func139 Tryz.call139 <|
  fnsOk_cons Tryz.func119 Tryz.call119 <|
  fnsOk_cons Tryz.func138 Tryz.call138 <|
  fnsOk_cons Tryz.func137 Tryz.call137 <|
  fnsOk_cons Tryz.func140 Tryz.call140 <|
  fnsOk_cons Tryz.func141 Tryz.call141 <|
  fnsOk_cons Tryz.func135 Tryz.call135 <|
  fnsOk_cons Tryz.func103 Tryz.call103 <|
  fnsOk_cons Tryz.func171 Tryz.call171 <|
  fnsOk_cons Tryz.func172 Tryz.call172 <|
  fnsOk_cons Tryz.func173 Tryz.call173 <|
  fnsOk_cons Tryz.func174 Tryz.call174 <|
  fnsOk_cons Tryz.func168 Tryz.call168 <|
  fnsOk_cons Tryz.func195 Tryz.call195 <|
  fnsOk_cons Tryz.func196 Tryz.call196 <|
  fnsOk_cons Tryz.func197 Tryz.call197 <|
  fnsOk_cons Tryz.func199 Tryz.call199 <|
  fnsOk_cons Tryz.func198 Tryz.call198 <|
  fnsOk_cons Tryz.func200 Tryz.call200 <|
  fnsOk_cons Tryz.func201 Tryz.call201 <|
  fnsOk_cons Tryz.func194 Tryz.call194 <|
  fnsOk_cons Tryz.func219 Tryz.call219 <|
  fnsOk_cons Tryz.func218 Tryz.call218 <|
  fnsOk_cons Tryz.func234 Tryz.call234 <|
  fnsOk_cons Tryz.func235 Tryz.call235 <|
  fnsOk_cons Tryz.func236 Tryz.call236 <|
  fnsOk_cons Tryz.func237 Tryz.call237 <|
  fnsOk_cons Tryz.func238 Tryz.call238 <|
  fnsOk_cons Tryz.func177 Tryz.call177 <|
  fnsOk_cons Tryz.func243 Tryz.call243 <|
  fnsOk_cons Tryz.func239 Tryz.call239 <|
  fnsOk_cons Tryz.func240 Tryz.call240 <|
  fnsOk_cons Tryz.func242 Tryz.call242 <|
  fnsOk_cons Tryz.func241 Tryz.call241 <|
  fnsOk_cons Tryz.func114 Tryz.call114 <|
  fnsOk_cons Tryz.func244 Tryz.call244 <|
  fnsOk_cons Tryz.func245 Tryz.call245 <|
  fnsOk_cons Tryz.func230 Tryz.call230 <|
  fnsOk_cons Tryz.func231 Tryz.call231 <|
  fnsOk_cons Tryz.func260 Tryz.call260 <|
  fnsOk_cons Tryz.func261 Tryz.call261 <|
  fnsOk_cons Tryz.func262 Tryz.call262 <|
  fnsOk_cons Tryz.func263 Tryz.call263 <|
  fnsOk_cons Tryz.func264 Tryz.call264 <|
  fnsOk_cons Tryz.func167 Tryz.call167 <|
  fnsOk_cons Tryz.func271 Tryz.call271 <|
  fnsOk_cons Tryz.func272 Tryz.call272 <|
  fnsOk_cons Tryz.func273 Tryz.call273 <|
  fnsOk_cons Tryz.func274 Tryz.call274 <|
  fnsOk_cons Tryz.func275 Tryz.call275 <|
  fnsOk_cons Tryz.func278 Tryz.call278 <|
  fnsOk_nil
def evEqs : List (Nat × List Nat) := [(44, [0, 0, 0, 0, 0, 0, 0]), (46, [0, 0]), (24, [0, 0, 1])]
theorem evEqs_ok : EqsOk Tryz.prog evEqs :=
  eqsOk_cons (eqOk_deep (d := 8) (by kernel_rfl) (by kernel_rfl) (fun w => by simp [isAgg, run_underlying Tryz.underlying44]) (i := (Tryz.prog.info? 44).get (by kernel_rfl)) (by kernel_rfl) (by kernel_rfl) (by kernel_rfl)) <|
  eqsOk_cons (eqOk_deep (d := 8) (by kernel_rfl) (by kernel_rfl) (fun w => by simp [isAgg, run_underlying Tryz.underlying46]) (i := (Tryz.prog.info? 46).get (by kernel_rfl)) (by kernel_rfl) (by kernel_rfl) (by kernel_rfl)) <|
  eqsOk_cons (eqOk_deep (d := 8) (by kernel_rfl) (by kernel_rfl) (fun w => by simp [isAgg, run_underlying Tryz.underlying24]) (i := (Tryz.prog.info? 24).get (by kernel_rfl)) (by kernel_rfl) (by kernel_rfl) (by kernel_rfl)) <|
  eqsOk_nil
def evInts : List (Nat × IntKind) := [(3, Go.IntKind.i64)]
theorem evInts_ok : IntsOk Tryz.prog evInts :=
  intsOk_cons Tryz.underlying3 <|
  intsOk_nil
def evFlts : List (Nat × FloatKind) := [(109, Go.FloatKind.f64)]
theorem evFlts_ok : FltsOk Tryz.prog evFlts :=
  fltsOk_cons Tryz.underlying109 <|
  fltsOk_nil
theorem evIfcs_ok : IfcsOk Tryz.prog [] :=
  ifcsOk_nil
noncomputable def evEnv : Env := ⟨evTys, evEqs, [4], evInts, evFlts, [], evFns, [31], [33, 193], evLib, [32], [60], [(35, 5)], [22]⟩
theorem evCCs_ok : CCsOk Tryz.prog [60] :=
  ccsOk_cons (ccOk_of (ρ := Tryz.lays240_ren) Tryz.lays240 Tryz.Builder_X72_240 rfl Tryz.call60) <|
  ccsOk_nil
theorem evBsts_ok : BStrsOk Tryz.prog [(35, 5)] :=
  bstrsOk_cons (bstrOk_of (ρ := Tryz.lays169_ren) Tryz.lays169 Tryz.Builder_Extra_169 Tryz.call35) <|
  bstrsOk_nil
theorem evBools_ok : ∀ T, has T [4] = true → Tryz.prog.underlying T = some .bool := by
  intro T h
  have h := has_iff.1 h
  simp only [List.mem_cons, List.not_mem_nil, or_false] at h
  subst h; exact Tryz.underlying4
theorem evEnv_ok : EnvOk Tryz.prog evEnv := ⟨evTys_ok, by kernel_rfl, evEqs_ok, evBools_ok, evInts_ok, evFlts_ok, evIfcs_ok, evLib_ok, evCCs_ok, evBsts_ok, evFns_ok⟩
def evRoot : Nat := 3
end Go.Proofs.YtbbnkadjmioalaaGreatDoor
