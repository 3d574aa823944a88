/-
  PROVED: 'SceneKnown' returns true, whatever memory it is called in, and leaves all that lay there as it was. (It takes no argument.) No condition.
  How: the program's code is evaluated, by Lean's kernel, in an evaluator that is proved sound for whatever memory (YtecbleigjefciaaEvA .. EvE, 'exFT_ok'). The longer calls are evaluated by themselves.
-/
import Derived.Test.YtecbleigjefciaaEnv
import Derived.Test.YtecbleigjefciaaEvE
import Derived.Test.YtecbleigjefciaaRows
namespace Go.Proofs.Ytecbleigjefciaa
open Go.ChangeShapes Go.WideShapes Go.ChangeAt Go.RowKit Go.Ev

theorem Try.own : ownKnob Try.prog.godebug = none := by kernel_rfl

def sceneKnownA0 : List PV := [.agg [.v (.int .i64 2), .v (.int .i64 0), .v (.int .i64 0), .v (.int .i64 0), .v (.int .i64 0), .v (.int .i64 7), .v (.int .i64 0), .v (.int .i64 0), .v (.int .i64 0), .v (.int .i64 0), .v (.int .i64 0), .v (.int .i64 0)], .agg [.v (.int .i64 0), .v (.int .i64 0), .v (.bool false), .v (.int .i64 0), .v (.int .i64 0), .v (.bool false), .v (.int .i64 0), .v (.int .i64 0), .v (.bool false), .v (.int .i64 0), .v (.int .i64 0), .v (.bool false), .v (.int .i64 0), .v (.int .i64 0), .v (.bool false), .v (.int .i64 65536), .v (.int .i64 65536), .v (.bool false)]]
def sceneKnownR0 : PV := .tup [.agg [.v (.int .i64 458752), .v (.int .i64 458752), .v (.bool false)], .v (.int .i64 1)]
theorem sceneKnown_c0 : (exFT evEnv [] 1000 40).1 4 sceneKnownA0 = some sceneKnownR0 := by kernel_rfl
def sceneKnownA1 : List PV := [.agg [.v (.int .i64 2), .v (.int .i64 0), .v (.int .i64 0), .v (.int .i64 0), .v (.int .i64 0), .v (.int .i64 (-7)), .v (.int .i64 0), .v (.int .i64 0), .v (.int .i64 0), .v (.int .i64 0), .v (.int .i64 0), .v (.int .i64 0)], .agg [.v (.int .i64 0), .v (.int .i64 0), .v (.bool false), .v (.int .i64 0), .v (.int .i64 0), .v (.bool false), .v (.int .i64 0), .v (.int .i64 0), .v (.bool false), .v (.int .i64 0), .v (.int .i64 0), .v (.bool false), .v (.int .i64 0), .v (.int .i64 0), .v (.bool false), .v (.int .i64 65536), .v (.int .i64 65536), .v (.bool false)]]
def sceneKnownR1 : PV := .tup [.agg [.v (.int .i64 0), .v (.int .i64 0), .v (.bool true)], .v (.int .i64 2)]
theorem sceneKnown_c1 : (exFT evEnv [] 1000 40).1 4 sceneKnownA1 = some sceneKnownR1 := by kernel_rfl
def sceneKnownA2 : List PV := [.agg [.v (.int .i64 2), .v (.int .i64 0), .v (.int .i64 0), .v (.int .i64 0), .v (.int .i64 0), .v (.int .i64 0), .v (.int .i64 0), .v (.int .i64 0), .v (.int .i64 0), .v (.int .i64 0), .v (.int .i64 0), .v (.int .i64 0)], .agg [.v (.int .i64 0), .v (.int .i64 0), .v (.bool false), .v (.int .i64 0), .v (.int .i64 0), .v (.bool false), .v (.int .i64 0), .v (.int .i64 0), .v (.bool false), .v (.int .i64 0), .v (.int .i64 0), .v (.bool false), .v (.int .i64 0), .v (.int .i64 0), .v (.bool false), .v (.int .i64 65536), .v (.int .i64 65536), .v (.bool false)]]
def sceneKnownR2 : PV := .tup [.agg [.v (.int .i64 0), .v (.int .i64 0), .v (.bool true)], .v (.int .i64 2)]
theorem sceneKnown_c2 : (exFT evEnv [] 1000 40).1 4 sceneKnownA2 = some sceneKnownR2 := by kernel_rfl
def sceneKnownA3 : List PV := [.agg [.v (.int .i64 1), .v (.int .i64 0), .v (.int .i64 0), .v (.int .i64 0), .v (.int .i64 0), .v (.int .i64 20), .v (.int .i64 0), .v (.int .i64 5), .v (.int .i64 0), .v (.int .i64 1), .v (.int .i64 2), .v (.int .i64 3)], .agg [.v (.int .i64 393216), .v (.int .i64 393216), .v (.bool false), .v (.int .i64 0), .v (.int .i64 0), .v (.bool false), .v (.int .i64 0), .v (.int .i64 0), .v (.bool false), .v (.int .i64 0), .v (.int .i64 0), .v (.bool false), .v (.int .i64 0), .v (.int .i64 0), .v (.bool false), .v (.int .i64 65536), .v (.int .i64 65536), .v (.bool false)]]
def sceneKnownR3 : PV := .tup [.agg [.v (.int .i64 0), .v (.int .i64 0), .v (.bool true)], .v (.int .i64 2)]
theorem sceneKnown_c3 : (exFT evEnv [] 1000 40).1 4 sceneKnownA3 = some sceneKnownR3 := by kernel_rfl
def sceneKnownA4 : List PV := [.agg [.v (.int .i64 1), .v (.int .i64 0), .v (.int .i64 0), .v (.int .i64 0), .v (.int .i64 0), .v (.int .i64 20), .v (.int .i64 0), .v (.int .i64 5), .v (.int .i64 0), .v (.int .i64 1), .v (.int .i64 2), .v (.int .i64 3)], .agg [.v (.int .i64 0), .v (.int .i64 393216), .v (.bool false), .v (.int .i64 0), .v (.int .i64 0), .v (.bool false), .v (.int .i64 0), .v (.int .i64 0), .v (.bool false), .v (.int .i64 0), .v (.int .i64 0), .v (.bool false), .v (.int .i64 0), .v (.int .i64 0), .v (.bool false), .v (.int .i64 65536), .v (.int .i64 65536), .v (.bool false)]]
def sceneKnownR4 : PV := .tup [.agg [.v (.int .i64 0), .v (.int .i64 0), .v (.bool true)], .v (.int .i64 0)]
theorem sceneKnown_c4 : (exFT evEnv [] 1000 40).1 4 sceneKnownA4 = some sceneKnownR4 := by kernel_rfl
def sceneKnownA5 : List PV := [.agg [.v (.int .i64 1), .v (.int .i64 0), .v (.int .i64 0), .v (.int .i64 0), .v (.int .i64 0), .v (.int .i64 (-20)), .v (.int .i64 0), .v (.int .i64 5), .v (.int .i64 0), .v (.int .i64 1), .v (.int .i64 2), .v (.int .i64 3)], .agg [.v (.int .i64 0), .v (.int .i64 0), .v (.bool false), .v (.int .i64 0), .v (.int .i64 0), .v (.bool false), .v (.int .i64 0), .v (.int .i64 0), .v (.bool false), .v (.int .i64 0), .v (.int .i64 0), .v (.bool false), .v (.int .i64 0), .v (.int .i64 0), .v (.bool false), .v (.int .i64 65536), .v (.int .i64 65536), .v (.bool false)]]
def sceneKnownR5 : PV := .tup [.agg [.v (.int .i64 0), .v (.int .i64 0), .v (.bool true)], .v (.int .i64 2)]
theorem sceneKnown_c5 : (exFT evEnv [] 1000 40).1 4 sceneKnownA5 = some sceneKnownR5 := by kernel_rfl
def sceneKnownA6 : List PV := [.lst [[.v (.int .i64 2), .v (.int .i64 0), .v (.int .i64 0), .v (.int .i64 0), .v (.int .i64 0), .v (.int .i64 30), .v (.int .i64 0), .v (.int .i64 0), .v (.int .i64 0), .v (.int .i64 0), .v (.int .i64 0), .v (.int .i64 0)], [.v (.int .i64 1), .v (.int .i64 0), .v (.int .i64 0), .v (.int .i64 0), .v (.int .i64 0), .v (.int .i64 20), .v (.int .i64 0), .v (.int .i64 5), .v (.int .i64 0), .v (.int .i64 1), .v (.int .i64 2), .v (.int .i64 3)], [.v (.int .i64 2), .v (.int .i64 0), .v (.int .i64 0), .v (.int .i64 0), .v (.int .i64 0), .v (.int .i64 40), .v (.int .i64 0), .v (.int .i64 0), .v (.int .i64 0), .v (.int .i64 0), .v (.int .i64 0), .v (.int .i64 0)]], .agg [.v (.int .i64 196608), .v (.int .i64 196608), .v (.bool false), .v (.int .i64 0), .v (.int .i64 0), .v (.bool false), .v (.int .i64 0), .v (.int .i64 0), .v (.bool false), .v (.int .i64 0), .v (.int .i64 0), .v (.bool false), .v (.int .i64 0), .v (.int .i64 0), .v (.bool false), .v (.int .i64 65536), .v (.int .i64 65536), .v (.bool false)]]
def sceneKnownR6 : PV := .tup [.v (.int .i64 1), .agg [.v (.int .i64 1048576), .v (.int .i64 1048576), .v (.bool false)], .v (.int .i64 1)]
theorem sceneKnown_c6 : (exFT evEnv [] 1000 40).1 11 sceneKnownA6 = some sceneKnownR6 := by kernel_rfl
def sceneKnownA7 : List PV := [.lst [[.v (.int .i64 2), .v (.int .i64 0), .v (.int .i64 0), .v (.int .i64 0), .v (.int .i64 0), .v (.int .i64 15), .v (.int .i64 0), .v (.int .i64 0), .v (.int .i64 0), .v (.int .i64 0), .v (.int .i64 0), .v (.int .i64 0)], [.v (.int .i64 1), .v (.int .i64 0), .v (.int .i64 0), .v (.int .i64 0), .v (.int .i64 0), .v (.int .i64 20), .v (.int .i64 0), .v (.int .i64 5), .v (.int .i64 0), .v (.int .i64 1), .v (.int .i64 2), .v (.int .i64 3)]], .agg [.v (.int .i64 0), .v (.int .i64 0), .v (.bool false), .v (.int .i64 0), .v (.int .i64 0), .v (.bool false), .v (.int .i64 0), .v (.int .i64 0), .v (.bool false), .v (.int .i64 0), .v (.int .i64 0), .v (.bool false), .v (.int .i64 0), .v (.int .i64 0), .v (.bool false), .v (.int .i64 65536), .v (.int .i64 65536), .v (.bool false)]]
def sceneKnownR7 : PV := .tup [.v (.int .i64 (-1)), .agg [.v (.int .i64 0), .v (.int .i64 0), .v (.bool true)], .v (.int .i64 0)]
theorem sceneKnown_c7 : (exFT evEnv [] 1000 40).1 11 sceneKnownA7 = some sceneKnownR7 := by kernel_rfl
def sceneKnownA8 : List PV := [.lst [[.v (.int .i64 2), .v (.int .i64 0), .v (.int .i64 0), .v (.int .i64 0), .v (.int .i64 0), .v (.int .i64 3), .v (.int .i64 0), .v (.int .i64 0), .v (.int .i64 0), .v (.int .i64 0), .v (.int .i64 0), .v (.int .i64 0)], [.v (.int .i64 1), .v (.int .i64 0), .v (.int .i64 0), .v (.int .i64 0), .v (.int .i64 0), .v (.int .i64 20), .v (.int .i64 0), .v (.int .i64 5), .v (.int .i64 0), .v (.int .i64 1), .v (.int .i64 2), .v (.int .i64 3)]], .agg [.v (.int .i64 0), .v (.int .i64 393216), .v (.bool false), .v (.int .i64 0), .v (.int .i64 0), .v (.bool false), .v (.int .i64 0), .v (.int .i64 0), .v (.bool false), .v (.int .i64 0), .v (.int .i64 0), .v (.bool false), .v (.int .i64 0), .v (.int .i64 0), .v (.bool false), .v (.int .i64 65536), .v (.int .i64 65536), .v (.bool false)]]
def sceneKnownR8 : PV := .tup [.v (.int .i64 (-1)), .agg [.v (.int .i64 0), .v (.int .i64 0), .v (.bool true)], .v (.int .i64 0)]
theorem sceneKnown_c8 : (exFT evEnv [] 1000 40).1 11 sceneKnownA8 = some sceneKnownR8 := by kernel_rfl
def sceneKnownA9 : List PV := []
def sceneKnownR9 : PV := .v (.bool true)
theorem sceneKnown_c9 : (exFT evEnv [] 1000 40).1 12 sceneKnownA9 = some sceneKnownR9 := by kernel_rfl
def sceneKnownTab : Tab := [(4, sceneKnownA0, sceneKnownR0), (4, sceneKnownA1, sceneKnownR1), (4, sceneKnownA2, sceneKnownR2), (4, sceneKnownA3, sceneKnownR3), (4, sceneKnownA4, sceneKnownR4), (4, sceneKnownA5, sceneKnownR5), (11, sceneKnownA6, sceneKnownR6), (11, sceneKnownA7, sceneKnownR7), (11, sceneKnownA8, sceneKnownR8), (12, sceneKnownA9, sceneKnownR9)]
theorem sceneKnown_tab : TabOk Try.prog sceneKnownTab :=
  tabOk_cons ((exFT_ok evEnv_ok tabOk_nil 1000 40).1 _ _ _ sceneKnown_c0) <|
  tabOk_cons ((exFT_ok evEnv_ok tabOk_nil 1000 40).1 _ _ _ sceneKnown_c1) <|
  tabOk_cons ((exFT_ok evEnv_ok tabOk_nil 1000 40).1 _ _ _ sceneKnown_c2) <|
  tabOk_cons ((exFT_ok evEnv_ok tabOk_nil 1000 40).1 _ _ _ sceneKnown_c3) <|
  tabOk_cons ((exFT_ok evEnv_ok tabOk_nil 1000 40).1 _ _ _ sceneKnown_c4) <|
  tabOk_cons ((exFT_ok evEnv_ok tabOk_nil 1000 40).1 _ _ _ sceneKnown_c5) <|
  tabOk_cons ((exFT_ok evEnv_ok tabOk_nil 1000 40).1 _ _ _ sceneKnown_c6) <|
  tabOk_cons ((exFT_ok evEnv_ok tabOk_nil 1000 40).1 _ _ _ sceneKnown_c7) <|
  tabOk_cons ((exFT_ok evEnv_ok tabOk_nil 1000 40).1 _ _ _ sceneKnown_c8) <|
  tabOk_cons ((exFT_ok evEnv_ok tabOk_nil 1000 40).1 _ _ _ sceneKnown_c9) <|
  tabOk_nil
/-- The evaluation. -/
theorem sceneKnown_run : (exFT evEnv sceneKnownTab 1000 40).1 3 [] = some (.v (.bool true)) := by kernel_rfl

theorem sceneKnown_walk (w : World) : Calls Try.prog 3 #[] w fun e w' => e = .returned (.bool true) ∧ Below w.heap.size w w' :=
  closed_of Try.call3 ((exFT_ok evEnv_ok sceneKnown_tab 1000 40).1 3 [] _ sceneKnown_run) w

set_option maxRecDepth 100000 in
theorem sceneKnown_lifted (os : Os) (started : os.Started) (H : Type) (enc : TypeId × Value → H) :
    ReturnsInHanded {} Try.checked os 3 .any (Rows.sceneKnownSpec.pre6 enc Try.prog Try.f3 Rows.sceneKnownRow.domain false) (Rows.sceneKnownSpec.post enc Try.prog Try.f3 false true false false) := by
  refine returnsInHanded_of_change (C := Try.checked) Try.own started (by kernel_rfl) Try.func3
    (ChangeSpec.witness6 (enc := enc) (C := Try.checked) false ⟨#[], #[], []⟩ 8 (by kernel_rfl) (by kernel_rfl) (by kernel_rfl) (by kernel_rfl)) ?_
  intro W base args ds gs before _ hW _ _
  have hW' := hW
  obtain ⟨p, q, hA0, hV, rfl, _, _⟩ := hW
  have hA : DataW.TrodAll enc Try.prog W 0 (fun _ => true) true Try.f3.params.toList args.toList ds p := hA0
  rw [Try.params3] at hA
  obtain ⟨rfl, rfl, rfl⟩ := trodAll_none hA
  obtain ⟨rfl, rfl⟩ := trodVars_none hV
  simp only [List.append_nil] at hW'
  refine (sceneKnown_walk W).mono fun e W' ⟨he, hb⟩ => ?_
  subst he
  exact ⟨_, rfl, post_of_below (pa := []) (pv := []) hW' (fun _ _ _ => (trodAll_cons_mk (shut_bool Try.underlying4 _) trodAll_mk0)) (fun _ _ => rfl) (fun _ _ => rfl) rfl
    hb (ok_one (by kernel_rfl) rfl (okWide_bool_mk Try.underlying4 _))⟩

/-- The statement. -/
theorem sceneKnown_holds : Rows.SceneKnownSaid :=
  OpenClaim.holds_of_wide 3 Try.f3 rfl rfl rfl rfl rfl rfl rfl ⟨rfl, rfl, rfl, rfl, rfl⟩ rfl rfl rfl rfl rfl (by kernel_rfl) Try.func3 (by kernel_rfl)
    (of_decide_eq_true (by kernel_rfl)) (by unfold Func.isWrapper; first | (rw [if_pos (by decide +kernel)]; kernel_rfl) | (rw [if_neg (by decide +kernel)]; exact ⟨rfl, rfl⟩))
    (fun os started H enc _ => sceneKnown_lifted os started H enc)
end Go.Proofs.Ytecbleigjefciaa
