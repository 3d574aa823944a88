/-
  PROVED: 'FilmKnown' returns true, whatever memory it is called in (the row's package-level variables as the program's text lays them), and leaves all that lay there as it was; and the row's card. (It takes no argument.) No condition of ours.
  How: the program's code is evaluated, by Lean's kernel, in an evaluator that is proved sound for whatever memory (YtbbnkadjmioalaaGreatDoorFiEvA .. EvE, 'exFT_ok'). The longer calls are evaluated by themselves.
-/
import Derived.Test.YtbbnkadjmioalaaGreatDoorFiRun
import Derived.Test.YtbbnkadjmioalaaGreatDoorRows
import Derived.Test.YtbbnkadjmioalaaGreatDoorCards
import Derived.Test.YtbbnkadjmioalaaGreatDoorTie
namespace Go.Proofs.YtbbnkadjmioalaaGreatDoor
open Go.ChangeShapes Go.WideShapes Go.ChangeAt Go.RowKit Go.Ev

theorem filmKnownOwn : ownKnob Tryz.prog.godebug = none := by kernel_rfl

/-- The variables that are read, as they lie at the call. -/
theorem filmKnown_glob {w : World} (hL : laidMetH Tryz.prog Rows.filmKnownRow.laid w) : GlobOk (fun k => if k < w.heap.size then 64 else 0) w := by
  have hL' : laidMet Tryz.prog Rows.filmKnownRow.laid w := hL
  obtain ⟨ps, hv, _⟩ := hL'
  obtain ⟨t0, fr0, b0⟩ := ints_of_laid (P := Tryz.prog) (W := w) ⟨ps, hv⟩ (k := .u64) (zs := Lib.pow10Tab) (.tail _ (.tail _ (.head _))) (g := 2) (t := 272) (by kernel_rfl) (by kernel_rfl) Tryz.underlying272 Tryz.underlying219 (by kernel_rfl) (by kernel_rfl)
  refine globOk_of fun x cs hx => ?_
  unfold glTab at hx
  rw [lk_cons] at hx
  split at hx
  · rename_i e
    have := Option.some.inj hx
    subst this; subst e
    exact ⟨_, t0, fr0, b0, by decide, rfl, by decide, by decide⟩
  exact absurd hx (by simp [lk])

theorem filmKnown_walk (w : World) (hL : laidMetH Tryz.prog Rows.filmKnownRow.laid w) : Calls Tryz.prog 3 #[] w fun e w' => e = .returned (.bool true) ∧ Below w.heap.size w w' :=
  closed_of Tryz.call3 ((exFT_ok evEnv_ok filmKnown_tab290 1000 60).1 3 [] _ filmKnown_run) w (fun k hk => if_neg (by omega)) (filmKnown_glob hL)

/-- A world for the witness: the settled one, the listed variables holding what their initialisers lay. -/
def filmKnownLay (cs : Array Value) : Obj → Obj
  | .cells _ t frozen => .cells cs t frozen
  | o => o
noncomputable def filmKnownLow : Nat := (World.holding Tryz.prog default ⟨#[], #[], []⟩).heap.size
noncomputable def filmKnownWorld (os : Os) : World :=
  let w0 := World.holding Tryz.prog os ⟨#[], #[], []⟩
  { w0 with heap := (((w0.heap.modify 8 (filmKnownLay #[.int .u8 0, .int .u8 1, .int .u8 28, .int .u8 2, .int .u8 29, .int .u8 14, .int .u8 24, .int .u8 3, .int .u8 30, .int .u8 22, .int .u8 20, .int .u8 15, .int .u8 25, .int .u8 17, .int .u8 4, .int .u8 8, .int .u8 31, .int .u8 27, .int .u8 13, .int .u8 23, .int .u8 21, .int .u8 19, .int .u8 16, .int .u8 7, .int .u8 26, .int .u8 12, .int .u8 18, .int .u8 6, .int .u8 11, .int .u8 5, .int .u8 10, .int .u8 9])).modify 9 (filmKnownLay #[.int .u8 0, .int .u8 1, .int .u8 56, .int .u8 2, .int .u8 57, .int .u8 49, .int .u8 28, .int .u8 3, .int .u8 61, .int .u8 58, .int .u8 42, .int .u8 50, .int .u8 38, .int .u8 29, .int .u8 17, .int .u8 4, .int .u8 62, .int .u8 47, .int .u8 59, .int .u8 36, .int .u8 45, .int .u8 43, .int .u8 51, .int .u8 22, .int .u8 53, .int .u8 39, .int .u8 33, .int .u8 30, .int .u8 24, .int .u8 18, .int .u8 12, .int .u8 5, .int .u8 63, .int .u8 55, .int .u8 48, .int .u8 27, .int .u8 60, .int .u8 41, .int .u8 37, .int .u8 16, .int .u8 46, .int .u8 35, .int .u8 44, .int .u8 21, .int .u8 52, .int .u8 32, .int .u8 23, .int .u8 11, .int .u8 54, .int .u8 26, .int .u8 40, .int .u8 15, .int .u8 34, .int .u8 20, .int .u8 31, .int .u8 10, .int .u8 25, .int .u8 14, .int .u8 19, .int .u8 9, .int .u8 13, .int .u8 8, .int .u8 7, .int .u8 6])).modify 2 (filmKnownLay #[.int .u64 1, .int .u64 10, .int .u64 100, .int .u64 1000, .int .u64 10000, .int .u64 100000, .int .u64 1000000, .int .u64 10000000, .int .u64 100000000, .int .u64 1000000000, .int .u64 10000000000, .int .u64 100000000000, .int .u64 1000000000000, .int .u64 10000000000000, .int .u64 100000000000000, .int .u64 1000000000000000, .int .u64 10000000000000000, .int .u64 100000000000000000, .int .u64 1000000000000000000, .int .u64 10000000000000000000])) }
theorem filmKnown_met (os : Os) : laidMet Tryz.prog Rows.filmKnownRow.laid ((filmKnownWorld os).forCall (fun _ _ => 0) ⟨#[], #[], []⟩).memory :=
  laidMet_of_run' 8 (by kernel_rfl) (by kernel_rfl)
theorem filmKnown_reads (os : Os) {H : Type} (enc : TypeId × Value → H) : ∃ places, DataW.whole enc Tryz.prog ((filmKnownWorld os).forCall (fun _ _ => 0) ⟨#[], #[], []⟩).memory Tryz.f3.params.toList Rows.filmKnownSpec.vars false (#[] : Array Value).toList 8 = some ([], [], places) :=
  ⟨[], by kernel_rfl⟩

set_option maxRecDepth 100000 in
theorem filmKnown_lifted (os : Os) (started : os.Started) (H : Type) (enc : TypeId × Value → H) (F : Stop.Interp) :
    ReturnsInHanded {} Tryz.checked os 3 .any ((OpenSpec.ofChange Rows.filmKnownSpec).preRow enc Tryz.prog Tryz.f3 Rows.filmKnownRow.domain false Rows.filmKnownRow.laid) (((OpenSpec.ofChange Rows.filmKnownSpec).at F).post enc Tryz.prog Tryz.f3 false true false false) := by
  obtain ⟨places, hx⟩ := filmKnown_reads os enc
  refine returnsInHanded_of_row (C := Tryz.checked) (s := OpenSpec.ofChange Rows.filmKnownSpec) filmKnownOwn started (by kernel_rfl) Tryz.func3
    (witness_row_at (enc := enc) (C := Tryz.checked) false (filmKnownWorld os) #[] rfl (by kernel_rfl) (by kernel_rfl) (by kernel_rfl)
      (OpenSpec.preRow_of_cond 8 hx (by kernel_rfl) (fun k hk => by cases hk) (by kernel_rfl) (filmKnown_met os))) ?_
  intro W base args ds gs before _ hW _ _ _ hL _ _
  have hW' := hW
  obtain ⟨p, q, hA0, hV, rfl, _, _⟩ := hW
  have hA : DataW.TrodAll enc Tryz.prog W 0 (fun _ => true) true Tryz.f3.params.toList args.toList ds p := hA0
  rw [Tryz.params3] at hA
  obtain ⟨rfl, rfl, rfl⟩ := trodAll_none hA
  obtain ⟨rfl, rfl⟩ := trodVars_none hV
  simp only [List.append_nil] at hW'
  refine (filmKnown_walk W hL).mono fun e W' ⟨he, hb⟩ => ?_
  subst he
  exact ⟨_, rfl, post_of_below (pa := []) (pv := []) hW' (fun _ _ _ => (trodAll_cons_mk (shut_bool Tryz.underlying4 _) trodAll_mk0)) (fun _ _ => rfl) (fun _ _ => rfl) rfl
    hb (ok_one (by kernel_rfl) rfl (okWide_bool_mk Tryz.underlying4 _))⟩

theorem filmKnown_said : Rows.FilmKnownSaid :=
  OpenClaim.holds_of_cond 3 Tryz.f3 rfl rfl rfl rfl rfl rfl rfl ⟨rfl, rfl, rfl, rfl, rfl⟩ rfl rfl rfl rfl rfl (by kernel_rfl) Tryz.func3 (by kernel_rfl)
    (of_decide_eq_true (by kernel_rfl)) (by unfold Func.isWrapper; first | (rw [if_pos (by decide +kernel)]; kernel_rfl) | (rw [if_neg (by decide +kernel)]; exact ⟨rfl, rfl⟩))
    (fun os started H enc _ F => by rw [OpenClaim.pre_eq_preRow]; exact filmKnown_lifted os started H enc F)

/-- What the card asks. -/
theorem filmKnown_plain (f : FuncId) (fn : Func) (hf : Tryz.pinned.checked.prog.funcNamed Rows.filmKnownRow.func = some f) (hfn : Tryz.pinned.checked.prog.funcs[f]? = some fn) :
    true = Tryz.pinned.checked.prog.looks [] ∧ ∀ (j : Nat) t, fn.params[j]? = some t → Tryz.pinned.checked.prog.wantsStandIn t = false := by
  obtain rfl : f = 3 := Option.some.inj ((show Tryz.prog.funcNamed Rows.filmKnownRow.func = some 3 by kernel_rfl).symm.trans hf) |>.symm
  obtain rfl : fn = Tryz.f3 := (Option.some.inj (Tryz.func3.symm.trans hfn)).symm
  refine ⟨by kernel_rfl, fun j t ht => ?_⟩
  rw [Tryz.params3] at ht
  exact absurd ht (by simp)

/-- The statement. -/
theorem filmKnown_card : Rows.FilmKnownCardSaid :=
  Claim7.holds_tied_plain_at .later [] _ _ _ _ filmKnown_said (fun _ h => by cases h) (by kernel_rfl) (fun _ h => by cases h) filmKnown_row_tie rfl ⟨rfl, rfl⟩ (by kernel_rfl) rfl filmKnown_plain (by kernel_rfl)
end Go.Proofs.YtbbnkadjmioalaaGreatDoor
