/-
  PROVED: 'LensKnown' returns true, whatever memory it is called in (the row's package-level variables as the program's text lays them), and leaves all that lay there as it was; and the row's card. (It takes no argument.) No condition of ours.
  How: the program's code is evaluated, by Lean's kernel, in an evaluator that is proved sound for whatever memory (YtfihdolpljhhlaaGreatDoorLeEvA .. EvE, 'exFT_ok'). The longer calls are evaluated by themselves.
-/
import Derived.Test.YtfihdolpljhhlaaGreatDoorLeRun
import Derived.Test.YtfihdolpljhhlaaGreatDoorRows
import Derived.Test.YtfihdolpljhhlaaGreatDoorCards
import Derived.Test.YtfihdolpljhhlaaGreatDoorTie
namespace Go.Proofs.YtfihdolpljhhlaaGreatDoor
open Go.ChangeShapes Go.WideShapes Go.ChangeAt Go.RowKit Go.Ev

theorem lensKnownOwn : ownKnob Tryz.prog.godebug = none := by kernel_rfl

/-- The variables that are read, as they lie at the call. -/
theorem lensKnown_glob {w : World} (hL : laidMetH Tryz.prog Rows.lensKnownRow.laid w) : GlobOk (fun k => if k < w.heap.size then 64 else 0) w := by
  have hL' : laidMet Tryz.prog Rows.lensKnownRow.laid w := hL
  obtain ⟨ps, hv, _⟩ := hL'
  obtain ⟨t0, fr0, b0⟩ := texts_of_laid (P := Tryz.prog) (W := w) ⟨ps, hv⟩ (zs := [[99, 111, 110, 105, 99], [97, 52], [97, 54]]) (.tail _ (.tail _ (.tail _ (.tail _ (.tail _ (.tail _ (.head _))))))) (g := 0) (t := 116) (by kernel_rfl) (by kernel_rfl) Tryz.underlying116 Tryz.underlying9 (by kernel_rfl) (by kernel_rfl)
  obtain ⟨t1, fr1, b1⟩ := ints_of_laid (P := Tryz.prog) (W := w) ⟨ps, hv⟩ (k := .u64) (zs := Lib.pow10Tab) (.tail _ (.tail _ (.head _))) (g := 4) (t := 198) (by kernel_rfl) (by kernel_rfl) Tryz.underlying198 Tryz.underlying170 (by kernel_rfl) (by kernel_rfl)
  refine globOk_of fun x cs hx => ?_
  unfold glTab at hx
  rw [lk_cons] at hx
  split at hx
  · rename_i e
    have := Option.some.inj hx
    subst this; subst e
    exact ⟨_, t0, fr0, b0, by decide, rfl, by decide, by decide⟩
  rw [lk_cons] at hx
  split at hx
  · rename_i e
    have := Option.some.inj hx
    subst this; subst e
    exact ⟨_, t1, fr1, b1, by decide, rfl, by decide, by decide⟩
  exact absurd hx (by simp [lk])

theorem lensKnown_walk (w : World) (hL : laidMetH Tryz.prog Rows.lensKnownRow.laid w) : Calls Tryz.prog 5 #[] w fun e w' => e = .returned (.bool true) ∧ Below w.heap.size w w' :=
  closed_of Tryz.call5 ((exFT_ok evEnv_ok lensKnown_tab83 1000 60).1 5 [] _ lensKnown_run) w (fun k hk => if_neg (by omega)) (lensKnown_glob hL)

/-- A world for the witness: the settled one, the listed variables holding what their initialisers lay. -/
def lensKnownLay (cs : Array Value) : Obj → Obj
  | .cells _ t frozen => .cells cs t frozen
  | o => o
noncomputable def lensKnownLow : Nat := (World.holding Tryz.prog default ⟨#[], #[], []⟩).heap.size
noncomputable def lensKnownWorld (os : Os) : World :=
  let w0 := World.holding Tryz.prog os ⟨#[.cells #[.string ⟨#[118, 97, 108, 117, 101, 32, 111, 117, 116, 32, 111, 102, 32, 114, 97, 110, 103, 101]⟩] 206, .cells #[.string ⟨#[105, 110, 118, 97, 108, 105, 100, 32, 115, 121, 110, 116, 97, 120]⟩] 206], #[], []⟩
  { w0 with heap := ((((((((w0.heap.modify 7 (lensKnownLay #[.int .u8 0, .int .u8 1, .int .u8 28, .int .u8 2, .int .u8 29, .int .u8 14, .int .u8 24, .int .u8 3, .int .u8 30, .int .u8 22, .int .u8 20, .int .u8 15, .int .u8 25, .int .u8 17, .int .u8 4, .int .u8 8, .int .u8 31, .int .u8 27, .int .u8 13, .int .u8 23, .int .u8 21, .int .u8 19, .int .u8 16, .int .u8 7, .int .u8 26, .int .u8 12, .int .u8 18, .int .u8 6, .int .u8 11, .int .u8 5, .int .u8 10, .int .u8 9])).modify 8 (lensKnownLay #[.int .u8 0, .int .u8 1, .int .u8 56, .int .u8 2, .int .u8 57, .int .u8 49, .int .u8 28, .int .u8 3, .int .u8 61, .int .u8 58, .int .u8 42, .int .u8 50, .int .u8 38, .int .u8 29, .int .u8 17, .int .u8 4, .int .u8 62, .int .u8 47, .int .u8 59, .int .u8 36, .int .u8 45, .int .u8 43, .int .u8 51, .int .u8 22, .int .u8 53, .int .u8 39, .int .u8 33, .int .u8 30, .int .u8 24, .int .u8 18, .int .u8 12, .int .u8 5, .int .u8 63, .int .u8 55, .int .u8 48, .int .u8 27, .int .u8 60, .int .u8 41, .int .u8 37, .int .u8 16, .int .u8 46, .int .u8 35, .int .u8 44, .int .u8 21, .int .u8 52, .int .u8 32, .int .u8 23, .int .u8 11, .int .u8 54, .int .u8 26, .int .u8 40, .int .u8 15, .int .u8 34, .int .u8 20, .int .u8 31, .int .u8 10, .int .u8 25, .int .u8 14, .int .u8 19, .int .u8 9, .int .u8 13, .int .u8 8, .int .u8 7, .int .u8 6])).modify 4 (lensKnownLay #[.int .u64 1, .int .u64 10, .int .u64 100, .int .u64 1000, .int .u64 10000, .int .u64 100000, .int .u64 1000000, .int .u64 10000000, .int .u64 100000000, .int .u64 1000000000, .int .u64 10000000000, .int .u64 100000000000, .int .u64 1000000000000, .int .u64 10000000000000, .int .u64 100000000000000, .int .u64 1000000000000000, .int .u64 10000000000000000, .int .u64 100000000000000000, .int .u64 1000000000000000000, .int .u64 10000000000000000000])).modify 6 (lensKnownLay #[.int .u8 128, .int .u8 191, .int .u8 160, .int .u8 191, .int .u8 128, .int .u8 159, .int .u8 144, .int .u8 191, .int .u8 128, .int .u8 143, .int .u8 0, .int .u8 0, .int .u8 0, .int .u8 0, .int .u8 0, .int .u8 0, .int .u8 0, .int .u8 0, .int .u8 0, .int .u8 0, .int .u8 0, .int .u8 0, .int .u8 0, .int .u8 0, .int .u8 0, .int .u8 0, .int .u8 0, .int .u8 0, .int .u8 0, .int .u8 0, .int .u8 0, .int .u8 0])).modify 3 (lensKnownLay #[.iface 204 (.pointer (some ⟨lensKnownLow + 0, 0, none⟩))])).modify 2 (lensKnownLay #[.iface 204 (.pointer (some ⟨lensKnownLow + 1, 0, none⟩))])).modify 0 (lensKnownLay #[.string ⟨#[99, 111, 110, 105, 99]⟩, .string ⟨#[97, 52]⟩, .string ⟨#[97, 54]⟩])).modify 5 (lensKnownLay (Pinned.utf8FirstZ.map fun (n : Nat) => Value.int .u8 n).toArray)) }
theorem lensKnown_met (os : Os) : laidMet Tryz.prog Rows.lensKnownRow.laid ((lensKnownWorld os).forCall (fun _ _ => 0) ⟨#[], #[], []⟩).memory :=
  laidMet_of_run' 8 (by kernel_rfl) (by kernel_rfl)
theorem lensKnown_reads (os : Os) {H : Type} (enc : TypeId × Value → H) : ∃ places, DataW.whole enc Tryz.prog ((lensKnownWorld os).forCall (fun _ _ => 0) ⟨#[], #[], []⟩).memory Tryz.f5.params.toList Rows.lensKnownSpec.vars false (#[] : Array Value).toList 8 = some ([], [], places) :=
  ⟨[], by kernel_rfl⟩

set_option maxRecDepth 100000 in
theorem lensKnown_lifted (os : Os) (started : os.Started) (H : Type) (enc : TypeId × Value → H) (F : Stop.Interp) :
    ReturnsInHanded {} Tryz.checked os 5 .any ((OpenSpec.ofChange Rows.lensKnownSpec).preRow enc Tryz.prog Tryz.f5 Rows.lensKnownRow.domain false Rows.lensKnownRow.laid) (((OpenSpec.ofChange Rows.lensKnownSpec).at F).post enc Tryz.prog Tryz.f5 false true false false) := by
  obtain ⟨places, hx⟩ := lensKnown_reads os enc
  refine returnsInHanded_of_row (C := Tryz.checked) (s := OpenSpec.ofChange Rows.lensKnownSpec) lensKnownOwn started (by kernel_rfl) Tryz.func5
    (witness_row_at (enc := enc) (C := Tryz.checked) false (lensKnownWorld os) #[] rfl (by kernel_rfl) (by kernel_rfl) (by kernel_rfl)
      (OpenSpec.preRow_of_cond 8 hx (by kernel_rfl) (fun k hk => by cases hk) (by kernel_rfl) (lensKnown_met os))) ?_
  intro W base args ds gs before _ hW _ _ _ hL _ _
  have hW' := hW
  obtain ⟨p, q, hA0, hV, rfl, _, _⟩ := hW
  have hA : DataW.TrodAll enc Tryz.prog W 0 (fun _ => true) true Tryz.f5.params.toList args.toList ds p := hA0
  rw [Tryz.params5] at hA
  obtain ⟨rfl, rfl, rfl⟩ := trodAll_none hA
  obtain ⟨rfl, rfl⟩ := trodVars_none hV
  simp only [List.append_nil] at hW'
  refine (lensKnown_walk W hL).mono fun e W' ⟨he, hb⟩ => ?_
  subst he
  exact ⟨_, rfl, post_of_below (pa := []) (pv := []) hW' (fun _ _ _ => (trodAll_cons_mk (shut_bool Tryz.underlying4 _) trodAll_mk0)) (fun _ _ => rfl) (fun _ _ => rfl) rfl
    hb (ok_one (by kernel_rfl) rfl (okWide_bool_mk Tryz.underlying4 _))⟩

theorem lensKnown_said : Rows.LensKnownSaid :=
  OpenClaim.holds_of_cond 5 Tryz.f5 rfl rfl rfl rfl rfl rfl rfl ⟨rfl, rfl, rfl, rfl, rfl⟩ rfl rfl rfl rfl rfl (by kernel_rfl) Tryz.func5 (by kernel_rfl)
    (of_decide_eq_true (by kernel_rfl)) (by unfold Func.isWrapper; first | (rw [if_pos (by decide +kernel)]; kernel_rfl) | (rw [if_neg (by decide +kernel)]; exact ⟨rfl, rfl⟩))
    (fun os started H enc _ F => by rw [OpenClaim.pre_eq_preRow]; exact lensKnown_lifted os started H enc F)

/-- What the card asks. -/
theorem lensKnown_plain (f : FuncId) (fn : Func) (hf : Tryz.pinned.checked.prog.funcNamed Rows.lensKnownRow.func = some f) (hfn : Tryz.pinned.checked.prog.funcs[f]? = some fn) :
    true = Tryz.pinned.checked.prog.looks [] ∧ ∀ (j : Nat) t, fn.params[j]? = some t → Tryz.pinned.checked.prog.wantsStandIn t = false := by
  obtain rfl : f = 5 := Option.some.inj ((show Tryz.prog.funcNamed Rows.lensKnownRow.func = some 5 by kernel_rfl).symm.trans hf) |>.symm
  obtain rfl : fn = Tryz.f5 := (Option.some.inj (Tryz.func5.symm.trans hfn)).symm
  refine ⟨by kernel_rfl, fun j t ht => ?_⟩
  rw [Tryz.params5] at ht
  exact absurd ht (by simp)

/-- The statement. -/
theorem lensKnown_card : Rows.LensKnownCardSaid :=
  Claim7.holds_tied_plain_at .later [] _ _ _ _ lensKnown_said (fun _ h => by cases h) (by kernel_rfl) (fun _ h => by cases h) lensKnown_row_tie rfl ⟨rfl, rfl⟩ (by kernel_rfl) rfl lensKnown_plain (by kernel_rfl)
end Go.Proofs.YtfihdolpljhhlaaGreatDoor
