import Derived.Test.YtoldgmhepeficaaStF
import Derived.Test.YtoldgmhepeficaaRows
namespace Go.Proofs.Ytoldgmhepeficaa
open Go.ChangeShapes Go.WideShapes Go.ChangeAt Go.RowKit Go.Ev Go.Men
theorem Try.own : ownKnob Try.prog.godebug = none := by kernel_rfl
theorem tells (l : List I) (x : RawRay) (raw wide : A6) (odd : Bool) (bend bn : Int) (h : l.length ≤ 140737488355328) : Con Try.prog 3 [.lst (l.map I.enc), .agg (RawRay.enc x), .agg (A6.enc raw), .agg (A6.enc wide), .v (.bool odd), .v (.int .i64 bend), .v (.int .i64 bn)] (.v (.bool true)) := by
  by_cases h1 : pick bend 9 = 8 ∨ sceneL l = []
  · exact con_tellsA l x raw wide odd bend bn h h1
  · exact con_tellsB l x raw wide odd bend bn h ⟨fun e => h1 (.inl e), fun e => h1 (.inr e)⟩
theorem listI {rows : List (List PV)} (h : ∀ x ∈ rows, RowX [.int .i64] x) : ∃ l : List I, rows = l.map I.enc := by
  induction rows with
  | nil => exact ⟨[], rfl⟩
  | cons r rows ih =>
    obtain ⟨l, rfl⟩ := ih fun x hx => h x (List.mem_cons_of_mem _ hx)
    obtain ⟨n, r', rfl, _, h1⟩ := rowX_int (h r List.mem_cons_self)
    cases rowX_nil h1
    exact ⟨⟨n⟩ :: l, rfl⟩
theorem rowA6 {xs : List PV} (h : RowX [.int .i64, .int .i64, .int .i64, .int .i64, .int .i64, .int .i64] xs) : ∃ a : A6, xs = A6.enc a := by
  obtain ⟨n1, r1, rfl, _, h⟩ := rowX_int h
  obtain ⟨n2, r2, rfl, _, h⟩ := rowX_int h
  obtain ⟨n3, r3, rfl, _, h⟩ := rowX_int h
  obtain ⟨n4, r4, rfl, _, h⟩ := rowX_int h
  obtain ⟨n5, r5, rfl, _, h⟩ := rowX_int h
  obtain ⟨n6, r6, rfl, _, h⟩ := rowX_int h
  cases rowX_nil h
  exact ⟨⟨n1, n2, n3, n4, n5, n6⟩, rfl⟩
theorem rowRay {xs : List PV} (h : RowX [.int .i64, .int .i64, .int .i64, .int .i64, .int .i64, .int .i64] xs) : ∃ a : RawRay, xs = RawRay.enc a := by
  obtain ⟨n1, r1, rfl, _, h⟩ := rowX_int h
  obtain ⟨n2, r2, rfl, _, h⟩ := rowX_int h
  obtain ⟨n3, r3, rfl, _, h⟩ := rowX_int h
  obtain ⟨n4, r4, rfl, _, h⟩ := rowX_int h
  obtain ⟨n5, r5, rfl, _, h⟩ := rowX_int h
  obtain ⟨n6, r6, rfl, _, h⟩ := rowX_int h
  cases rowX_nil h
  exact ⟨⟨n1, n2, n3, n4, n5, n6⟩, rfl⟩
set_option maxRecDepth 100000 in
theorem tells_lifted (os : Os) (started : os.Started) (H : Type) (enc : TypeId × Value → H) :
    ReturnsInHanded {} Try.checked os 3 .any (Rows.sceneTellsSpec.pre6 enc Try.prog Try.f3 Rows.sceneTellsRow.domain false) (Rows.sceneTellsSpec.post enc Try.prog Try.f3 false true false false) := by
  refine law_lifted (C := Try.checked) (tb := 4) Try.own started (by kernel_rfl) Try.func3
    (ChangeSpec.witness6 (enc := enc) (C := Try.checked) false ⟨#[], #[.slice none 0 0, .agg #[.int .i64 0, .int .i64 0, .int .i64 0, .int .i64 0, .int .i64 0, .int .i64 0], .agg #[.int .i64 0, .int .i64 0, .int .i64 0, .int .i64 0, .int .i64 0, .int .i64 0], .agg #[.int .i64 0, .int .i64 0, .int .i64 0, .int .i64 0, .int .i64 0, .int .i64 0], .bool false, .int .i64 0, .int .i64 0], []⟩ 8 (by kernel_rfl) (by kernel_rfl) (by kernel_rfl) (by kernel_rfl))
    Try.call3 (by kernel_rfl) (by kernel_rfl) rfl (by kernel_rfl) Try.underlying4 ?_ rfl ?_
  · intro ds hds
    rw [Try.params3] at hds
    match ds, hds with
    | [d1, d2, d3, d4, d5, d6, d7], _ => exact ⟨rfl, rfl, rfl⟩
  · intro W b0 args ds p hval hA hwt
    rw [Try.params3] at hval hA hwt ⊢
    obtain ⟨v1, _, d1, _, _, _, rfl, rfl, _, h1, hA⟩ := trodAll_cons hA
    obtain ⟨v2, _, d2, _, _, _, rfl, rfl, _, h2, hA⟩ := trodAll_cons hA
    obtain ⟨v3, _, d3, _, _, _, rfl, rfl, _, h3, hA⟩ := trodAll_cons hA
    obtain ⟨v4, _, d4, _, _, _, rfl, rfl, _, h4, hA⟩ := trodAll_cons hA
    obtain ⟨v5, _, d5, _, _, _, rfl, rfl, _, h5, hA⟩ := trodAll_cons hA
    obtain ⟨v6, _, d6, _, _, _, rfl, rfl, _, h6, hA⟩ := trodAll_cons hA
    obtain ⟨v7, _, d7, _, _, _, rfl, rfl, _, h7, hA⟩ := trodAll_cons hA
    obtain ⟨rfl, rfl, _⟩ := trodAll_nil hA
    obtain ⟨rows, N1, r1, e1, w1⟩ := arg_slice (ks := [.int .i64]) Try.underlying22 (by kernel_rfl) (hval 0 _ _ rfl rfl) h1
    obtain ⟨l, rfl⟩ := listI r1
    obtain ⟨x2, r2, e2⟩ := arg_flat (ks := [.int .i64, .int .i64, .int .i64, .int .i64, .int .i64, .int .i64]) (by kernel_rfl) (by kernel_rfl) (hval 1 _ _ rfl rfl) h2
    obtain ⟨x, rfl⟩ := rowRay r2
    obtain ⟨x3, r3, e3⟩ := arg_flat (ks := [.int .i64, .int .i64, .int .i64, .int .i64, .int .i64, .int .i64]) (by kernel_rfl) (by kernel_rfl) (hval 2 _ _ rfl rfl) h3
    obtain ⟨raw, rfl⟩ := rowA6 r3
    obtain ⟨x4, r4, e4⟩ := arg_flat (ks := [.int .i64, .int .i64, .int .i64, .int .i64, .int .i64, .int .i64]) (by kernel_rfl) (by kernel_rfl) (hval 3 _ _ rfl rfl) h4
    obtain ⟨wide, rfl⟩ := rowA6 r4
    obtain ⟨odd, rfl, _, _⟩ := open_bool Try.underlying4 (hval 4 _ _ rfl rfl) h5
    obtain ⟨bend, rfl, _, _, _⟩ := open_int Try.underlying3 (hval 5 _ _ rfl rfl) h6
    obtain ⟨bn, rfl, _, _, _⟩ := open_int Try.underlying3 (hval 6 _ _ rfl rfl) h7
    refine ⟨_, argsAre_cons (N := N1) e1 <| argsAre_cons (N := 0) (fun hw _ => e2 hw) <| argsAre_cons (N := 0) (fun hw _ => e3 hw) <| argsAre_cons (N := 0) (fun hw _ => e4 hw) <| argsAre_cons (N := 0) (fun hw _ => .v _ rfl) <| argsAre_cons (N := 0) (fun hw _ => .v _ rfl) <| argsAre_cons (N := 0) (fun hw _ => .v _ rfl) <| argsAre_nil, tells l x raw wide odd bend bn ?_⟩
    have hb := w1 _ (weights_all hwt).1
    have hby : Try.prog.bytesOf 3 = 8 := by kernel_rfl
    rw [hby, List.length_map] at hb
    have : reachBytes = 140737488351232 := rfl
    omega
theorem sceneTells_holds : Rows.SceneTellsSaid :=
  OpenClaim.holds_of_wide 3 Try.f3 rfl rfl rfl rfl rfl rfl rfl ⟨rfl, rfl, rfl, rfl, rfl⟩ rfl rfl rfl rfl rfl (by kernel_rfl) Try.func3 (by kernel_rfl)
    (of_decide_eq_true (by kernel_rfl)) (by unfold Func.isWrapper; first | (rw [if_pos (by decide +kernel)]; kernel_rfl) | (rw [if_neg (by decide +kernel)]; exact ⟨rfl, rfl⟩))
    (fun os started H enc _ => tells_lifted os started H enc)
#print axioms sceneTells_holds
end Go.Proofs.Ytoldgmhepeficaa
