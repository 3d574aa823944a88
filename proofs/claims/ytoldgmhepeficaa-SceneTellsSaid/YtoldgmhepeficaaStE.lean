/- A logic of frames, its evaluator for values known in part, and what the functions that the law reaches are shown to do: written for this claim. Part E. -/
import Derived.Test.YtoldgmhepeficaaStD
import Derived.KernelRfl
set_option linter.all false
namespace Go.Men
open Go.Ev Go.Proofs Go.Proofs.Ytoldgmhepeficaa
theorem sx_rs1 (n : Int) (Q : PV → Prop) : sxF evEnv (tabC []) noCP noCI noG [] 2000 Try.f44 [.v (.int .i64 n)] Q = (bif decide (n < (0 : Int)) then Q (.v (.bool (true))) else Q (.v (.bool (decide (n > (255 : Int)))))) := by kernel_rfl
theorem cs_rs1 : CSOk Try.prog (tabC []) := tabC_nil
theorem con_rs1 (n : Int)  : Con Try.prog 44 [.v (.int .i64 n)] (.v (.bool (!glowOk n))) := by
  refine con_fin evEnv_ok cs_rs1 noCP_ok noCI_ok owOk_no (n := 2000) (LS := []) (fn := Try.f44) rfl loopsOk_nil ?_
  rw [sx_rs1]
  refine condI (fun h0 => ?_) (fun h0 => ?_)
  · simp only [decide_eq_true_eq] at h0
    have : glowOk n = false := by simp [glowOk]; omega
    rw [this]; rfl
  · simp only [decide_eq_false_iff_not] at h0
    have e : decide (n > 255) = !decide (n ≤ 255) := by rw [← decide_not]; congr 1; simp [Int.not_le]
    have e0 : decide (0 ≤ n) = true := by simp; omega
    simp only [nz, nzA, glowOk, e, e0, Bool.true_and]
theorem eok_rs1 : EntOk Try.prog 44 e_rs1 := by
  intro args r ps h hp
  unfold e_rs1 at h
  split at h
  · rename_i p1
    cases (Option.some.inj h)
    exact con_rs1 p1 
  · exact absurd h (by simp)
theorem eok44 : EntOk Try.prog 44 e44 := eok_rs1
theorem sx_idxI_3 (i : Int) (l : List I) (n : Int) (Q : Ex → Option St → Prop) : sxH evEnv (tabC [(44, e44)]) noCP noCI noG [] 2000 (bodyOf Try.f68 0) k_idxI_3 ke_idxI_3 kr_idxI_3 (H_idxI_3 i l n) Q = (bif decide (i < n) then (((0 : Int) ≤ i ∧ (List.map I.enc l)[i.toNat]? = some (etaL [PV.v (Value.int IntKind.i64 (0 : Int))] ((List.map I.enc l).getD i.toNat []))) ∧ (bif !glowOk (intOf (((List.map I.enc l).getD i.toNat []).headD PV.nil)) then Q (Ex.ret) (some ⟨19, [(4, .p (.v (.int IntKind.i64 (i))))], [], [], [], []⟩) else Q (Ex.normal) (some ⟨19, [(8, .p (.v (.int IntKind.i64 (IntKind.i64.wrap (i + (1 : Int)))))), (0, .p (.lst (List.map I.enc l))), (1, .p (.fn (44 : FuncId) [])), (7, .p (.v (.int IntKind.i64 (n))))], [], [], [], []⟩))) else Q (Ex.exit (0 : Nat)) (some ⟨19, [], [], [], [], []⟩)) := by kernel_rfl
theorem cs_idxI : CSOk Try.prog (tabC [(44, e44)]) := tabC_cons eok44 <| tabC_nil
theorem lp_idxI_3 : LsOk Try.prog (bodyOf Try.f68 0) S_idxI_3 := by
  refine lsOkH_of evEnv_ok.Γ (loopH_rule evEnv_ok cs_idxI noCP_ok noCI_ok owOk_no (LS := []) (lsA_get (l := []) (by kernel_rfl) (lsA_nil)) (n := 2000) (X := Int × List I × Int) (fun x => H_idxI_3 x.1 x.2.1 x.2.2) (fun x => I_idxI_3 x.1 x.2.1 x.2.2) (fun x e s => ((c_idxI_3 x.1 x.2.1 x.2.2 = true ∧ e = .ret ∧ s = R_idxI_3 x.1 x.2.1 x.2.2) ∨ (c_idxI_3 x.1 x.2.1 x.2.2 = false ∧ e = .exit 0 ∧ s = X_idxI_3 x.1 x.2.1 x.2.2))) (fun x => (x.2.2 - x.1).toNat) k_idxI_3 ke_idxI_3 kr_idxI_3 ?_) k_idxI_3 ?_
  · intro x hx
    obtain ⟨i, l, n⟩ := x
    simp only [I_idxI_3] at hx
    show sxH _ _ _ _ _ _ _ _ _ _ _ (H_idxI_3 i l n) _
    rw [sx_idxI_3]
    refine condI (fun h0 => ⟨?r0, condI (fun h1 => .inr ⟨by simp, _, rfl, ?_⟩) (fun h1 => .inl ⟨rfl, (IntKind.i64.wrap (i + (1 : Int)), l, n), by first | rfl | (simp only [H_idxI_3, List.map_append, List.map_cons, List.map_nil]; rfl), ?_, ?_, ?_⟩)⟩) (fun h0 => .inr ⟨by simp, _, rfl, ?_⟩)
    case r0 => first | rfl | (simp only [dShape, dI, dIv]; omega) | (simp [decL, chunk]; done) | (simp only [dShape, dI, dIv]; done) | (exact idx_ok (fun _ => rfl) (by omega) (by omega)) | (simp only [decide_eq_true_eq, List.length_map] at *; exact idx_ok (fun _ => rfl) (by omega) (by omega)) | assumption | trivial | (simp_all; done) | omega
    all_goals (try obtain ⟨a1, a2, a3, a4⟩ := hx)
    all_goals (try simp only [decide_eq_true_eq, decide_eq_false_iff_not] at h0)
    · obtain ⟨x, r, e1, e2, e3⟩ := get_at (l := l) a1 (by omega)
      rw [map_at e3] at h1
      refine .inl ⟨?_, rfl, ?_⟩
      · simp only [c_idxI_3, e1, List.any_cons]
        rw [show (!glowOk x.n) = true from h1]; rfl
      · simp only [R_idxI_3, e1, idxF]
        rw [show (!glowOk x.n) = true from h1]; rfl
    · rw [wrap_fit (by constructor <;> omega)]; simp only [I_idxI_3]; omega
    · show (n - IntKind.i64.wrap (i + 1)).toNat < (n - i).toNat
      rw [wrap_fit (by constructor <;> omega)]; omega
    · obtain ⟨x, r, e1, e2, e3⟩ := get_at (l := l) a1 (by omega)
      rw [map_at e3] at h1
      have hp : (!glowOk x.n) = false := h1
      rw [wrap_fit (by constructor <;> omega)]
      simp only [c_idxI_3, R_idxI_3, X_idxI_3, e1, e2, List.any_cons, hp, Bool.false_or, idxF, cond_false]
      exact fun e s h => h
    · refine .inr ⟨?_, rfl, rfl⟩
      simp only [c_idxI_3]
      rw [List.drop_eq_nil_of_le (by omega)]; rfl
  · intro σ K hS
    unfold S_idxI_3 at hS
    split at hS
    · rename_i p1 p2 p3 hk
      obtain ⟨hi, hK⟩ := alls_get hS
      refine ⟨(p1, (decL I.dec p2), p3), by
        simp only [H_idxI_3]
        rw [← (show p2 = (decL I.dec p2).map I.enc from hi _ (by simp))]
        exact hk, hi _ (by simp), fun e s hf => ?_⟩
      rcases hf with ⟨hc, rfl, rfl⟩ | ⟨hc, hf⟩
      · rw [hc] at hK; exact hK
      · rw [hc] at hK; obtain ⟨rfl, rfl⟩ := hf; exact hK
    · exact hS.elim
theorem lok_idxI : LoopsOk Try.prog [(3, S_idxI_3)] Try.f68 := loopsOk_A (l := [bodyOf Try.f68 0]) (by kernel_rfl) (lsA_cons (i := 3) (by kernel_rfl) rfl lp_idxI_3 (lsA_nil))
theorem sx_idxI (l : List I) (Q : PV → Prop) : sxF evEnv (tabC [(44, e44)]) noCP noCI noG [(3, S_idxI_3)] 2000 Try.f68 [.lst (l.map I.enc), .fn 44 []] Q = ((List.map I.enc l = List.map I.enc (decL I.dec (List.map I.enc l))) ∧ ((I_idxI_3 (0 : Int) (decL I.dec (List.map I.enc l)) ↑(List.map I.enc l).length) ∧ (bif c_idxI_3 (0 : Int) (decL I.dec (List.map I.enc l)) ↑(List.map I.enc l).length then Q (.v (.int IntKind.i64 (idxF (fun x => !glowOk x.n) (List.drop (0 : Nat) (decL I.dec (List.map I.enc l))) (0 : Int)))) else Q (.v (.int IntKind.i64 ((-1 : Int))))))) := by kernel_rfl
theorem con_idxI (l : List I) (hp0 : l.length ≤ 140737488355328) : Con Try.prog 68 [.lst (l.map I.enc), .fn 44 []] (.v (.int .i64 (idxF (fun x => !glowOk x.n) l 0))) := by
  refine con_fin evEnv_ok cs_idxI noCP_ok noCI_ok owOk_no (n := 2000) (LS := [(3, S_idxI_3)]) (fn := Try.f68) rfl lok_idxI ?_
  rw [sx_idxI]
  refine ⟨?r0, ⟨?_, condI (fun h0 => ?_) (fun h0 => ?_)⟩⟩
  case r0 => first | rfl | (simp only [dShape, dI, dIv]; omega) | (simp [decL, chunk]; done) | (simp only [dShape, dI, dIv]; done) | (exact idx_ok (fun _ => rfl) (by omega) (by omega)) | (simp only [decide_eq_true_eq, List.length_map] at *; exact idx_ok (fun _ => rfl) (by omega) (by omega)) | assumption | trivial | (simp_all; done) | omega
  all_goals simp only [dI] at *
  · exact ⟨by omega, by omega, by simp, by simp; omega⟩
  · simp [nz, nzA]
  · rw [idxF_no (by simpa [c_idxI_3] using h0)]; rfl
theorem eok_idxI : EntOk Try.prog 68 e_idxI := by
  intro args r ps h hp
  unfold e_idxI at h
  split at h
  · rename_i p1
    cases (Option.some.inj h)
    exact by
      have hq := con_idxI (decL I.dec p1) (hp _ (by simp))
      have hc := hp _ (List.mem_cons_self ..)
      rw [← hc] at hq
      exact hq
  · exact absurd h (by simp)
theorem eok68 : EntOk Try.prog 68 e68 := eok_idxI
theorem sx_conI (l : List I) (Q : PV → Prop) : sxF evEnv (tabC [(68, e68), (44, e44)]) noCP noCI noG [] 2000 Try.f43 [.lst (l.map I.enc), .fn 44 []] Q = ((List.map I.enc l = List.map I.enc (decL I.dec (List.map I.enc l))) ∧ (((decL I.dec (List.map I.enc l)).length ≤ (140737488355328 : Nat)) ∧ Q (.v (.bool (decide (idxF (fun x => !glowOk x.n) (decL I.dec (List.map I.enc l)) (0 : Int) ≥ (0 : Int))))))) := by kernel_rfl
theorem cs_conI : CSOk Try.prog (tabC [(68, e68), (44, e44)]) := tabC_cons eok68 <| tabC_cons eok44 <| tabC_nil
theorem con_conI (l : List I) (hp0 : l.length ≤ 140737488355328) : Con Try.prog 43 [.lst (l.map I.enc), .fn 44 []] (.v (.bool (l.any (fun x => !glowOk x.n)))) := by
  refine con_fin evEnv_ok cs_conI noCP_ok noCI_ok owOk_no (n := 2000) (LS := []) (fn := Try.f43) rfl loopsOk_nil ?_
  rw [sx_conI]
  refine ⟨?r1, ⟨?r0, ?_⟩⟩
  case r0 | r1 => first | rfl | (simp only [dShape, dI, dIv]; omega) | (simp [decL, chunk]; done) | (simp only [dShape, dI, dIv]; done) | (exact idx_ok (fun _ => rfl) (by omega) (by omega)) | (simp only [decide_eq_true_eq, List.length_map] at *; exact idx_ok (fun _ => rfl) (by omega) (by omega)) | assumption | trivial | (simp_all; done) | omega
  simp only [dI] at *
  simp only [nz, nzA]
  rw [idxF_ge (by omega)]
theorem eok_conI : EntOk Try.prog 43 e_conI := by
  intro args r ps h hp
  unfold e_conI at h
  split at h
  · rename_i p1
    cases (Option.some.inj h)
    exact by
      have hq := con_conI (decL I.dec p1) (hp _ (by simp))
      have hc := hp _ (List.mem_cons_self ..)
      rw [← hc] at hq
      exact hq
  · exact absurd h (by simp)
theorem eok43 : EntOk Try.prog 43 e43 := eok_conI
theorem sx_rightShape (s : Shape) (Q : PV → Prop) : sxF evEnv (tabC [(43, e43), (44, e44), (45, e45), (46, e46)]) noCP noCI noG [] 2000 Try.f21 [.agg (Shape.enc s)] Q = (([[PV.v (Value.int IntKind.i64 s.glow.a)], [PV.v (Value.int IntKind.i64 s.glow.b)], [PV.v (Value.int IntKind.i64 s.glow.c)]] = List.map I.enc (decL I.dec [[PV.v (Value.int IntKind.i64 s.glow.a)], [PV.v (Value.int IntKind.i64 s.glow.b)], [PV.v (Value.int IntKind.i64 s.glow.c)]])) ∧ (((3 : Nat) ≤ (140737488355328 : Nat)) ∧ (bif (decL I.dec [[PV.v (Value.int IntKind.i64 s.glow.a)], [PV.v (Value.int IntKind.i64 s.glow.b)], [PV.v (Value.int IntKind.i64 s.glow.c)]]).any fun x => !glowOk x.n then Q (.v (.bool (false))) else (bif s.kind == (1 : Int) then (bif decRight s.x then (bif decRight s.y then (bif decRight s.z then (bif decRight s.r then Q (.v (.bool (decide (s.r.c > (0 : Int))))) else Q (.v (.bool (false)))) else Q (.v (.bool (false)))) else Q (.v (.bool (false)))) else Q (.v (.bool (false)))) else (bif s.kind == (2 : Int) then (bif decRight s.z then (bif s.x.c == (0 : Int) && (s.x.scale == (0 : Int) && true) then (bif s.y.c == (0 : Int) && (s.y.scale == (0 : Int) && true) then Q (.v (.bool (s.r.c == (0 : Int) && (s.r.scale == (0 : Int) && true)))) else Q (.v (.bool (false)))) else Q (.v (.bool (false)))) else Q (.v (.bool (false)))) else Q (.v (.bool (false)))))))) := by kernel_rfl
theorem cs_rightShape : CSOk Try.prog (tabC [(43, e43), (44, e44), (45, e45), (46, e46)]) := tabC_cons eok43 <| tabC_cons eok44 <| tabC_cons eok45 <| tabC_cons eok46 <| tabC_nil
theorem con_rightShape (s : Shape)  : Con Try.prog 21 [.agg (Shape.enc s)] (.v (.bool (rightShape s))) := by
  refine con_fin evEnv_ok cs_rightShape noCP_ok noCI_ok owOk_no (n := 2000) (LS := []) (fn := Try.f21) rfl loopsOk_nil ?_
  rw [sx_rightShape]
  refine ⟨?r1, ⟨?r0, condI (fun h0 => ?_) (fun h0 => condI (fun h1 => condI (fun h2 => condI (fun h3 => condI (fun h4 => condI (fun h5 => ?_) (fun h5 => ?_)) (fun h4 => ?_)) (fun h3 => ?_)) (fun h2 => ?_)) (fun h1 => condI (fun h2 => condI (fun h3 => condI (fun h4 => condI (fun h5 => ?_) (fun h5 => ?_)) (fun h4 => ?_)) (fun h3 => ?_)) (fun h2 => ?_)))⟩⟩
  case r0 | r1 => first | rfl | (simp only [dShape, dI, dIv]; omega) | (simp [decL, chunk]; done) | (simp only [dShape, dI, dIv]; done) | (exact idx_ok (fun _ => rfl) (by omega) (by omega)) | (simp only [decide_eq_true_eq, List.length_map] at *; exact idx_ok (fun _ => rfl) (by omega) (by omega)) | assumption | trivial | (simp_all; done) | omega
  all_goals have hg : ((decL I.dec (chunk 1 3 [PV.v (Value.int .i64 s.glow.a), PV.v (Value.int .i64 s.glow.b), PV.v (Value.int .i64 s.glow.c)])).any fun x => !glowOk x.n) = !(glowOk s.glow.a && (glowOk s.glow.b && glowOk s.glow.c)) := by simp [decL, chunk, I.dec, intOf, Bool.not_and]
  · replace h0 : (!(glowOk s.glow.a && (glowOk s.glow.b && glowOk s.glow.c))) = true := by rw [← hg]; exact h0
    simp only [Bool.not_eq_true'] at h0
    simp only [nz, nzA, rightShape, h0, Bool.false_and]
  all_goals replace h0 : (!(glowOk s.glow.a && (glowOk s.glow.b && glowOk s.glow.c))) = false := by rw [← hg]; exact h0
  all_goals simp only [Bool.not_eq_false'] at h0
  all_goals clear hg
  all_goals simp only [nz, nzA, rightShape, zeroD, Bool.and_true, *, Bool.true_and, Bool.false_and, Bool.and_false, cond_true, cond_false] at *
  all_goals first | rfl | (simp_all; done) | simp_all
theorem eok_rightShape : EntOk Try.prog 21 e_rightShape := by
  intro args r ps h hp
  unfold e_rightShape at h
  split at h
  · rename_i p1 p2 p3 p4 p5 p6 p7 p8 p9 p10 p11 p12
    cases (Option.some.inj h)
    exact con_rightShape (⟨p1, ⟨p2, p3⟩, ⟨p4, p5⟩, ⟨p6, p7⟩, ⟨p8, p9⟩, ⟨p10, p11, p12⟩⟩ : Shape) 
  · exact absurd h (by simp)
theorem eok21 : EntOk Try.prog 21 e21 := eok_rightShape
theorem sx_Right1 (s : Shape) (Q : PV → Prop) : sxF evEnv (tabC [(21, e21)]) noCP noCI noG [] 2000 Try.f20 [.agg (Shape.enc s)] Q = Q (.v (.bool (!rightShape s))) := by kernel_rfl
theorem cs_Right1 : CSOk Try.prog (tabC [(21, e21)]) := tabC_cons eok21 <| tabC_nil
theorem con_Right1 (s : Shape)  : Con Try.prog 20 [.agg (Shape.enc s)] (.v (.bool (!rightShape s))) := by
  refine con_fin evEnv_ok cs_Right1 noCP_ok noCI_ok owOk_no (n := 2000) (LS := []) (fn := Try.f20) rfl loopsOk_nil ?_
  rw [sx_Right1]
  refine ?_
  all_goals (first | rfl | (simp_all [nz, nzA, nz1, Iv.enc, V.enc, Ray.enc, Dec.enc, Shape.enc, none', told, Bool.cond_decide]; done) | (simp_all [nz, nzA, nz1, Iv.enc, V.enc, Ray.enc, Dec.enc, Shape.enc, none', told, Bool.cond_decide]; omega) | (simp_all [nz, nzA, nz1, Iv.enc, V.enc, Ray.enc, Dec.enc, Shape.enc, none', told, Bool.cond_decide]; (repeat' split) <;> (first | rfl | (exfalso; omega) | (simp_all; done) | omega)))
theorem eok_Right1 : EntOk Try.prog 20 e_Right1 := by
  intro args r ps h hp
  unfold e_Right1 at h
  split at h
  · rename_i p1 p2 p3 p4 p5 p6 p7 p8 p9 p10 p11 p12
    cases (Option.some.inj h)
    exact con_Right1 (⟨p1, ⟨p2, p3⟩, ⟨p4, p5⟩, ⟨p6, p7⟩, ⟨p8, p9⟩, ⟨p10, p11, p12⟩⟩ : Shape) 
  · exact absurd h (by simp)
theorem eok20 : EntOk Try.prog 20 e20 := eok_Right1
theorem sx_idxS_3 (i : Int) (l : List Shape) (n : Int) (Q : Ex → Option St → Prop) : sxH evEnv (tabC [(20, e20)]) noCP noCI noG [] 2000 (bodyOf Try.f42 0) k_idxS_3 ke_idxS_3 kr_idxS_3 (H_idxS_3 i l n) Q = (bif decide (i < n) then (((0 : Int) ≤ i ∧ (List.map Shape.enc l)[i.toNat]? = some (etaL [PV.v (Value.int IntKind.i64 (0 : Int)), PV.v (Value.int IntKind.i64 (0 : Int)), PV.v (Value.int IntKind.i64 (0 : Int)), PV.v (Value.int IntKind.i64 (0 : Int)), PV.v (Value.int IntKind.i64 (0 : Int)), PV.v (Value.int IntKind.i64 (0 : Int)), PV.v (Value.int IntKind.i64 (0 : Int)), PV.v (Value.int IntKind.i64 (0 : Int)), PV.v (Value.int IntKind.i64 (0 : Int)), PV.v (Value.int IntKind.i64 (0 : Int)), PV.v (Value.int IntKind.i64 (0 : Int)), PV.v (Value.int IntKind.i64 (0 : Int))] ((List.map Shape.enc l).getD i.toNat []))) ∧ (bif !rightShape (Shape.dec ((List.map Shape.enc l).getD i.toNat [])) then Q (Ex.ret) (some ⟨19, [(4, .p (.v (.int IntKind.i64 (i))))], [], [], [], []⟩) else Q (Ex.normal) (some ⟨19, [(8, .p (.v (.int IntKind.i64 (IntKind.i64.wrap (i + (1 : Int)))))), (0, .p (.lst (List.map Shape.enc l))), (1, .p (.fn (20 : FuncId) [])), (7, .p (.v (.int IntKind.i64 (n))))], [], [], [], []⟩))) else Q (Ex.exit (0 : Nat)) (some ⟨19, [], [], [], [], []⟩)) := by kernel_rfl
theorem cs_idxS : CSOk Try.prog (tabC [(20, e20)]) := tabC_cons eok20 <| tabC_nil
theorem lp_idxS_3 : LsOk Try.prog (bodyOf Try.f42 0) S_idxS_3 := by
  refine lsOkH_of evEnv_ok.Γ (loopH_rule evEnv_ok cs_idxS noCP_ok noCI_ok owOk_no (LS := []) (lsA_get (l := []) (by kernel_rfl) (lsA_nil)) (n := 2000) (X := Int × List Shape × Int) (fun x => H_idxS_3 x.1 x.2.1 x.2.2) (fun x => I_idxS_3 x.1 x.2.1 x.2.2) (fun x e s => ((c_idxS_3 x.1 x.2.1 x.2.2 = true ∧ e = .ret ∧ s = R_idxS_3 x.1 x.2.1 x.2.2) ∨ (c_idxS_3 x.1 x.2.1 x.2.2 = false ∧ e = .exit 0 ∧ s = X_idxS_3 x.1 x.2.1 x.2.2))) (fun x => (x.2.2 - x.1).toNat) k_idxS_3 ke_idxS_3 kr_idxS_3 ?_) k_idxS_3 ?_
  · intro x hx
    obtain ⟨i, l, n⟩ := x
    simp only [I_idxS_3] at hx
    show sxH _ _ _ _ _ _ _ _ _ _ _ (H_idxS_3 i l n) _
    rw [sx_idxS_3]
    refine condI (fun h0 => ⟨?r0, condI (fun h1 => .inr ⟨by simp, _, rfl, ?_⟩) (fun h1 => .inl ⟨rfl, (IntKind.i64.wrap (i + (1 : Int)), l, n), by first | rfl | (simp only [H_idxS_3, List.map_append, List.map_cons, List.map_nil]; rfl), ?_, ?_, ?_⟩)⟩) (fun h0 => .inr ⟨by simp, _, rfl, ?_⟩)
    case r0 => first | rfl | (simp only [dShape, dI, dIv]; omega) | (simp [decL, chunk]; done) | (simp only [dShape, dI, dIv]; done) | (exact idx_ok (fun _ => rfl) (by omega) (by omega)) | (simp only [decide_eq_true_eq, List.length_map] at *; exact idx_ok (fun _ => rfl) (by omega) (by omega)) | assumption | trivial | (simp_all; done) | omega
    all_goals (try obtain ⟨a1, a2, a3, a4⟩ := hx)
    all_goals (try simp only [decide_eq_true_eq, decide_eq_false_iff_not] at h0)
    · obtain ⟨x, r, e1, e2, e3⟩ := get_at (l := l) a1 (by omega)
      rw [map_at e3] at h1
      refine .inl ⟨?_, rfl, ?_⟩
      · simp only [c_idxS_3, e1, List.any_cons]
        rw [show (!rightShape x) = true from h1]; rfl
      · simp only [R_idxS_3, e1, idxF]
        rw [show (!rightShape x) = true from h1]; rfl
    · rw [wrap_fit (by constructor <;> omega)]; simp only [I_idxS_3]; omega
    · show (n - IntKind.i64.wrap (i + 1)).toNat < (n - i).toNat
      rw [wrap_fit (by constructor <;> omega)]; omega
    · obtain ⟨x, r, e1, e2, e3⟩ := get_at (l := l) a1 (by omega)
      rw [map_at e3] at h1
      have hp : (!rightShape x) = false := h1
      rw [wrap_fit (by constructor <;> omega)]
      simp only [c_idxS_3, R_idxS_3, X_idxS_3, e1, e2, List.any_cons, hp, Bool.false_or, idxF, cond_false]
      exact fun e s h => h
    · refine .inr ⟨?_, rfl, rfl⟩
      simp only [c_idxS_3]
      rw [List.drop_eq_nil_of_le (by omega)]; rfl
  · intro σ K hS
    unfold S_idxS_3 at hS
    split at hS
    · rename_i p1 p2 p3 hk
      obtain ⟨hi, hK⟩ := alls_get hS
      refine ⟨(p1, (decL Shape.dec p2), p3), by
        simp only [H_idxS_3]
        rw [← (show p2 = (decL Shape.dec p2).map Shape.enc from hi _ (by simp))]
        exact hk, hi _ (by simp), fun e s hf => ?_⟩
      rcases hf with ⟨hc, rfl, rfl⟩ | ⟨hc, hf⟩
      · rw [hc] at hK; exact hK
      · rw [hc] at hK; obtain ⟨rfl, rfl⟩ := hf; exact hK
    · exact hS.elim
theorem lok_idxS : LoopsOk Try.prog [(3, S_idxS_3)] Try.f42 := loopsOk_A (l := [bodyOf Try.f42 0]) (by kernel_rfl) (lsA_cons (i := 3) (by kernel_rfl) rfl lp_idxS_3 (lsA_nil))
theorem sx_idxS (l : List Shape) (Q : PV → Prop) : sxF evEnv (tabC [(20, e20)]) noCP noCI noG [(3, S_idxS_3)] 2000 Try.f42 [.lst (l.map Shape.enc), .fn 20 []] Q = ((List.map Shape.enc l = List.map Shape.enc (decL Shape.dec (List.map Shape.enc l))) ∧ ((I_idxS_3 (0 : Int) (decL Shape.dec (List.map Shape.enc l)) ↑(List.map Shape.enc l).length) ∧ (bif c_idxS_3 (0 : Int) (decL Shape.dec (List.map Shape.enc l)) ↑(List.map Shape.enc l).length then Q (.v (.int IntKind.i64 (idxF (fun s => !rightShape s) (List.drop (0 : Nat) (decL Shape.dec (List.map Shape.enc l))) (0 : Int)))) else Q (.v (.int IntKind.i64 ((-1 : Int))))))) := by kernel_rfl
theorem con_idxS (l : List Shape) (hp0 : l.length ≤ 140737488355328) : Con Try.prog 42 [.lst (l.map Shape.enc), .fn 20 []] (.v (.int .i64 (idxF (fun s => !rightShape s) l 0))) := by
  refine con_fin evEnv_ok cs_idxS noCP_ok noCI_ok owOk_no (n := 2000) (LS := [(3, S_idxS_3)]) (fn := Try.f42) rfl lok_idxS ?_
  rw [sx_idxS]
  refine ⟨?r0, ⟨?_, condI (fun h0 => ?_) (fun h0 => ?_)⟩⟩
  case r0 => first | rfl | (simp only [dShape, dI, dIv]; omega) | (simp [decL, chunk]; done) | (simp only [dShape, dI, dIv]; done) | (exact idx_ok (fun _ => rfl) (by omega) (by omega)) | (simp only [decide_eq_true_eq, List.length_map] at *; exact idx_ok (fun _ => rfl) (by omega) (by omega)) | assumption | trivial | (simp_all; done) | omega
  all_goals simp only [dShape] at *
  · exact ⟨by omega, by omega, by simp, by simp; omega⟩
  · simp [nz, nzA]
  · rw [idxF_no (by simpa [c_idxS_3] using h0)]; rfl
theorem eok_idxS : EntOk Try.prog 42 e_idxS := by
  intro args r ps h hp
  unfold e_idxS at h
  split at h
  · rename_i p1
    cases (Option.some.inj h)
    exact by
      have hq := con_idxS (decL Shape.dec p1) (hp _ (by simp))
      have hc := hp _ (List.mem_cons_self ..)
      rw [← hc] at hq
      exact hq
  · exact absurd h (by simp)
theorem eok42 : EntOk Try.prog 42 e42 := eok_idxS
theorem sx_conS (l : List Shape) (Q : PV → Prop) : sxF evEnv (tabC [(42, e42), (20, e20)]) noCP noCI noG [] 2000 Try.f19 [.lst (l.map Shape.enc), .fn 20 []] Q = ((List.map Shape.enc l = List.map Shape.enc (decL Shape.dec (List.map Shape.enc l))) ∧ (((decL Shape.dec (List.map Shape.enc l)).length ≤ (140737488355328 : Nat)) ∧ Q (.v (.bool (decide (idxF (fun s => !rightShape s) (decL Shape.dec (List.map Shape.enc l)) (0 : Int) ≥ (0 : Int))))))) := by kernel_rfl
theorem cs_conS : CSOk Try.prog (tabC [(42, e42), (20, e20)]) := tabC_cons eok42 <| tabC_cons eok20 <| tabC_nil
theorem con_conS (l : List Shape) (hp0 : l.length ≤ 140737488355328) : Con Try.prog 19 [.lst (l.map Shape.enc), .fn 20 []] (.v (.bool (l.any (fun s => !rightShape s)))) := by
  refine con_fin evEnv_ok cs_conS noCP_ok noCI_ok owOk_no (n := 2000) (LS := []) (fn := Try.f19) rfl loopsOk_nil ?_
  rw [sx_conS]
  refine ⟨?r1, ⟨?r0, ?_⟩⟩
  case r0 | r1 => first | rfl | (simp only [dShape, dI, dIv]; omega) | (simp [decL, chunk]; done) | (simp only [dShape, dI, dIv]; done) | (exact idx_ok (fun _ => rfl) (by omega) (by omega)) | (simp only [decide_eq_true_eq, List.length_map] at *; exact idx_ok (fun _ => rfl) (by omega) (by omega)) | assumption | trivial | (simp_all; done) | omega
  simp only [dShape] at *
  simp only [nz, nzA]
  rw [idxF_ge (by omega)]
theorem eok_conS : EntOk Try.prog 19 e_conS := by
  intro args r ps h hp
  unfold e_conS at h
  split at h
  · rename_i p1
    cases (Option.some.inj h)
    exact by
      have hq := con_conS (decL Shape.dec p1) (hp _ (by simp))
      have hc := hp _ (List.mem_cons_self ..)
      rw [← hc] at hq
      exact hq
  · exact absurd h (by simp)
theorem eok19 : EntOk Try.prog 19 e19 := eok_conS
theorem sx_SRight (l : List Shape) (Q : PV → Prop) : sxF evEnv (tabC [(19, e19), (20, e20)]) noCP noCI noG [] 2000 Try.f8 [.lst (l.map Shape.enc)] Q = (bif decide (↑(List.map Shape.enc l).length ≤ (8 : Int)) then ((List.map Shape.enc l = List.map Shape.enc (decL Shape.dec (List.map Shape.enc l))) ∧ (((decL Shape.dec (List.map Shape.enc l)).length ≤ (140737488355328 : Nat)) ∧ Q (.v (.bool (!(decL Shape.dec (List.map Shape.enc l)).any fun s => !rightShape s))))) else Q (.v (.bool (false)))) := by kernel_rfl
theorem cs_SRight : CSOk Try.prog (tabC [(19, e19), (20, e20)]) := tabC_cons eok19 <| tabC_cons eok20 <| tabC_nil
theorem con_SRight (l : List Shape) (hp0 : l.length ≤ 140737488355328) : Con Try.prog 8 [.lst (l.map Shape.enc)] (.v (.bool (rightScene l))) := by
  refine con_fin evEnv_ok cs_SRight noCP_ok noCI_ok owOk_no (n := 2000) (LS := []) (fn := Try.f8) rfl loopsOk_nil ?_
  rw [sx_SRight]
  refine condI (fun h0 => ⟨?r1, ⟨?r0, ?_⟩⟩) (fun h0 => ?_)
  case r0 | r1 => first | rfl | (simp only [dShape, dI, dIv]; omega) | (simp [decL, chunk]; done) | (simp only [dShape, dI, dIv]; done) | (exact idx_ok (fun _ => rfl) (by omega) (by omega)) | (simp only [decide_eq_true_eq, List.length_map] at *; exact idx_ok (fun _ => rfl) (by omega) (by omega)) | assumption | trivial | (simp_all; done) | omega
  all_goals simp only [dShape, decide_eq_true_eq, decide_eq_false_iff_not, List.length_map] at *
  · have e : decide (l.length ≤ 8) = true := by simp; omega
    have e2 : (!l.any fun s => !rightShape s) = l.all rightShape := by rw [List.all_eq_not_any_not]
    simp only [nz, nzA, rightScene, e, e2, Bool.true_and]
  · have e : decide (l.length ≤ 8) = false := by simp; omega
    simp only [nz, nzA, rightScene, e, Bool.false_and]
theorem eok_SRight : EntOk Try.prog 8 e_SRight := by
  intro args r ps h hp
  unfold e_SRight at h
  split at h
  · rename_i p1
    cases (Option.some.inj h)
    exact by
      have hq := con_SRight (decL Shape.dec p1) (hp _ (by simp))
      have hc := hp _ (List.mem_cons_self ..)
      rw [← hc] at hq
      exact hq
  · exact absurd h (by simp)
theorem eok8 : EntOk Try.prog 8 e8 := eok_SRight
end Go.Men
namespace Go.Men
open Go.Ev Go.Proofs Go.Proofs.Ytoldgmhepeficaa
theorem sx_RightScene_5 (i : Int) (l : List Shape) (Q : Ex → Option St → Prop) : sxH evEnv (tabC [(22, e22)]) noCP noCI noG [] 2000 (bodyOf Try.f9 0) k_RightScene_5 ke_RightScene_5 kr_RightScene_5 (H_RightScene_5 i l) Q = (bif decide (i < ↑(List.map Shape.enc l).length) then (((0 : Int) ≤ i ∧ (List.map Shape.enc l)[i.toNat]? = some (etaL [PV.v (Value.int IntKind.i64 (0 : Int)), PV.v (Value.int IntKind.i64 (0 : Int)), PV.v (Value.int IntKind.i64 (0 : Int)), PV.v (Value.int IntKind.i64 (0 : Int)), PV.v (Value.int IntKind.i64 (0 : Int)), PV.v (Value.int IntKind.i64 (0 : Int)), PV.v (Value.int IntKind.i64 (0 : Int)), PV.v (Value.int IntKind.i64 (0 : Int)), PV.v (Value.int IntKind.i64 (0 : Int)), PV.v (Value.int IntKind.i64 (0 : Int)), PV.v (Value.int IntKind.i64 (0 : Int)), PV.v (Value.int IntKind.i64 (0 : Int))] ((List.map Shape.enc l).getD i.toNat []))) ∧ (((0 : Int) ≤ (0 : Int) ∧ (0 : Int) < (3 : Int)) ∧ (bif decide (intOf (((List.map Shape.enc l).getD i.toNat []).tail.tail.tail.tail.tail.tail.tail.tail.tail.headD PV.nil) < (0 : Int)) then Q (Ex.ret) (some ⟨93, [(2, .p (.v (.bool (false))))], [], [], [], []⟩) else (((0 : Int) ≤ (0 : Int) ∧ (0 : Int) < (3 : Int)) ∧ (bif decide (intOf (((List.map Shape.enc l).getD i.toNat []).tail.tail.tail.tail.tail.tail.tail.tail.tail.headD PV.nil) > (255 : Int)) then Q (Ex.ret) (some ⟨93, [(2, .p (.v (.bool (false))))], [], [], [], []⟩) else (((0 : Int) ≤ (1 : Int) ∧ (1 : Int) < (3 : Int)) ∧ (bif decide (intOf (((List.map Shape.enc l).getD i.toNat []).tail.tail.tail.tail.tail.tail.tail.tail.tail.tail.headD PV.nil) < (0 : Int)) then Q (Ex.ret) (some ⟨93, [(2, .p (.v (.bool (false))))], [], [], [], []⟩) else (((0 : Int) ≤ (1 : Int) ∧ (1 : Int) < (3 : Int)) ∧ (bif decide (intOf (((List.map Shape.enc l).getD i.toNat []).tail.tail.tail.tail.tail.tail.tail.tail.tail.tail.headD PV.nil) > (255 : Int)) then Q (Ex.ret) (some ⟨93, [(2, .p (.v (.bool (false))))], [], [], [], []⟩) else (((0 : Int) ≤ (2 : Int) ∧ (2 : Int) < (3 : Int)) ∧ (bif decide (intOf (((List.map Shape.enc l).getD i.toNat []).tail.tail.tail.tail.tail.tail.tail.tail.tail.tail.tail.headD PV.nil) < (0 : Int)) then Q (Ex.ret) (some ⟨93, [(2, .p (.v (.bool (false))))], [], [], [], []⟩) else (((0 : Int) ≤ (2 : Int) ∧ (2 : Int) < (3 : Int)) ∧ (bif decide (intOf (((List.map Shape.enc l).getD i.toNat []).tail.tail.tail.tail.tail.tail.tail.tail.tail.tail.tail.headD PV.nil) > (255 : Int)) then Q (Ex.ret) (some ⟨93, [(2, .p (.v (.bool (false))))], [], [], [], []⟩) else (bif intOf (((List.map Shape.enc l).getD i.toNat []).headD PV.nil) == (1 : Int) then (bif !decRight (Dec.mk (intOf (((List.map Shape.enc l).getD i.toNat []).tail.headD PV.nil)) (intOf (((List.map Shape.enc l).getD i.toNat []).tail.tail.headD PV.nil))) then Q (Ex.ret) (some ⟨93, [(2, .p (.v (.bool (false))))], [], [], [], []⟩) else (bif !decRight (Dec.mk (intOf (((List.map Shape.enc l).getD i.toNat []).tail.tail.tail.headD PV.nil)) (intOf (((List.map Shape.enc l).getD i.toNat []).tail.tail.tail.tail.headD PV.nil))) then Q (Ex.ret) (some ⟨93, [(2, .p (.v (.bool (false))))], [], [], [], []⟩) else (bif !decRight (Dec.mk (intOf (((List.map Shape.enc l).getD i.toNat []).tail.tail.tail.tail.tail.headD PV.nil)) (intOf (((List.map Shape.enc l).getD i.toNat []).tail.tail.tail.tail.tail.tail.headD PV.nil))) then Q (Ex.ret) (some ⟨93, [(2, .p (.v (.bool (false))))], [], [], [], []⟩) else (bif !decRight (Dec.mk (intOf (((List.map Shape.enc l).getD i.toNat []).tail.tail.tail.tail.tail.tail.tail.headD PV.nil)) (intOf (((List.map Shape.enc l).getD i.toNat []).tail.tail.tail.tail.tail.tail.tail.tail.headD PV.nil))) then Q (Ex.ret) (some ⟨93, [(2, .p (.v (.bool (false))))], [], [], [], []⟩) else (bif decide (intOf (((List.map Shape.enc l).getD i.toNat []).tail.tail.tail.tail.tail.tail.tail.headD PV.nil) ≤ (0 : Int)) then Q (Ex.ret) (some ⟨93, [(2, .p (.v (.bool (false))))], [], [], [], []⟩) else Q (Ex.normal) (some ⟨93, [(3, .p (.v (.int IntKind.i64 (IntKind.i64.wrap (i + (1 : Int)))))), (0, .p (.lst (List.map Shape.enc l)))], [], [], [], []⟩)))))) else (bif intOf (((List.map Shape.enc l).getD i.toNat []).headD PV.nil) == (2 : Int) then (bif !decRight (Dec.mk (intOf (((List.map Shape.enc l).getD i.toNat []).tail.tail.tail.tail.tail.headD PV.nil)) (intOf (((List.map Shape.enc l).getD i.toNat []).tail.tail.tail.tail.tail.tail.headD PV.nil))) then Q (Ex.ret) (some ⟨93, [(2, .p (.v (.bool (false))))], [], [], [], []⟩) else (bif !(intOf (((List.map Shape.enc l).getD i.toNat []).tail.headD PV.nil) == (0 : Int) && (intOf (((List.map Shape.enc l).getD i.toNat []).tail.tail.headD PV.nil) == (0 : Int) && true)) then Q (Ex.ret) (some ⟨93, [(2, .p (.v (.bool (false))))], [], [], [], []⟩) else (bif !(intOf (((List.map Shape.enc l).getD i.toNat []).tail.tail.tail.headD PV.nil) == (0 : Int) && (intOf (((List.map Shape.enc l).getD i.toNat []).tail.tail.tail.tail.headD PV.nil) == (0 : Int) && true)) then Q (Ex.ret) (some ⟨93, [(2, .p (.v (.bool (false))))], [], [], [], []⟩) else (bif !(intOf (((List.map Shape.enc l).getD i.toNat []).tail.tail.tail.tail.tail.tail.tail.headD PV.nil) == (0 : Int) && (intOf (((List.map Shape.enc l).getD i.toNat []).tail.tail.tail.tail.tail.tail.tail.tail.headD PV.nil) == (0 : Int) && true)) then Q (Ex.ret) (some ⟨93, [(2, .p (.v (.bool (false))))], [], [], [], []⟩) else Q (Ex.normal) (some ⟨93, [(3, .p (.v (.int IntKind.i64 (IntKind.i64.wrap (i + (1 : Int)))))), (0, .p (.lst (List.map Shape.enc l)))], [], [], [], []⟩))))) else Q (Ex.ret) (some ⟨93, [(2, .p (.v (.bool (false))))], [], [], [], []⟩)))))))))))))))) else Q (Ex.exit (0 : Nat)) (some ⟨93, [], [], [], [], []⟩)) := by kernel_rfl
theorem cs_RightScene : CSOk Try.prog (tabC [(22, e22)]) := tabC_cons eok22 <| tabC_nil
theorem lp_RightScene_5 : LsOk Try.prog (bodyOf Try.f9 0) S_RightScene_5 := by
  refine lsOkH_of evEnv_ok.Γ (loopH_rule evEnv_ok cs_RightScene noCP_ok noCI_ok owOk_no (LS := []) (lsA_get (l := [bodyOf Try.f9 1]) (by kernel_rfl) (lsA_skip (i := 9) (by kernel_rfl) rfl (lsA_nil))) (n := 2000) (X := Int × List Shape) (fun x => H_RightScene_5 x.1 x.2) (fun x => I_RightScene_5 x.1 x.2) (fun x e s => ((c_RightScene_5 x.1 x.2 = true ∧ e = .ret ∧ s = R_RightScene_5 x.1 x.2) ∨ (c_RightScene_5 x.1 x.2 = false ∧ e = .exit 0 ∧ s = X_RightScene_5 x.1 x.2))) (fun x => (x.2.length - x.1).toNat) k_RightScene_5 ke_RightScene_5 kr_RightScene_5 ?_) k_RightScene_5 ?_
  · intro x hx
    obtain ⟨i, l⟩ := x
    simp only [I_RightScene_5] at hx
    show sxH _ _ _ _ _ _ _ _ _ _ _ (H_RightScene_5 i l) _
    rw [sx_RightScene_5]
    refine condI (fun h0 => ⟨?r6, ⟨?r5, condI (fun h1 => .inr ⟨by simp, _, rfl, ?_⟩) (fun h1 => ⟨?r4, condI (fun h2 => .inr ⟨by simp, _, rfl, ?_⟩) (fun h2 => ⟨?r3, condI (fun h3 => .inr ⟨by simp, _, rfl, ?_⟩) (fun h3 => ⟨?r2, condI (fun h4 => .inr ⟨by simp, _, rfl, ?_⟩) (fun h4 => ⟨?r1, condI (fun h5 => .inr ⟨by simp, _, rfl, ?_⟩) (fun h5 => ⟨?r0, condI (fun h6 => .inr ⟨by simp, _, rfl, ?_⟩) (fun h6 => condI (fun h7 => condI (fun h8 => .inr ⟨by simp, _, rfl, ?_⟩) (fun h8 => condI (fun h9 => .inr ⟨by simp, _, rfl, ?_⟩) (fun h9 => condI (fun h10 => .inr ⟨by simp, _, rfl, ?_⟩) (fun h10 => condI (fun h11 => .inr ⟨by simp, _, rfl, ?_⟩) (fun h11 => condI (fun h12 => .inr ⟨by simp, _, rfl, ?_⟩) (fun h12 => .inl ⟨rfl, (IntKind.i64.wrap (i + (1 : Int)), l), by first | rfl | (simp only [H_RightScene_5, List.map_append, List.map_cons, List.map_nil]; rfl), ?_, ?_, ?_⟩)))))) (fun h7 => condI (fun h8 => condI (fun h9 => .inr ⟨by simp, _, rfl, ?_⟩) (fun h9 => condI (fun h10 => .inr ⟨by simp, _, rfl, ?_⟩) (fun h10 => condI (fun h11 => .inr ⟨by simp, _, rfl, ?_⟩) (fun h11 => condI (fun h12 => .inr ⟨by simp, _, rfl, ?_⟩) (fun h12 => .inl ⟨rfl, (IntKind.i64.wrap (i + (1 : Int)), l), by first | rfl | (simp only [H_RightScene_5, List.map_append, List.map_cons, List.map_nil]; rfl), ?_, ?_, ?_⟩))))) (fun h8 => .inr ⟨by simp, _, rfl, ?_⟩)))⟩)⟩)⟩)⟩)⟩)⟩⟩) (fun h0 => .inr ⟨by simp, _, rfl, ?_⟩)
    case r0 | r1 | r2 | r3 | r4 | r5 | r6 => first | rfl | (simp only [dShape, dI, dIv]; omega) | (simp [decL, chunk]; done) | (simp only [dShape, dI, dIv]; done) | (exact idx_ok (fun _ => rfl) (by omega) (by omega)) | (simp only [decide_eq_true_eq, List.length_map] at *; exact idx_ok (fun _ => rfl) (by omega) (by omega)) | assumption | trivial | (simp_all; done) | omega
    all_goals (try obtain ⟨a1, a2, a3⟩ := hx)
    all_goals (try simp only [decide_eq_true_eq, decide_eq_false_iff_not, Bool.not_eq_true', Bool.not_eq_false', List.length_map] at *)
    all_goals first | (obtain ⟨x, r, e1, e2, e3⟩ := get_at (l := l) a1 (by omega); rw [map_at e3] at *; simp only [Shape.enc, List.headD_cons, List.tail_cons, intOf, decide_eq_true_eq, decide_eq_false_iff_not, Bool.not_eq_true', Bool.not_eq_false'] at *) | (exfalso; omega) | skip
    all_goals first
      | (have hrs : rightShape x = false := (by
            first
              | (have g : glowOk x.glow.a = false := (by simp [glowOk]; omega)
                 simp [rightShape, g]; done)
              | (have g : glowOk x.glow.b = false := (by simp [glowOk]; omega)
                 simp [rightShape, g]; done)
              | (have g : glowOk x.glow.c = false := (by simp [glowOk]; omega)
                 simp [rightShape, g]; done)
              | (have g : decide (x.r.c > 0) = false := (by simp; omega)
                 have k : x.kind = 1 := (by simp at *; assumption)
                 simp [rightShape, g, k]; done)
              | (simp_all [rightShape, zeroD]; done))
         refine .inl ⟨?_, by trivial, rfl⟩
         simp only [c_RightScene_5, e1, List.all_cons, hrs]; rfl)
      | (rw [wrap_fit (by constructor <;> omega)]; simp only [I_RightScene_5]; omega)
      | (show (l.length - IntKind.i64.wrap (i + 1)).toNat < (l.length - i).toNat; rw [wrap_fit (by constructor <;> omega)]; omega)
      | (have hrs : rightShape x = true := (by
            have g1 : glowOk x.glow.a = true := (by simp [glowOk]; omega)
            have g2 : glowOk x.glow.b = true := (by simp [glowOk]; omega)
            have g3 : glowOk x.glow.c = true := (by simp [glowOk]; omega)
            first | (have g : decide (x.r.c > 0) = true := (by simp; omega)
                     simp_all [rightShape, zeroD]; done) | (simp_all [rightShape, zeroD]; done))
         rw [wrap_fit (by constructor <;> omega)]
         simp only [c_RightScene_5, R_RightScene_5, X_RightScene_5, e1, e2, List.all_cons, hrs, Bool.true_and]
         exact fun e s h => h)
      | (refine .inr ⟨?_, by trivial, rfl⟩; simp only [c_RightScene_5]; rw [List.drop_eq_nil_of_le (by omega)]; rfl)
      | skip
  · intro σ K hS
    unfold S_RightScene_5 at hS
    split at hS
    · rename_i p1 p2 hk
      obtain ⟨hi, hK⟩ := alls_get hS
      refine ⟨(p1, (decL Shape.dec p2)), by
        simp only [H_RightScene_5]
        rw [← (show p2 = (decL Shape.dec p2).map Shape.enc from hi _ (by simp))]
        exact hk, hi _ (by simp), fun e s hf => ?_⟩
      rcases hf with ⟨hc, rfl, rfl⟩ | ⟨hc, hf⟩
      · rw [hc] at hK; exact hK
      · rw [hc] at hK; obtain ⟨rfl, rfl⟩ := hf; exact hK
    · exact hS.elim
theorem lok_RightScene : LoopsOk Try.prog [(5, S_RightScene_5)] Try.f9 := loopsOk_A (l := [bodyOf Try.f9 0, bodyOf Try.f9 1]) (by kernel_rfl) (lsA_cons (i := 5) (by kernel_rfl) rfl lp_RightScene_5 (lsA_skip (i := 9) (by kernel_rfl) rfl (lsA_nil)))
theorem sx_RightScene (l : List Shape) (Q : PV → Prop) : sxF evEnv (tabC [(22, e22)]) noCP noCI noG [(5, S_RightScene_5)] 2000 Try.f9 [.lst (l.map Shape.enc)] Q = (bif decide (↑(List.map Shape.enc l).length > (8 : Int)) then Q (.v (.bool (false))) else ((List.map Shape.enc l = List.map Shape.enc (decL Shape.dec (List.map Shape.enc l))) ∧ ((I_RightScene_5 (0 : Int) (decL Shape.dec (List.map Shape.enc l))) ∧ (bif c_RightScene_5 (0 : Int) (decL Shape.dec (List.map Shape.enc l)) then Q (.v (.bool (false))) else Q (.v (.bool (true))))))) := by kernel_rfl
theorem con_RightScene (l : List Shape) (hp0 : l.length ≤ 140737488355328) : Con Try.prog 9 [.lst (l.map Shape.enc)] (.v (.bool (rightScene l))) := by
  refine con_fin evEnv_ok cs_RightScene noCP_ok noCI_ok owOk_no (n := 2000) (LS := [(5, S_RightScene_5)]) (fn := Try.f9) rfl lok_RightScene ?_
  rw [sx_RightScene]
  refine condI (fun h0 => ?_) (fun h0 => ⟨?r0, ⟨?_, condI (fun h1 => ?_) (fun h1 => ?_)⟩⟩)
  case r0 => first | rfl | (simp only [dShape, dI, dIv]; omega) | (simp [decL, chunk]; done) | (simp only [dShape, dI, dIv]; done) | (exact idx_ok (fun _ => rfl) (by omega) (by omega)) | (simp only [decide_eq_true_eq, List.length_map] at *; exact idx_ok (fun _ => rfl) (by omega) (by omega)) | assumption | trivial | (simp_all; done) | omega
  all_goals simp only [dShape, decide_eq_true_eq, decide_eq_false_iff_not, List.length_map] at *
  · have e : decide (l.length ≤ 8) = false := by simp; omega
    simp only [nz, nzA, rightScene, e, Bool.false_and]
  · exact ⟨by omega, by omega, by omega⟩
  all_goals have e : decide (l.length ≤ 8) = true := by simp; omega
  · have h : (!l.all rightShape) = true := h1
    simp only [Bool.not_eq_true'] at h
    simp only [nz, nzA, rightScene, e, h, Bool.true_and]
  · have h : (!l.all rightShape) = false := h1
    simp only [Bool.not_eq_false'] at h
    simp only [nz, nzA, rightScene, e, h, Bool.true_and]
theorem eok_RightScene : EntOk Try.prog 9 e_RightScene := by
  intro args r ps h hp
  unfold e_RightScene at h
  split at h
  · rename_i p1
    cases (Option.some.inj h)
    exact by
      have hq := con_RightScene (decL Shape.dec p1) (hp _ (by simp))
      have hc := hp _ (List.mem_cons_self ..)
      rw [← hc] at hq
      exact hq
  · exact absurd h (by simp)
theorem eok9 : EntOk Try.prog 9 e9 := eok_RightScene
end Go.Men
namespace Go.Men
open Go.Ev Go.Proofs Go.Proofs.Ytoldgmhepeficaa
theorem sx_HDec_3 (d : Dec) (z : Dec) (Q : Ex → Option St → Prop) : sxH evEnv (tabC []) noCP noCI noG [] 2000 (bodyOf Try.f15 0) k_HDec_3 ke_HDec_3 kr_HDec_3 (H_HDec_3 d z) Q = (bif decide (d.scale > (0 : Int)) then (((10 : Int) ≠ (0 : Int)) ∧ (bif d.c.tmod (10 : Int) == (0 : Int) then (((10 : Int) ≠ (0 : Int)) ∧ Q (Ex.normal) (some ⟨27, [(5, .ptr 5 0), (4, .ptr 4 0)], [(5, [.v (.int IntKind.i64 (IntKind.i64.wrap (d.c.tdiv (10 : Int)))), .v (.int IntKind.i64 (IntKind.i64.wrap (d.scale - (1 : Int))))]), (4, [.v (.int IntKind.i64 (z.c)), .v (.int IntKind.i64 (z.scale))])], [], [], []⟩)) else Q (Ex.exit (0 : Nat)) (some ⟨27, [(4, .ptr 4 0), (5, .ptr 5 0)], [(4, [.v (.int IntKind.i64 (z.c)), .v (.int IntKind.i64 (z.scale))]), (5, [.v (.int IntKind.i64 (d.c)), .v (.int IntKind.i64 (d.scale))])], [], [], []⟩))) else Q (Ex.exit (0 : Nat)) (some ⟨27, [(4, .ptr 4 0), (5, .ptr 5 0)], [(4, [.v (.int IntKind.i64 (z.c)), .v (.int IntKind.i64 (z.scale))]), (5, [.v (.int IntKind.i64 (d.c)), .v (.int IntKind.i64 (d.scale))])], [], [], []⟩)) := by kernel_rfl
theorem cs_HDec : CSOk Try.prog (tabC []) := tabC_nil
theorem lp_HDec_3 : LsOk Try.prog (bodyOf Try.f15 0) S_HDec_3 := by
  refine lsOkH_of evEnv_ok.Γ (loopH_rule evEnv_ok cs_HDec noCP_ok noCI_ok owOk_no (LS := []) (lsA_get (l := []) (by kernel_rfl) (lsA_nil)) (n := 2000) (X := Dec × Dec) (fun x => H_HDec_3 x.1 x.2) (fun x => I_HDec_3 x.1 x.2) (fun x e s => (e = .exit 0 ∧ s = X_HDec_3 x.1 x.2)) (fun x => x.1.scale.toNat) k_HDec_3 ke_HDec_3 kr_HDec_3 ?_) k_HDec_3 ?_
  · intro x hx
    obtain ⟨d, z⟩ := x
    simp only [I_HDec_3] at hx
    show sxH _ _ _ _ _ _ _ _ _ _ _ (H_HDec_3 d z) _
    rw [sx_HDec_3]
    refine condI (fun h0 => ⟨?r1, condI (fun h1 => ⟨?r0, .inl ⟨rfl, (⟨IntKind.i64.wrap (d.c.tdiv (10 : Int)), IntKind.i64.wrap (d.scale - (1 : Int))⟩, ⟨z.c, z.scale⟩), by first | rfl | (simp only [H_HDec_3, List.map_append, List.map_cons, List.map_nil]; rfl), ?_, ?_, ?_⟩⟩) (fun h1 => .inr ⟨by simp, _, rfl, ?_⟩)⟩) (fun h0 => .inr ⟨by simp, _, rfl, ?_⟩)
    case r0 | r1 => first | rfl | (simp only [dShape, dI, dIv]; omega) | (simp [decL, chunk]; done) | (simp only [dShape, dI, dIv]; done) | (exact idx_ok (fun _ => rfl) (by omega) (by omega)) | (simp only [decide_eq_true_eq, List.length_map] at *; exact idx_ok (fun _ => rfl) (by omega) (by omega)) | assumption | trivial | (simp_all; done) | omega
    all_goals (try simp only [decide_eq_true_eq, decide_eq_false_iff_not] at h0)
    · rw [wrap_fit (show Fit (d.scale - 1) by constructor <;> omega)]; simp only [I_HDec_3]; omega
    · show (IntKind.i64.wrap (d.scale - 1)).toNat < d.scale.toNat
      rw [wrap_fit (by constructor <;> omega)]; omega
    · simp only [beq_iff_eq] at h1
      simp only [X_HDec_3]
      rw [hdec_step h0 hx.2 h1]
      exact fun e s h => h
    · simp only [beq_eq_false_iff_ne] at h1
      exact ⟨rfl, by simp only [X_HDec_3]; rw [hdec_end (fun h => h1 h.2)]⟩
    · exact ⟨rfl, by simp only [X_HDec_3]; rw [hdec_end (fun h => h0 h.1)]⟩
  · intro σ K hS
    unfold S_HDec_3 at hS
    split at hS
    · rename_i p1 p2 p3 p4 hk
      obtain ⟨hi, hK⟩ := alls_get hS
      refine ⟨((⟨p1, p2⟩ : Dec), (⟨p3, p4⟩ : Dec)), hk, hi _ (by simp), fun e s hf => ?_⟩
      obtain ⟨rfl, rfl⟩ := hf
      exact hK
    · exact hS.elim
theorem lok_HDec : LoopsOk Try.prog [(3, S_HDec_3)] Try.f15 := loopsOk_A (l := [bodyOf Try.f15 0]) (by kernel_rfl) (lsA_cons (i := 3) (by kernel_rfl) rfl lp_HDec_3 (lsA_nil))
theorem sx_HDec (c : Int) (scale : Int) (Q : PV → Prop) : sxF evEnv (tabC []) noCP noCI noG [(3, S_HDec_3)] 2000 Try.f15 [.v (.int .i64 c), .v (.int .i64 scale)] Q = ((I_HDec_3 (Dec.mk c scale) (Dec.mk (0 : Int) (0 : Int))) ∧ Q (.agg [.v (.int IntKind.i64 ((hdec scale.toNat c scale).c)), .v (.int IntKind.i64 ((hdec scale.toNat c scale).scale))])) := by kernel_rfl
theorem con_HDec (c : Int) (scale : Int) (hp0 : 0 ≤ scale ∧ scale ≤ 18) : Con Try.prog 15 [.v (.int .i64 c), .v (.int .i64 scale)] (.agg (Dec.enc (hdec scale.toNat c scale))) := by
  refine con_fin evEnv_ok cs_HDec noCP_ok noCI_ok owOk_no (n := 2000) (LS := [(3, S_HDec_3)]) (fn := Try.f15) rfl lok_HDec ?_
  rw [sx_HDec]
  refine ⟨?_, ?_⟩
  · exact hp0
  · rfl
theorem eok_HDec : EntOk Try.prog 15 e_HDec := by
  intro args r ps h hp
  unfold e_HDec at h
  split at h
  · rename_i p1 p2
    cases (Option.some.inj h)
    exact con_HDec p1 p2 (hp _ (by simp))
  · exact absurd h (by simp)
theorem eok15 : EntOk Try.prog 15 e15 := eok_HDec
theorem sx_HScene_4 (i : Int) (l : List I) (out : List Shape) (Q : Ex → Option St → Prop) : sxH evEnv (tabC [(5, e5), (15, e15)]) noCP noCI noG [] 2000 (bodyOf Try.f4 0) k_HScene_4 ke_HScene_4 kr_HScene_4 (H_HScene_4 i l out) Q = (bif decide (IntKind.i64.wrap (i + (4 : Int)) < ↑(List.map I.enc l).length) then (bif decide (i < (25 : Int)) then (((0 : Int) ≤ i ∧ (List.map I.enc l)[i.toNat]? = some (etaL [PV.v (Value.int IntKind.i64 (0 : Int))] ((List.map I.enc l).getD i.toNat []))) ∧ (((0 : Int) < (256 : Int) ∧ (256 : Int) ≤ (4611686018427387904 : Int)) ∧ (((0 : Int) ≤ i ∧ (List.map I.enc l)[i.toNat]? = some (etaL [PV.v (Value.int IntKind.i64 (0 : Int))] ((List.map I.enc l).getD i.toNat []))) ∧ (((7 : Int) ≠ (0 : Int)) ∧ (((0 : Int) < (256 : Int) ∧ (256 : Int) ≤ (4611686018427387904 : Int)) ∧ (((0 : Int) ≤ i ∧ (List.map I.enc l)[i.toNat]? = some (etaL [PV.v (Value.int IntKind.i64 (0 : Int))] ((List.map I.enc l).getD i.toNat []))) ∧ (((13 : Int) ≠ (0 : Int)) ∧ (((0 : Int) < (256 : Int) ∧ (256 : Int) ≤ (4611686018427387904 : Int)) ∧ (((0 : Int) ≤ IntKind.i64.wrap (i + (4 : Int)) ∧ (List.map I.enc l)[(IntKind.i64.wrap (i + (4 : Int))).toNat]? = some (etaL [PV.v (Value.int IntKind.i64 (0 : Int))] ((List.map I.enc l).getD (IntKind.i64.wrap (i + (4 : Int))).toNat []))) ∧ (((0 : Int) < (3 : Int) ∧ (3 : Int) ≤ (4611686018427387904 : Int)) ∧ (bif pick (intOf (((List.map I.enc l).getD (IntKind.i64.wrap (i + (4 : Int))).toNat []).headD PV.nil)) (3 : Int) == (0 : Int) then (((0 : Int) ≤ IntKind.i64.wrap (i + (3 : Int)) ∧ (List.map I.enc l)[(IntKind.i64.wrap (i + (3 : Int))).toNat]? = some (etaL [PV.v (Value.int IntKind.i64 (0 : Int))] ((List.map I.enc l).getD (IntKind.i64.wrap (i + (3 : Int))).toNat []))) ∧ (((0 : Int) < (100 : Int) ∧ (100 : Int) ≤ (4611686018427387904 : Int)) ∧ (((0 : Int) ≤ (0 : Int) ∧ (0 : Int) ≤ (18 : Int)) ∧ (((0 : Nat) < (1 : Nat) ∧ ((List.map Shape.enc out).length + (1 : Nat)) * (96 : Nat) ≤ (140737488355328 : Nat) ∧ Lens (12 : Nat) (List.map Shape.enc out ++ [[PV.v (Value.int IntKind.i64 (2 : Int)), PV.v (Value.int IntKind.i64 (0 : Int)), PV.v (Value.int IntKind.i64 (0 : Int)), PV.v (Value.int IntKind.i64 (0 : Int)), PV.v (Value.int IntKind.i64 (0 : Int)), PV.v (Value.int IntKind.i64 (hdec (0 : Nat) (IntKind.i64.wrap ((60 : Int) + pick (intOf (((List.map I.enc l).getD (IntKind.i64.wrap (i + (3 : Int))).toNat []).headD PV.nil)) (100 : Int))) (0 : Int)).c), PV.v (Value.int IntKind.i64 (hdec (0 : Nat) (IntKind.i64.wrap ((60 : Int) + pick (intOf (((List.map I.enc l).getD (IntKind.i64.wrap (i + (3 : Int))).toNat []).headD PV.nil)) (100 : Int))) (0 : Int)).scale), PV.v (Value.int IntKind.i64 (0 : Int)), PV.v (Value.int IntKind.i64 (0 : Int)), PV.v (Value.int IntKind.i64 (pick (intOf (((List.map I.enc l).getD i.toNat []).headD PV.nil)) (256 : Int))), PV.v (Value.int IntKind.i64 (pick (IntKind.i64.wrap ((intOf (((List.map I.enc l).getD i.toNat []).headD PV.nil)).tdiv (7 : Int))) (256 : Int))), PV.v (Value.int IntKind.i64 (pick (IntKind.i64.wrap ((intOf (((List.map I.enc l).getD i.toNat []).headD PV.nil)).tdiv (13 : Int))) (256 : Int)))]])) ∧ Q (Ex.normal) (some ⟨93, [(4, .p (.v (.int IntKind.i64 (IntKind.i64.wrap (i + (5 : Int)))))), (0, .p (.lst (List.map I.enc l))), (3, .p (.lst (List.map Shape.enc out ++ [[.v (.int IntKind.i64 ((2 : Int))), .v (.int IntKind.i64 ((0 : Int))), .v (.int IntKind.i64 ((0 : Int))), .v (.int IntKind.i64 ((0 : Int))), .v (.int IntKind.i64 ((0 : Int))), .v (.int IntKind.i64 ((hdec (0 : Nat) (IntKind.i64.wrap ((60 : Int) + pick (intOf (((List.map I.enc l).getD (IntKind.i64.wrap (i + (3 : Int))).toNat []).headD PV.nil)) (100 : Int))) (0 : Int)).c)), .v (.int IntKind.i64 ((hdec (0 : Nat) (IntKind.i64.wrap ((60 : Int) + pick (intOf (((List.map I.enc l).getD (IntKind.i64.wrap (i + (3 : Int))).toNat []).headD PV.nil)) (100 : Int))) (0 : Int)).scale)), .v (.int IntKind.i64 ((0 : Int))), .v (.int IntKind.i64 ((0 : Int))), .v (.int IntKind.i64 (pick (intOf (((List.map I.enc l).getD i.toNat []).headD PV.nil)) (256 : Int))), .v (.int IntKind.i64 (pick (IntKind.i64.wrap ((intOf (((List.map I.enc l).getD i.toNat []).headD PV.nil)).tdiv (7 : Int))) (256 : Int))), .v (.int IntKind.i64 (pick (IntKind.i64.wrap ((intOf (((List.map I.enc l).getD i.toNat []).headD PV.nil)).tdiv (13 : Int))) (256 : Int)))]])))], [], [], [(Loc.t (nat_lit 3), nat_lit 33)], []⟩))))) else (((0 : Int) ≤ IntKind.i64.wrap (i + (1 : Int)) ∧ (List.map I.enc l)[(IntKind.i64.wrap (i + (1 : Int))).toNat]? = some (etaL [PV.v (Value.int IntKind.i64 (0 : Int))] ((List.map I.enc l).getD (IntKind.i64.wrap (i + (1 : Int))).toNat []))) ∧ (((0 : Int) < (600 : Int) ∧ (600 : Int) ≤ (4611686018427387904 : Int)) ∧ (((0 : Int) ≤ (1 : Int) ∧ (1 : Int) ≤ (18 : Int)) ∧ (((0 : Int) ≤ IntKind.i64.wrap (i + (2 : Int)) ∧ (List.map I.enc l)[(IntKind.i64.wrap (i + (2 : Int))).toNat]? = some (etaL [PV.v (Value.int IntKind.i64 (0 : Int))] ((List.map I.enc l).getD (IntKind.i64.wrap (i + (2 : Int))).toNat []))) ∧ (((0 : Int) < (600 : Int) ∧ (600 : Int) ≤ (4611686018427387904 : Int)) ∧ (((0 : Int) ≤ (1 : Int) ∧ (1 : Int) ≤ (18 : Int)) ∧ (((0 : Int) ≤ IntKind.i64.wrap (i + (3 : Int)) ∧ (List.map I.enc l)[(IntKind.i64.wrap (i + (3 : Int))).toNat]? = some (etaL [PV.v (Value.int IntKind.i64 (0 : Int))] ((List.map I.enc l).getD (IntKind.i64.wrap (i + (3 : Int))).toNat []))) ∧ (((0 : Int) < (70 : Int) ∧ (70 : Int) ≤ (4611686018427387904 : Int)) ∧ (((0 : Int) ≤ (0 : Int) ∧ (0 : Int) ≤ (18 : Int)) ∧ (((0 : Int) ≤ IntKind.i64.wrap (i + (4 : Int)) ∧ (List.map I.enc l)[(IntKind.i64.wrap (i + (4 : Int))).toNat]? = some (etaL [PV.v (Value.int IntKind.i64 (0 : Int))] ((List.map I.enc l).getD (IntKind.i64.wrap (i + (4 : Int))).toNat []))) ∧ (((0 : Int) < (300 : Int) ∧ (300 : Int) ≤ (4611686018427387904 : Int)) ∧ (((0 : Int) ≤ (1 : Int) ∧ (1 : Int) ≤ (18 : Int)) ∧ (((0 : Nat) < (1 : Nat) ∧ ((List.map Shape.enc out).length + (1 : Nat)) * (96 : Nat) ≤ (140737488355328 : Nat) ∧ Lens (12 : Nat) (List.map Shape.enc out ++ [[PV.v (Value.int IntKind.i64 (1 : Int)), PV.v (Value.int IntKind.i64 (hdec (1 : Nat) (IntKind.i64.wrap (pick (intOf (((List.map I.enc l).getD (IntKind.i64.wrap (i + (1 : Int))).toNat []).headD PV.nil)) (600 : Int) - (300 : Int))) (1 : Int)).c), PV.v (Value.int IntKind.i64 (hdec (1 : Nat) (IntKind.i64.wrap (pick (intOf (((List.map I.enc l).getD (IntKind.i64.wrap (i + (1 : Int))).toNat []).headD PV.nil)) (600 : Int) - (300 : Int))) (1 : Int)).scale), PV.v (Value.int IntKind.i64 (hdec (1 : Nat) (IntKind.i64.wrap (pick (intOf (((List.map I.enc l).getD (IntKind.i64.wrap (i + (2 : Int))).toNat []).headD PV.nil)) (600 : Int) - (300 : Int))) (1 : Int)).c), PV.v (Value.int IntKind.i64 (hdec (1 : Nat) (IntKind.i64.wrap (pick (intOf (((List.map I.enc l).getD (IntKind.i64.wrap (i + (2 : Int))).toNat []).headD PV.nil)) (600 : Int) - (300 : Int))) (1 : Int)).scale), PV.v (Value.int IntKind.i64 (hdec (0 : Nat) (IntKind.i64.wrap ((50 : Int) + pick (intOf (((List.map I.enc l).getD (IntKind.i64.wrap (i + (3 : Int))).toNat []).headD PV.nil)) (70 : Int))) (0 : Int)).c), PV.v (Value.int IntKind.i64 (hdec (0 : Nat) (IntKind.i64.wrap ((50 : Int) + pick (intOf (((List.map I.enc l).getD (IntKind.i64.wrap (i + (3 : Int))).toNat []).headD PV.nil)) (70 : Int))) (0 : Int)).scale), PV.v (Value.int IntKind.i64 (hdec (1 : Nat) (IntKind.i64.wrap ((10 : Int) + pick (intOf (((List.map I.enc l).getD (IntKind.i64.wrap (i + (4 : Int))).toNat []).headD PV.nil)) (300 : Int))) (1 : Int)).c), PV.v (Value.int IntKind.i64 (hdec (1 : Nat) (IntKind.i64.wrap ((10 : Int) + pick (intOf (((List.map I.enc l).getD (IntKind.i64.wrap (i + (4 : Int))).toNat []).headD PV.nil)) (300 : Int))) (1 : Int)).scale), PV.v (Value.int IntKind.i64 (pick (intOf (((List.map I.enc l).getD i.toNat []).headD PV.nil)) (256 : Int))), PV.v (Value.int IntKind.i64 (pick (IntKind.i64.wrap ((intOf (((List.map I.enc l).getD i.toNat []).headD PV.nil)).tdiv (7 : Int))) (256 : Int))), PV.v (Value.int IntKind.i64 (pick (IntKind.i64.wrap ((intOf (((List.map I.enc l).getD i.toNat []).headD PV.nil)).tdiv (13 : Int))) (256 : Int)))]])) ∧ Q (Ex.normal) (some ⟨93, [(4, .p (.v (.int IntKind.i64 (IntKind.i64.wrap (i + (5 : Int)))))), (0, .p (.lst (List.map I.enc l))), (3, .p (.lst (List.map Shape.enc out ++ [[.v (.int IntKind.i64 ((1 : Int))), .v (.int IntKind.i64 ((hdec (1 : Nat) (IntKind.i64.wrap (pick (intOf (((List.map I.enc l).getD (IntKind.i64.wrap (i + (1 : Int))).toNat []).headD PV.nil)) (600 : Int) - (300 : Int))) (1 : Int)).c)), .v (.int IntKind.i64 ((hdec (1 : Nat) (IntKind.i64.wrap (pick (intOf (((List.map I.enc l).getD (IntKind.i64.wrap (i + (1 : Int))).toNat []).headD PV.nil)) (600 : Int) - (300 : Int))) (1 : Int)).scale)), .v (.int IntKind.i64 ((hdec (1 : Nat) (IntKind.i64.wrap (pick (intOf (((List.map I.enc l).getD (IntKind.i64.wrap (i + (2 : Int))).toNat []).headD PV.nil)) (600 : Int) - (300 : Int))) (1 : Int)).c)), .v (.int IntKind.i64 ((hdec (1 : Nat) (IntKind.i64.wrap (pick (intOf (((List.map I.enc l).getD (IntKind.i64.wrap (i + (2 : Int))).toNat []).headD PV.nil)) (600 : Int) - (300 : Int))) (1 : Int)).scale)), .v (.int IntKind.i64 ((hdec (0 : Nat) (IntKind.i64.wrap ((50 : Int) + pick (intOf (((List.map I.enc l).getD (IntKind.i64.wrap (i + (3 : Int))).toNat []).headD PV.nil)) (70 : Int))) (0 : Int)).c)), .v (.int IntKind.i64 ((hdec (0 : Nat) (IntKind.i64.wrap ((50 : Int) + pick (intOf (((List.map I.enc l).getD (IntKind.i64.wrap (i + (3 : Int))).toNat []).headD PV.nil)) (70 : Int))) (0 : Int)).scale)), .v (.int IntKind.i64 ((hdec (1 : Nat) (IntKind.i64.wrap ((10 : Int) + pick (intOf (((List.map I.enc l).getD (IntKind.i64.wrap (i + (4 : Int))).toNat []).headD PV.nil)) (300 : Int))) (1 : Int)).c)), .v (.int IntKind.i64 ((hdec (1 : Nat) (IntKind.i64.wrap ((10 : Int) + pick (intOf (((List.map I.enc l).getD (IntKind.i64.wrap (i + (4 : Int))).toNat []).headD PV.nil)) (300 : Int))) (1 : Int)).scale)), .v (.int IntKind.i64 (pick (intOf (((List.map I.enc l).getD i.toNat []).headD PV.nil)) (256 : Int))), .v (.int IntKind.i64 (pick (IntKind.i64.wrap ((intOf (((List.map I.enc l).getD i.toNat []).headD PV.nil)).tdiv (7 : Int))) (256 : Int))), .v (.int IntKind.i64 (pick (IntKind.i64.wrap ((intOf (((List.map I.enc l).getD i.toNat []).headD PV.nil)).tdiv (13 : Int))) (256 : Int)))]])))], [], [], [(Loc.t (nat_lit 3), nat_lit 33)], []⟩))))))))))))))))))))))))) else Q (Ex.exit (0 : Nat)) (some ⟨93, [(3, .p (.lst (List.map Shape.enc out)))], [], [], [(Loc.t (nat_lit 3), nat_lit 33)], []⟩)) else Q (Ex.exit (0 : Nat)) (some ⟨93, [(3, .p (.lst (List.map Shape.enc out)))], [], [], [(Loc.t (nat_lit 3), nat_lit 33)], []⟩)) := by kernel_rfl
theorem cs_HScene : CSOk Try.prog (tabC [(5, e5), (15, e15)]) := tabC_cons eok5 <| tabC_cons eok15 <| tabC_nil
theorem lp_HScene_4 : LsOk Try.prog (bodyOf Try.f4 0) S_HScene_4 := by
  refine lsOkH_of evEnv_ok.Γ (loopH_rule evEnv_ok cs_HScene noCP_ok noCI_ok owOk_no (LS := []) (lsA_get (l := []) (by kernel_rfl) (lsA_nil)) (n := 2000) (X := Int × List I × List Shape) (fun x => H_HScene_4 x.1 x.2.1 x.2.2) (fun x => I_HScene_4 x.1 x.2.1 x.2.2) (fun x e s => (e = .exit 0 ∧ s = X_HScene_4 x.1 x.2.1 x.2.2)) (fun x => (30 - x.1).toNat) k_HScene_4 ke_HScene_4 kr_HScene_4 ?_) k_HScene_4 ?_
  · intro x hx
    obtain ⟨i, l, out⟩ := x
    simp only [I_HScene_4] at hx
    show sxH _ _ _ _ _ _ _ _ _ _ _ (H_HScene_4 i l out) _
    rw [sx_HScene_4]
    refine condI (fun h0 => condI (fun h1 => ⟨?r26, ⟨?r25, ⟨?r24, ⟨?r23, ⟨?r22, ⟨?r21, ⟨?r20, ⟨?r19, ⟨?r18, ⟨?r17, condI (fun h2 => ⟨?r3, ⟨?r2, ⟨?r1, ⟨?r0, .inl ⟨rfl, (IntKind.i64.wrap (i + (5 : Int)), l, (out ++ [⟨(2 : Int), ⟨(0 : Int), (0 : Int)⟩, ⟨(0 : Int), (0 : Int)⟩, ⟨(hdec (0 : Nat) (IntKind.i64.wrap ((60 : Int) + pick (intOf (((List.map I.enc l).getD (IntKind.i64.wrap (i + (3 : Int))).toNat []).headD PV.nil)) (100 : Int))) (0 : Int)).c, (hdec (0 : Nat) (IntKind.i64.wrap ((60 : Int) + pick (intOf (((List.map I.enc l).getD (IntKind.i64.wrap (i + (3 : Int))).toNat []).headD PV.nil)) (100 : Int))) (0 : Int)).scale⟩, ⟨(0 : Int), (0 : Int)⟩, ⟨pick (intOf (((List.map I.enc l).getD i.toNat []).headD PV.nil)) (256 : Int), pick (IntKind.i64.wrap ((intOf (((List.map I.enc l).getD i.toNat []).headD PV.nil)).tdiv (7 : Int))) (256 : Int), pick (IntKind.i64.wrap ((intOf (((List.map I.enc l).getD i.toNat []).headD PV.nil)).tdiv (13 : Int))) (256 : Int)⟩⟩])), by first | rfl | (simp only [H_HScene_4, List.map_append, List.map_cons, List.map_nil]; rfl), ?_, ?_, ?_⟩⟩⟩⟩⟩) (fun h2 => ⟨?r16, ⟨?r15, ⟨?r14, ⟨?r13, ⟨?r12, ⟨?r11, ⟨?r10, ⟨?r9, ⟨?r8, ⟨?r7, ⟨?r6, ⟨?r5, ⟨?r4, .inl ⟨rfl, (IntKind.i64.wrap (i + (5 : Int)), l, (out ++ [⟨(1 : Int), ⟨(hdec (1 : Nat) (IntKind.i64.wrap (pick (intOf (((List.map I.enc l).getD (IntKind.i64.wrap (i + (1 : Int))).toNat []).headD PV.nil)) (600 : Int) - (300 : Int))) (1 : Int)).c, (hdec (1 : Nat) (IntKind.i64.wrap (pick (intOf (((List.map I.enc l).getD (IntKind.i64.wrap (i + (1 : Int))).toNat []).headD PV.nil)) (600 : Int) - (300 : Int))) (1 : Int)).scale⟩, ⟨(hdec (1 : Nat) (IntKind.i64.wrap (pick (intOf (((List.map I.enc l).getD (IntKind.i64.wrap (i + (2 : Int))).toNat []).headD PV.nil)) (600 : Int) - (300 : Int))) (1 : Int)).c, (hdec (1 : Nat) (IntKind.i64.wrap (pick (intOf (((List.map I.enc l).getD (IntKind.i64.wrap (i + (2 : Int))).toNat []).headD PV.nil)) (600 : Int) - (300 : Int))) (1 : Int)).scale⟩, ⟨(hdec (0 : Nat) (IntKind.i64.wrap ((50 : Int) + pick (intOf (((List.map I.enc l).getD (IntKind.i64.wrap (i + (3 : Int))).toNat []).headD PV.nil)) (70 : Int))) (0 : Int)).c, (hdec (0 : Nat) (IntKind.i64.wrap ((50 : Int) + pick (intOf (((List.map I.enc l).getD (IntKind.i64.wrap (i + (3 : Int))).toNat []).headD PV.nil)) (70 : Int))) (0 : Int)).scale⟩, ⟨(hdec (1 : Nat) (IntKind.i64.wrap ((10 : Int) + pick (intOf (((List.map I.enc l).getD (IntKind.i64.wrap (i + (4 : Int))).toNat []).headD PV.nil)) (300 : Int))) (1 : Int)).c, (hdec (1 : Nat) (IntKind.i64.wrap ((10 : Int) + pick (intOf (((List.map I.enc l).getD (IntKind.i64.wrap (i + (4 : Int))).toNat []).headD PV.nil)) (300 : Int))) (1 : Int)).scale⟩, ⟨pick (intOf (((List.map I.enc l).getD i.toNat []).headD PV.nil)) (256 : Int), pick (IntKind.i64.wrap ((intOf (((List.map I.enc l).getD i.toNat []).headD PV.nil)).tdiv (7 : Int))) (256 : Int), pick (IntKind.i64.wrap ((intOf (((List.map I.enc l).getD i.toNat []).headD PV.nil)).tdiv (13 : Int))) (256 : Int)⟩⟩])), by first | rfl | (simp only [H_HScene_4, List.map_append, List.map_cons, List.map_nil]; rfl), ?_, ?_, ?_⟩⟩⟩⟩⟩⟩⟩⟩⟩⟩⟩⟩⟩⟩)⟩⟩⟩⟩⟩⟩⟩⟩⟩⟩) (fun h1 => .inr ⟨by simp, _, rfl, ?_⟩)) (fun h0 => .inr ⟨by simp, _, rfl, ?_⟩)
    case r0 | r1 | r2 | r3 | r4 | r5 | r6 | r7 | r8 | r9 | r10 | r11 | r12 | r13 | r14 | r15 | r16 | r17 | r18 | r19 | r20 | r21 | r22 | r23 | r24 | r25 | r26 => first | rfl | (simp only [dShape, dI, dIv]; done) | (rw [dI]; done) | skip; (try simp only [List.length_map] at *); first | (simp only [dI]; done) | omega | (exact idx_ok (fun _ => rfl) (by first | omega | (rw [wrap_fit (by constructor <;> omega)]; omega)) (by simp only [decide_eq_true_eq, wrap_fit (show Fit (i + 4) by constructor <;> omega)] at h0; first | omega | (rw [wrap_fit (by constructor <;> omega)]; omega))) | (exact ⟨by omega, by omega, lens_app (lens_map (e := Shape.enc) (fun _ => rfl) _) rfl⟩)
    all_goals obtain ⟨⟨a1, a2, a3⟩, a4⟩ := hx
    all_goals (try simp only [i_at, List.length_map, decide_eq_true_eq, decide_eq_false_iff_not, wrap_fit (show Fit (i + 4) by constructor <;> omega)] at h0 h1 h2)
    all_goals (try simp only [i_at, List.length_map, decide_eq_true_eq, decide_eq_false_iff_not, wrap_fit (show Fit (i + 4) by constructor <;> omega)] at h0 h1)
    all_goals (try simp only [i_at, List.length_map, decide_eq_true_eq, decide_eq_false_iff_not, wrap_fit (show Fit (i + 4) by constructor <;> omega)] at h0)
    all_goals (try simp only [i_at])
    · rw [wrap_fit (show Fit (i + 5) by constructor <;> omega)]
      simp only [I_HScene_4, List.length_append, List.length_cons, List.length_nil]
      exact ⟨⟨by omega, by omega, a3⟩, by omega⟩
    · rw [wrap_fit (show Fit (i + 5) by constructor <;> omega)]; omega
    · rw [wrap_fit (show Fit (i + 5) by constructor <;> omega)]
      have e1 : ((29 - i) / 5).toNat = ((29 - (i + 5)) / 5).toNat + 1 := by omega
      have e2 : sceneG (((29 - (i + 5)) / 5).toNat + 1) l i = shapeAt l i :: sceneG ((29 - (i + 5)) / 5).toNat l (i + 5) := by
        simp only [sceneG]
        rw [show (decide (i + 4 < ↑l.length) && decide (i < 25)) = true by simp [h0, h1]]; rfl
      simp only [X_HScene_4]
      rw [e1, e2]
      simp only [shapeAt, wrap_fit (show Fit (i + 4) by constructor <;> omega), h2, cond_true, cond_false]
      intro e s h
      rw [List.append_assoc, List.singleton_append] at h
      exact h
    · rw [wrap_fit (show Fit (i + 5) by constructor <;> omega)]
      simp only [I_HScene_4, List.length_append, List.length_cons, List.length_nil]
      exact ⟨⟨by omega, by omega, a3⟩, by omega⟩
    · rw [wrap_fit (show Fit (i + 5) by constructor <;> omega)]; omega
    · rw [wrap_fit (show Fit (i + 5) by constructor <;> omega)]
      have e1 : ((29 - i) / 5).toNat = ((29 - (i + 5)) / 5).toNat + 1 := by omega
      have e2 : sceneG (((29 - (i + 5)) / 5).toNat + 1) l i = shapeAt l i :: sceneG ((29 - (i + 5)) / 5).toNat l (i + 5) := by
        simp only [sceneG]
        rw [show (decide (i + 4 < ↑l.length) && decide (i < 25)) = true by simp [h0, h1]]; rfl
      simp only [X_HScene_4]
      rw [e1, e2]
      simp only [shapeAt, wrap_fit (show Fit (i + 4) by constructor <;> omega), h2, cond_true, cond_false]
      intro e s h
      rw [List.append_assoc, List.singleton_append] at h
      exact h
    · have hz : sceneG ((29 - i) / 5).toNat l i = [] := by
        cases hk : ((29 - i) / 5).toNat with
        | zero => rfl
        | succ k =>
          simp only [sceneG]
          rw [show (decide (i + 4 < ↑l.length) && decide (i < 25)) = false by simp; intro _; omega]; rfl
      exact ⟨by trivial, by simp only [X_HScene_4]; rw [hz, List.append_nil]⟩
    · have hz : sceneG ((29 - i) / 5).toNat l i = [] := by
        cases hk : ((29 - i) / 5).toNat with
        | zero => rfl
        | succ k =>
          simp only [sceneG]
          rw [show (decide (i + 4 < ↑l.length) && decide (i < 25)) = false by simp; intro h; omega]; rfl
      exact ⟨by trivial, by simp only [X_HScene_4]; rw [hz, List.append_nil]⟩
  · intro σ K hS
    unfold S_HScene_4 at hS
    split at hS
    · rename_i p1 p2 p3 hk
      obtain ⟨hi, hK⟩ := alls_get hS
      refine ⟨(p1, (decL I.dec p2), (decL Shape.dec p3)), by
        simp only [H_HScene_4]
        rw [← (show p2 = (decL I.dec p2).map I.enc from hi _ (by simp))]
        rw [← (show p3 = (decL Shape.dec p3).map Shape.enc from hi _ (by simp))]
        exact hk, hi _ (by simp), fun e s hf => ?_⟩
      obtain ⟨rfl, rfl⟩ := hf
      exact hK
    · exact hS.elim
theorem lok_HScene : LoopsOk Try.prog [(4, S_HScene_4)] Try.f4 := loopsOk_A (l := [bodyOf Try.f4 0]) (by kernel_rfl) (lsA_cons (i := 4) (by kernel_rfl) rfl lp_HScene_4 (lsA_nil))
theorem sx_HScene (l : List I) (Q : PV → Prop) : sxFO evEnv (tabC [(5, e5), (15, e15)]) noCP noCI noG [(4, S_HScene_4)] 2000 Try.f4 33 [.lst (l.map I.enc)] Q = ((List.map I.enc l = List.map I.enc (decL I.dec (List.map I.enc l))) ∧ (([] = List.map Shape.enc (decL Shape.dec [])) ∧ ((I_HScene_4 (0 : Int) (decL I.dec (List.map I.enc l)) (decL Shape.dec [])) ∧ Q (.lst (List.map Shape.enc (decL Shape.dec [] ++ sceneG (5 : Nat) (decL I.dec (List.map I.enc l)) (0 : Int))))))) := by kernel_rfl
theorem conO_HScene (l : List I) (hp0 : l.length ≤ 140737488355328) : ConO Try.prog 4 [.lst (l.map I.enc)] 33 (.lst ((sceneL l).map Shape.enc)) := by
  refine conO_fin evEnv_ok cs_HScene noCP_ok noCI_ok owOk_no (n := 2000) (LS := [(4, S_HScene_4)]) (fn := Try.f4) rfl lok_HScene ?_
  rw [sx_HScene]
  refine ⟨?r1, ⟨?r0, ⟨?_, ?_⟩⟩⟩
  case r0 | r1 => first | rfl | (simp only [dShape, dI, dIv]; done) | (rw [dI]; done) | skip; (try simp only [List.length_map] at *); first | (simp only [dI]; done) | omega | (exact idx_ok (fun _ => rfl) (by first | omega | (rw [wrap_fit (by constructor <;> omega)]; omega)) (by simp only [decide_eq_true_eq, wrap_fit (show Fit (i + 4) by constructor <;> omega)] at h0; first | omega | (rw [wrap_fit (by constructor <;> omega)]; omega))) | (exact ⟨by omega, by omega, lens_app (lens_map (e := Shape.enc) (fun _ => rfl) _) rfl⟩)
  all_goals simp only [dI]
  · exact ⟨⟨by omega, by omega, hp0⟩, rfl⟩
  · rfl
theorem eo_HScene : EntO Try.prog 4 e_HScene 33 := by
  intro args r ps h hp
  unfold e_HScene at h
  split at h
  · rename_i p1
    cases (Option.some.inj h)
    exact by
      have hq := conO_HScene (decL I.dec p1) (hp _ (by simp))
      have hc := hp _ (List.mem_cons_self ..)
      rw [← hc] at hq
      exact hq
  · exact absurd h (by simp)
theorem eok_HScene : EntOk Try.prog 4 e_HScene := fun args r ps h hp => conO_con (eo_HScene args r ps h hp)
theorem eo4 : EntO Try.prog 4 e4 33 := eo_HScene
theorem eok4 : EntOk Try.prog 4 e4 := eok_HScene
end Go.Men
namespace Go.Men
open Go.Ev Go.Proofs Go.Proofs.Ytoldgmhepeficaa
theorem sx_nearP_5 (k : Int) (n : Int) (l : List Shape) (all : List Iv) (best : Int) (at1 : Iv) (z : Iv) (r : Ray) (Q : Ex → Option St → Prop) : sxH evEnv (tabC [(24, e24), (10, e10)]) noCP noCI noG [] 2000 (bodyOf Try.f12 0) k_nearP_5 ke_nearP_5 kr_nearP_5 (H_nearP_5 k n l all best at1 z r) Q = (bif decide (k < n) then (((0 : Int) ≤ k ∧ (List.map Shape.enc l)[k.toNat]? = some (etaL [PV.v (Value.int IntKind.i64 (0 : Int)), PV.v (Value.int IntKind.i64 (0 : Int)), PV.v (Value.int IntKind.i64 (0 : Int)), PV.v (Value.int IntKind.i64 (0 : Int)), PV.v (Value.int IntKind.i64 (0 : Int)), PV.v (Value.int IntKind.i64 (0 : Int)), PV.v (Value.int IntKind.i64 (0 : Int)), PV.v (Value.int IntKind.i64 (0 : Int)), PV.v (Value.int IntKind.i64 (0 : Int)), PV.v (Value.int IntKind.i64 (0 : Int)), PV.v (Value.int IntKind.i64 (0 : Int)), PV.v (Value.int IntKind.i64 (0 : Int))] ((List.map Shape.enc l).getD k.toNat []))) ∧ (bif (hit (Shape.dec ((List.map Shape.enc l).getD k.toNat [])) r).snd == (0 : Int) then Q (Ex.ret) (some ⟨80, [(4, .p (.v (.int IntKind.i64 ((-1 : Int))))), (5, .ptr 5 0), (6, .p (.v (.int IntKind.i64 ((0 : Int)))))], [(5, [.v (.int IntKind.i64 ((0 : Int))), .v (.int IntKind.i64 ((0 : Int))), .v (.bool (true))])], [], [], []⟩) else (bif (hit (Shape.dec ((List.map Shape.enc l).getD k.toNat [])) r).snd == (2 : Int) then Q (Ex.normal) (some ⟨80, [(20, .p (.v (.int IntKind.i64 (IntKind.i64.wrap (k + (1 : Int)))))), (19, .p (.v (.int IntKind.i64 (n)))), (18, .p (.lst (List.map Shape.enc l))), (9, .p (.lst (List.map Iv.enc all))), (7, .p (.v (.int IntKind.i64 (best)))), (8, .ptr 8 0), (5, .ptr 5 0), (3, .ptr 3 0)], [(8, [.v (.int IntKind.i64 (at1.lo)), .v (.int IntKind.i64 (at1.hi)), .v (.bool (at1.no))]), (5, [.v (.int IntKind.i64 (z.lo)), .v (.int IntKind.i64 (z.hi)), .v (.bool (z.no))]), (3, [.v (.int IntKind.i64 (r.o.x.lo)), .v (.int IntKind.i64 (r.o.x.hi)), .v (.bool (r.o.x.no)), .v (.int IntKind.i64 (r.o.y.lo)), .v (.int IntKind.i64 (r.o.y.hi)), .v (.bool (r.o.y.no)), .v (.int IntKind.i64 (r.o.z.lo)), .v (.int IntKind.i64 (r.o.z.hi)), .v (.bool (r.o.z.no)), .v (.int IntKind.i64 (r.d.x.lo)), .v (.int IntKind.i64 (r.d.x.hi)), .v (.bool (r.d.x.no)), .v (.int IntKind.i64 (r.d.y.lo)), .v (.int IntKind.i64 (r.d.y.hi)), .v (.bool (r.d.y.no)), .v (.int IntKind.i64 (r.d.z.lo)), .v (.int IntKind.i64 (r.d.z.hi)), .v (.bool (r.d.z.no))])], [], [(Loc.t (nat_lit 9), nat_lit 35)], []⟩) else (bif decide (best < (0 : Int)) then (((0 : Nat) < (1 : Nat) ∧ ((List.map Iv.enc all).length + (1 : Nat)) * (24 : Nat) ≤ (140737488355328 : Nat) ∧ Lens (3 : Nat) (List.map Iv.enc all ++ [[PV.v (Value.int IntKind.i64 (hit (Shape.dec ((List.map Shape.enc l).getD k.toNat [])) r).fst.lo), PV.v (Value.int IntKind.i64 (hit (Shape.dec ((List.map Shape.enc l).getD k.toNat [])) r).fst.hi), PV.v (Value.bool (hit (Shape.dec ((List.map Shape.enc l).getD k.toNat [])) r).fst.no)]])) ∧ Q (Ex.normal) (some ⟨80, [(20, .p (.v (.int IntKind.i64 (IntKind.i64.wrap (k + (1 : Int)))))), (19, .p (.v (.int IntKind.i64 (n)))), (18, .p (.lst (List.map Shape.enc l))), (9, .p (.lst (List.map Iv.enc all ++ [[.v (.int IntKind.i64 ((hit (Shape.dec ((List.map Shape.enc l).getD k.toNat [])) r).fst.lo)), .v (.int IntKind.i64 ((hit (Shape.dec ((List.map Shape.enc l).getD k.toNat [])) r).fst.hi)), .v (.bool ((hit (Shape.dec ((List.map Shape.enc l).getD k.toNat [])) r).fst.no))]]))), (7, .p (.v (.int IntKind.i64 (k)))), (8, .ptr 8 0), (5, .ptr 5 0), (3, .ptr 3 0)], [(8, [.v (.int IntKind.i64 ((hit (Shape.dec ((List.map Shape.enc l).getD k.toNat [])) r).fst.lo)), .v (.int IntKind.i64 ((hit (Shape.dec ((List.map Shape.enc l).getD k.toNat [])) r).fst.hi)), .v (.bool ((hit (Shape.dec ((List.map Shape.enc l).getD k.toNat [])) r).fst.no))]), (5, [.v (.int IntKind.i64 (z.lo)), .v (.int IntKind.i64 (z.hi)), .v (.bool (z.no))]), (3, [.v (.int IntKind.i64 (r.o.x.lo)), .v (.int IntKind.i64 (r.o.x.hi)), .v (.bool (r.o.x.no)), .v (.int IntKind.i64 (r.o.y.lo)), .v (.int IntKind.i64 (r.o.y.hi)), .v (.bool (r.o.y.no)), .v (.int IntKind.i64 (r.o.z.lo)), .v (.int IntKind.i64 (r.o.z.hi)), .v (.bool (r.o.z.no)), .v (.int IntKind.i64 (r.d.x.lo)), .v (.int IntKind.i64 (r.d.x.hi)), .v (.bool (r.d.x.no)), .v (.int IntKind.i64 (r.d.y.lo)), .v (.int IntKind.i64 (r.d.y.hi)), .v (.bool (r.d.y.no)), .v (.int IntKind.i64 (r.d.z.lo)), .v (.int IntKind.i64 (r.d.z.hi)), .v (.bool (r.d.z.no))])], [], [(Loc.t (nat_lit 9), nat_lit 35)], []⟩)) else (bif decide ((hit (Shape.dec ((List.map Shape.enc l).getD k.toNat [])) r).fst.hi < at1.hi) then (((0 : Nat) < (1 : Nat) ∧ ((List.map Iv.enc all).length + (1 : Nat)) * (24 : Nat) ≤ (140737488355328 : Nat) ∧ Lens (3 : Nat) (List.map Iv.enc all ++ [[PV.v (Value.int IntKind.i64 (hit (Shape.dec ((List.map Shape.enc l).getD k.toNat [])) r).fst.lo), PV.v (Value.int IntKind.i64 (hit (Shape.dec ((List.map Shape.enc l).getD k.toNat [])) r).fst.hi), PV.v (Value.bool (hit (Shape.dec ((List.map Shape.enc l).getD k.toNat [])) r).fst.no)]])) ∧ Q (Ex.normal) (some ⟨80, [(20, .p (.v (.int IntKind.i64 (IntKind.i64.wrap (k + (1 : Int)))))), (19, .p (.v (.int IntKind.i64 (n)))), (18, .p (.lst (List.map Shape.enc l))), (9, .p (.lst (List.map Iv.enc all ++ [[.v (.int IntKind.i64 ((hit (Shape.dec ((List.map Shape.enc l).getD k.toNat [])) r).fst.lo)), .v (.int IntKind.i64 ((hit (Shape.dec ((List.map Shape.enc l).getD k.toNat [])) r).fst.hi)), .v (.bool ((hit (Shape.dec ((List.map Shape.enc l).getD k.toNat [])) r).fst.no))]]))), (7, .p (.v (.int IntKind.i64 (k)))), (8, .ptr 8 0), (5, .ptr 5 0), (3, .ptr 3 0)], [(8, [.v (.int IntKind.i64 ((hit (Shape.dec ((List.map Shape.enc l).getD k.toNat [])) r).fst.lo)), .v (.int IntKind.i64 ((hit (Shape.dec ((List.map Shape.enc l).getD k.toNat [])) r).fst.hi)), .v (.bool ((hit (Shape.dec ((List.map Shape.enc l).getD k.toNat [])) r).fst.no))]), (5, [.v (.int IntKind.i64 (z.lo)), .v (.int IntKind.i64 (z.hi)), .v (.bool (z.no))]), (3, [.v (.int IntKind.i64 (r.o.x.lo)), .v (.int IntKind.i64 (r.o.x.hi)), .v (.bool (r.o.x.no)), .v (.int IntKind.i64 (r.o.y.lo)), .v (.int IntKind.i64 (r.o.y.hi)), .v (.bool (r.o.y.no)), .v (.int IntKind.i64 (r.o.z.lo)), .v (.int IntKind.i64 (r.o.z.hi)), .v (.bool (r.o.z.no)), .v (.int IntKind.i64 (r.d.x.lo)), .v (.int IntKind.i64 (r.d.x.hi)), .v (.bool (r.d.x.no)), .v (.int IntKind.i64 (r.d.y.lo)), .v (.int IntKind.i64 (r.d.y.hi)), .v (.bool (r.d.y.no)), .v (.int IntKind.i64 (r.d.z.lo)), .v (.int IntKind.i64 (r.d.z.hi)), .v (.bool (r.d.z.no))])], [], [(Loc.t (nat_lit 9), nat_lit 35)], []⟩)) else (((0 : Nat) < (1 : Nat) ∧ ((List.map Iv.enc all).length + (1 : Nat)) * (24 : Nat) ≤ (140737488355328 : Nat) ∧ Lens (3 : Nat) (List.map Iv.enc all ++ [[PV.v (Value.int IntKind.i64 (hit (Shape.dec ((List.map Shape.enc l).getD k.toNat [])) r).fst.lo), PV.v (Value.int IntKind.i64 (hit (Shape.dec ((List.map Shape.enc l).getD k.toNat [])) r).fst.hi), PV.v (Value.bool (hit (Shape.dec ((List.map Shape.enc l).getD k.toNat [])) r).fst.no)]])) ∧ Q (Ex.normal) (some ⟨80, [(20, .p (.v (.int IntKind.i64 (IntKind.i64.wrap (k + (1 : Int)))))), (19, .p (.v (.int IntKind.i64 (n)))), (18, .p (.lst (List.map Shape.enc l))), (9, .p (.lst (List.map Iv.enc all ++ [[.v (.int IntKind.i64 ((hit (Shape.dec ((List.map Shape.enc l).getD k.toNat [])) r).fst.lo)), .v (.int IntKind.i64 ((hit (Shape.dec ((List.map Shape.enc l).getD k.toNat [])) r).fst.hi)), .v (.bool ((hit (Shape.dec ((List.map Shape.enc l).getD k.toNat [])) r).fst.no))]]))), (7, .p (.v (.int IntKind.i64 (best)))), (8, .ptr 8 0), (5, .ptr 5 0), (3, .ptr 3 0)], [(8, [.v (.int IntKind.i64 (at1.lo)), .v (.int IntKind.i64 (at1.hi)), .v (.bool (at1.no))]), (5, [.v (.int IntKind.i64 (z.lo)), .v (.int IntKind.i64 (z.hi)), .v (.bool (z.no))]), (3, [.v (.int IntKind.i64 (r.o.x.lo)), .v (.int IntKind.i64 (r.o.x.hi)), .v (.bool (r.o.x.no)), .v (.int IntKind.i64 (r.o.y.lo)), .v (.int IntKind.i64 (r.o.y.hi)), .v (.bool (r.o.y.no)), .v (.int IntKind.i64 (r.o.z.lo)), .v (.int IntKind.i64 (r.o.z.hi)), .v (.bool (r.o.z.no)), .v (.int IntKind.i64 (r.d.x.lo)), .v (.int IntKind.i64 (r.d.x.hi)), .v (.bool (r.d.x.no)), .v (.int IntKind.i64 (r.d.y.lo)), .v (.int IntKind.i64 (r.d.y.hi)), .v (.bool (r.d.y.no)), .v (.int IntKind.i64 (r.d.z.lo)), .v (.int IntKind.i64 (r.d.z.hi)), .v (.bool (r.d.z.no))])], [], [(Loc.t (nat_lit 9), nat_lit 35)], []⟩))))))) else Q (Ex.exit (0 : Nat)) (some ⟨80, [(5, .ptr 5 0), (8, .ptr 8 0), (7, .p (.v (.int IntKind.i64 (best)))), (9, .p (.lst (List.map Iv.enc all)))], [(8, [.v (.int IntKind.i64 (at1.lo)), .v (.int IntKind.i64 (at1.hi)), .v (.bool (at1.no))]), (5, [.v (.int IntKind.i64 (z.lo)), .v (.int IntKind.i64 (z.hi)), .v (.bool (z.no))])], [], [], []⟩)) := by kernel_rfl
theorem cs_nearP : CSOk Try.prog (tabC [(24, e24), (10, e10)]) := tabC_cons eok24 <| tabC_cons eok10 <| tabC_nil
theorem lp_nearP_5 : LsOk Try.prog (bodyOf Try.f12 0) S_nearP_5 := by
  refine lsOkH_of evEnv_ok.Γ (loopH_rule evEnv_ok cs_nearP noCP_ok noCI_ok owOk_no (LS := []) (lsA_get (l := []) (by kernel_rfl) (lsA_nil)) (n := 2000) (X := Int × Int × List Shape × List Iv × Int × Iv × Iv × Ray) (fun x => H_nearP_5 x.1 x.2.1 x.2.2.1 x.2.2.2.1 x.2.2.2.2.1 x.2.2.2.2.2.1 x.2.2.2.2.2.2.1 x.2.2.2.2.2.2.2) (fun x => I_nearP_5 x.1 x.2.1 x.2.2.1 x.2.2.2.1 x.2.2.2.2.1 x.2.2.2.2.2.1 x.2.2.2.2.2.2.1 x.2.2.2.2.2.2.2) (fun x e s => ((c_nearP_5 x.1 x.2.1 x.2.2.1 x.2.2.2.1 x.2.2.2.2.1 x.2.2.2.2.2.1 x.2.2.2.2.2.2.1 x.2.2.2.2.2.2.2 = true ∧ e = .ret ∧ s = R_nearP_5 x.1 x.2.1 x.2.2.1 x.2.2.2.1 x.2.2.2.2.1 x.2.2.2.2.2.1 x.2.2.2.2.2.2.1 x.2.2.2.2.2.2.2) ∨ (c_nearP_5 x.1 x.2.1 x.2.2.1 x.2.2.2.1 x.2.2.2.2.1 x.2.2.2.2.2.1 x.2.2.2.2.2.2.1 x.2.2.2.2.2.2.2 = false ∧ e = .exit 0 ∧ s = X_nearP_5 x.1 x.2.1 x.2.2.1 x.2.2.2.1 x.2.2.2.2.1 x.2.2.2.2.2.1 x.2.2.2.2.2.2.1 x.2.2.2.2.2.2.2))) (fun x => (x.2.1 - x.1).toNat) k_nearP_5 ke_nearP_5 kr_nearP_5 ?_) k_nearP_5 ?_
  · intro x hx
    obtain ⟨k, n, l, all, best, at1, z, r⟩ := x
    simp only [I_nearP_5] at hx
    show sxH _ _ _ _ _ _ _ _ _ _ _ (H_nearP_5 k n l all best at1 z r) _
    rw [sx_nearP_5]
    refine condI (fun h0 => ⟨?r3, condI (fun h1 => .inr ⟨by simp, _, rfl, ?_⟩) (fun h1 => condI (fun h2 => .inl ⟨rfl, (IntKind.i64.wrap (k + (1 : Int)), n, l, all, best, ⟨at1.lo, at1.hi, at1.no⟩, ⟨z.lo, z.hi, z.no⟩, ⟨⟨⟨r.o.x.lo, r.o.x.hi, r.o.x.no⟩, ⟨r.o.y.lo, r.o.y.hi, r.o.y.no⟩, ⟨r.o.z.lo, r.o.z.hi, r.o.z.no⟩⟩, ⟨⟨r.d.x.lo, r.d.x.hi, r.d.x.no⟩, ⟨r.d.y.lo, r.d.y.hi, r.d.y.no⟩, ⟨r.d.z.lo, r.d.z.hi, r.d.z.no⟩⟩⟩), by first | rfl | (simp only [H_nearP_5, List.map_append, List.map_cons, List.map_nil]; rfl), ?_, ?_, ?_⟩) (fun h2 => condI (fun h3 => ⟨?r0, .inl ⟨rfl, (IntKind.i64.wrap (k + (1 : Int)), n, l, (all ++ [⟨(hit (Shape.dec ((List.map Shape.enc l).getD k.toNat [])) r).fst.lo, (hit (Shape.dec ((List.map Shape.enc l).getD k.toNat [])) r).fst.hi, (hit (Shape.dec ((List.map Shape.enc l).getD k.toNat [])) r).fst.no⟩]), k, ⟨(hit (Shape.dec ((List.map Shape.enc l).getD k.toNat [])) r).fst.lo, (hit (Shape.dec ((List.map Shape.enc l).getD k.toNat [])) r).fst.hi, (hit (Shape.dec ((List.map Shape.enc l).getD k.toNat [])) r).fst.no⟩, ⟨z.lo, z.hi, z.no⟩, ⟨⟨⟨r.o.x.lo, r.o.x.hi, r.o.x.no⟩, ⟨r.o.y.lo, r.o.y.hi, r.o.y.no⟩, ⟨r.o.z.lo, r.o.z.hi, r.o.z.no⟩⟩, ⟨⟨r.d.x.lo, r.d.x.hi, r.d.x.no⟩, ⟨r.d.y.lo, r.d.y.hi, r.d.y.no⟩, ⟨r.d.z.lo, r.d.z.hi, r.d.z.no⟩⟩⟩), by first | rfl | (simp only [H_nearP_5, List.map_append, List.map_cons, List.map_nil]; rfl), ?_, ?_, ?_⟩⟩) (fun h3 => condI (fun h4 => ⟨?r1, .inl ⟨rfl, (IntKind.i64.wrap (k + (1 : Int)), n, l, (all ++ [⟨(hit (Shape.dec ((List.map Shape.enc l).getD k.toNat [])) r).fst.lo, (hit (Shape.dec ((List.map Shape.enc l).getD k.toNat [])) r).fst.hi, (hit (Shape.dec ((List.map Shape.enc l).getD k.toNat [])) r).fst.no⟩]), k, ⟨(hit (Shape.dec ((List.map Shape.enc l).getD k.toNat [])) r).fst.lo, (hit (Shape.dec ((List.map Shape.enc l).getD k.toNat [])) r).fst.hi, (hit (Shape.dec ((List.map Shape.enc l).getD k.toNat [])) r).fst.no⟩, ⟨z.lo, z.hi, z.no⟩, ⟨⟨⟨r.o.x.lo, r.o.x.hi, r.o.x.no⟩, ⟨r.o.y.lo, r.o.y.hi, r.o.y.no⟩, ⟨r.o.z.lo, r.o.z.hi, r.o.z.no⟩⟩, ⟨⟨r.d.x.lo, r.d.x.hi, r.d.x.no⟩, ⟨r.d.y.lo, r.d.y.hi, r.d.y.no⟩, ⟨r.d.z.lo, r.d.z.hi, r.d.z.no⟩⟩⟩), by first | rfl | (simp only [H_nearP_5, List.map_append, List.map_cons, List.map_nil]; rfl), ?_, ?_, ?_⟩⟩) (fun h4 => ⟨?r2, .inl ⟨rfl, (IntKind.i64.wrap (k + (1 : Int)), n, l, (all ++ [⟨(hit (Shape.dec ((List.map Shape.enc l).getD k.toNat [])) r).fst.lo, (hit (Shape.dec ((List.map Shape.enc l).getD k.toNat [])) r).fst.hi, (hit (Shape.dec ((List.map Shape.enc l).getD k.toNat [])) r).fst.no⟩]), best, ⟨at1.lo, at1.hi, at1.no⟩, ⟨z.lo, z.hi, z.no⟩, ⟨⟨⟨r.o.x.lo, r.o.x.hi, r.o.x.no⟩, ⟨r.o.y.lo, r.o.y.hi, r.o.y.no⟩, ⟨r.o.z.lo, r.o.z.hi, r.o.z.no⟩⟩, ⟨⟨r.d.x.lo, r.d.x.hi, r.d.x.no⟩, ⟨r.d.y.lo, r.d.y.hi, r.d.y.no⟩, ⟨r.d.z.lo, r.d.z.hi, r.d.z.no⟩⟩⟩), by first | rfl | (simp only [H_nearP_5, List.map_append, List.map_cons, List.map_nil]; rfl), ?_, ?_, ?_⟩⟩))))⟩) (fun h0 => .inr ⟨by simp, _, rfl, ?_⟩)
    case r0 | r1 | r2 | r3 => first | rfl | (simp only [dShape, dI, dIv]; done) | skip; (try simp only [List.length_map] at *); (try simp only [decide_eq_true_eq] at h0); first | omega | (exact idx_ok (fun _ => rfl) (by omega) (by omega)) | (exact ⟨by omega, by omega, lens_app (lens_map (e := Iv.enc) (fun _ => rfl) _) rfl⟩)
    all_goals obtain ⟨⟨a1, a2, a3, a4⟩, a5⟩ := hx
    all_goals (try simp only [decide_eq_true_eq, decide_eq_false_iff_not] at h0)
    all_goals first | (have hk : k < n := h0; obtain ⟨x, t, e1, e2, e3⟩ := get_at (l := l) a1 (by omega); simp only [map_at e3, sh_de] at *) | skip
    all_goals try simp only [I_nearP_5, c_nearP_5, R_nearP_5, X_nearP_5]
    all_goals try rw [wrap_fit (show Fit (k + 1) by constructor <;> omega)]
    · exact .inl ⟨by simp only [unsure, e1, List.any_cons, h1, Bool.true_or], by trivial, rfl⟩
    · exact ⟨⟨by omega, by omega, a3, a4⟩, by omega⟩
    · omega
    · simp only [unsure, e1, e2, List.any_cons, h1, Bool.false_or, nearGo, h2, cond_true]
      exact fun e s h => h
    · simp only [List.length_append, List.length_cons, List.length_nil]; exact ⟨⟨by omega, by omega, a3, a4⟩, by omega⟩
    · omega
    · simp only [unsure, e1, e2, List.any_cons, h1, Bool.false_or, nearGo, h2, h3, Bool.true_or, cond_true, cond_false]
      exact fun e s h => h
    · simp only [List.length_append, List.length_cons, List.length_nil]; exact ⟨⟨by omega, by omega, a3, a4⟩, by omega⟩
    · omega
    · simp only [unsure, e1, e2, List.any_cons, h1, Bool.false_or, nearGo, h2, h3, h4, Bool.false_or, cond_true, cond_false]
      exact fun e s h => h
    · simp only [List.length_append, List.length_cons, List.length_nil]; exact ⟨⟨by omega, by omega, a3, a4⟩, by omega⟩
    · omega
    · simp only [unsure, e1, e2, List.any_cons, h1, Bool.false_or, nearGo, h2, h3, h4, Bool.false_or, cond_false]
      exact fun e s h => h
    · exact .inr ⟨by rw [List.drop_eq_nil_of_le (by omega)]; rfl, by trivial, by rw [List.drop_eq_nil_of_le (by omega)]; rfl⟩
  · intro σ K hS
    unfold S_nearP_5 at hS
    split at hS
    · rename_i p1 p2 p3 p4 p5 p6 p7 p8 p9 p10 p11 p12 p13 p14 p15 p16 p17 p18 p19 p20 p21 p22 p23 p24 p25 p26 p27 p28 p29 hk
      obtain ⟨hi, hK⟩ := alls_get hS
      refine ⟨(p1, p2, (decL Shape.dec p3), (decL Iv.dec p4), p5, (⟨p6, p7, p8⟩ : Iv), (⟨p9, p10, p11⟩ : Iv), (⟨⟨⟨p12, p13, p14⟩, ⟨p15, p16, p17⟩, ⟨p18, p19, p20⟩⟩, ⟨⟨p21, p22, p23⟩, ⟨p24, p25, p26⟩, ⟨p27, p28, p29⟩⟩⟩ : Ray)), by
        simp only [H_nearP_5]
        rw [← (show p3 = (decL Shape.dec p3).map Shape.enc from hi _ (by simp))]
        rw [← (show p4 = (decL Iv.dec p4).map Iv.enc from hi _ (by simp))]
        exact hk, hi _ (by simp), fun e s hf => ?_⟩
      rcases hf with ⟨hc, rfl, rfl⟩ | ⟨hc, hf⟩
      · rw [hc] at hK; exact hK
      · rw [hc] at hK; obtain ⟨rfl, rfl⟩ := hf; exact hK
    · exact hS.elim
theorem sx_nearP_19 (i : Int) (n : Int) (all : List Iv) (near : Int) (best : Int) (al2 : List Iv) (at1 : Iv) (z : Iv) (Q : Ex → Option St → Prop) : sxH evEnv (tabC [(24, e24), (10, e10)]) noCP noCI noG [] 2000 (bodyOf Try.f12 1) k_nearP_19 ke_nearP_19 kr_nearP_19 (H_nearP_19 i n all near best al2 at1 z) Q = (bif decide (i < n) then (((0 : Int) ≤ i ∧ (List.map Iv.enc all)[i.toNat]? = some (etaL [PV.v (Value.int IntKind.i64 (0 : Int)), PV.v (Value.int IntKind.i64 (0 : Int)), PV.v (Value.bool false)] ((List.map Iv.enc all).getD i.toNat []))) ∧ (bif decide (at1.hi < intOf (((List.map Iv.enc all).getD i.toNat []).headD PV.nil)) then Q (Ex.normal) (some ⟨80, [(60, .p (.v (.int IntKind.i64 (IntKind.i64.wrap (i + (1 : Int)))))), (59, .p (.v (.int IntKind.i64 (n)))), (58, .p (.lst (List.map Iv.enc all))), (14, .p (.v (.int IntKind.i64 (IntKind.i64.wrap (near + (1 : Int)))))), (5, .ptr 5 0), (7, .p (.v (.int IntKind.i64 (best)))), (8, .ptr 8 0), (9, .p (.lst (List.map Iv.enc al2)))], [(8, [.v (.int IntKind.i64 (at1.lo)), .v (.int IntKind.i64 (at1.hi)), .v (.bool (at1.no))]), (5, [.v (.int IntKind.i64 (z.lo)), .v (.int IntKind.i64 (z.hi)), .v (.bool (z.no))])], [], [], []⟩) else Q (Ex.normal) (some ⟨80, [(60, .p (.v (.int IntKind.i64 (IntKind.i64.wrap (i + (1 : Int)))))), (59, .p (.v (.int IntKind.i64 (n)))), (58, .p (.lst (List.map Iv.enc all))), (14, .p (.v (.int IntKind.i64 (near)))), (5, .ptr 5 0), (7, .p (.v (.int IntKind.i64 (best)))), (8, .ptr 8 0), (9, .p (.lst (List.map Iv.enc al2)))], [(8, [.v (.int IntKind.i64 (at1.lo)), .v (.int IntKind.i64 (at1.hi)), .v (.bool (at1.no))]), (5, [.v (.int IntKind.i64 (z.lo)), .v (.int IntKind.i64 (z.hi)), .v (.bool (z.no))])], [], [], []⟩))) else Q (Ex.exit (3 : Nat)) (some ⟨80, [(5, .ptr 5 0), (7, .p (.v (.int IntKind.i64 (best)))), (8, .ptr 8 0), (9, .p (.lst (List.map Iv.enc al2))), (14, .p (.v (.int IntKind.i64 (near))))], [(8, [.v (.int IntKind.i64 (at1.lo)), .v (.int IntKind.i64 (at1.hi)), .v (.bool (at1.no))]), (5, [.v (.int IntKind.i64 (z.lo)), .v (.int IntKind.i64 (z.hi)), .v (.bool (z.no))])], [], [], []⟩)) := by kernel_rfl
theorem lp_nearP_19 : LsOk Try.prog (bodyOf Try.f12 1) S_nearP_19 := by
  refine lsOkH_of evEnv_ok.Γ (loopH_rule evEnv_ok cs_nearP noCP_ok noCI_ok owOk_no (LS := []) (lsA_get (l := []) (by kernel_rfl) (lsA_nil)) (n := 2000) (X := Int × Int × List Iv × Int × Int × List Iv × Iv × Iv) (fun x => H_nearP_19 x.1 x.2.1 x.2.2.1 x.2.2.2.1 x.2.2.2.2.1 x.2.2.2.2.2.1 x.2.2.2.2.2.2.1 x.2.2.2.2.2.2.2) (fun x => I_nearP_19 x.1 x.2.1 x.2.2.1 x.2.2.2.1 x.2.2.2.2.1 x.2.2.2.2.2.1 x.2.2.2.2.2.2.1 x.2.2.2.2.2.2.2) (fun x e s => (e = .exit 3 ∧ s = X_nearP_19 x.1 x.2.1 x.2.2.1 x.2.2.2.1 x.2.2.2.2.1 x.2.2.2.2.2.1 x.2.2.2.2.2.2.1 x.2.2.2.2.2.2.2)) (fun x => (x.2.1 - x.1).toNat) k_nearP_19 ke_nearP_19 kr_nearP_19 ?_) k_nearP_19 ?_
  · intro x hx
    obtain ⟨i, n, all, near, best, al2, at1, z⟩ := x
    simp only [I_nearP_19] at hx
    show sxH _ _ _ _ _ _ _ _ _ _ _ (H_nearP_19 i n all near best al2 at1 z) _
    rw [sx_nearP_19]
    refine condI (fun h0 => ⟨?r0, condI (fun h1 => .inl ⟨rfl, (IntKind.i64.wrap (i + (1 : Int)), n, all, IntKind.i64.wrap (near + (1 : Int)), best, al2, ⟨at1.lo, at1.hi, at1.no⟩, ⟨z.lo, z.hi, z.no⟩), by first | rfl | (simp only [H_nearP_19, List.map_append, List.map_cons, List.map_nil]; rfl), ?_, ?_, ?_⟩) (fun h1 => .inl ⟨rfl, (IntKind.i64.wrap (i + (1 : Int)), n, all, near, best, al2, ⟨at1.lo, at1.hi, at1.no⟩, ⟨z.lo, z.hi, z.no⟩), by first | rfl | (simp only [H_nearP_19, List.map_append, List.map_cons, List.map_nil]; rfl), ?_, ?_, ?_⟩)⟩) (fun h0 => .inr ⟨by simp, _, rfl, ?_⟩)
    case r0 => first | rfl | (simp only [dShape, dI, dIv]; done) | skip; (try simp only [List.length_map] at *); (try simp only [decide_eq_true_eq] at h0); first | omega | (exact idx_ok (fun _ => rfl) (by omega) (by omega)) | (exact ⟨by omega, by omega, lens_app (lens_map (e := Iv.enc) (fun _ => rfl) _) rfl⟩)
    all_goals obtain ⟨⟨a1, a2, a3, a4, a5, a6⟩, a7⟩ := hx
    all_goals (try simp only [decide_eq_true_eq, decide_eq_false_iff_not] at h0)
    all_goals first | (have hk : i < n := h0; obtain ⟨x, t, e1, e2, e3⟩ := get_at (l := all) a1 (by omega); simp only [map_at e3, iv_de] at *) | skip
    all_goals try simp only [I_nearP_19, X_nearP_19]
    all_goals try rw [wrap_fit (show Fit (i + 1) by constructor <;> omega)]
    all_goals try rw [wrap_fit (show Fit (near + 1) by constructor <;> omega)]
    · exact ⟨⟨by omega, by omega, a3, a4, by omega, by omega⟩, a7⟩
    · omega
    · have h1' : decide (at1.hi < x.lo) = true := h1
      simp only [e1, e2, behind, h1', cond_true]
      rw [show near + (behind at1 t + 1) = near + 1 + behind at1 t by omega]
      exact fun e s h => h
    · exact ⟨⟨by omega, by omega, a3, a4, by omega, by omega⟩, a7⟩
    · omega
    · have h1' : decide (at1.hi < x.lo) = false := h1
      simp only [e1, e2, behind, h1', cond_false]
      exact fun e s h => h
    · exact ⟨by trivial, by rw [List.drop_eq_nil_of_le (by omega)]; simp only [behind, Int.add_zero]⟩
  · intro σ K hS
    unfold S_nearP_19 at hS
    split at hS
    · rename_i p1 p2 p3 p4 p5 p6 p7 p8 p9 p10 p11 p12 hk
      obtain ⟨hi, hK⟩ := alls_get hS
      refine ⟨(p1, p2, (decL Iv.dec p3), p4, p5, (decL Iv.dec p6), (⟨p7, p8, p9⟩ : Iv), (⟨p10, p11, p12⟩ : Iv)), by
        simp only [H_nearP_19]
        rw [← (show p3 = (decL Iv.dec p3).map Iv.enc from hi _ (by simp))]
        rw [← (show p6 = (decL Iv.dec p6).map Iv.enc from hi _ (by simp))]
        exact hk, hi _ (by simp), fun e s hf => ?_⟩
      obtain ⟨rfl, rfl⟩ := hf
      exact hK
    · exact hS.elim
theorem lok_nearP : LoopsOk Try.prog [(5, S_nearP_5), (19, S_nearP_19)] Try.f12 := loopsOk_A (l := [bodyOf Try.f12 0, bodyOf Try.f12 1]) (by kernel_rfl) (lsA_cons (i := 5) (by kernel_rfl) rfl lp_nearP_5 (lsA_cons (i := 19) (by kernel_rfl) rfl lp_nearP_19 (lsA_nil)))
theorem sx_nearP (l : List Shape) (r : Ray) (Q : PV → Prop) : sxF evEnv (tabC [(24, e24), (10, e10)]) noCP noCI noG [(5, S_nearP_5), (19, S_nearP_19)] 2000 Try.f12 [.lst (l.map Shape.enc), .agg (Ray.enc r)] Q = ((List.map Shape.enc l = List.map Shape.enc (decL Shape.dec (List.map Shape.enc l))) ∧ (([] = List.map Iv.enc (decL Iv.dec [])) ∧ ((I_nearP_5 (0 : Int) (↑(List.map Shape.enc l).length) (decL Shape.dec (List.map Shape.enc l)) (decL Iv.dec []) (-1 : Int) none' (Iv.mk (0 : Int) (0 : Int) false) r) ∧ (bif c_nearP_5 (0 : Int) (↑(List.map Shape.enc l).length) (decL Shape.dec (List.map Shape.enc l)) (decL Iv.dec []) (-1 : Int) none' (Iv.mk (0 : Int) (0 : Int) false) r then Q (.tup [.v (.int IntKind.i64 ((-1 : Int))), .agg [.v (.int IntKind.i64 ((0 : Int))), .v (.int IntKind.i64 ((0 : Int))), .v (.bool (true))], .v (.int IntKind.i64 ((0 : Int)))]) else (bif decide ((nearGo r (List.drop (0 : Nat) (decL Shape.dec (List.map Shape.enc l))) (0 : Int) (-1 : Int) none' (decL Iv.dec [])).fst < (0 : Int)) then Q (.tup [.v (.int IntKind.i64 ((-1 : Int))), .agg [.v (.int IntKind.i64 ((0 : Int))), .v (.int IntKind.i64 ((0 : Int))), .v (.bool (true))], .v (.int IntKind.i64 ((2 : Int)))]) else ((List.map Iv.enc (nearGo r (List.drop (0 : Nat) (decL Shape.dec (List.map Shape.enc l))) (0 : Int) (-1 : Int) none' (decL Iv.dec [])).snd.snd = List.map Iv.enc (decL Iv.dec (List.map Iv.enc (nearGo r (List.drop (0 : Nat) (decL Shape.dec (List.map Shape.enc l))) (0 : Int) (-1 : Int) none' (decL Iv.dec [])).snd.snd))) ∧ ((List.map Iv.enc (nearGo r (List.drop (0 : Nat) (decL Shape.dec (List.map Shape.enc l))) (0 : Int) (-1 : Int) none' (decL Iv.dec [])).snd.snd = List.map Iv.enc (decL Iv.dec (List.map Iv.enc (nearGo r (List.drop (0 : Nat) (decL Shape.dec (List.map Shape.enc l))) (0 : Int) (-1 : Int) none' (decL Iv.dec [])).snd.snd))) ∧ ((I_nearP_19 (0 : Int) (↑(List.map Iv.enc (nearGo r (List.drop (0 : Nat) (decL Shape.dec (List.map Shape.enc l))) (0 : Int) (-1 : Int) none' (decL Iv.dec [])).snd.snd).length) (decL Iv.dec (List.map Iv.enc (nearGo r (List.drop (0 : Nat) (decL Shape.dec (List.map Shape.enc l))) (0 : Int) (-1 : Int) none' (decL Iv.dec [])).snd.snd)) (0 : Int) (nearGo r (List.drop (0 : Nat) (decL Shape.dec (List.map Shape.enc l))) (0 : Int) (-1 : Int) none' (decL Iv.dec [])).fst (decL Iv.dec (List.map Iv.enc (nearGo r (List.drop (0 : Nat) (decL Shape.dec (List.map Shape.enc l))) (0 : Int) (-1 : Int) none' (decL Iv.dec [])).snd.snd)) (nearGo r (List.drop (0 : Nat) (decL Shape.dec (List.map Shape.enc l))) (0 : Int) (-1 : Int) none' (decL Iv.dec [])).snd.fst (Iv.mk (0 : Int) (0 : Int) false)) ∧ (bif decide (IntKind.i64.wrap ((0 : Int) + behind (nearGo r (List.drop (0 : Nat) (decL Shape.dec (List.map Shape.enc l))) (0 : Int) (-1 : Int) none' (decL Iv.dec [])).snd.fst (List.drop (0 : Nat) (decL Iv.dec (List.map Iv.enc (nearGo r (List.drop (0 : Nat) (decL Shape.dec (List.map Shape.enc l))) (0 : Int) (-1 : Int) none' (decL Iv.dec [])).snd.snd))) + (1 : Int)) < ↑(List.map Iv.enc (decL Iv.dec (List.map Iv.enc (nearGo r (List.drop (0 : Nat) (decL Shape.dec (List.map Shape.enc l))) (0 : Int) (-1 : Int) none' (decL Iv.dec [])).snd.snd))).length) then Q (.tup [.v (.int IntKind.i64 ((-1 : Int))), .agg [.v (.int IntKind.i64 ((0 : Int))), .v (.int IntKind.i64 ((0 : Int))), .v (.bool (true))], .v (.int IntKind.i64 ((0 : Int)))]) else Q (.tup [.v (.int IntKind.i64 ((nearGo r (List.drop (0 : Nat) (decL Shape.dec (List.map Shape.enc l))) (0 : Int) (-1 : Int) none' (decL Iv.dec [])).fst)), .agg [.v (.int IntKind.i64 ((nearGo r (List.drop (0 : Nat) (decL Shape.dec (List.map Shape.enc l))) (0 : Int) (-1 : Int) none' (decL Iv.dec [])).snd.fst.lo)), .v (.int IntKind.i64 ((nearGo r (List.drop (0 : Nat) (decL Shape.dec (List.map Shape.enc l))) (0 : Int) (-1 : Int) none' (decL Iv.dec [])).snd.fst.hi)), .v (.bool ((nearGo r (List.drop (0 : Nat) (decL Shape.dec (List.map Shape.enc l))) (0 : Int) (-1 : Int) none' (decL Iv.dec [])).snd.fst.no))], .v (.int IntKind.i64 ((1 : Int)))])))))))))) := by kernel_rfl
theorem con_nearP (l : List Shape) (r : Ray) (hp0 : l.length ≤ 1000000) : Con Try.prog 12 [.lst (l.map Shape.enc), .agg (Ray.enc r)] (.tup [.v (.int .i64 ((nearest l r).1)), .agg (Iv.enc ((nearest l r).2.1)), .v (.int .i64 ((nearest l r).2.2))]) := by
  refine con_fin evEnv_ok cs_nearP noCP_ok noCI_ok owOk_no (n := 2000) (LS := [(5, S_nearP_5), (19, S_nearP_19)]) (fn := Try.f12) rfl lok_nearP ?_
  rw [sx_nearP]
  refine ⟨?r3, ⟨?r2, ⟨?_, condI (fun h0 => ?_) (fun h0 => condI (fun h1 => ?_) (fun h1 => ⟨?r1, ⟨?r0, ⟨?_, condI (fun h2 => ?_) (fun h2 => ?_)⟩⟩⟩))⟩⟩⟩
  case r0 | r1 | r2 | r3 => first | rfl | (simp only [dShape, dI, dIv]; done) | skip; (try simp only [List.length_map] at *); (try simp only [decide_eq_true_eq] at h0); first | omega | (exact idx_ok (fun _ => rfl) (by omega) (by omega)) | (exact ⟨by omega, by omega, lens_app (lens_map (e := Iv.enc) (fun _ => rfl) _) rfl⟩)
  all_goals simp only [dShape, dIv, List.length_map, Int.toNat_zero, List.drop_zero, Int.zero_add, c_nearP_5, show decL Iv.dec [] = [] from rfl] at *
  · exact ⟨⟨by omega, by omega, rfl, by omega⟩, by simp⟩
  · simp only [nearest, h0, cond_true]; rfl
  · simp only [nearest, h0, h1, cond_true, cond_false]; rfl
  · have hl := nearGo_len r l 0 (-1) none' []
    simp only [List.length_nil] at hl
    exact ⟨⟨by omega, by omega, rfl, by omega, by omega, by omega⟩, rfl⟩
  all_goals have hl := nearGo_len r l 0 (-1) none' []
  all_goals have hb := behind_le (nearGo r l 0 (-1) none' []).2.1 (nearGo r l 0 (-1) none' []).2.2
  all_goals simp only [List.length_nil] at hl
  all_goals rw [wrap_fit (by constructor <;> omega)] at h2
  · simp only [nearest, h0, h1, h2, cond_true, cond_false]; rfl
  · simp only [nearest, h0, h1, h2, cond_true, cond_false]; rfl
theorem eok_nearP : EntOk Try.prog 12 e_nearP := by
  intro args r ps h hp
  unfold e_nearP at h
  split at h
  · rename_i p1 p2 p3 p4 p5 p6 p7 p8 p9 p10 p11 p12 p13 p14 p15 p16 p17 p18 p19
    cases (Option.some.inj h)
    exact by
      have hq := con_nearP (decL Shape.dec p1) (⟨⟨⟨p2, p3, p4⟩, ⟨p5, p6, p7⟩, ⟨p8, p9, p10⟩⟩, ⟨⟨p11, p12, p13⟩, ⟨p14, p15, p16⟩, ⟨p17, p18, p19⟩⟩⟩ : Ray) (hp _ (by simp))
      have hc := hp _ (List.mem_cons_self ..)
      rw [← hc] at hq
      exact hq
  · exact absurd h (by simp)
theorem eok12 : EntOk Try.prog 12 e12 := eok_nearP
end Go.Men
namespace Go.Men
open Go.Ev Go.Proofs Go.Proofs.Ytoldgmhepeficaa
theorem sx_nearR_5 (i : Int) (ts : List Iv) (ats : List I) (l : List Shape) (z : Iv) (r : Ray) (Q : Ex → Option St → Prop) : sxH evEnv (tabC [(11, e11), (25, e25)]) noCP noCI noG [] 2000 (bodyOf Try.f13 0) k_nearR_5 ke_nearR_5 kr_nearR_5 (H_nearR_5 i ts ats l z r) Q = (bif decide (i < ↑(List.map Shape.enc l).length) then (((0 : Int) ≤ i ∧ (List.map Shape.enc l)[i.toNat]? = some (etaL [PV.v (Value.int IntKind.i64 (0 : Int)), PV.v (Value.int IntKind.i64 (0 : Int)), PV.v (Value.int IntKind.i64 (0 : Int)), PV.v (Value.int IntKind.i64 (0 : Int)), PV.v (Value.int IntKind.i64 (0 : Int)), PV.v (Value.int IntKind.i64 (0 : Int)), PV.v (Value.int IntKind.i64 (0 : Int)), PV.v (Value.int IntKind.i64 (0 : Int)), PV.v (Value.int IntKind.i64 (0 : Int)), PV.v (Value.int IntKind.i64 (0 : Int)), PV.v (Value.int IntKind.i64 (0 : Int)), PV.v (Value.int IntKind.i64 (0 : Int))] ((List.map Shape.enc l).getD i.toNat []))) ∧ (bif (hit (Shape.dec ((List.map Shape.enc l).getD i.toNat [])) r).snd == (0 : Int) then Q (Ex.ret) (some ⟨88, [(4, .p (.v (.int IntKind.i64 ((-1 : Int))))), (5, .ptr 5 0), (6, .p (.v (.int IntKind.i64 ((0 : Int)))))], [(5, [.v (.int IntKind.i64 ((0 : Int))), .v (.int IntKind.i64 ((0 : Int))), .v (.bool (true))])], [], [], []⟩) else (bif (hit (Shape.dec ((List.map Shape.enc l).getD i.toNat [])) r).snd == (1 : Int) then (((0 : Nat) < (1 : Nat) ∧ ((List.map I.enc ats).length + (1 : Nat)) * (8 : Nat) ≤ (140737488355328 : Nat) ∧ Lens (1 : Nat) (List.map I.enc ats ++ [[PV.v (Value.int IntKind.i64 i)]])) ∧ (((0 : Nat) < (1 : Nat) ∧ ((List.map Iv.enc ts).length + (1 : Nat)) * (24 : Nat) ≤ (140737488355328 : Nat) ∧ Lens (3 : Nat) (List.map Iv.enc ts ++ [[PV.v (Value.int IntKind.i64 (hit (Shape.dec ((List.map Shape.enc l).getD i.toNat [])) r).fst.lo), PV.v (Value.int IntKind.i64 (hit (Shape.dec ((List.map Shape.enc l).getD i.toNat [])) r).fst.hi), PV.v (Value.bool (hit (Shape.dec ((List.map Shape.enc l).getD i.toNat [])) r).fst.no)]])) ∧ Q (Ex.normal) (some ⟨88, [(9, .p (.v (.int IntKind.i64 (IntKind.i64.wrap (i + (1 : Int)))))), (8, .p (.lst (List.map Iv.enc ts ++ [[.v (.int IntKind.i64 ((hit (Shape.dec ((List.map Shape.enc l).getD i.toNat [])) r).fst.lo)), .v (.int IntKind.i64 ((hit (Shape.dec ((List.map Shape.enc l).getD i.toNat [])) r).fst.hi)), .v (.bool ((hit (Shape.dec ((List.map Shape.enc l).getD i.toNat [])) r).fst.no))]]))), (7, .p (.lst (List.map I.enc ats ++ [[.v (.int IntKind.i64 (i))]]))), (5, .ptr 5 0), (3, .ptr 3 0), (0, .p (.lst (List.map Shape.enc l)))], [(5, [.v (.int IntKind.i64 (z.lo)), .v (.int IntKind.i64 (z.hi)), .v (.bool (z.no))]), (3, [.v (.int IntKind.i64 (r.o.x.lo)), .v (.int IntKind.i64 (r.o.x.hi)), .v (.bool (r.o.x.no)), .v (.int IntKind.i64 (r.o.y.lo)), .v (.int IntKind.i64 (r.o.y.hi)), .v (.bool (r.o.y.no)), .v (.int IntKind.i64 (r.o.z.lo)), .v (.int IntKind.i64 (r.o.z.hi)), .v (.bool (r.o.z.no)), .v (.int IntKind.i64 (r.d.x.lo)), .v (.int IntKind.i64 (r.d.x.hi)), .v (.bool (r.d.x.no)), .v (.int IntKind.i64 (r.d.y.lo)), .v (.int IntKind.i64 (r.d.y.hi)), .v (.bool (r.d.y.no)), .v (.int IntKind.i64 (r.d.z.lo)), .v (.int IntKind.i64 (r.d.z.hi)), .v (.bool (r.d.z.no))])], [], [(Loc.t (nat_lit 8), nat_lit 35), (Loc.t (nat_lit 7), nat_lit 3)], []⟩))) else Q (Ex.normal) (some ⟨88, [(9, .p (.v (.int IntKind.i64 (IntKind.i64.wrap (i + (1 : Int)))))), (8, .p (.lst (List.map Iv.enc ts))), (7, .p (.lst (List.map I.enc ats))), (5, .ptr 5 0), (3, .ptr 3 0), (0, .p (.lst (List.map Shape.enc l)))], [(5, [.v (.int IntKind.i64 (z.lo)), .v (.int IntKind.i64 (z.hi)), .v (.bool (z.no))]), (3, [.v (.int IntKind.i64 (r.o.x.lo)), .v (.int IntKind.i64 (r.o.x.hi)), .v (.bool (r.o.x.no)), .v (.int IntKind.i64 (r.o.y.lo)), .v (.int IntKind.i64 (r.o.y.hi)), .v (.bool (r.o.y.no)), .v (.int IntKind.i64 (r.o.z.lo)), .v (.int IntKind.i64 (r.o.z.hi)), .v (.bool (r.o.z.no)), .v (.int IntKind.i64 (r.d.x.lo)), .v (.int IntKind.i64 (r.d.x.hi)), .v (.bool (r.d.x.no)), .v (.int IntKind.i64 (r.d.y.lo)), .v (.int IntKind.i64 (r.d.y.hi)), .v (.bool (r.d.y.no)), .v (.int IntKind.i64 (r.d.z.lo)), .v (.int IntKind.i64 (r.d.z.hi)), .v (.bool (r.d.z.no))])], [], [(Loc.t (nat_lit 8), nat_lit 35), (Loc.t (nat_lit 7), nat_lit 3)], []⟩)))) else Q (Ex.exit (0 : Nat)) (some ⟨88, [(5, .ptr 5 0), (8, .p (.lst (List.map Iv.enc ts))), (7, .p (.lst (List.map I.enc ats)))], [(5, [.v (.int IntKind.i64 (z.lo)), .v (.int IntKind.i64 (z.hi)), .v (.bool (z.no))])], [], [], []⟩)) := by kernel_rfl
theorem cs_nearR : CSOk Try.prog (tabC [(11, e11), (25, e25)]) := tabC_cons eok11 <| tabC_cons eok25 <| tabC_nil
theorem lp_nearR_5 : LsOk Try.prog (bodyOf Try.f13 0) S_nearR_5 := by
  refine lsOkH_of evEnv_ok.Γ (loopH_rule evEnv_ok cs_nearR noCP_ok noCI_ok owOk_no (LS := []) (lsA_get (l := []) (by kernel_rfl) (lsA_nil)) (n := 2000) (X := Int × List Iv × List I × List Shape × Iv × Ray) (fun x => H_nearR_5 x.1 x.2.1 x.2.2.1 x.2.2.2.1 x.2.2.2.2.1 x.2.2.2.2.2) (fun x => I_nearR_5 x.1 x.2.1 x.2.2.1 x.2.2.2.1 x.2.2.2.2.1 x.2.2.2.2.2) (fun x e s => ((c_nearR_5 x.1 x.2.1 x.2.2.1 x.2.2.2.1 x.2.2.2.2.1 x.2.2.2.2.2 = true ∧ e = .ret ∧ s = R_nearR_5 x.1 x.2.1 x.2.2.1 x.2.2.2.1 x.2.2.2.2.1 x.2.2.2.2.2) ∨ (c_nearR_5 x.1 x.2.1 x.2.2.1 x.2.2.2.1 x.2.2.2.2.1 x.2.2.2.2.2 = false ∧ e = .exit 0 ∧ s = X_nearR_5 x.1 x.2.1 x.2.2.1 x.2.2.2.1 x.2.2.2.2.1 x.2.2.2.2.2))) (fun x => (x.2.2.2.1.length - x.1).toNat) k_nearR_5 ke_nearR_5 kr_nearR_5 ?_) k_nearR_5 ?_
  · intro x hx
    obtain ⟨i, ts, ats, l, z, r⟩ := x
    simp only [I_nearR_5] at hx
    show sxH _ _ _ _ _ _ _ _ _ _ _ (H_nearR_5 i ts ats l z r) _
    rw [sx_nearR_5]
    refine condI (fun h0 => ⟨?r2, condI (fun h1 => .inr ⟨by simp, _, rfl, ?_⟩) (fun h1 => condI (fun h2 => ⟨?r1, ⟨?r0, .inl ⟨rfl, (IntKind.i64.wrap (i + (1 : Int)), (ts ++ [⟨(hit (Shape.dec ((List.map Shape.enc l).getD i.toNat [])) r).fst.lo, (hit (Shape.dec ((List.map Shape.enc l).getD i.toNat [])) r).fst.hi, (hit (Shape.dec ((List.map Shape.enc l).getD i.toNat [])) r).fst.no⟩]), (ats ++ [⟨i⟩]), l, ⟨z.lo, z.hi, z.no⟩, ⟨⟨⟨r.o.x.lo, r.o.x.hi, r.o.x.no⟩, ⟨r.o.y.lo, r.o.y.hi, r.o.y.no⟩, ⟨r.o.z.lo, r.o.z.hi, r.o.z.no⟩⟩, ⟨⟨r.d.x.lo, r.d.x.hi, r.d.x.no⟩, ⟨r.d.y.lo, r.d.y.hi, r.d.y.no⟩, ⟨r.d.z.lo, r.d.z.hi, r.d.z.no⟩⟩⟩), by first | rfl | (simp only [H_nearR_5, List.map_append, List.map_cons, List.map_nil]; rfl), ?_, ?_, ?_⟩⟩⟩) (fun h2 => .inl ⟨rfl, (IntKind.i64.wrap (i + (1 : Int)), ts, ats, l, ⟨z.lo, z.hi, z.no⟩, ⟨⟨⟨r.o.x.lo, r.o.x.hi, r.o.x.no⟩, ⟨r.o.y.lo, r.o.y.hi, r.o.y.no⟩, ⟨r.o.z.lo, r.o.z.hi, r.o.z.no⟩⟩, ⟨⟨r.d.x.lo, r.d.x.hi, r.d.x.no⟩, ⟨r.d.y.lo, r.d.y.hi, r.d.y.no⟩, ⟨r.d.z.lo, r.d.z.hi, r.d.z.no⟩⟩⟩), by first | rfl | (simp only [H_nearR_5, List.map_append, List.map_cons, List.map_nil]; rfl), ?_, ?_, ?_⟩))⟩) (fun h0 => .inr ⟨by simp, _, rfl, ?_⟩)
    case r0 | r1 | r2 => first | rfl | (simp only [dShape, dI, dIv]; done) | skip; (try simp only [List.length_map, dI, dIv] at *); (try simp only [decide_eq_true_eq] at h0); first | omega | (exact idx_ok (fun _ => rfl) (by omega) (by omega)) | (exact ⟨by omega, by omega, lens_app (lens_map (e := Iv.enc) (fun _ => rfl) _) rfl⟩) | (exact ⟨by omega, by omega, lens_app (lens_map (e := I.enc) (fun _ => rfl) _) rfl⟩)
    all_goals obtain ⟨⟨a1, a2, a3⟩, a4, a5⟩ := hx
    all_goals (try simp only [decide_eq_true_eq, decide_eq_false_iff_not, List.length_map] at h0)
    all_goals first | (have hk : i < l.length := h0; obtain ⟨x, t, e1, e2, e3⟩ := get_at (l := l) a1 (by omega); simp only [map_at e3, sh_de] at *) | skip
    all_goals try simp only [I_nearR_5, c_nearR_5, R_nearR_5, X_nearR_5]
    all_goals try rw [wrap_fit (show Fit (i + 1) by constructor <;> omega)]
    · exact .inl ⟨by simp only [unsure, e1, List.any_cons, h1, Bool.true_or], by trivial, rfl⟩
    · simp only [List.length_append, List.length_cons, List.length_nil]; exact ⟨⟨by omega, by omega, a3⟩, by omega, by omega⟩
    · omega
    · simp only [unsure, e1, e2, List.any_cons, h1, Bool.false_or, hitTs, hitIx, h2, cond_true]
      intro e s h
      simp only [List.append_assoc, List.cons_append, List.nil_append] at h
      exact h
    · exact ⟨⟨by omega, by omega, a3⟩, by omega, by omega⟩
    · omega
    · simp only [unsure, e1, e2, List.any_cons, h1, Bool.false_or, hitTs, hitIx, h2, cond_false]
      exact fun e s h => h
    · exact .inr ⟨by rw [List.drop_eq_nil_of_le (by omega)]; rfl, by trivial, by rw [List.drop_eq_nil_of_le (by omega)]; simp only [hitTs, hitIx, List.append_nil]⟩
  · intro σ K hS
    unfold S_nearR_5 at hS
    split at hS
    · rename_i p1 p2 p3 p4 p5 p6 p7 p8 p9 p10 p11 p12 p13 p14 p15 p16 p17 p18 p19 p20 p21 p22 p23 p24 p25 hk
      obtain ⟨hi, hK⟩ := alls_get hS
      refine ⟨(p1, (decL Iv.dec p2), (decL I.dec p3), (decL Shape.dec p4), (⟨p5, p6, p7⟩ : Iv), (⟨⟨⟨p8, p9, p10⟩, ⟨p11, p12, p13⟩, ⟨p14, p15, p16⟩⟩, ⟨⟨p17, p18, p19⟩, ⟨p20, p21, p22⟩, ⟨p23, p24, p25⟩⟩⟩ : Ray)), by
        simp only [H_nearR_5]
        rw [← (show p2 = (decL Iv.dec p2).map Iv.enc from hi _ (by simp))]
        rw [← (show p3 = (decL I.dec p3).map I.enc from hi _ (by simp))]
        rw [← (show p4 = (decL Shape.dec p4).map Shape.enc from hi _ (by simp))]
        exact hk, hi _ (by simp), fun e s hf => ?_⟩
      rcases hf with ⟨hc, rfl, rfl⟩ | ⟨hc, hf⟩
      · rw [hc] at hK; exact hK
      · rw [hc] at hK; obtain ⟨rfl, rfl⟩ := hf; exact hK
    · exact hS.elim
theorem sx_nearR_20 (k : Int) (ts : List Iv) (i : Int) (first : Bool) (ats : List I) (z : Iv) (Q : Ex → Option St → Prop) : sxH evEnv (tabC [(11, e11), (25, e25)]) noCP noCI noG [] 2000 (bodyOf Try.f13 2) k_nearR_20 ke_nearR_20 kr_nearR_20 (H_nearR_20 k ts i first ats z) Q = (bif decide (k < ↑(List.map I.enc ats).length) then (bif first then (bif k == i then Q (Ex.normal) (some ⟨88, [(14, .p (.v (.int IntKind.i64 (IntKind.i64.wrap (k + (1 : Int)))))), (8, .p (.lst (List.map Iv.enc ts))), (12, .p (.v (.int IntKind.i64 (i)))), (13, .p (.v (.bool (true)))), (5, .ptr 5 0), (7, .p (.lst (List.map I.enc ats)))], [(5, [.v (.int IntKind.i64 (z.lo)), .v (.int IntKind.i64 (z.hi)), .v (.bool (z.no))])], [], [], []⟩) else (((0 : Int) ≤ i ∧ (List.map Iv.enc ts)[i.toNat]? = some (etaL [PV.v (Value.int IntKind.i64 (0 : Int)), PV.v (Value.int IntKind.i64 (0 : Int)), PV.v (Value.bool false)] ((List.map Iv.enc ts).getD i.toNat []))) ∧ (((0 : Int) ≤ k ∧ (List.map Iv.enc ts)[k.toNat]? = some (etaL [PV.v (Value.int IntKind.i64 (0 : Int)), PV.v (Value.int IntKind.i64 (0 : Int)), PV.v (Value.bool false)] ((List.map Iv.enc ts).getD k.toNat []))) ∧ Q (Ex.normal) (some ⟨88, [(14, .p (.v (.int IntKind.i64 (IntKind.i64.wrap (k + (1 : Int)))))), (8, .p (.lst (List.map Iv.enc ts))), (12, .p (.v (.int IntKind.i64 (i)))), (13, .p (.v (.bool (decide (intOf (((List.map Iv.enc ts).getD i.toNat []).tail.headD PV.nil) < intOf (((List.map Iv.enc ts).getD k.toNat []).headD PV.nil)))))), (5, .ptr 5 0), (7, .p (.lst (List.map I.enc ats)))], [(5, [.v (.int IntKind.i64 (z.lo)), .v (.int IntKind.i64 (z.hi)), .v (.bool (z.no))])], [], [], []⟩)))) else Q (Ex.normal) (some ⟨88, [(14, .p (.v (.int IntKind.i64 (IntKind.i64.wrap (k + (1 : Int)))))), (8, .p (.lst (List.map Iv.enc ts))), (12, .p (.v (.int IntKind.i64 (i)))), (13, .p (.v (.bool (false)))), (5, .ptr 5 0), (7, .p (.lst (List.map I.enc ats)))], [(5, [.v (.int IntKind.i64 (z.lo)), .v (.int IntKind.i64 (z.hi)), .v (.bool (z.no))])], [], [], []⟩)) else Q (Ex.exit (4 : Nat)) (some ⟨88, [(5, .ptr 5 0), (12, .p (.v (.int IntKind.i64 (i)))), (8, .p (.lst (List.map Iv.enc ts))), (7, .p (.lst (List.map I.enc ats))), (13, .p (.v (.bool (first))))], [(5, [.v (.int IntKind.i64 (z.lo)), .v (.int IntKind.i64 (z.hi)), .v (.bool (z.no))])], [], [], []⟩)) := by kernel_rfl
theorem lp_nearR_20 : LsOk Try.prog (bodyOf Try.f13 2) S_nearR_20 := by
  refine lsOkH_of evEnv_ok.Γ (loopH_rule evEnv_ok cs_nearR noCP_ok noCI_ok owOk_no (LS := []) (lsA_get (l := []) (by kernel_rfl) (lsA_nil)) (n := 2000) (X := Int × List Iv × Int × Bool × List I × Iv) (fun x => H_nearR_20 x.1 x.2.1 x.2.2.1 x.2.2.2.1 x.2.2.2.2.1 x.2.2.2.2.2) (fun x => I_nearR_20 x.1 x.2.1 x.2.2.1 x.2.2.2.1 x.2.2.2.2.1 x.2.2.2.2.2) (fun x e s => (e = .exit 4 ∧ s = X_nearR_20 x.1 x.2.1 x.2.2.1 x.2.2.2.1 x.2.2.2.2.1 x.2.2.2.2.2)) (fun x => (x.2.2.2.2.1.length - x.1).toNat) k_nearR_20 ke_nearR_20 kr_nearR_20 ?_) k_nearR_20 ?_
  · intro x hx
    obtain ⟨k, ts, i, first, ats, z⟩ := x
    simp only [I_nearR_20] at hx
    show sxH _ _ _ _ _ _ _ _ _ _ _ (H_nearR_20 k ts i first ats z) _
    rw [sx_nearR_20]
    refine condI (fun h0 => condI (fun h1 => condI (fun h2 => .inl ⟨rfl, (IntKind.i64.wrap (k + (1 : Int)), ts, i, true, ats, ⟨z.lo, z.hi, z.no⟩), by first | rfl | (simp only [H_nearR_20, List.map_append, List.map_cons, List.map_nil]; rfl), ?_, ?_, ?_⟩) (fun h2 => ⟨?r1, ⟨?r0, .inl ⟨rfl, (IntKind.i64.wrap (k + (1 : Int)), ts, i, decide (intOf (((List.map Iv.enc ts).getD i.toNat []).tail.headD PV.nil) < intOf (((List.map Iv.enc ts).getD k.toNat []).headD PV.nil)), ats, ⟨z.lo, z.hi, z.no⟩), by first | rfl | (simp only [H_nearR_20, List.map_append, List.map_cons, List.map_nil]; rfl), ?_, ?_, ?_⟩⟩⟩)) (fun h1 => .inl ⟨rfl, (IntKind.i64.wrap (k + (1 : Int)), ts, i, false, ats, ⟨z.lo, z.hi, z.no⟩), by first | rfl | (simp only [H_nearR_20, List.map_append, List.map_cons, List.map_nil]; rfl), ?_, ?_, ?_⟩)) (fun h0 => .inr ⟨by simp, _, rfl, ?_⟩)
    case r0 | r1 => first | rfl | (simp only [dShape, dI, dIv]; done) | skip; (try simp only [List.length_map, dI, dIv] at *); (try simp only [decide_eq_true_eq] at h0); first | omega | (exact idx_ok (fun _ => rfl) (by omega) (by omega)) | (exact ⟨by omega, by omega, lens_app (lens_map (e := Iv.enc) (fun _ => rfl) _) rfl⟩) | (exact ⟨by omega, by omega, lens_app (lens_map (e := I.enc) (fun _ => rfl) _) rfl⟩)
    all_goals obtain ⟨⟨a1, a2, a3, a4⟩, a5, a6⟩ := hx
    all_goals (try simp only [decide_eq_true_eq, decide_eq_false_iff_not, List.length_map] at h0)
    all_goals first | (have hk : k < ats.length := h0; obtain ⟨x, t, e1, e2, e3⟩ := get_at (l := ts) a3 (by omega); obtain ⟨y, _, _, _, e4⟩ := get_at (l := ts) a1 (by omega); simp only [map_at e3, map_at e4, iv_de] at *) | skip
    all_goals try simp only [I_nearR_20, X_nearR_20]
    all_goals try rw [wrap_fit (show Fit (k + 1) by constructor <;> omega)]
    · exact ⟨⟨by omega, by omega, by omega, by omega⟩, a5, a6⟩
    · omega
    · simp only [h1, h2, e1, e2, firstGo, Bool.true_and, Bool.true_or]
      exact fun e s h => h
    · exact ⟨⟨by omega, by omega, by omega, by omega⟩, a5, a6⟩
    · omega
    · have g : ts.getD i.toNat none' = y := by rw [List.getD_eq_getElem?_getD, e4]; rfl
      simp only [h1, h2, e1, e2, g, firstGo, Bool.true_and, Bool.false_or]
      exact fun e s h => h
    · exact ⟨⟨by omega, by omega, by omega, by omega⟩, a5, a6⟩
    · omega
    · simp only [h1, Bool.false_and]
      exact fun e s h => h
    · exact ⟨by trivial, by rw [List.drop_eq_nil_of_le (by omega)]; simp only [firstGo, Bool.and_true]⟩
  · intro σ K hS
    unfold S_nearR_20 at hS
    split at hS
    · rename_i p1 p2 p3 p4 p5 p6 p7 p8 hk
      obtain ⟨hi, hK⟩ := alls_get hS
      refine ⟨(p1, (decL Iv.dec p2), p3, p4, (decL I.dec p5), (⟨p6, p7, p8⟩ : Iv)), by
        simp only [H_nearR_20]
        rw [← (show p2 = (decL Iv.dec p2).map Iv.enc from hi _ (by simp))]
        rw [← (show p5 = (decL I.dec p5).map I.enc from hi _ (by simp))]
        exact hk, hi _ (by simp), fun e s hf => ?_⟩
      obtain ⟨rfl, rfl⟩ := hf
      exact hK
    · exact hS.elim
theorem sx_nearR_16 (ts : List Iv) (i : Int) (ats : List I) (z : Iv) (Q : Ex → Option St → Prop) : sxH evEnv (tabC [(11, e11), (25, e25)]) noCP noCI noG [(20, S_nearR_20)] 2000 (bodyOf Try.f13 1) k_nearR_16 ke_nearR_16 kr_nearR_16 (H_nearR_16 ts i ats z) Q = (bif decide (i < ↑(List.map I.enc ats).length) then ((List.map Iv.enc ts = List.map Iv.enc (decL Iv.dec (List.map Iv.enc ts))) ∧ ((List.map I.enc ats = List.map I.enc (decL I.dec (List.map I.enc ats))) ∧ ((I_nearR_20 (0 : Int) (decL Iv.dec (List.map Iv.enc ts)) i true (decL I.dec (List.map I.enc ats)) z) ∧ (bif true && firstGo ((decL Iv.dec (List.map Iv.enc ts)).getD i.toNat none').hi i (List.drop (0 : Nat) (decL Iv.dec (List.map Iv.enc ts))) (0 : Int) then (((0 : Int) ≤ i ∧ (List.map I.enc (decL I.dec (List.map I.enc ats)))[i.toNat]? = some (etaL [PV.v (Value.int IntKind.i64 (0 : Int))] ((List.map I.enc (decL I.dec (List.map I.enc ats))).getD i.toNat []))) ∧ (((0 : Int) ≤ i ∧ (List.map Iv.enc (decL Iv.dec (List.map Iv.enc ts)))[i.toNat]? = some (etaL [PV.v (Value.int IntKind.i64 (0 : Int)), PV.v (Value.int IntKind.i64 (0 : Int)), PV.v (Value.bool false)] ((List.map Iv.enc (decL Iv.dec (List.map Iv.enc ts))).getD i.toNat []))) ∧ Q (Ex.ret) (some ⟨88, [(4, .p (.v (.int IntKind.i64 (intOf (((List.map I.enc (decL I.dec (List.map I.enc ats))).getD i.toNat []).headD PV.nil))))), (5, .ptr 5 0), (6, .p (.v (.int IntKind.i64 ((1 : Int)))))], [(5, [.v (.int IntKind.i64 (intOf (((List.map Iv.enc (decL Iv.dec (List.map Iv.enc ts))).getD i.toNat []).headD PV.nil))), .v (.int IntKind.i64 (intOf (((List.map Iv.enc (decL Iv.dec (List.map Iv.enc ts))).getD i.toNat []).tail.headD PV.nil))), .v (.bool (boolOf (((List.map Iv.enc (decL Iv.dec (List.map Iv.enc ts))).getD i.toNat []).tail.tail.headD PV.nil)))])], [], [], []⟩))) else Q (Ex.normal) (some ⟨88, [(8, .p (.lst (List.map Iv.enc (decL Iv.dec (List.map Iv.enc ts))))), (12, .p (.v (.int IntKind.i64 (IntKind.i64.wrap (i + (1 : Int)))))), (5, .ptr 5 0), (7, .p (.lst (List.map I.enc (decL I.dec (List.map I.enc ats)))))], [(5, [.v (.int IntKind.i64 (z.lo)), .v (.int IntKind.i64 (z.hi)), .v (.bool (z.no))])], [], [], []⟩))))) else Q (Ex.exit (2 : Nat)) (some ⟨88, [(5, .ptr 5 0)], [(5, [.v (.int IntKind.i64 (z.lo)), .v (.int IntKind.i64 (z.hi)), .v (.bool (z.no))])], [], [], []⟩)) := by kernel_rfl
theorem lp_nearR_16 : LsOk Try.prog (bodyOf Try.f13 1) S_nearR_16 := by
  refine lsOkH_of evEnv_ok.Γ (loopH_rule evEnv_ok cs_nearR noCP_ok noCI_ok owOk_no (LS := [(20, S_nearR_20)]) (lsA_get (l := [bodyOf Try.f13 2]) (by kernel_rfl) (lsA_cons (i := 20) (by kernel_rfl) rfl lp_nearR_20 (lsA_nil))) (n := 2000) (X := List Iv × Int × List I × Iv) (fun x => H_nearR_16 x.1 x.2.1 x.2.2.1 x.2.2.2) (fun x => I_nearR_16 x.1 x.2.1 x.2.2.1 x.2.2.2) (fun x e s => ((c_nearR_16 x.1 x.2.1 x.2.2.1 x.2.2.2 = true ∧ e = .ret ∧ s = R_nearR_16 x.1 x.2.1 x.2.2.1 x.2.2.2) ∨ (c_nearR_16 x.1 x.2.1 x.2.2.1 x.2.2.2 = false ∧ e = .exit 2 ∧ s = X_nearR_16 x.1 x.2.1 x.2.2.1 x.2.2.2))) (fun x => (x.2.2.1.length - x.2.1).toNat) k_nearR_16 ke_nearR_16 kr_nearR_16 ?_) k_nearR_16 ?_
  · intro x hx
    obtain ⟨ts, i, ats, z⟩ := x
    simp only [I_nearR_16] at hx
    show sxH _ _ _ _ _ _ _ _ _ _ _ (H_nearR_16 ts i ats z) _
    rw [sx_nearR_16]
    refine condI (fun h0 => ⟨?r3, ⟨?r2, ⟨?_, condI (fun h1 => ⟨?r1, ⟨?r0, .inr ⟨by simp, _, rfl, ?_⟩⟩⟩) (fun h1 => .inl ⟨rfl, ((decL Iv.dec (List.map Iv.enc ts)), IntKind.i64.wrap (i + (1 : Int)), (decL I.dec (List.map I.enc ats)), ⟨z.lo, z.hi, z.no⟩), by first | rfl | (simp only [H_nearR_16, List.map_append, List.map_cons, List.map_nil]; rfl), ?_, ?_, ?_⟩)⟩⟩⟩) (fun h0 => .inr ⟨by simp, _, rfl, ?_⟩)
    case r0 | r1 | r2 | r3 => first | rfl | (simp only [dShape, dI, dIv]; done) | skip; (try simp only [List.length_map, dI, dIv] at *); (try simp only [decide_eq_true_eq] at h0); first | omega | (exact idx_ok (fun _ => rfl) (by omega) (by omega)) | (exact ⟨by omega, by omega, lens_app (lens_map (e := Iv.enc) (fun _ => rfl) _) rfl⟩) | (exact ⟨by omega, by omega, lens_app (lens_map (e := I.enc) (fun _ => rfl) _) rfl⟩)
    all_goals obtain ⟨⟨a1, a2⟩, a5, a6⟩ := hx
    all_goals (try simp only [decide_eq_true_eq, decide_eq_false_iff_not, List.length_map] at h0)
    all_goals first | (have hk : i < ats.length := h0; obtain ⟨x, t, e1, e2, e3⟩ := get_at (l := ts) a1 (by omega); obtain ⟨y, u, f1, f2, f3⟩ := get_at (l := ats) a1 (by omega); simp only [map_at e3, map_at f3, iv_de, dI, dIv] at *) | skip
    all_goals try simp only [I_nearR_20, I_nearR_16, c_nearR_16, R_nearR_16, X_nearR_16]
    all_goals try rw [wrap_fit (show Fit (i + 1) by constructor <;> omega)]
    · exact ⟨⟨by omega, by omega, by omega, by omega⟩, a5, a6⟩
    · have g : ts.getD i.toNat none' = x := by rw [List.getD_eq_getElem?_getD, e3]; rfl
      simp only [g, Bool.true_and, Int.toNat_zero, List.drop_zero] at h1
      have hp : pickR ts (ats.drop i.toNat) (ts.drop i.toNat) i = some (y.n, x) := by simp only [e1, f1, pickR, h1, cond_true]
      exact .inl ⟨by rw [hp]; rfl, by trivial, by rw [hp]; rfl⟩
    · exact ⟨⟨by omega, by omega⟩, a5, a6⟩
    · omega
    · have g : ts.getD i.toNat none' = x := by rw [List.getD_eq_getElem?_getD, e3]; rfl
      simp only [g, Bool.true_and, Int.toNat_zero, List.drop_zero] at h1
      have hp : pickR ts (ats.drop i.toNat) (ts.drop i.toNat) i = pickR ts (ats.drop (i + 1).toNat) (ts.drop (i + 1).toNat) (i + 1) := by simp only [e1, f1, e2, f2, pickR, h1, cond_false]
      rw [hp]
      exact fun e s h => h
    · exact .inr ⟨by rw [List.drop_eq_nil_of_le (by omega)]; simp [pickR], by trivial, by first | trivial | rfl⟩
  · intro σ K hS
    unfold S_nearR_16 at hS
    split at hS
    · rename_i p1 p2 p3 p4 p5 p6 hk
      obtain ⟨hi, hK⟩ := alls_get hS
      refine ⟨((decL Iv.dec p1), p2, (decL I.dec p3), (⟨p4, p5, p6⟩ : Iv)), by
        simp only [H_nearR_16]
        rw [← (show p1 = (decL Iv.dec p1).map Iv.enc from hi _ (by simp))]
        rw [← (show p3 = (decL I.dec p3).map I.enc from hi _ (by simp))]
        exact hk, hi _ (by simp), fun e s hf => ?_⟩
      rcases hf with ⟨hc, rfl, rfl⟩ | ⟨hc, hf⟩
      · rw [hc] at hK; exact hK
      · rw [hc] at hK; obtain ⟨rfl, rfl⟩ := hf; exact hK
    · exact hS.elim
theorem lok_nearR : LoopsOk Try.prog [(5, S_nearR_5), (20, S_nearR_20), (16, S_nearR_16)] Try.f13 := loopsOk_A (l := [bodyOf Try.f13 0, bodyOf Try.f13 1, bodyOf Try.f13 2]) (by kernel_rfl) (lsA_cons (i := 5) (by kernel_rfl) rfl lp_nearR_5 (lsA_cons (i := 16) (by kernel_rfl) rfl lp_nearR_16 (lsA_cons (i := 20) (by kernel_rfl) rfl lp_nearR_20 (lsA_nil))))
theorem sx_nearR (l : List Shape) (r : Ray) (Q : PV → Prop) : sxF evEnv (tabC [(11, e11), (25, e25)]) noCP noCI noG [(5, S_nearR_5), (20, S_nearR_20), (16, S_nearR_16)] 2000 Try.f13 [.lst (l.map Shape.enc), .agg (Ray.enc r)] Q = (([] = List.map Iv.enc (decL Iv.dec [])) ∧ (([] = List.map I.enc (decL I.dec [])) ∧ ((List.map Shape.enc l = List.map Shape.enc (decL Shape.dec (List.map Shape.enc l))) ∧ ((I_nearR_5 (0 : Int) (decL Iv.dec []) (decL I.dec []) (decL Shape.dec (List.map Shape.enc l)) (Iv.mk (0 : Int) (0 : Int) false) r) ∧ (bif c_nearR_5 (0 : Int) (decL Iv.dec []) (decL I.dec []) (decL Shape.dec (List.map Shape.enc l)) (Iv.mk (0 : Int) (0 : Int) false) r then Q (.tup [.v (.int IntKind.i64 ((-1 : Int))), .agg [.v (.int IntKind.i64 ((0 : Int))), .v (.int IntKind.i64 ((0 : Int))), .v (.bool (true))], .v (.int IntKind.i64 ((0 : Int)))]) else (bif ↑(List.map I.enc (decL I.dec [] ++ hitIx r (List.drop (0 : Nat) (decL Shape.dec (List.map Shape.enc l))) (0 : Int))).length == (0 : Int) then Q (.tup [.v (.int IntKind.i64 ((-1 : Int))), .agg [.v (.int IntKind.i64 ((0 : Int))), .v (.int IntKind.i64 ((0 : Int))), .v (.bool (true))], .v (.int IntKind.i64 ((2 : Int)))]) else ((List.map Iv.enc (decL Iv.dec [] ++ hitTs r (List.drop (0 : Nat) (decL Shape.dec (List.map Shape.enc l)))) = List.map Iv.enc (decL Iv.dec (List.map Iv.enc (decL Iv.dec [] ++ hitTs r (List.drop (0 : Nat) (decL Shape.dec (List.map Shape.enc l))))))) ∧ ((List.map I.enc (decL I.dec [] ++ hitIx r (List.drop (0 : Nat) (decL Shape.dec (List.map Shape.enc l))) (0 : Int)) = List.map I.enc (decL I.dec (List.map I.enc (decL I.dec [] ++ hitIx r (List.drop (0 : Nat) (decL Shape.dec (List.map Shape.enc l))) (0 : Int))))) ∧ ((I_nearR_16 (decL Iv.dec (List.map Iv.enc (decL Iv.dec [] ++ hitTs r (List.drop (0 : Nat) (decL Shape.dec (List.map Shape.enc l)))))) (0 : Int) (decL I.dec (List.map I.enc (decL I.dec [] ++ hitIx r (List.drop (0 : Nat) (decL Shape.dec (List.map Shape.enc l))) (0 : Int)))) (Iv.mk (0 : Int) (0 : Int) false)) ∧ (bif c_nearR_16 (decL Iv.dec (List.map Iv.enc (decL Iv.dec [] ++ hitTs r (List.drop (0 : Nat) (decL Shape.dec (List.map Shape.enc l)))))) (0 : Int) (decL I.dec (List.map I.enc (decL I.dec [] ++ hitIx r (List.drop (0 : Nat) (decL Shape.dec (List.map Shape.enc l))) (0 : Int)))) (Iv.mk (0 : Int) (0 : Int) false) then Q (.tup [.v (.int IntKind.i64 ((pickD (pickR (decL Iv.dec (List.map Iv.enc (decL Iv.dec [] ++ hitTs r (List.drop (0 : Nat) (decL Shape.dec (List.map Shape.enc l)))))) (List.drop (0 : Nat) (decL I.dec (List.map I.enc (decL I.dec [] ++ hitIx r (List.drop (0 : Nat) (decL Shape.dec (List.map Shape.enc l))) (0 : Int))))) (List.drop (0 : Nat) (decL Iv.dec (List.map Iv.enc (decL Iv.dec [] ++ hitTs r (List.drop (0 : Nat) (decL Shape.dec (List.map Shape.enc l))))))) (0 : Int))).fst)), .agg [.v (.int IntKind.i64 ((pickD (pickR (decL Iv.dec (List.map Iv.enc (decL Iv.dec [] ++ hitTs r (List.drop (0 : Nat) (decL Shape.dec (List.map Shape.enc l)))))) (List.drop (0 : Nat) (decL I.dec (List.map I.enc (decL I.dec [] ++ hitIx r (List.drop (0 : Nat) (decL Shape.dec (List.map Shape.enc l))) (0 : Int))))) (List.drop (0 : Nat) (decL Iv.dec (List.map Iv.enc (decL Iv.dec [] ++ hitTs r (List.drop (0 : Nat) (decL Shape.dec (List.map Shape.enc l))))))) (0 : Int))).snd.lo)), .v (.int IntKind.i64 ((pickD (pickR (decL Iv.dec (List.map Iv.enc (decL Iv.dec [] ++ hitTs r (List.drop (0 : Nat) (decL Shape.dec (List.map Shape.enc l)))))) (List.drop (0 : Nat) (decL I.dec (List.map I.enc (decL I.dec [] ++ hitIx r (List.drop (0 : Nat) (decL Shape.dec (List.map Shape.enc l))) (0 : Int))))) (List.drop (0 : Nat) (decL Iv.dec (List.map Iv.enc (decL Iv.dec [] ++ hitTs r (List.drop (0 : Nat) (decL Shape.dec (List.map Shape.enc l))))))) (0 : Int))).snd.hi)), .v (.bool ((pickD (pickR (decL Iv.dec (List.map Iv.enc (decL Iv.dec [] ++ hitTs r (List.drop (0 : Nat) (decL Shape.dec (List.map Shape.enc l)))))) (List.drop (0 : Nat) (decL I.dec (List.map I.enc (decL I.dec [] ++ hitIx r (List.drop (0 : Nat) (decL Shape.dec (List.map Shape.enc l))) (0 : Int))))) (List.drop (0 : Nat) (decL Iv.dec (List.map Iv.enc (decL Iv.dec [] ++ hitTs r (List.drop (0 : Nat) (decL Shape.dec (List.map Shape.enc l))))))) (0 : Int))).snd.no))], .v (.int IntKind.i64 ((1 : Int)))]) else Q (.tup [.v (.int IntKind.i64 ((-1 : Int))), .agg [.v (.int IntKind.i64 ((0 : Int))), .v (.int IntKind.i64 ((0 : Int))), .v (.bool (true))], .v (.int IntKind.i64 ((0 : Int)))]))))))))))) := by kernel_rfl
theorem con_nearR (l : List Shape) (r : Ray) (hp0 : l.length ≤ 1000000) : Con Try.prog 13 [.lst (l.map Shape.enc), .agg (Ray.enc r)] (.tup [.v (.int .i64 ((nearestR l r).1)), .agg (Iv.enc ((nearestR l r).2.1)), .v (.int .i64 ((nearestR l r).2.2))]) := by
  refine con_fin evEnv_ok cs_nearR noCP_ok noCI_ok owOk_no (n := 2000) (LS := [(5, S_nearR_5), (20, S_nearR_20), (16, S_nearR_16)]) (fn := Try.f13) rfl lok_nearR ?_
  rw [sx_nearR]
  refine ⟨?r4, ⟨?r3, ⟨?r2, ⟨?_, condI (fun h0 => ?_) (fun h0 => condI (fun h1 => ?_) (fun h1 => ⟨?r1, ⟨?r0, ⟨?_, condI (fun h2 => ?_) (fun h2 => ?_)⟩⟩⟩))⟩⟩⟩⟩
  case r0 | r1 | r2 | r3 | r4 => first | rfl | (simp only [dShape, dI, dIv]; done) | skip; (try simp only [List.length_map, dI, dIv] at *); (try simp only [decide_eq_true_eq] at h0); first | omega | (exact idx_ok (fun _ => rfl) (by omega) (by omega)) | (exact ⟨by omega, by omega, lens_app (lens_map (e := Iv.enc) (fun _ => rfl) _) rfl⟩) | (exact ⟨by omega, by omega, lens_app (lens_map (e := I.enc) (fun _ => rfl) _) rfl⟩)
  all_goals simp only [dShape, dIv, dI, List.length_map, Int.toNat_zero, List.drop_zero, Int.zero_add, c_nearR_5, c_nearR_16, show decL Iv.dec [] = [] from rfl, show decL I.dec [] = [] from rfl, List.nil_append] at *
  · exact ⟨⟨by omega, by omega, by omega⟩, by simp⟩
  · simp only [nearestR, h0, cond_true]; rfl
  all_goals have hl := hit_len r l 0
  · have h1' : ((hitTs r l).length == 0) = true := by simp only [beq_iff_eq] at h1 ⊢; omega
    simp only [nearestR, h0, h1', cond_true, cond_false]; rfl
  · exact ⟨⟨by omega, by omega⟩, hl.1, by omega⟩
  all_goals have h1' : ((hitTs r l).length == 0) = false := by simp only [beq_eq_false_iff_ne, ne_eq] at h1 ⊢; omega
  · simp only [nearestR, h0, h1', h2, cond_true, cond_false]; rfl
  · simp only [nearestR, h0, h1', h2, cond_true, cond_false]; rfl
theorem eok_nearR : EntOk Try.prog 13 e_nearR := by
  intro args r ps h hp
  unfold e_nearR at h
  split at h
  · rename_i p1 p2 p3 p4 p5 p6 p7 p8 p9 p10 p11 p12 p13 p14 p15 p16 p17 p18 p19
    cases (Option.some.inj h)
    exact by
      have hq := con_nearR (decL Shape.dec p1) (⟨⟨⟨p2, p3, p4⟩, ⟨p5, p6, p7⟩, ⟨p8, p9, p10⟩⟩, ⟨⟨p11, p12, p13⟩, ⟨p14, p15, p16⟩, ⟨p17, p18, p19⟩⟩⟩ : Ray) (hp _ (by simp))
      have hc := hp _ (List.mem_cons_self ..)
      rw [← hc] at hq
      exact hq
  · exact absurd h (by simp)
theorem eok13 : EntOk Try.prog 13 e13 := eok_nearR
end Go.Men
namespace Go.Men
open Go.Ev Go.Proofs Go.Proofs.Ytoldgmhepeficaa
theorem sx_axis (h : Iv) (Q : PV → Prop) : sxF evEnv (tabC [(36, e36), (48, e48), (38, e38)]) noCP noCI noG [] 2000 Try.f35 [.agg (Iv.enc h)] Q = Q (.agg [.v (.int IntKind.i64 (h.lo)), .v (.int IntKind.i64 (h.hi)), .v (.bool (h.no)), .v (.int IntKind.i64 ((point (0 : Int)).lo)), .v (.int IntKind.i64 ((point (0 : Int)).hi)), .v (.bool ((point (0 : Int)).no)), .v (.int IntKind.i64 ((point (0 : Int)).lo)), .v (.int IntKind.i64 ((point (0 : Int)).hi)), .v (.bool ((point (0 : Int)).no)), .v (.int IntKind.i64 ((0 : Int))), .v (.int IntKind.i64 ((0 : Int))), .v (.bool (false)), .v (.int IntKind.i64 ((0 : Int))), .v (.int IntKind.i64 ((0 : Int))), .v (.bool (false)), .v (.int IntKind.i64 ((65536 : Int))), .v (.int IntKind.i64 ((65536 : Int))), .v (.bool (false))]) := by kernel_rfl
theorem cs_axis : CSOk Try.prog (tabC [(36, e36), (48, e48), (38, e38)]) := tabC_cons eok36 <| tabC_cons eok48 <| tabC_cons eok38 <| tabC_nil
theorem con_axis (h : Iv)  : Con Try.prog 35 [.agg (Iv.enc h)] (.agg (Ray.enc (axis h))) := by
  refine con_fin evEnv_ok cs_axis noCP_ok noCI_ok owOk_no (n := 2000) (LS := []) (fn := Try.f35) rfl loopsOk_nil ?_
  rw [sx_axis]
  refine ?_
  all_goals (first | rfl | (simp_all [nz, nzA, nz1, Iv.enc, V.enc, Ray.enc, Dec.enc, Shape.enc, none', told, Bool.cond_decide, axis]; done) | (simp_all [nz, nzA, nz1, Iv.enc, V.enc, Ray.enc, Dec.enc, Shape.enc, none', told, Bool.cond_decide, axis]; omega) | (simp_all [nz, nzA, nz1, Iv.enc, V.enc, Ray.enc, Dec.enc, Shape.enc, none', told, Bool.cond_decide, axis]; (repeat' split) <;> (first | rfl | (exfalso; omega) | (simp_all; done) | omega)))
theorem eok_axis : EntOk Try.prog 35 e_axis := by
  intro args r ps h hp
  unfold e_axis at h
  split at h
  · rename_i p1 p2 p3
    cases (Option.some.inj h)
    exact con_axis (⟨p1, p2, p3⟩ : Iv) 
  · exact absurd h (by simp)
theorem eok35 : EntOk Try.prog 35 e35 := eok_axis
theorem sx_ball (z : Int) (r : Int) (Q : PV → Prop) : sxF evEnv (tabC []) noCP noCI noG [] 2000 Try.f37 [.v (.int .i64 z), .v (.int .i64 r)] Q = Q (.agg [.v (.int IntKind.i64 ((1 : Int))), .v (.int IntKind.i64 ((0 : Int))), .v (.int IntKind.i64 ((0 : Int))), .v (.int IntKind.i64 ((0 : Int))), .v (.int IntKind.i64 ((0 : Int))), .v (.int IntKind.i64 (z)), .v (.int IntKind.i64 ((0 : Int))), .v (.int IntKind.i64 (r)), .v (.int IntKind.i64 ((0 : Int))), .v (.int IntKind.i64 ((1 : Int))), .v (.int IntKind.i64 ((2 : Int))), .v (.int IntKind.i64 ((3 : Int)))]) := by kernel_rfl
theorem cs_ball : CSOk Try.prog (tabC []) := tabC_nil
theorem con_ball (z : Int) (r : Int)  : Con Try.prog 37 [.v (.int .i64 z), .v (.int .i64 r)] (.agg (Shape.enc (ball z r))) := by
  refine con_fin evEnv_ok cs_ball noCP_ok noCI_ok owOk_no (n := 2000) (LS := []) (fn := Try.f37) rfl loopsOk_nil ?_
  rw [sx_ball]
  refine ?_
  all_goals (first | rfl | (simp_all [nz, nzA, nz1, Iv.enc, V.enc, Ray.enc, Dec.enc, Shape.enc, none', told, Bool.cond_decide, ball]; done) | (simp_all [nz, nzA, nz1, Iv.enc, V.enc, Ray.enc, Dec.enc, Shape.enc, none', told, Bool.cond_decide, ball]; omega) | (simp_all [nz, nzA, nz1, Iv.enc, V.enc, Ray.enc, Dec.enc, Shape.enc, none', told, Bool.cond_decide, ball]; (repeat' split) <;> (first | rfl | (exfalso; omega) | (simp_all; done) | omega)))
theorem eok_ball : EntOk Try.prog 37 e_ball := by
  intro args r ps h hp
  unfold e_ball at h
  split at h
  · rename_i p1 p2
    cases (Option.some.inj h)
    exact con_ball p1 p2 
  · exact absurd h (by simp)
theorem eok37 : EntOk Try.prog 37 e37 := eok_ball
theorem sx_known  (Q : PV → Prop) : sxF evEnv (tabC [(36, e36), (35, e35), (12, e12), (37, e37), (10, e10), (24, e24), (38, e38)]) noCP noCI noG [] 2000 Try.f14 [] Q = (([] = List.map Shape.enc (decL Shape.dec [])) ∧ (((0 : Nat) ≤ (1000000 : Nat)) ∧ Q (.v (.bool (true))))) := by kernel_rfl
theorem cs_known : CSOk Try.prog (tabC [(36, e36), (35, e35), (12, e12), (37, e37), (10, e10), (24, e24), (38, e38)]) := tabC_cons eok36 <| tabC_cons eok35 <| tabC_cons eok12 <| tabC_cons eok37 <| tabC_cons eok10 <| tabC_cons eok24 <| tabC_cons eok38 <| tabC_nil
theorem con_known   : Con Try.prog 14 [] (.v (.bool true)) := by
  refine con_fin evEnv_ok cs_known noCP_ok noCI_ok owOk_no (n := 2000) (LS := []) (fn := Try.f14) rfl loopsOk_nil ?_
  rw [sx_known]
  refine ⟨?r1, ⟨?r0, ?_⟩⟩
  case r0 | r1 => first | rfl | (simp only [dShape, dI, dIv]; omega) | (simp [decL, chunk]; done) | (simp only [dShape, dI, dIv]; done) | (exact idx_ok (fun _ => rfl) (by omega) (by omega)) | (simp only [decide_eq_true_eq, List.length_map] at *; exact idx_ok (fun _ => rfl) (by omega) (by omega)) | assumption | trivial | (simp_all; done) | omega
  all_goals rfl
theorem eok_known : EntOk Try.prog 14 e_known := by
  intro args r ps h hp
  unfold e_known at h
  split at h
  · cases (Option.some.inj h)
    exact con_known  
  · exact absurd h (by simp)
theorem eok14 : EntOk Try.prog 14 e14 := eok_known
end Go.Men
namespace Go.Men
theorem of_le (lo hi : Int) : (of lo hi).lo ≤ (of lo hi).hi := by
  unfold of
  cases h : right ⟨lo, hi, false⟩ with
  | true => exact (right_bd h).2.2.2
  | false => exact Int.le_refl 0
theorem divIv_le (a b : Iv) : (divIv a b).lo ≤ (divIv a b).hi := by
  unfold divIv
  cases both a b && !(has b 0) with
  | false => exact Int.le_refl 0
  | true =>
    simp only [cond_true]
    unfold ends
    cases ((div a.lo b.lo false).2 && (div a.lo b.lo true).2) && (((div a.lo b.hi false).2 && (div a.lo b.hi true).2) && (((div a.hi b.lo false).2 && (div a.hi b.lo true).2) && ((div a.hi b.hi false).2 && (div a.hi b.hi true).2))) with
    | false => exact Int.le_refl 0
    | true => exact of_le _ _
theorem nearR_le (a b c : Iv) : (nearR a b c).1.lo ≤ (nearR a b c).1.hi ∧ ((nearR a b c).2 = 0 ∨ (nearR a b c).2 = 1 ∨ (nearR a b c).2 = 2) := by
  unfold nearR
  simp only
  cases (sub (sqr b) (mulIv a c)).no with
  | true => exact ⟨Int.le_refl 0, .inl rfl⟩
  | false =>
    cases decide ((sub (sqr b) (mulIv a c)).hi < 0) with
    | true => exact ⟨Int.le_refl 0, .inr (.inr rfl)⟩
    | false =>
      cases decide ((sub (sqr b) (mulIv a c)).lo < 0) with
      | true => exact ⟨Int.le_refl 0, .inl rfl⟩
      | false =>
        simp only [cond_false]
        have h := divIv_le c (sub (rootIv (sub (sqr b) (mulIv a c))) b)
        cases (divIv c (sub (rootIv (sub (sqr b) (mulIv a c))) b)).no with
        | true => exact ⟨Int.le_refl 0, .inl rfl⟩
        | false => exact ⟨h, .inr (.inl rfl)⟩
theorem meet_le (s : Shape) (r : Ray) : (meet s r).1.lo ≤ (meet s r).1.hi ∧ ((meet s r).2 = 0 ∨ (meet s r).2 = 1 ∨ (meet s r).2 = 2) := by
  unfold meet
  simp only
  cases s.kind == 1 with
  | true => exact nearR_le _ _ _
  | false =>
    cases s.kind == 2 with
    | false => exact ⟨Int.le_refl 0, .inl rfl⟩
    | true =>
      simp only [cond_true, cond_false]
      have h := divIv_le (sub (decIv s.z) r.o.z) r.d.z
      cases (divIv (sub (decIv s.z) r.o.z) r.d.z).no with
      | true => exact ⟨Int.le_refl 0, .inl rfl⟩
      | false => exact ⟨h, .inr (.inl rfl)⟩
theorem hit_le (s : Shape) (r : Ray) : (hit s r).1.lo ≤ (hit s r).1.hi ∧ ((hit s r).2 = 0 ∨ (hit s r).2 = 1 ∨ (hit s r).2 = 2) := by
  obtain ⟨h1, h2⟩ := meet_le s r
  unfold hit
  cases !((meet s r).2 == 1) with
  | true => exact ⟨Int.le_refl 0, h2⟩
  | false =>
    cases decide ((meet s r).1.hi ≤ 0) with
    | true => exact ⟨Int.le_refl 0, .inr (.inr rfl)⟩
    | false =>
      cases decide ((meet s r).1.lo ≤ 0) with
      | true => exact ⟨Int.le_refl 0, .inl rfl⟩
      | false => exact ⟨h1, .inr (.inl rfl)⟩
def hitP (r : Ray) : List Shape → Int → List (Int × Iv)
  | [], _ => []
  | s :: l, k => bif (hit s r).2 == 1 then (k, (hit s r).1) :: hitP r l (k + 1) else hitP r l (k + 1)
theorem hitP_ts (r : Ray) : ∀ (l : List Shape) (k : Int), hitTs r l = (hitP r l k).map (·.2)
  | [], _ => rfl
  | s :: l, k => by
    simp only [hitTs, hitP]
    cases (hit s r).2 == 1 <;> simp only [cond_true, cond_false, List.map_cons, ← hitP_ts r l (k + 1)]
theorem hitP_ix (r : Ray) : ∀ (l : List Shape) (k : Int), hitIx r l k = (hitP r l k).map (fun p => ⟨p.1⟩)
  | [], _ => rfl
  | s :: l, k => by
    simp only [hitIx, hitP]
    cases (hit s r).2 == 1 <;> simp only [cond_true, cond_false, List.map_cons, hitP_ix r l (k + 1)]
theorem hitP_ok (r : Ray) : ∀ (l : List Shape) (k : Int), 0 ≤ k → ∀ p ∈ hitP r l k, 0 ≤ p.1 ∧ p.2.lo ≤ p.2.hi
  | [], _, _, p, hp => absurd hp (by simp [hitP])
  | s :: l, k, hk, p, hp => by
    have ih := hitP_ok r l (k + 1) (by omega)
    simp only [hitP] at hp
    cases e : (hit s r).2 == 1 with
    | true =>
      rw [e, cond_true] at hp
      rcases List.mem_cons.1 hp with rfl | hp
      · exact ⟨hk, (hit_le s r).1⟩
      · exact ih p hp
    | false => rw [e, cond_false] at hp; exact ih p hp
def bestGo : List (Int × Iv) → Int → Iv → Int × Iv
  | [], b, a => (b, a)
  | p :: l, b, a => bif decide (b < 0) || decide (p.2.hi < a.hi) then bestGo l p.1 p.2 else bestGo l b a
theorem nearGo_eq (r : Ray) : ∀ (l : List Shape) (k b : Int) (a : Iv) (all : List Iv), unsure r l = false →
    nearGo r l k b a all = ((bestGo (hitP r l k) b a).1, (bestGo (hitP r l k) b a).2, all ++ (hitP r l k).map (·.2))
  | [], _, _, _, _, _ => by simp [nearGo, hitP, bestGo]
  | s :: l, k, b, a, all, h => by
    simp only [unsure, List.any_cons, Bool.or_eq_false_iff] at h
    have ih := fun b a all => nearGo_eq r l (k + 1) b a all h.2
    have h0 : (hit s r).2 ≠ 0 := by simpa using h.1
    simp only [nearGo, hitP]
    rcases (hit_le s r).2 with e | e | e
    · exact absurd e h0
    · rw [show ((hit s r).2 == 2) = false by rw [e]; rfl, show ((hit s r).2 == 1) = true by rw [e]; rfl]
      simp only [cond_true, cond_false, bestGo, List.map_cons]
      cases decide (b < 0) || decide ((hit s r).1.hi < a.hi) <;> simp only [cond_true, cond_false, ih, List.append_assoc, List.cons_append, List.nil_append]
    · rw [show ((hit s r).2 == 2) = true by rw [e]; rfl, show ((hit s r).2 == 1) = false by rw [e]; rfl]
      simp only [cond_true, cond_false, ih]
theorem bestGo_ok : ∀ (l : List (Int × Iv)) (b : Int) (a : Iv), 0 ≤ b → (∀ p ∈ l, 0 ≤ p.1) →
    0 ≤ (bestGo l b a).1 ∧ (bestGo l b a).2.hi ≤ a.hi ∧ (∀ p ∈ l, (bestGo l b a).2.hi ≤ p.2.hi) ∧ (bestGo l b a = (b, a) ∨ ∃ m : Nat, l[m]? = some (bestGo l b a))
  | [], b, a, hb, _ => ⟨hb, Int.le_refl _, fun p hp => absurd hp (by simp), .inl rfl⟩
  | p :: l, b, a, hb, hp => by
    have hp' : ∀ q ∈ l, 0 ≤ q.1 := fun q hq => hp q (List.mem_cons_of_mem _ hq)
    have n : decide (b < 0) = false := by simp; omega
    simp only [bestGo, n, Bool.false_or]
    cases e : decide (p.2.hi < a.hi) with
    | true =>
      simp only [decide_eq_true_eq] at e
      obtain ⟨h1, h2, h3, h4⟩ := bestGo_ok l p.1 p.2 (hp p List.mem_cons_self) hp'
      refine ⟨h1, by simp only [cond_true]; omega, fun q hq => ?_, .inr ?_⟩
      · rcases List.mem_cons.1 hq with rfl | hq
        · exact h2
        · exact h3 q hq
      · rcases h4 with h4 | ⟨m, hm⟩
        · exact ⟨0, by simp only [cond_true]; rw [h4]; rfl⟩
        · exact ⟨m + 1, by simpa using hm⟩
    | false =>
      simp only [decide_eq_false_iff_not] at e
      obtain ⟨h1, h2, h3, h4⟩ := bestGo_ok l b a hb hp'
      refine ⟨h1, h2, fun q hq => ?_, ?_⟩
      · rcases List.mem_cons.1 hq with rfl | hq
        · simp only [cond_false]; omega
        · exact h3 q hq
      · rcases h4 with h4 | ⟨m, hm⟩
        · exact .inl h4
        · exact .inr ⟨m + 1, by simpa using hm⟩
theorem behind_eq (a : Iv) : ∀ (l : List Iv) (m : Nat) (t : Iv), l[m]? = some t → ¬ a.hi < t.lo → (∀ (n : Nat) (x : Iv), l[n]? = some x → n ≠ m → a.hi < x.lo) → behind a l + 1 = l.length
  | [], m, t, h, _, _ => absurd h (by simp)
  | x :: l, 0, t, h, ht, ha => by
    have : ∀ (l : List Iv), (∀ (n : Nat) (x : Iv), l[n]? = some x → a.hi < x.lo) → behind a l = l.length := by
      intro l
      induction l with
      | nil => intro _; rfl
      | cons y l ih =>
        intro hy
        have := hy 0 y rfl
        simp only [behind, this, decide_true, cond_true, ih (fun n x hx => hy (n + 1) x (by simpa using hx)), List.length_cons]
        omega
    have e : x = t := by simpa using h
    subst e
    simp only [behind, ht, decide_false, cond_false, this l (fun n x hx => ha (n + 1) x (by simpa using hx) (by omega)), List.length_cons]
    omega
  | x :: l, m + 1, t, h, ht, ha => by
    have ih := behind_eq a l m t (by simpa using h) ht (fun n x hx hn => ha (n + 1) x (by simpa using hx) (by omega))
    have := ha 0 x rfl (by omega)
    simp only [behind, this, decide_true, cond_true, List.length_cons]
    omega
theorem behind_lt1 (a : Iv) : ∀ (l : List Iv) (m : Nat) (t : Iv), l[m]? = some t → ¬ a.hi < t.lo → behind a l + 1 ≤ l.length
  | [], m, t, h, _ => absurd h (by simp)
  | x :: l, 0, t, h, ht => by
    have e : x = t := by simpa using h
    subst e
    have := (behind_le a l).2
    simp only [behind, ht, decide_false, cond_false, List.length_cons]
    omega
  | x :: l, m + 1, t, h, ht => by
    have ih := behind_lt1 a l m t (by simpa using h) ht
    simp only [behind, List.length_cons]
    cases decide (a.hi < x.lo) <;> simp only [cond_true, cond_false] <;> omega
theorem behind_lt2 (a : Iv) : ∀ (l : List Iv) (m k : Nat) (t u : Iv), l[m]? = some t → ¬ a.hi < t.lo → l[k]? = some u → ¬ a.hi < u.lo → m ≠ k → behind a l + 2 ≤ l.length
  | [], m, _, t, _, h, _, _, _, _ => absurd h (by simp)
  | x :: l, 0, 0, _, _, _, _, _, _, hn => absurd rfl hn
  | x :: l, 0, k + 1, t, u, h, ht, hk, hu, _ => by
    have e : x = t := by simpa using h
    subst e
    have := behind_lt1 a l k u (by simpa using hk) hu
    simp only [behind, ht, decide_false, cond_false, List.length_cons]
    omega
  | x :: l, m + 1, 0, t, u, h, ht, hk, hu, _ => by
    have e : x = u := by simpa using hk
    subst e
    have := behind_lt1 a l m t (by simpa using h) ht
    simp only [behind, hu, decide_false, cond_false, List.length_cons]
    omega
  | x :: l, m + 1, k + 1, t, u, h, ht, hk, hu, hn => by
    have ih := behind_lt2 a l m k t u (by simpa using h) ht (by simpa using hk) hu (by omega)
    simp only [behind, List.length_cons]
    cases decide (a.hi < x.lo) <;> simp only [cond_true, cond_false] <;> omega
theorem firstGo_true {h i : Int} : ∀ {l : List Iv} {k : Int}, firstGo h i l k = true → ∀ (n : Nat) (t : Iv), l[n]? = some t → k + n = i ∨ h < t.lo
  | [], _, _, n, t, ht => absurd ht (by simp)
  | x :: l, k, e, n, t, ht => by
    simp only [firstGo, Bool.and_eq_true, Bool.or_eq_true, beq_iff_eq, decide_eq_true_eq] at e
    cases n with
    | zero =>
      have : x = t := by simpa using ht
      subst this
      rcases e.1 with h1 | h1
      · exact .inl (by simpa using h1)
      · exact .inr h1
    | succ n =>
      rcases firstGo_true e.2 n t (by simpa using ht) with h1 | h1
      · exact .inl (by rw [← h1]; push_cast; omega)
      · exact .inr h1
theorem firstGo_false {h i : Int} : ∀ {l : List Iv} {k : Int}, firstGo h i l k = false → ∃ (n : Nat) (t : Iv), l[n]? = some t ∧ k + n ≠ i ∧ ¬ h < t.lo
  | [], _, e => absurd e (by simp [firstGo])
  | x :: l, k, e => by
    simp only [firstGo, Bool.and_eq_false_iff, Bool.or_eq_false_iff, beq_eq_false_iff_ne, decide_eq_false_iff_not] at e
    rcases e with e | e
    · exact ⟨0, x, rfl, by simpa using e.1, e.2⟩
    · obtain ⟨n, t, h1, h2, h3⟩ := firstGo_false e
      exact ⟨n + 1, t, by simpa using h1, fun h4 => h2 (by rw [← h4]; push_cast; omega), h3⟩
theorem pick_some {ts : List Iv} : ∀ {la : List I} {lt : List Iv} {i : Int} {q : Int × Iv}, pickR ts la lt i = some q → ∃ n : Nat, la[n]? = some ⟨q.1⟩ ∧ lt[n]? = some q.2 ∧ firstGo q.2.hi (i + n) ts 0 = true
  | [], _, _, _, h => absurd h (by simp [pickR])
  | _ :: _, [], _, _, h => absurd h (by simp [pickR])
  | a :: la, t :: lt, i, q, h => by
    simp only [pickR] at h
    cases e : firstGo t.hi i ts 0 with
    | true =>
      rw [e, cond_true] at h
      cases Option.some.inj h
      exact ⟨0, rfl, rfl, by simpa using e⟩
    | false =>
      rw [e, cond_false] at h
      obtain ⟨n, h1, h2, h3⟩ := pick_some h
      exact ⟨n + 1, by simpa using h1, by simpa using h2, by rw [show i + ((n + 1 : Nat) : Int) = i + 1 + n by push_cast; omega]; exact h3⟩
theorem pick_none {ts : List Iv} : ∀ {la : List I} {lt : List Iv} {i : Int}, la.length = lt.length → pickR ts la lt i = none → ∀ (n : Nat) t, lt[n]? = some t → firstGo t.hi (i + n) ts 0 = false
  | [], [], _, _, _, n, t, ht => absurd ht (by simp)
  | [], _ :: _, _, hl, _, _, _, _ => absurd hl (by simp)
  | _ :: _, [], _, hl, _, _, _, _ => absurd hl (by simp)
  | a :: la, x :: lt, i, hl, h, n, t, ht => by
    simp only [pickR] at h
    cases e : firstGo x.hi i ts 0 with
    | true => rw [e, cond_true] at h; exact absurd h (by simp)
    | false =>
      rw [e, cond_false] at h
      cases n with
      | zero =>
        have : x = t := by simpa using ht
        subst this
        simpa using e
      | succ n =>
        have := pick_none (by simpa using hl) h n t (by simpa using ht)
        rw [show i + ((n + 1 : Nat) : Int) = i + 1 + n by push_cast; omega]
        exact this
theorem nearestR_eq (l : List Shape) (r : Ray) : nearestR l r = nearest l r := by
  unfold nearestR nearest
  cases hu : unsure r l with
  | true => rfl
  | false =>
    simp only [cond_false]
    rw [nearGo_eq r l 0 (-1) none' [] hu, hitP_ts r l 0, hitP_ix r l 0]
    have hok := hitP_ok r l 0 (Int.le_refl 0)
    generalize hitP r l 0 = hs at hok
    simp only [List.nil_append]
    cases hs with
    | nil => rfl
    | cons p hs =>
      have hb : bestGo (p :: hs) (-1) none' = bestGo hs p.1 p.2 := rfl
      obtain ⟨h1, h2, h3, h4⟩ := bestGo_ok hs p.1 p.2 (hok p List.mem_cons_self).1 (fun q hq => (hok q (List.mem_cons_of_mem _ hq)).1)
      rw [hb]
      generalize bestGo hs p.1 p.2 = B at h1 h2 h3 h4
      have hB : ∃ m : Nat, (p :: hs)[m]? = some B := by
        rcases h4 with h4 | ⟨m, hm⟩
        · exact ⟨0, by rw [h4]; rfl⟩
        · exact ⟨m + 1, by simpa using hm⟩
      have hmin : ∀ q ∈ p :: hs, B.2.hi ≤ q.2.hi := fun q hq => by
        rcases List.mem_cons.1 hq with rfl | hq
        · exact h2
        · exact h3 q hq
      clear h2 h3 h4 hb
      obtain ⟨m, hm⟩ := hB
      have hne : ((p :: hs).map (·.2)).length ≠ 0 := by simp
      generalize hL : p :: hs = L at *
      have hBmem : B ∈ L := List.mem_of_getElem? hm
      have hmt : (L.map (·.2))[m]? = some B.2 := by rw [List.getElem?_map, hm]; rfl
      have hself : ¬ B.2.hi < B.2.lo := by have := (hok B hBmem).2; omega
      rw [show ((L.map (·.2)).length == 0) = false by simpa using hne, show decide (B.1 < 0) = false by simp; omega]
      simp only [cond_false]
      cases hp : pickR (L.map (·.2)) (L.map fun p => (⟨p.1⟩ : I)) (L.map (·.2)) 0 with
      | none =>
        have hf := pick_none (by simp) hp m B.2 hmt
        obtain ⟨k, u, k1, k2, k3⟩ := firstGo_false hf
        have := behind_lt2 B.2 _ m k B.2 u hmt hself k1 k3 (fun e => k2 (by rw [e]))
        rw [show decide (behind B.2 (L.map (·.2)) + 1 < ((L.map (·.2)).length : Int)) = true by simp only [decide_eq_true_eq]; omega]
        rfl
      | some q =>
        obtain ⟨n, k1, k2, k3⟩ := pick_some hp
        have hq : L[n]? = some q := by
          rw [List.getElem?_map] at k1 k2
          cases e : L[n]? with
          | none => rw [e] at k1; exact absurd k1 (by simp)
          | some v =>
            rw [e] at k1 k2
            obtain ⟨v1, v2⟩ := v
            obtain ⟨q1, q2⟩ := q
            simp at k1 k2
            rw [k1, k2]
        have hnm : n = m := by
          rcases Nat.decEq n m with e | e
          · rcases firstGo_true k3 m B.2 hmt with h5 | h5
            · omega
            · have h6 := hmin q (List.mem_of_getElem? hq)
              have h7 := (hok B hBmem).2
              omega
          · exact e
        subst hnm
        have e : q = B := by rw [hq] at hm; exact Option.some.inj hm
        subst e
        have := behind_eq q.2 _ n q.2 hmt hself (fun k x hx hk => by
          rcases firstGo_true k3 k x hx with h5 | h5
          · omega
          · exact h5)
        rw [show decide (behind q.2 (L.map (·.2)) + 1 < ((L.map (·.2)).length : Int)) = false by simp only [decide_eq_false_iff_not]; omega]
        rfl
end Go.Men
