/- A logic of frames, its evaluator for values known in part, and what the functions that the law reaches are shown to do: written for this claim. Part D. -/
import Derived.Test.YtoldgmhepeficaaStC
import Derived.KernelRfl
set_option linter.all false
namespace Go.Men
open Go.Ev Go.Proofs Go.Proofs.Ytoldgmhepeficaa
theorem sx_In (n : Int) (Q : PV → Prop) : sxF evEnv (tabC []) noCP noCI noG [] 2000 Try.f66 [.v (.int .i64 n)] Q = (bif decide (n ≥ (-1073741824 : Int)) then Q (.v (.bool (decide (n ≤ (1073741824 : Int))))) else Q (.v (.bool (false)))) := by kernel_rfl
theorem cs_In : CSOk Try.prog (tabC []) := tabC_nil
theorem con_In (n : Int)  : Con Try.prog 66 [.v (.int .i64 n)] (.v (.bool (inB n))) := by
  refine con_fin evEnv_ok cs_In noCP_ok noCI_ok owOk_no (n := 2000) (LS := []) (fn := Try.f66) rfl loopsOk_nil ?_
  rw [sx_In]
  refine condI (fun h0 => ?_) (fun h0 => ?_)
  all_goals (first | rfl | (simp_all [nz, nzA, nz1, Iv.enc, V.enc, Ray.enc, Dec.enc, Shape.enc, none', told, Bool.cond_decide, inB]; done) | (simp_all [nz, nzA, nz1, Iv.enc, V.enc, Ray.enc, Dec.enc, Shape.enc, none', told, Bool.cond_decide, inB]; omega) | (simp_all [nz, nzA, nz1, Iv.enc, V.enc, Ray.enc, Dec.enc, Shape.enc, none', told, Bool.cond_decide, inB]; (repeat' split) <;> (first | rfl | (exfalso; omega) | (simp_all; done) | omega)))
theorem eok_In : EntOk Try.prog 66 e_In := by
  intro args r ps h hp
  unfold e_In at h
  split at h
  · rename_i p1
    cases (Option.some.inj h)
    exact con_In p1 
  · exact absurd h (by simp)
theorem eok66 : EntOk Try.prog 66 e66 := eok_In
theorem sx_RIn (n : Int) (Q : PV → Prop) : sxF evEnv (tabC []) noCP noCI noG [] 2000 Try.f64 [.v (.int .i64 n)] Q = (bif decide (n ≥ (-1073741824 : Int)) then Q (.v (.bool (decide (n ≤ (1073741824 : Int))))) else Q (.v (.bool (false)))) := by kernel_rfl
theorem cs_RIn : CSOk Try.prog (tabC []) := tabC_nil
theorem con_RIn (n : Int)  : Con Try.prog 64 [.v (.int .i64 n)] (.v (.bool (inB n))) := by
  refine con_fin evEnv_ok cs_RIn noCP_ok noCI_ok owOk_no (n := 2000) (LS := []) (fn := Try.f64) rfl loopsOk_nil ?_
  rw [sx_RIn]
  refine condI (fun h0 => ?_) (fun h0 => ?_)
  all_goals (first | rfl | (simp_all [nz, nzA, nz1, Iv.enc, V.enc, Ray.enc, Dec.enc, Shape.enc, none', told, Bool.cond_decide, inB]; done) | (simp_all [nz, nzA, nz1, Iv.enc, V.enc, Ray.enc, Dec.enc, Shape.enc, none', told, Bool.cond_decide, inB]; omega) | (simp_all [nz, nzA, nz1, Iv.enc, V.enc, Ray.enc, Dec.enc, Shape.enc, none', told, Bool.cond_decide, inB]; (repeat' split) <;> (first | rfl | (exfalso; omega) | (simp_all; done) | omega)))
theorem eok_RIn : EntOk Try.prog 64 e_RIn := by
  intro args r ps h hp
  unfold e_RIn at h
  split at h
  · rename_i p1
    cases (Option.some.inj h)
    exact con_RIn p1 
  · exact absurd h (by simp)
theorem eok64 : EntOk Try.prog 64 e64 := eok_RIn
theorem sx_Right (a : Iv) (Q : PV → Prop) : sxF evEnv (tabC [(66, e66)]) noCP noCI noG [] 2000 Try.f75 [.agg (Iv.enc a)] Q = (bif !a.no then (bif inB a.lo then (bif inB a.hi then Q (.v (.bool (decide (a.lo ≤ a.hi)))) else Q (.v (.bool (false)))) else Q (.v (.bool (false)))) else Q (.v (.bool (false)))) := by kernel_rfl
theorem cs_Right : CSOk Try.prog (tabC [(66, e66)]) := tabC_cons eok66 <| tabC_nil
theorem con_Right (a : Iv)  : Con Try.prog 75 [.agg (Iv.enc a)] (.v (.bool (right a))) := by
  refine con_fin evEnv_ok cs_Right noCP_ok noCI_ok owOk_no (n := 2000) (LS := []) (fn := Try.f75) rfl loopsOk_nil ?_
  rw [sx_Right]
  refine condI (fun h0 => condI (fun h1 => condI (fun h2 => ?_) (fun h2 => ?_)) (fun h1 => ?_)) (fun h0 => ?_)
  all_goals (first | rfl | (simp_all [nz, nzA, nz1, Iv.enc, V.enc, Ray.enc, Dec.enc, Shape.enc, none', told, Bool.cond_decide, right]; done) | (simp_all [nz, nzA, nz1, Iv.enc, V.enc, Ray.enc, Dec.enc, Shape.enc, none', told, Bool.cond_decide, right]; omega) | (simp_all [nz, nzA, nz1, Iv.enc, V.enc, Ray.enc, Dec.enc, Shape.enc, none', told, Bool.cond_decide, right]; (repeat' split) <;> (first | rfl | (exfalso; omega) | (simp_all; done) | omega)))
theorem eok_Right : EntOk Try.prog 75 e_Right := by
  intro args r ps h hp
  unfold e_Right at h
  split at h
  · rename_i p1 p2 p3
    cases (Option.some.inj h)
    exact con_Right (⟨p1, p2, p3⟩ : Iv) 
  · exact absurd h (by simp)
theorem eok75 : EntOk Try.prog 75 e75 := eok_Right
theorem sx_RRight (a : Iv) (Q : PV → Prop) : sxF evEnv (tabC [(64, e64)]) noCP noCI noG [] 2000 Try.f34 [.agg (Iv.enc a)] Q = (bif !a.no then (bif inB a.lo then (bif inB a.hi then Q (.v (.bool (decide (a.lo ≤ a.hi)))) else Q (.v (.bool (false)))) else Q (.v (.bool (false)))) else Q (.v (.bool (false)))) := by kernel_rfl
theorem cs_RRight : CSOk Try.prog (tabC [(64, e64)]) := tabC_cons eok64 <| tabC_nil
theorem con_RRight (a : Iv)  : Con Try.prog 34 [.agg (Iv.enc a)] (.v (.bool (right a))) := by
  refine con_fin evEnv_ok cs_RRight noCP_ok noCI_ok owOk_no (n := 2000) (LS := []) (fn := Try.f34) rfl loopsOk_nil ?_
  rw [sx_RRight]
  refine condI (fun h0 => condI (fun h1 => condI (fun h2 => ?_) (fun h2 => ?_)) (fun h1 => ?_)) (fun h0 => ?_)
  all_goals (first | rfl | (simp_all [nz, nzA, nz1, Iv.enc, V.enc, Ray.enc, Dec.enc, Shape.enc, none', told, Bool.cond_decide, right]; done) | (simp_all [nz, nzA, nz1, Iv.enc, V.enc, Ray.enc, Dec.enc, Shape.enc, none', told, Bool.cond_decide, right]; omega) | (simp_all [nz, nzA, nz1, Iv.enc, V.enc, Ray.enc, Dec.enc, Shape.enc, none', told, Bool.cond_decide, right]; (repeat' split) <;> (first | rfl | (exfalso; omega) | (simp_all; done) | omega)))
theorem eok_RRight : EntOk Try.prog 34 e_RRight := by
  intro args r ps h hp
  unfold e_RRight at h
  split at h
  · rename_i p1 p2 p3
    cases (Option.some.inj h)
    exact con_RRight (⟨p1, p2, p3⟩ : Iv) 
  · exact absurd h (by simp)
theorem eok34 : EntOk Try.prog 34 e34 := eok_RRight
theorem sx_None  (Q : PV → Prop) : sxF evEnv (tabC []) noCP noCI noG [] 2000 Try.f24 [] Q = Q (.agg [.v (.int IntKind.i64 ((0 : Int))), .v (.int IntKind.i64 ((0 : Int))), .v (.bool (true))]) := by kernel_rfl
theorem cs_None : CSOk Try.prog (tabC []) := tabC_nil
theorem con_None   : Con Try.prog 24 [] (.agg (Iv.enc none')) := by
  refine con_fin evEnv_ok cs_None noCP_ok noCI_ok owOk_no (n := 2000) (LS := []) (fn := Try.f24) rfl loopsOk_nil ?_
  rw [sx_None]
  refine ?_
  all_goals (first | rfl | (simp_all [nz, nzA, nz1, Iv.enc, V.enc, Ray.enc, Dec.enc, Shape.enc, none', told, Bool.cond_decide, none]; done) | (simp_all [nz, nzA, nz1, Iv.enc, V.enc, Ray.enc, Dec.enc, Shape.enc, none', told, Bool.cond_decide, none]; omega) | (simp_all [nz, nzA, nz1, Iv.enc, V.enc, Ray.enc, Dec.enc, Shape.enc, none', told, Bool.cond_decide, none]; (repeat' split) <;> (first | rfl | (exfalso; omega) | (simp_all; done) | omega)))
theorem eok_None : EntOk Try.prog 24 e_None := by
  intro args r ps h hp
  unfold e_None at h
  split at h
  · cases (Option.some.inj h)
    exact con_None  
  · exact absurd h (by simp)
theorem eok24 : EntOk Try.prog 24 e24 := eok_None
theorem sx_RNone  (Q : PV → Prop) : sxF evEnv (tabC []) noCP noCI noG [] 2000 Try.f25 [] Q = Q (.agg [.v (.int IntKind.i64 ((0 : Int))), .v (.int IntKind.i64 ((0 : Int))), .v (.bool (true))]) := by kernel_rfl
theorem cs_RNone : CSOk Try.prog (tabC []) := tabC_nil
theorem con_RNone   : Con Try.prog 25 [] (.agg (Iv.enc none')) := by
  refine con_fin evEnv_ok cs_RNone noCP_ok noCI_ok owOk_no (n := 2000) (LS := []) (fn := Try.f25) rfl loopsOk_nil ?_
  rw [sx_RNone]
  refine ?_
  all_goals (first | rfl | (simp_all [nz, nzA, nz1, Iv.enc, V.enc, Ray.enc, Dec.enc, Shape.enc, none', told, Bool.cond_decide, none]; done) | (simp_all [nz, nzA, nz1, Iv.enc, V.enc, Ray.enc, Dec.enc, Shape.enc, none', told, Bool.cond_decide, none]; omega) | (simp_all [nz, nzA, nz1, Iv.enc, V.enc, Ray.enc, Dec.enc, Shape.enc, none', told, Bool.cond_decide, none]; (repeat' split) <;> (first | rfl | (exfalso; omega) | (simp_all; done) | omega)))
theorem eok_RNone : EntOk Try.prog 25 e_RNone := by
  intro args r ps h hp
  unfold e_RNone at h
  split at h
  · cases (Option.some.inj h)
    exact con_RNone  
  · exact absurd h (by simp)
theorem eok25 : EntOk Try.prog 25 e25 := eok_RNone
theorem sx_Of (lo : Int) (hi : Int) (Q : PV → Prop) : sxF evEnv (tabC [(75, e75), (24, e24)]) noCP noCI noG [] 2000 Try.f65 [.v (.int .i64 lo), .v (.int .i64 hi)] Q = (bif !right (Iv.mk lo hi false) then Q (.agg [.v (.int IntKind.i64 ((0 : Int))), .v (.int IntKind.i64 ((0 : Int))), .v (.bool (true))]) else Q (.agg [.v (.int IntKind.i64 (lo)), .v (.int IntKind.i64 (hi)), .v (.bool (false))])) := by kernel_rfl
theorem cs_Of : CSOk Try.prog (tabC [(75, e75), (24, e24)]) := tabC_cons eok75 <| tabC_cons eok24 <| tabC_nil
theorem con_Of (lo : Int) (hi : Int)  : Con Try.prog 65 [.v (.int .i64 lo), .v (.int .i64 hi)] (.agg (Iv.enc (of lo hi))) := by
  refine con_fin evEnv_ok cs_Of noCP_ok noCI_ok owOk_no (n := 2000) (LS := []) (fn := Try.f65) rfl loopsOk_nil ?_
  rw [sx_Of]
  refine condI (fun h0 => ?_) (fun h0 => ?_)
  all_goals (first | rfl | (simp_all [nz, nzA, nz1, Iv.enc, V.enc, Ray.enc, Dec.enc, Shape.enc, none', told, Bool.cond_decide, of]; done) | (simp_all [nz, nzA, nz1, Iv.enc, V.enc, Ray.enc, Dec.enc, Shape.enc, none', told, Bool.cond_decide, of]; omega) | (simp_all [nz, nzA, nz1, Iv.enc, V.enc, Ray.enc, Dec.enc, Shape.enc, none', told, Bool.cond_decide, of]; (repeat' split) <;> (first | rfl | (exfalso; omega) | (simp_all; done) | omega)))
theorem eok_Of : EntOk Try.prog 65 e_Of := by
  intro args r ps h hp
  unfold e_Of at h
  split at h
  · rename_i p1 p2
    cases (Option.some.inj h)
    exact con_Of p1 p2 
  · exact absurd h (by simp)
theorem eok65 : EntOk Try.prog 65 e65 := eok_Of
theorem sx_ROf (lo : Int) (hi : Int) (Q : PV → Prop) : sxF evEnv (tabC [(34, e34), (25, e25)]) noCP noCI noG [] 2000 Try.f56 [.v (.int .i64 lo), .v (.int .i64 hi)] Q = (bif !right (Iv.mk lo hi false) then Q (.agg [.v (.int IntKind.i64 ((0 : Int))), .v (.int IntKind.i64 ((0 : Int))), .v (.bool (true))]) else Q (.agg [.v (.int IntKind.i64 (lo)), .v (.int IntKind.i64 (hi)), .v (.bool (false))])) := by kernel_rfl
theorem cs_ROf : CSOk Try.prog (tabC [(34, e34), (25, e25)]) := tabC_cons eok34 <| tabC_cons eok25 <| tabC_nil
theorem con_ROf (lo : Int) (hi : Int)  : Con Try.prog 56 [.v (.int .i64 lo), .v (.int .i64 hi)] (.agg (Iv.enc (of lo hi))) := by
  refine con_fin evEnv_ok cs_ROf noCP_ok noCI_ok owOk_no (n := 2000) (LS := []) (fn := Try.f56) rfl loopsOk_nil ?_
  rw [sx_ROf]
  refine condI (fun h0 => ?_) (fun h0 => ?_)
  all_goals (first | rfl | (simp_all [nz, nzA, nz1, Iv.enc, V.enc, Ray.enc, Dec.enc, Shape.enc, none', told, Bool.cond_decide, of]; done) | (simp_all [nz, nzA, nz1, Iv.enc, V.enc, Ray.enc, Dec.enc, Shape.enc, none', told, Bool.cond_decide, of]; omega) | (simp_all [nz, nzA, nz1, Iv.enc, V.enc, Ray.enc, Dec.enc, Shape.enc, none', told, Bool.cond_decide, of]; (repeat' split) <;> (first | rfl | (exfalso; omega) | (simp_all; done) | omega)))
theorem eok_ROf : EntOk Try.prog 56 e_ROf := by
  intro args r ps h hp
  unfold e_ROf at h
  split at h
  · rename_i p1 p2
    cases (Option.some.inj h)
    exact con_ROf p1 p2 
  · exact absurd h (by simp)
theorem eok56 : EntOk Try.prog 56 e56 := eok_ROf
theorem sx_Point (n : Int) (Q : PV → Prop) : sxF evEnv (tabC [(65, e65)]) noCP noCI noG [] 2000 Try.f36 [.v (.int .i64 n)] Q = Q (.agg [.v (.int IntKind.i64 ((of n n).lo)), .v (.int IntKind.i64 ((of n n).hi)), .v (.bool ((of n n).no))]) := by kernel_rfl
theorem cs_Point : CSOk Try.prog (tabC [(65, e65)]) := tabC_cons eok65 <| tabC_nil
theorem con_Point (n : Int)  : Con Try.prog 36 [.v (.int .i64 n)] (.agg (Iv.enc (point n))) := by
  refine con_fin evEnv_ok cs_Point noCP_ok noCI_ok owOk_no (n := 2000) (LS := []) (fn := Try.f36) rfl loopsOk_nil ?_
  rw [sx_Point]
  refine ?_
  all_goals (first | rfl | (simp_all [nz, nzA, nz1, Iv.enc, V.enc, Ray.enc, Dec.enc, Shape.enc, none', told, Bool.cond_decide, point]; done) | (simp_all [nz, nzA, nz1, Iv.enc, V.enc, Ray.enc, Dec.enc, Shape.enc, none', told, Bool.cond_decide, point]; omega) | (simp_all [nz, nzA, nz1, Iv.enc, V.enc, Ray.enc, Dec.enc, Shape.enc, none', told, Bool.cond_decide, point]; (repeat' split) <;> (first | rfl | (exfalso; omega) | (simp_all; done) | omega)))
theorem eok_Point : EntOk Try.prog 36 e_Point := by
  intro args r ps h hp
  unfold e_Point at h
  split at h
  · rename_i p1
    cases (Option.some.inj h)
    exact con_Point p1 
  · exact absurd h (by simp)
theorem eok36 : EntOk Try.prog 36 e36 := eok_Point
theorem sx_Whole (n : Int) (Q : PV → Prop) : sxF evEnv (tabC [(66, e66), (24, e24), (36, e36)]) noCP noCI noG [] 2000 Try.f38 [.v (.int .i64 n)] Q = (bif !inB n then Q (.agg [.v (.int IntKind.i64 ((0 : Int))), .v (.int IntKind.i64 ((0 : Int))), .v (.bool (true))]) else Q (.agg [.v (.int IntKind.i64 ((point (IntKind.i64.wrap (n * (65536 : Int)))).lo)), .v (.int IntKind.i64 ((point (IntKind.i64.wrap (n * (65536 : Int)))).hi)), .v (.bool ((point (IntKind.i64.wrap (n * (65536 : Int)))).no))])) := by kernel_rfl
theorem cs_Whole : CSOk Try.prog (tabC [(66, e66), (24, e24), (36, e36)]) := tabC_cons eok66 <| tabC_cons eok24 <| tabC_cons eok36 <| tabC_nil
theorem con_Whole (n : Int)  : Con Try.prog 38 [.v (.int .i64 n)] (.agg (Iv.enc (whole n))) := by
  refine con_fin evEnv_ok cs_Whole noCP_ok noCI_ok owOk_no (n := 2000) (LS := []) (fn := Try.f38) rfl loopsOk_nil ?_
  rw [sx_Whole]
  refine condI (fun h0 => ?_) (fun h0 => ?_)
  · simp_all [nz, nzA, nz1, whole, none', Iv.enc]
  · simp only [Bool.not_eq_false', inB_iff] at h0
    rw [wrap_fit (by constructor <;> omega)]
    simp [nz, nzA, nz1, whole, inB_iff.2 h0, Iv.enc]
theorem eok_Whole : EntOk Try.prog 38 e_Whole := by
  intro args r ps h hp
  unfold e_Whole at h
  split at h
  · rename_i p1
    cases (Option.some.inj h)
    exact con_Whole p1 
  · exact absurd h (by simp)
theorem eok38 : EntOk Try.prog 38 e38 := eok_Whole
theorem sx_Floor (a : Int) (b : Int) (Q : PV → Prop) : sxF evEnv (tabC []) noCP noCI noG [] 2000 Try.f70 [.v (.int .i64 a), .v (.int .i64 b)] Q = (bif b == (0 : Int) then Q (.v (.int IntKind.i64 ((0 : Int)))) else ((b ≠ (0 : Int)) ∧ ((b ≠ (0 : Int)) ∧ (bif a.tmod b != (0 : Int) then (bif !decide (a < (0 : Int)) == decide (b < (0 : Int)) then Q (.v (.int IntKind.i64 (IntKind.i64.wrap (IntKind.i64.wrap (a.tdiv b) - (1 : Int))))) else Q (.v (.int IntKind.i64 (IntKind.i64.wrap (a.tdiv b))))) else Q (.v (.int IntKind.i64 (IntKind.i64.wrap (a.tdiv b)))))))) := by kernel_rfl
theorem cs_Floor : CSOk Try.prog (tabC []) := tabC_nil
theorem con_Floor (a : Int) (b : Int) (hp0 : -4611686018427387904 ≤ a ∧ a ≤ 4611686018427387904) : Con Try.prog 70 [.v (.int .i64 a), .v (.int .i64 b)] (.v (.int .i64 (floor a b))) := by
  refine con_fin evEnv_ok cs_Floor noCP_ok noCI_ok owOk_no (n := 2000) (LS := []) (fn := Try.f70) rfl loopsOk_nil ?_
  rw [sx_Floor]
  refine condI (fun h0 => ?_) (fun h0 => ⟨?r1, ⟨?r0, condI (fun h1 => condI (fun h2 => ?_) (fun h2 => ?_)) (fun h1 => ?_)⟩⟩)
  case r0 | r1 => first | rfl | (simp only [dShape, dI, dIv]; omega) | (simp [decL, chunk]; done) | (simp only [dShape, dI, dIv]; done) | (exact idx_ok (fun _ => rfl) (by omega) (by omega)) | (simp only [decide_eq_true_eq, List.length_map] at *; exact idx_ok (fun _ => rfl) (by omega) (by omega)) | assumption | trivial | (simp_all; done) | omega
  · simp_all [nz, nzA, floor]
  · have hw : IntKind.i64.wrap (a.tdiv b) = a.tdiv b := wrap_fit (by have := tdiv_fit (b := b) hp0; constructor <;> omega)
    have hb : b ≠ 0 := by simpa using h0
    have e := fdiv_lo hb (by simpa using h1) (by simpa using h2)
    have hf := fdiv_fit (b := b) hp0
    rw [hw, e, wrap_fit (by constructor <;> omega)]; rfl
  · have hw : IntKind.i64.wrap (a.tdiv b) = a.tdiv b := wrap_fit (by have := tdiv_fit (b := b) hp0; constructor <;> omega)
    have hb : b ≠ 0 := by simpa using h0
    have e := fdiv_eq hb (.inr (by simpa using h2))
    rw [hw, e]; rfl
  · have hw : IntKind.i64.wrap (a.tdiv b) = a.tdiv b := wrap_fit (by have := tdiv_fit (b := b) hp0; constructor <;> omega)
    have hb : b ≠ 0 := by simpa using h0
    have e := fdiv_eq hb (.inl (by simpa using h1))
    rw [hw, e]; rfl
theorem eok_Floor : EntOk Try.prog 70 e_Floor := by
  intro args r ps h hp
  unfold e_Floor at h
  split at h
  · rename_i p1 p2
    cases (Option.some.inj h)
    exact con_Floor p1 p2 (hp _ (by simp))
  · exact absurd h (by simp)
theorem eok70 : EntOk Try.prog 70 e70 := eok_Floor
theorem sx_RFloor (a : Int) (b : Int) (Q : PV → Prop) : sxF evEnv (tabC []) noCP noCI noG [] 2000 Try.f57 [.v (.int .i64 a), .v (.int .i64 b)] Q = (bif b == (0 : Int) then Q (.v (.int IntKind.i64 ((0 : Int)))) else ((b ≠ (0 : Int)) ∧ ((b ≠ (0 : Int)) ∧ (bif a.tmod b != (0 : Int) then (bif !decide (a.tmod b < (0 : Int)) == decide (b < (0 : Int)) then Q (.v (.int IntKind.i64 (IntKind.i64.wrap (IntKind.i64.wrap (a.tdiv b) - (1 : Int))))) else Q (.v (.int IntKind.i64 (IntKind.i64.wrap (a.tdiv b))))) else Q (.v (.int IntKind.i64 (IntKind.i64.wrap (a.tdiv b)))))))) := by kernel_rfl
theorem cs_RFloor : CSOk Try.prog (tabC []) := tabC_nil
theorem con_RFloor (a : Int) (b : Int) (hp0 : -4611686018427387904 ≤ a ∧ a ≤ 4611686018427387904) : Con Try.prog 57 [.v (.int .i64 a), .v (.int .i64 b)] (.v (.int .i64 (floor a b))) := by
  refine con_fin evEnv_ok cs_RFloor noCP_ok noCI_ok owOk_no (n := 2000) (LS := []) (fn := Try.f57) rfl loopsOk_nil ?_
  rw [sx_RFloor]
  refine condI (fun h0 => ?_) (fun h0 => ⟨?r1, ⟨?r0, condI (fun h1 => condI (fun h2 => ?_) (fun h2 => ?_)) (fun h1 => ?_)⟩⟩)
  case r0 | r1 => first | rfl | (simp only [dShape, dI, dIv]; omega) | (simp [decL, chunk]; done) | (simp only [dShape, dI, dIv]; done) | (exact idx_ok (fun _ => rfl) (by omega) (by omega)) | (simp only [decide_eq_true_eq, List.length_map] at *; exact idx_ok (fun _ => rfl) (by omega) (by omega)) | assumption | trivial | (simp_all; done) | omega
  · simp_all [nz, nzA, floor]
  · have hw : IntKind.i64.wrap (a.tdiv b) = a.tdiv b := wrap_fit (by have := tdiv_fit (b := b) hp0; constructor <;> omega)
    have hb : b ≠ 0 := by simpa using h0
    rw [tmod_neg (by simpa using h1)] at h2
    have e := fdiv_lo hb (by simpa using h1) (by simpa using h2)
    have hf := fdiv_fit (b := b) hp0
    rw [hw, e, wrap_fit (by constructor <;> omega)]; rfl
  · have hw : IntKind.i64.wrap (a.tdiv b) = a.tdiv b := wrap_fit (by have := tdiv_fit (b := b) hp0; constructor <;> omega)
    have hb : b ≠ 0 := by simpa using h0
    rw [tmod_neg (by simpa using h1)] at h2
    have e := fdiv_eq hb (.inr (by simpa using h2))
    rw [hw, e]; rfl
  · have hw : IntKind.i64.wrap (a.tdiv b) = a.tdiv b := wrap_fit (by have := tdiv_fit (b := b) hp0; constructor <;> omega)
    have hb : b ≠ 0 := by simpa using h0
    have e := fdiv_eq hb (.inl (by simpa using h1))
    rw [hw, e]; rfl
theorem eok_RFloor : EntOk Try.prog 57 e_RFloor := by
  intro args r ps h hp
  unfold e_RFloor at h
  split at h
  · rename_i p1 p2
    cases (Option.some.inj h)
    exact con_RFloor p1 p2 (hp _ (by simp))
  · exact absurd h (by simp)
theorem eok57 : EntOk Try.prog 57 e57 := eok_RFloor
theorem sx_both (a : Iv) (b : Iv) (Q : PV → Prop) : sxF evEnv (tabC [(75, e75)]) noCP noCI noG [] 2000 Try.f77 [.agg (Iv.enc a), .agg (Iv.enc b)] Q = (bif right a then Q (.v (.bool (right b))) else Q (.v (.bool (false)))) := by kernel_rfl
theorem cs_both : CSOk Try.prog (tabC [(75, e75)]) := tabC_cons eok75 <| tabC_nil
theorem con_both (a : Iv) (b : Iv)  : Con Try.prog 77 [.agg (Iv.enc a), .agg (Iv.enc b)] (.v (.bool (both a b))) := by
  refine con_fin evEnv_ok cs_both noCP_ok noCI_ok owOk_no (n := 2000) (LS := []) (fn := Try.f77) rfl loopsOk_nil ?_
  rw [sx_both]
  refine condI (fun h0 => ?_) (fun h0 => ?_)
  all_goals (first | rfl | (simp_all [nz, nzA, nz1, Iv.enc, V.enc, Ray.enc, Dec.enc, Shape.enc, none', told, Bool.cond_decide, both]; done) | (simp_all [nz, nzA, nz1, Iv.enc, V.enc, Ray.enc, Dec.enc, Shape.enc, none', told, Bool.cond_decide, both]; omega) | (simp_all [nz, nzA, nz1, Iv.enc, V.enc, Ray.enc, Dec.enc, Shape.enc, none', told, Bool.cond_decide, both]; (repeat' split) <;> (first | rfl | (exfalso; omega) | (simp_all; done) | omega)))
theorem eok_both : EntOk Try.prog 77 e_both := by
  intro args r ps h hp
  unfold e_both at h
  split at h
  · rename_i p1 p2 p3 p4 p5 p6
    cases (Option.some.inj h)
    exact con_both (⟨p1, p2, p3⟩ : Iv) (⟨p4, p5, p6⟩ : Iv) 
  · exact absurd h (by simp)
theorem eok77 : EntOk Try.prog 77 e77 := eok_both
theorem sx_Neg (a : Iv) (Q : PV → Prop) : sxF evEnv (tabC [(75, e75), (24, e24), (65, e65)]) noCP noCI noG [] 2000 Try.f74 [.agg (Iv.enc a)] Q = (bif !right a then Q (.agg [.v (.int IntKind.i64 ((0 : Int))), .v (.int IntKind.i64 ((0 : Int))), .v (.bool (true))]) else Q (.agg [.v (.int IntKind.i64 ((of (IntKind.i64.wrap ((0 : Int) - a.hi)) (IntKind.i64.wrap ((0 : Int) - a.lo))).lo)), .v (.int IntKind.i64 ((of (IntKind.i64.wrap ((0 : Int) - a.hi)) (IntKind.i64.wrap ((0 : Int) - a.lo))).hi)), .v (.bool ((of (IntKind.i64.wrap ((0 : Int) - a.hi)) (IntKind.i64.wrap ((0 : Int) - a.lo))).no))])) := by kernel_rfl
theorem cs_Neg : CSOk Try.prog (tabC [(75, e75), (24, e24), (65, e65)]) := tabC_cons eok75 <| tabC_cons eok24 <| tabC_cons eok65 <| tabC_nil
theorem con_Neg (a : Iv)  : Con Try.prog 74 [.agg (Iv.enc a)] (.agg (Iv.enc (neg a))) := by
  refine con_fin evEnv_ok cs_Neg noCP_ok noCI_ok owOk_no (n := 2000) (LS := []) (fn := Try.f74) rfl loopsOk_nil ?_
  rw [sx_Neg]
  refine condI (fun h0 => ?_) (fun h0 => ?_)
  · simp_all [nz, nzA, nz1, neg, none', Iv.enc]
  · simp only [Bool.not_eq_false'] at h0
    have ha := right_bd h0
    rw [wrap_fit (by constructor <;> omega), wrap_fit (by constructor <;> omega)]
    simp [nz, nzA, nz1, neg, h0, Iv.enc]
theorem eok_Neg : EntOk Try.prog 74 e_Neg := by
  intro args r ps h hp
  unfold e_Neg at h
  split at h
  · rename_i p1 p2 p3
    cases (Option.some.inj h)
    exact con_Neg (⟨p1, p2, p3⟩ : Iv) 
  · exact absurd h (by simp)
theorem eok74 : EntOk Try.prog 74 e74 := eok_Neg
theorem sx_Add (a : Iv) (b : Iv) (Q : PV → Prop) : sxF evEnv (tabC [(77, e77), (24, e24), (65, e65)]) noCP noCI noG [] 2000 Try.f73 [.agg (Iv.enc a), .agg (Iv.enc b)] Q = (bif !both a b then Q (.agg [.v (.int IntKind.i64 ((0 : Int))), .v (.int IntKind.i64 ((0 : Int))), .v (.bool (true))]) else Q (.agg [.v (.int IntKind.i64 ((of (IntKind.i64.wrap (a.lo + b.lo)) (IntKind.i64.wrap (a.hi + b.hi))).lo)), .v (.int IntKind.i64 ((of (IntKind.i64.wrap (a.lo + b.lo)) (IntKind.i64.wrap (a.hi + b.hi))).hi)), .v (.bool ((of (IntKind.i64.wrap (a.lo + b.lo)) (IntKind.i64.wrap (a.hi + b.hi))).no))])) := by kernel_rfl
theorem cs_Add : CSOk Try.prog (tabC [(77, e77), (24, e24), (65, e65)]) := tabC_cons eok77 <| tabC_cons eok24 <| tabC_cons eok65 <| tabC_nil
theorem con_Add (a : Iv) (b : Iv)  : Con Try.prog 73 [.agg (Iv.enc a), .agg (Iv.enc b)] (.agg (Iv.enc (add a b))) := by
  refine con_fin evEnv_ok cs_Add noCP_ok noCI_ok owOk_no (n := 2000) (LS := []) (fn := Try.f73) rfl loopsOk_nil ?_
  rw [sx_Add]
  refine condI (fun h0 => ?_) (fun h0 => ?_)
  · simp_all [nz, nzA, nz1, add, none', Iv.enc]
  · simp only [Bool.not_eq_false'] at h0
    have hb := Bool.and_eq_true_iff.1 (show (right a && right b) = true from h0)
    have ha := right_bd hb.1
    have hb := right_bd hb.2
    rw [wrap_fit (by constructor <;> omega), wrap_fit (by constructor <;> omega)]
    simp [nz, nzA, nz1, add, h0, Iv.enc]
theorem eok_Add : EntOk Try.prog 73 e_Add := by
  intro args r ps h hp
  unfold e_Add at h
  split at h
  · rename_i p1 p2 p3 p4 p5 p6
    cases (Option.some.inj h)
    exact con_Add (⟨p1, p2, p3⟩ : Iv) (⟨p4, p5, p6⟩ : Iv) 
  · exact absurd h (by simp)
theorem eok73 : EntOk Try.prog 73 e73 := eok_Add
theorem sx_RAdd (a : Iv) (b : Iv) (Q : PV → Prop) : sxF evEnv (tabC [(34, e34), (25, e25), (56, e56)]) noCP noCI noG [] 2000 Try.f61 [.agg (Iv.enc a), .agg (Iv.enc b)] Q = (bif !right a then Q (.agg [.v (.int IntKind.i64 ((0 : Int))), .v (.int IntKind.i64 ((0 : Int))), .v (.bool (true))]) else (bif !right b then Q (.agg [.v (.int IntKind.i64 ((0 : Int))), .v (.int IntKind.i64 ((0 : Int))), .v (.bool (true))]) else Q (.agg [.v (.int IntKind.i64 ((of (IntKind.i64.wrap (a.lo + b.lo)) (IntKind.i64.wrap (a.hi + b.hi))).lo)), .v (.int IntKind.i64 ((of (IntKind.i64.wrap (a.lo + b.lo)) (IntKind.i64.wrap (a.hi + b.hi))).hi)), .v (.bool ((of (IntKind.i64.wrap (a.lo + b.lo)) (IntKind.i64.wrap (a.hi + b.hi))).no))]))) := by kernel_rfl
theorem cs_RAdd : CSOk Try.prog (tabC [(34, e34), (25, e25), (56, e56)]) := tabC_cons eok34 <| tabC_cons eok25 <| tabC_cons eok56 <| tabC_nil
theorem con_RAdd (a : Iv) (b : Iv)  : Con Try.prog 61 [.agg (Iv.enc a), .agg (Iv.enc b)] (.agg (Iv.enc (add a b))) := by
  refine con_fin evEnv_ok cs_RAdd noCP_ok noCI_ok owOk_no (n := 2000) (LS := []) (fn := Try.f61) rfl loopsOk_nil ?_
  rw [sx_RAdd]
  refine condI (fun h0 => ?_) (fun h0 => condI (fun h1 => ?_) (fun h1 => ?_))
  · simp_all [nz, nzA, nz1, add, both, none', Iv.enc]
  · simp_all [nz, nzA, nz1, add, both, none', Iv.enc]
  · simp only [Bool.not_eq_false'] at h0 h1
    have ha := right_bd h0
    have hb := right_bd h1
    rw [wrap_fit (by constructor <;> omega), wrap_fit (by constructor <;> omega)]
    simp [nz, nzA, nz1, add, both, h0, h1, Iv.enc]
theorem eok_RAdd : EntOk Try.prog 61 e_RAdd := by
  intro args r ps h hp
  unfold e_RAdd at h
  split at h
  · rename_i p1 p2 p3 p4 p5 p6
    cases (Option.some.inj h)
    exact con_RAdd (⟨p1, p2, p3⟩ : Iv) (⟨p4, p5, p6⟩ : Iv) 
  · exact absurd h (by simp)
theorem eok61 : EntOk Try.prog 61 e61 := eok_RAdd
theorem sx_Sub (a : Iv) (b : Iv) (Q : PV → Prop) : sxF evEnv (tabC [(74, e74), (73, e73)]) noCP noCI noG [] 2000 Try.f53 [.agg (Iv.enc a), .agg (Iv.enc b)] Q = Q (.agg [.v (.int IntKind.i64 ((add a (neg b)).lo)), .v (.int IntKind.i64 ((add a (neg b)).hi)), .v (.bool ((add a (neg b)).no))]) := by kernel_rfl
theorem cs_Sub : CSOk Try.prog (tabC [(74, e74), (73, e73)]) := tabC_cons eok74 <| tabC_cons eok73 <| tabC_nil
theorem con_Sub (a : Iv) (b : Iv)  : Con Try.prog 53 [.agg (Iv.enc a), .agg (Iv.enc b)] (.agg (Iv.enc (sub a b))) := by
  refine con_fin evEnv_ok cs_Sub noCP_ok noCI_ok owOk_no (n := 2000) (LS := []) (fn := Try.f53) rfl loopsOk_nil ?_
  rw [sx_Sub]
  refine ?_
  all_goals (first | rfl | (simp_all [nz, nzA, nz1, Iv.enc, V.enc, Ray.enc, Dec.enc, Shape.enc, none', told, Bool.cond_decide, sub]; done) | (simp_all [nz, nzA, nz1, Iv.enc, V.enc, Ray.enc, Dec.enc, Shape.enc, none', told, Bool.cond_decide, sub]; omega) | (simp_all [nz, nzA, nz1, Iv.enc, V.enc, Ray.enc, Dec.enc, Shape.enc, none', told, Bool.cond_decide, sub]; (repeat' split) <;> (first | rfl | (exfalso; omega) | (simp_all; done) | omega)))
theorem eok_Sub : EntOk Try.prog 53 e_Sub := by
  intro args r ps h hp
  unfold e_Sub at h
  split at h
  · rename_i p1 p2 p3 p4 p5 p6
    cases (Option.some.inj h)
    exact con_Sub (⟨p1, p2, p3⟩ : Iv) (⟨p4, p5, p6⟩ : Iv) 
  · exact absurd h (by simp)
theorem eok53 : EntOk Try.prog 53 e53 := eok_Sub
theorem sx_RSub (a : Iv) (b : Iv) (Q : PV → Prop) : sxF evEnv (tabC [(34, e34), (25, e25), (56, e56)]) noCP noCI noG [] 2000 Try.f31 [.agg (Iv.enc a), .agg (Iv.enc b)] Q = (bif !right a then Q (.agg [.v (.int IntKind.i64 ((0 : Int))), .v (.int IntKind.i64 ((0 : Int))), .v (.bool (true))]) else (bif !right b then Q (.agg [.v (.int IntKind.i64 ((0 : Int))), .v (.int IntKind.i64 ((0 : Int))), .v (.bool (true))]) else Q (.agg [.v (.int IntKind.i64 ((of (IntKind.i64.wrap (a.lo - b.hi)) (IntKind.i64.wrap (a.hi - b.lo))).lo)), .v (.int IntKind.i64 ((of (IntKind.i64.wrap (a.lo - b.hi)) (IntKind.i64.wrap (a.hi - b.lo))).hi)), .v (.bool ((of (IntKind.i64.wrap (a.lo - b.hi)) (IntKind.i64.wrap (a.hi - b.lo))).no))]))) := by kernel_rfl
theorem cs_RSub : CSOk Try.prog (tabC [(34, e34), (25, e25), (56, e56)]) := tabC_cons eok34 <| tabC_cons eok25 <| tabC_cons eok56 <| tabC_nil
theorem con_RSub (a : Iv) (b : Iv)  : Con Try.prog 31 [.agg (Iv.enc a), .agg (Iv.enc b)] (.agg (Iv.enc (sub a b))) := by
  refine con_fin evEnv_ok cs_RSub noCP_ok noCI_ok owOk_no (n := 2000) (LS := []) (fn := Try.f31) rfl loopsOk_nil ?_
  rw [sx_RSub]
  refine condI (fun h0 => ?_) (fun h0 => condI (fun h1 => ?_) (fun h1 => ?_))
  all_goals rw [sub_eq]
  · simp_all [nz, nzA, nz1, both, none', Iv.enc]
  · simp_all [nz, nzA, nz1, both, none', Iv.enc]
  · simp only [Bool.not_eq_false'] at h0 h1
    have ha := right_bd h0
    have hb := right_bd h1
    rw [wrap_fit (by constructor <;> omega), wrap_fit (by constructor <;> omega)]
    simp [nz, nzA, nz1, both, h0, h1, Iv.enc]
theorem eok_RSub : EntOk Try.prog 31 e_RSub := by
  intro args r ps h hp
  unfold e_RSub at h
  split at h
  · rename_i p1 p2 p3 p4 p5 p6
    cases (Option.some.inj h)
    exact con_RSub (⟨p1, p2, p3⟩ : Iv) (⟨p4, p5, p6⟩ : Iv) 
  · exact absurd h (by simp)
theorem eok31 : EntOk Try.prog 31 e31 := eok_RSub
theorem sx_Has (a : Iv) (n : Int) (Q : PV → Prop) : sxF evEnv (tabC [(75, e75)]) noCP noCI noG [] 2000 Try.f78 [.agg (Iv.enc a), .v (.int .i64 n)] Q = (bif right a then (bif decide (a.lo ≤ n) then Q (.v (.bool (decide (n ≤ a.hi)))) else Q (.v (.bool (false)))) else Q (.v (.bool (false)))) := by kernel_rfl
theorem cs_Has : CSOk Try.prog (tabC [(75, e75)]) := tabC_cons eok75 <| tabC_nil
theorem con_Has (a : Iv) (n : Int)  : Con Try.prog 78 [.agg (Iv.enc a), .v (.int .i64 n)] (.v (.bool (has a n))) := by
  refine con_fin evEnv_ok cs_Has noCP_ok noCI_ok owOk_no (n := 2000) (LS := []) (fn := Try.f78) rfl loopsOk_nil ?_
  rw [sx_Has]
  refine condI (fun h0 => condI (fun h1 => ?_) (fun h1 => ?_)) (fun h0 => ?_)
  all_goals (first | rfl | (simp_all [nz, nzA, nz1, Iv.enc, V.enc, Ray.enc, Dec.enc, Shape.enc, none', told, Bool.cond_decide, has]; done) | (simp_all [nz, nzA, nz1, Iv.enc, V.enc, Ray.enc, Dec.enc, Shape.enc, none', told, Bool.cond_decide, has]; omega) | (simp_all [nz, nzA, nz1, Iv.enc, V.enc, Ray.enc, Dec.enc, Shape.enc, none', told, Bool.cond_decide, has]; (repeat' split) <;> (first | rfl | (exfalso; omega) | (simp_all; done) | omega)))
theorem eok_Has : EntOk Try.prog 78 e_Has := by
  intro args r ps h hp
  unfold e_Has at h
  split at h
  · rename_i p1 p2 p3 p4
    cases (Option.some.inj h)
    exact con_Has (⟨p1, p2, p3⟩ : Iv) p4 
  · exact absurd h (by simp)
theorem eok78 : EntOk Try.prog 78 e78 := eok_Has
end Go.Men
namespace Go.Men
open Go.Ev Go.Proofs Go.Proofs.Ytoldgmhepeficaa
theorem sx_rounded (a : Int) (b : Int) (up : Bool) (Q : PV → Prop) : sxF evEnv (tabC [(70, e70), (66, e66)]) noCP noCI noG [] 2000 Try.f84 [.v (.int .i64 a), .v (.int .i64 b), .v (.bool up)] Q = (((-4611686018427387904 : Int) ≤ a ∧ a ≤ (4611686018427387904 : Int)) ∧ (bif up then ((b ≠ (0 : Int)) ∧ (bif a.tmod b != (0 : Int) then (bif !inB (IntKind.i64.wrap (floor a b + (1 : Int))) then Q (.tup [.v (.int IntKind.i64 ((0 : Int))), .v (.bool (false))]) else Q (.tup [.v (.int IntKind.i64 (IntKind.i64.wrap (floor a b + (1 : Int)))), .v (.bool (true))])) else (bif !inB (floor a b) then Q (.tup [.v (.int IntKind.i64 ((0 : Int))), .v (.bool (false))]) else Q (.tup [.v (.int IntKind.i64 (floor a b)), .v (.bool (true))])))) else (bif !inB (floor a b) then Q (.tup [.v (.int IntKind.i64 ((0 : Int))), .v (.bool (false))]) else Q (.tup [.v (.int IntKind.i64 (floor a b)), .v (.bool (true))])))) := by kernel_rfl
theorem cs_rounded : CSOk Try.prog (tabC [(70, e70), (66, e66)]) := tabC_cons eok70 <| tabC_cons eok66 <| tabC_nil
theorem con_rounded (a : Int) (b : Int) (up : Bool) (hp0 : -4611686018427387904 ≤ a ∧ a ≤ 4611686018427387904) (hp1 : b ≠ 0) : Con Try.prog 84 [.v (.int .i64 a), .v (.int .i64 b), .v (.bool up)] (.tup [.v (.int .i64 ((rounded a b up).1)), .v (.bool ((rounded a b up).2))]) := by
  refine con_fin evEnv_ok cs_rounded noCP_ok noCI_ok owOk_no (n := 2000) (LS := []) (fn := Try.f84) rfl loopsOk_nil ?_
  rw [sx_rounded]
  refine ⟨?r1, condI (fun h0 => ⟨?r0, condI (fun h1 => condI (fun h2 => ?_) (fun h2 => ?_)) (fun h1 => condI (fun h2 => ?_) (fun h2 => ?_))⟩) (fun h0 => condI (fun h1 => ?_) (fun h1 => ?_))⟩
  case r0 | r1 => first | rfl | (simp only [dShape, dI, dIv]; omega) | (simp [decL, chunk]; done) | (simp only [dShape, dI, dIv]; done) | (exact idx_ok (fun _ => rfl) (by omega) (by omega)) | (simp only [decide_eq_true_eq, List.length_map] at *; exact idx_ok (fun _ => rfl) (by omega) (by omega)) | assumption | trivial | (simp_all; done) | omega
  all_goals have hf := fdiv_fit (b := b) hp0
  all_goals try have hm : a % b ≠ 0 := by rw [bne_iff_ne, Ne, tmod_emod] at h1; exact h1
  all_goals try have hm : a % b = 0 := by rw [bne_eq_false_iff_eq, tmod_emod] at h1; exact h1
  all_goals try rw [wrap_fit (show Fit (floor a b + 1) by unfold floor; constructor <;> omega)] at *
  all_goals simp_all [nz, nzA, rounded, up1, floor]
theorem eok_rounded : EntOk Try.prog 84 e_rounded := by
  intro args r ps h hp
  unfold e_rounded at h
  split at h
  · rename_i p1 p2 p3
    cases (Option.some.inj h)
    exact con_rounded p1 p2 p3 (hp _ (by simp)) (hp _ (by simp))
  · exact absurd h (by simp)
theorem eok84 : EntOk Try.prog 84 e84 := eok_rounded
theorem sx_Ceil (a : Int) (b : Int) (Q : PV → Prop) : sxF evEnv (tabC [(57, e57)]) noCP noCI noG [] 2000 Try.f59 [.v (.int .i64 a), .v (.int .i64 b)] Q = (((-4611686018427387904 : Int) ≤ a ∧ a ≤ (4611686018427387904 : Int)) ∧ (bif IntKind.i64.wrap (floor a b * b) != a then Q (.v (.int IntKind.i64 (IntKind.i64.wrap (floor a b + (1 : Int))))) else Q (.v (.int IntKind.i64 (floor a b))))) := by kernel_rfl
theorem cs_Ceil : CSOk Try.prog (tabC [(57, e57)]) := tabC_cons eok57 <| tabC_nil
theorem con_Ceil (a : Int) (b : Int) (hp0 : -4611686018427387904 ≤ a ∧ a ≤ 4611686018427387904) (hp1 : -4611686018427387904 ≤ b ∧ b ≤ 4611686018427387904) (hp2 : b ≠ 0) : Con Try.prog 59 [.v (.int .i64 a), .v (.int .i64 b)] (.v (.int .i64 (up1 a b))) := by
  refine con_fin evEnv_ok cs_Ceil noCP_ok noCI_ok owOk_no (n := 2000) (LS := []) (fn := Try.f59) rfl loopsOk_nil ?_
  rw [sx_Ceil]
  refine ⟨?r0, condI (fun h0 => ?_) (fun h0 => ?_)⟩
  case r0 => first | rfl | (simp only [dShape, dI, dIv]; omega) | (simp [decL, chunk]; done) | (simp only [dShape, dI, dIv]; done) | (exact idx_ok (fun _ => rfl) (by omega) (by omega)) | (simp only [decide_eq_true_eq, List.length_map] at *; exact idx_ok (fun _ => rfl) (by omega) (by omega)) | assumption | trivial | (simp_all; done) | omega
  all_goals have hf := fdiv_fit (b := b) hp0
  all_goals rw [wrap_fit (show Fit (floor a b * b) from fdiv_mul_fit hp2 hp0 hp1)] at h0
  · have hm : ¬ a % b = 0 := by rw [bne_iff_ne, Ne, floor, fdiv_mul hp2] at h0; exact h0
    rw [wrap_fit (show Fit (floor a b + 1) by unfold floor; constructor <;> omega)]
    simp [nz, nzA, up1, floor, hm]
  · have hm : a % b = 0 := by rw [bne_eq_false_iff_eq, floor, fdiv_mul hp2] at h0; exact h0
    simp [nz, nzA, up1, floor, hm]
theorem eok_Ceil : EntOk Try.prog 59 e_Ceil := by
  intro args r ps h hp
  unfold e_Ceil at h
  split at h
  · rename_i p1 p2
    cases (Option.some.inj h)
    exact con_Ceil p1 p2 (hp _ (by simp)) (hp _ (by simp)) (hp _ (by simp))
  · exact absurd h (by simp)
theorem eok59 : EntOk Try.prog 59 e59 := eok_Ceil
theorem sx_told (n : Int) (Q : PV → Prop) : sxF evEnv (tabC [(64, e64)]) noCP noCI noG [] 2000 Try.f81 [.v (.int .i64 n)] Q = (bif !inB n then Q (.tup [.v (.int IntKind.i64 ((0 : Int))), .v (.bool (false))]) else Q (.tup [.v (.int IntKind.i64 (n)), .v (.bool (true))])) := by kernel_rfl
theorem cs_told : CSOk Try.prog (tabC [(64, e64)]) := tabC_cons eok64 <| tabC_nil
theorem con_told (n : Int)  : Con Try.prog 81 [.v (.int .i64 n)] (.tup [.v (.int .i64 ((told n).1)), .v (.bool ((told n).2))]) := by
  refine con_fin evEnv_ok cs_told noCP_ok noCI_ok owOk_no (n := 2000) (LS := []) (fn := Try.f81) rfl loopsOk_nil ?_
  rw [sx_told]
  refine condI (fun h0 => ?_) (fun h0 => ?_)
  all_goals (first | rfl | (simp_all [nz, nzA, nz1, Iv.enc, V.enc, Ray.enc, Dec.enc, Shape.enc, none', told, Bool.cond_decide, told]; done) | (simp_all [nz, nzA, nz1, Iv.enc, V.enc, Ray.enc, Dec.enc, Shape.enc, none', told, Bool.cond_decide, told]; omega) | (simp_all [nz, nzA, nz1, Iv.enc, V.enc, Ray.enc, Dec.enc, Shape.enc, none', told, Bool.cond_decide, told]; (repeat' split) <;> (first | rfl | (exfalso; omega) | (simp_all; done) | omega)))
theorem eok_told : EntOk Try.prog 81 e_told := by
  intro args r ps h hp
  unfold e_told at h
  split at h
  · rename_i p1
    cases (Option.some.inj h)
    exact con_told p1 
  · exact absurd h (by simp)
theorem eok81 : EntOk Try.prog 81 e81 := eok_told
theorem sx_Mul (a : Int) (b : Int) (up : Bool) (Q : PV → Prop) : sxF evEnv (tabC [(66, e66), (84, e84)]) noCP noCI noG [] 2000 Try.f76 [.v (.int .i64 a), .v (.int .i64 b), .v (.bool up)] Q = (bif !inB a then Q (.tup [.v (.int IntKind.i64 ((0 : Int))), .v (.bool (false))]) else (bif !inB b then Q (.tup [.v (.int IntKind.i64 ((0 : Int))), .v (.bool (false))]) else (((-4611686018427387904 : Int) ≤ IntKind.i64.wrap (a * b) ∧ IntKind.i64.wrap (a * b) ≤ (4611686018427387904 : Int)) ∧ (((65536 : Int) ≠ (0 : Int)) ∧ Q (.tup [.v (.int IntKind.i64 ((rounded (IntKind.i64.wrap (a * b)) (65536 : Int) up).fst)), .v (.bool ((rounded (IntKind.i64.wrap (a * b)) (65536 : Int) up).snd))]))))) := by kernel_rfl
theorem cs_Mul : CSOk Try.prog (tabC [(66, e66), (84, e84)]) := tabC_cons eok66 <| tabC_cons eok84 <| tabC_nil
theorem con_Mul (a : Int) (b : Int) (up : Bool)  : Con Try.prog 76 [.v (.int .i64 a), .v (.int .i64 b), .v (.bool up)] (.tup [.v (.int .i64 ((mul a b up).1)), .v (.bool ((mul a b up).2))]) := by
  refine con_fin evEnv_ok cs_Mul noCP_ok noCI_ok owOk_no (n := 2000) (LS := []) (fn := Try.f76) rfl loopsOk_nil ?_
  rw [sx_Mul]
  refine condI (fun h0 => ?_) (fun h0 => condI (fun h1 => ?_) (fun h1 => ⟨?_, ⟨?_, ?_⟩⟩))
  · simp_all [nz, nzA, mul]
  · simp_all [nz, nzA, mul]
  all_goals simp only [Bool.not_eq_false'] at h0 h1
  all_goals have hw : IntKind.i64.wrap (a * b) = a * b := wrap_fit (by have := mul_fit h0 h1; constructor <;> omega)
  · rw [hw]; have := mul_fit h0 h1; omega
  · simp
  · simp [nz, nzA, mul, hw, h0, h1]
theorem eok_Mul : EntOk Try.prog 76 e_Mul := by
  intro args r ps h hp
  unfold e_Mul at h
  split at h
  · rename_i p1 p2 p3
    cases (Option.some.inj h)
    exact con_Mul p1 p2 p3 
  · exact absurd h (by simp)
theorem eok76 : EntOk Try.prog 76 e76 := eok_Mul
theorem sx_RMul (a : Int) (b : Int) (up : Bool) (Q : PV → Prop) : sxF evEnv (tabC [(64, e64), (59, e59), (81, e81), (57, e57)]) noCP noCI noG [] 2000 Try.f62 [.v (.int .i64 a), .v (.int .i64 b), .v (.bool up)] Q = (bif !inB a then Q (.tup [.v (.int IntKind.i64 ((0 : Int))), .v (.bool (false))]) else (bif !inB b then Q (.tup [.v (.int IntKind.i64 ((0 : Int))), .v (.bool (false))]) else (bif up then (((-4611686018427387904 : Int) ≤ IntKind.i64.wrap (a * b) ∧ IntKind.i64.wrap (a * b) ≤ (4611686018427387904 : Int)) ∧ (((-4611686018427387904 : Int) ≤ (65536 : Int) ∧ (65536 : Int) ≤ (4611686018427387904 : Int)) ∧ (((65536 : Int) ≠ (0 : Int)) ∧ Q (.tup [.v (.int IntKind.i64 ((told (up1 (IntKind.i64.wrap (a * b)) (65536 : Int))).fst)), .v (.bool ((told (up1 (IntKind.i64.wrap (a * b)) (65536 : Int))).snd))])))) else (((-4611686018427387904 : Int) ≤ IntKind.i64.wrap (a * b) ∧ IntKind.i64.wrap (a * b) ≤ (4611686018427387904 : Int)) ∧ Q (.tup [.v (.int IntKind.i64 ((told (floor (IntKind.i64.wrap (a * b)) (65536 : Int))).fst)), .v (.bool ((told (floor (IntKind.i64.wrap (a * b)) (65536 : Int))).snd))]))))) := by kernel_rfl
theorem cs_RMul : CSOk Try.prog (tabC [(64, e64), (59, e59), (81, e81), (57, e57)]) := tabC_cons eok64 <| tabC_cons eok59 <| tabC_cons eok81 <| tabC_cons eok57 <| tabC_nil
theorem con_RMul (a : Int) (b : Int) (up : Bool)  : Con Try.prog 62 [.v (.int .i64 a), .v (.int .i64 b), .v (.bool up)] (.tup [.v (.int .i64 ((mul a b up).1)), .v (.bool ((mul a b up).2))]) := by
  refine con_fin evEnv_ok cs_RMul noCP_ok noCI_ok owOk_no (n := 2000) (LS := []) (fn := Try.f62) rfl loopsOk_nil ?_
  rw [sx_RMul]
  refine condI (fun h0 => ?_) (fun h0 => condI (fun h1 => ?_) (fun h1 => condI (fun h2 => ⟨?_, ⟨?_, ⟨?_, ?_⟩⟩⟩) (fun h2 => ⟨?_, ?_⟩)))
  · simp_all [nz, nzA, mul]
  · simp_all [nz, nzA, mul]
  all_goals simp only [Bool.not_eq_false'] at h0 h1
  all_goals have hw : IntKind.i64.wrap (a * b) = a * b := wrap_fit (by have := mul_fit h0 h1; constructor <;> omega)
  all_goals have hm := mul_fit h0 h1
  · rw [hw]; omega
  · simp
  · simp
  · simp [nz, nzA, mul, rounded, told, hw, h0, h1, h2]
  · rw [hw]; omega
  · simp [nz, nzA, mul, rounded, told, floor, hw, h0, h1, h2]
theorem eok_RMul : EntOk Try.prog 62 e_RMul := by
  intro args r ps h hp
  unfold e_RMul at h
  split at h
  · rename_i p1 p2 p3
    cases (Option.some.inj h)
    exact con_RMul p1 p2 p3 
  · exact absurd h (by simp)
theorem eok62 : EntOk Try.prog 62 e62 := eok_RMul
theorem sx_Div (a : Int) (b : Int) (up : Bool) (Q : PV → Prop) : sxF evEnv (tabC [(66, e66), (84, e84)]) noCP noCI noG [] 2000 Try.f80 [.v (.int .i64 a), .v (.int .i64 b), .v (.bool up)] Q = (bif !inB a then Q (.tup [.v (.int IntKind.i64 ((0 : Int))), .v (.bool (false))]) else (bif !inB b then Q (.tup [.v (.int IntKind.i64 ((0 : Int))), .v (.bool (false))]) else (bif b == (0 : Int) then Q (.tup [.v (.int IntKind.i64 ((0 : Int))), .v (.bool (false))]) else (((-4611686018427387904 : Int) ≤ IntKind.i64.wrap (a * (65536 : Int)) ∧ IntKind.i64.wrap (a * (65536 : Int)) ≤ (4611686018427387904 : Int)) ∧ ((b ≠ (0 : Int)) ∧ Q (.tup [.v (.int IntKind.i64 ((rounded (IntKind.i64.wrap (a * (65536 : Int))) b up).fst)), .v (.bool ((rounded (IntKind.i64.wrap (a * (65536 : Int))) b up).snd))])))))) := by kernel_rfl
theorem cs_Div : CSOk Try.prog (tabC [(66, e66), (84, e84)]) := tabC_cons eok66 <| tabC_cons eok84 <| tabC_nil
theorem con_Div (a : Int) (b : Int) (up : Bool)  : Con Try.prog 80 [.v (.int .i64 a), .v (.int .i64 b), .v (.bool up)] (.tup [.v (.int .i64 ((div a b up).1)), .v (.bool ((div a b up).2))]) := by
  refine con_fin evEnv_ok cs_Div noCP_ok noCI_ok owOk_no (n := 2000) (LS := []) (fn := Try.f80) rfl loopsOk_nil ?_
  rw [sx_Div]
  refine condI (fun h0 => ?_) (fun h0 => condI (fun h1 => ?_) (fun h1 => condI (fun h2 => ?_) (fun h2 => ⟨?_, ⟨?_, ?_⟩⟩)))
  · simp_all [nz, nzA, div]
  · simp_all [nz, nzA, div]
  · simp_all [nz, nzA, div]
  all_goals simp only [Bool.not_eq_false'] at h0 h1
  all_goals have ha := inB_iff.1 h0
  all_goals have hw : IntKind.i64.wrap (a * 65536) = a * 65536 := wrap_fit (by constructor <;> omega)
  · rw [hw]; omega
  · simpa using h2
  · simp_all [nz, nzA, div]
theorem eok_Div : EntOk Try.prog 80 e_Div := by
  intro args r ps h hp
  unfold e_Div at h
  split at h
  · rename_i p1 p2 p3
    cases (Option.some.inj h)
    exact con_Div p1 p2 p3 
  · exact absurd h (by simp)
theorem eok80 : EntOk Try.prog 80 e80 := eok_Div
theorem sx_RDiv (a : Int) (b : Int) (up : Bool) (Q : PV → Prop) : sxF evEnv (tabC [(64, e64), (59, e59), (81, e81), (57, e57)]) noCP noCI noG [] 2000 Try.f82 [.v (.int .i64 a), .v (.int .i64 b), .v (.bool up)] Q = (bif !inB a then Q (.tup [.v (.int IntKind.i64 ((0 : Int))), .v (.bool (false))]) else (bif !inB b then Q (.tup [.v (.int IntKind.i64 ((0 : Int))), .v (.bool (false))]) else (bif b == (0 : Int) then Q (.tup [.v (.int IntKind.i64 ((0 : Int))), .v (.bool (false))]) else (bif up then (((-4611686018427387904 : Int) ≤ IntKind.i64.wrap (a * (65536 : Int)) ∧ IntKind.i64.wrap (a * (65536 : Int)) ≤ (4611686018427387904 : Int)) ∧ (((-4611686018427387904 : Int) ≤ b ∧ b ≤ (4611686018427387904 : Int)) ∧ ((b ≠ (0 : Int)) ∧ Q (.tup [.v (.int IntKind.i64 ((told (up1 (IntKind.i64.wrap (a * (65536 : Int))) b)).fst)), .v (.bool ((told (up1 (IntKind.i64.wrap (a * (65536 : Int))) b)).snd))])))) else (((-4611686018427387904 : Int) ≤ IntKind.i64.wrap (a * (65536 : Int)) ∧ IntKind.i64.wrap (a * (65536 : Int)) ≤ (4611686018427387904 : Int)) ∧ Q (.tup [.v (.int IntKind.i64 ((told (floor (IntKind.i64.wrap (a * (65536 : Int))) b)).fst)), .v (.bool ((told (floor (IntKind.i64.wrap (a * (65536 : Int))) b)).snd))])))))) := by kernel_rfl
theorem cs_RDiv : CSOk Try.prog (tabC [(64, e64), (59, e59), (81, e81), (57, e57)]) := tabC_cons eok64 <| tabC_cons eok59 <| tabC_cons eok81 <| tabC_cons eok57 <| tabC_nil
theorem con_RDiv (a : Int) (b : Int) (up : Bool)  : Con Try.prog 82 [.v (.int .i64 a), .v (.int .i64 b), .v (.bool up)] (.tup [.v (.int .i64 ((div a b up).1)), .v (.bool ((div a b up).2))]) := by
  refine con_fin evEnv_ok cs_RDiv noCP_ok noCI_ok owOk_no (n := 2000) (LS := []) (fn := Try.f82) rfl loopsOk_nil ?_
  rw [sx_RDiv]
  refine condI (fun h0 => ?_) (fun h0 => condI (fun h1 => ?_) (fun h1 => condI (fun h2 => ?_) (fun h2 => condI (fun h3 => ⟨?_, ⟨?_, ⟨?_, ?_⟩⟩⟩) (fun h3 => ⟨?_, ?_⟩))))
  · simp_all [nz, nzA, div]
  · simp_all [nz, nzA, div]
  · simp_all [nz, nzA, div]
  all_goals simp only [Bool.not_eq_false'] at h0 h1
  all_goals have ha := inB_iff.1 h0
  all_goals have hb := inB_iff.1 h1
  all_goals have hw : IntKind.i64.wrap (a * 65536) = a * 65536 := wrap_fit (by constructor <;> omega)
  · rw [hw]; omega
  · omega
  · simpa using h2
  · simp_all [nz, nzA, div, rounded, told]
  · rw [hw]; omega
  · simp_all [nz, nzA, div, rounded, told, floor]
theorem eok_RDiv : EntOk Try.prog 82 e_RDiv := by
  intro args r ps h hp
  unfold e_RDiv at h
  split at h
  · rename_i p1 p2 p3
    cases (Option.some.inj h)
    exact con_RDiv p1 p2 p3 
  · exact absurd h (by simp)
theorem eok82 : EntOk Try.prog 82 e82 := eok_RDiv
end Go.Men
namespace Go.Men
open Go.Ev Go.Proofs Go.Proofs.Ytoldgmhepeficaa
theorem sx_endsM (a : Iv) (b : Iv) (Q : PV → Prop) : sxF evEnv (tabC [(24, e24), (65, e65), (76, e76)]) noCP noCI noG [] 2000 Try.f79 [.fn 76 [], .agg (Iv.enc a), .agg (Iv.enc b)] Q = (bif !(mul a.lo b.lo false).snd then Q (.agg [.v (.int IntKind.i64 ((0 : Int))), .v (.int IntKind.i64 ((0 : Int))), .v (.bool (true))]) else (bif !(mul a.lo b.lo true).snd then Q (.agg [.v (.int IntKind.i64 ((0 : Int))), .v (.int IntKind.i64 ((0 : Int))), .v (.bool (true))]) else (bif !(mul a.lo b.hi false).snd then Q (.agg [.v (.int IntKind.i64 ((0 : Int))), .v (.int IntKind.i64 ((0 : Int))), .v (.bool (true))]) else (bif !(mul a.lo b.hi true).snd then Q (.agg [.v (.int IntKind.i64 ((0 : Int))), .v (.int IntKind.i64 ((0 : Int))), .v (.bool (true))]) else (bif !(mul a.hi b.lo false).snd then Q (.agg [.v (.int IntKind.i64 ((0 : Int))), .v (.int IntKind.i64 ((0 : Int))), .v (.bool (true))]) else (bif !(mul a.hi b.lo true).snd then Q (.agg [.v (.int IntKind.i64 ((0 : Int))), .v (.int IntKind.i64 ((0 : Int))), .v (.bool (true))]) else (bif !(mul a.hi b.hi false).snd then Q (.agg [.v (.int IntKind.i64 ((0 : Int))), .v (.int IntKind.i64 ((0 : Int))), .v (.bool (true))]) else (bif !(mul a.hi b.hi true).snd then Q (.agg [.v (.int IntKind.i64 ((0 : Int))), .v (.int IntKind.i64 ((0 : Int))), .v (.bool (true))]) else Q (.agg [.v (.int IntKind.i64 ((of (List.foldl imin (of (List.foldl imin (of (List.foldl imin (of (List.foldl imin (of (mul a.lo b.lo false).fst (mul a.lo b.lo true).fst).lo [(mul a.lo b.lo false).fst]) (List.foldl imax (of (mul a.lo b.lo false).fst (mul a.lo b.lo true).fst).hi [(mul a.lo b.lo true).fst])).lo [(mul a.lo b.hi false).fst]) (List.foldl imax (of (List.foldl imin (of (mul a.lo b.lo false).fst (mul a.lo b.lo true).fst).lo [(mul a.lo b.lo false).fst]) (List.foldl imax (of (mul a.lo b.lo false).fst (mul a.lo b.lo true).fst).hi [(mul a.lo b.lo true).fst])).hi [(mul a.lo b.hi true).fst])).lo [(mul a.hi b.lo false).fst]) (List.foldl imax (of (List.foldl imin (of (List.foldl imin (of (mul a.lo b.lo false).fst (mul a.lo b.lo true).fst).lo [(mul a.lo b.lo false).fst]) (List.foldl imax (of (mul a.lo b.lo false).fst (mul a.lo b.lo true).fst).hi [(mul a.lo b.lo true).fst])).lo [(mul a.lo b.hi false).fst]) (List.foldl imax (of (List.foldl imin (of (mul a.lo b.lo false).fst (mul a.lo b.lo true).fst).lo [(mul a.lo b.lo false).fst]) (List.foldl imax (of (mul a.lo b.lo false).fst (mul a.lo b.lo true).fst).hi [(mul a.lo b.lo true).fst])).hi [(mul a.lo b.hi true).fst])).hi [(mul a.hi b.lo true).fst])).lo [(mul a.hi b.hi false).fst]) (List.foldl imax (of (List.foldl imin (of (List.foldl imin (of (List.foldl imin (of (mul a.lo b.lo false).fst (mul a.lo b.lo true).fst).lo [(mul a.lo b.lo false).fst]) (List.foldl imax (of (mul a.lo b.lo false).fst (mul a.lo b.lo true).fst).hi [(mul a.lo b.lo true).fst])).lo [(mul a.lo b.hi false).fst]) (List.foldl imax (of (List.foldl imin (of (mul a.lo b.lo false).fst (mul a.lo b.lo true).fst).lo [(mul a.lo b.lo false).fst]) (List.foldl imax (of (mul a.lo b.lo false).fst (mul a.lo b.lo true).fst).hi [(mul a.lo b.lo true).fst])).hi [(mul a.lo b.hi true).fst])).lo [(mul a.hi b.lo false).fst]) (List.foldl imax (of (List.foldl imin (of (List.foldl imin (of (mul a.lo b.lo false).fst (mul a.lo b.lo true).fst).lo [(mul a.lo b.lo false).fst]) (List.foldl imax (of (mul a.lo b.lo false).fst (mul a.lo b.lo true).fst).hi [(mul a.lo b.lo true).fst])).lo [(mul a.lo b.hi false).fst]) (List.foldl imax (of (List.foldl imin (of (mul a.lo b.lo false).fst (mul a.lo b.lo true).fst).lo [(mul a.lo b.lo false).fst]) (List.foldl imax (of (mul a.lo b.lo false).fst (mul a.lo b.lo true).fst).hi [(mul a.lo b.lo true).fst])).hi [(mul a.lo b.hi true).fst])).hi [(mul a.hi b.lo true).fst])).hi [(mul a.hi b.hi true).fst])).lo)), .v (.int IntKind.i64 ((of (List.foldl imin (of (List.foldl imin (of (List.foldl imin (of (List.foldl imin (of (mul a.lo b.lo false).fst (mul a.lo b.lo true).fst).lo [(mul a.lo b.lo false).fst]) (List.foldl imax (of (mul a.lo b.lo false).fst (mul a.lo b.lo true).fst).hi [(mul a.lo b.lo true).fst])).lo [(mul a.lo b.hi false).fst]) (List.foldl imax (of (List.foldl imin (of (mul a.lo b.lo false).fst (mul a.lo b.lo true).fst).lo [(mul a.lo b.lo false).fst]) (List.foldl imax (of (mul a.lo b.lo false).fst (mul a.lo b.lo true).fst).hi [(mul a.lo b.lo true).fst])).hi [(mul a.lo b.hi true).fst])).lo [(mul a.hi b.lo false).fst]) (List.foldl imax (of (List.foldl imin (of (List.foldl imin (of (mul a.lo b.lo false).fst (mul a.lo b.lo true).fst).lo [(mul a.lo b.lo false).fst]) (List.foldl imax (of (mul a.lo b.lo false).fst (mul a.lo b.lo true).fst).hi [(mul a.lo b.lo true).fst])).lo [(mul a.lo b.hi false).fst]) (List.foldl imax (of (List.foldl imin (of (mul a.lo b.lo false).fst (mul a.lo b.lo true).fst).lo [(mul a.lo b.lo false).fst]) (List.foldl imax (of (mul a.lo b.lo false).fst (mul a.lo b.lo true).fst).hi [(mul a.lo b.lo true).fst])).hi [(mul a.lo b.hi true).fst])).hi [(mul a.hi b.lo true).fst])).lo [(mul a.hi b.hi false).fst]) (List.foldl imax (of (List.foldl imin (of (List.foldl imin (of (List.foldl imin (of (mul a.lo b.lo false).fst (mul a.lo b.lo true).fst).lo [(mul a.lo b.lo false).fst]) (List.foldl imax (of (mul a.lo b.lo false).fst (mul a.lo b.lo true).fst).hi [(mul a.lo b.lo true).fst])).lo [(mul a.lo b.hi false).fst]) (List.foldl imax (of (List.foldl imin (of (mul a.lo b.lo false).fst (mul a.lo b.lo true).fst).lo [(mul a.lo b.lo false).fst]) (List.foldl imax (of (mul a.lo b.lo false).fst (mul a.lo b.lo true).fst).hi [(mul a.lo b.lo true).fst])).hi [(mul a.lo b.hi true).fst])).lo [(mul a.hi b.lo false).fst]) (List.foldl imax (of (List.foldl imin (of (List.foldl imin (of (mul a.lo b.lo false).fst (mul a.lo b.lo true).fst).lo [(mul a.lo b.lo false).fst]) (List.foldl imax (of (mul a.lo b.lo false).fst (mul a.lo b.lo true).fst).hi [(mul a.lo b.lo true).fst])).lo [(mul a.lo b.hi false).fst]) (List.foldl imax (of (List.foldl imin (of (mul a.lo b.lo false).fst (mul a.lo b.lo true).fst).lo [(mul a.lo b.lo false).fst]) (List.foldl imax (of (mul a.lo b.lo false).fst (mul a.lo b.lo true).fst).hi [(mul a.lo b.lo true).fst])).hi [(mul a.lo b.hi true).fst])).hi [(mul a.hi b.lo true).fst])).hi [(mul a.hi b.hi true).fst])).hi)), .v (.bool ((of (List.foldl imin (of (List.foldl imin (of (List.foldl imin (of (List.foldl imin (of (mul a.lo b.lo false).fst (mul a.lo b.lo true).fst).lo [(mul a.lo b.lo false).fst]) (List.foldl imax (of (mul a.lo b.lo false).fst (mul a.lo b.lo true).fst).hi [(mul a.lo b.lo true).fst])).lo [(mul a.lo b.hi false).fst]) (List.foldl imax (of (List.foldl imin (of (mul a.lo b.lo false).fst (mul a.lo b.lo true).fst).lo [(mul a.lo b.lo false).fst]) (List.foldl imax (of (mul a.lo b.lo false).fst (mul a.lo b.lo true).fst).hi [(mul a.lo b.lo true).fst])).hi [(mul a.lo b.hi true).fst])).lo [(mul a.hi b.lo false).fst]) (List.foldl imax (of (List.foldl imin (of (List.foldl imin (of (mul a.lo b.lo false).fst (mul a.lo b.lo true).fst).lo [(mul a.lo b.lo false).fst]) (List.foldl imax (of (mul a.lo b.lo false).fst (mul a.lo b.lo true).fst).hi [(mul a.lo b.lo true).fst])).lo [(mul a.lo b.hi false).fst]) (List.foldl imax (of (List.foldl imin (of (mul a.lo b.lo false).fst (mul a.lo b.lo true).fst).lo [(mul a.lo b.lo false).fst]) (List.foldl imax (of (mul a.lo b.lo false).fst (mul a.lo b.lo true).fst).hi [(mul a.lo b.lo true).fst])).hi [(mul a.lo b.hi true).fst])).hi [(mul a.hi b.lo true).fst])).lo [(mul a.hi b.hi false).fst]) (List.foldl imax (of (List.foldl imin (of (List.foldl imin (of (List.foldl imin (of (mul a.lo b.lo false).fst (mul a.lo b.lo true).fst).lo [(mul a.lo b.lo false).fst]) (List.foldl imax (of (mul a.lo b.lo false).fst (mul a.lo b.lo true).fst).hi [(mul a.lo b.lo true).fst])).lo [(mul a.lo b.hi false).fst]) (List.foldl imax (of (List.foldl imin (of (mul a.lo b.lo false).fst (mul a.lo b.lo true).fst).lo [(mul a.lo b.lo false).fst]) (List.foldl imax (of (mul a.lo b.lo false).fst (mul a.lo b.lo true).fst).hi [(mul a.lo b.lo true).fst])).hi [(mul a.lo b.hi true).fst])).lo [(mul a.hi b.lo false).fst]) (List.foldl imax (of (List.foldl imin (of (List.foldl imin (of (mul a.lo b.lo false).fst (mul a.lo b.lo true).fst).lo [(mul a.lo b.lo false).fst]) (List.foldl imax (of (mul a.lo b.lo false).fst (mul a.lo b.lo true).fst).hi [(mul a.lo b.lo true).fst])).lo [(mul a.lo b.hi false).fst]) (List.foldl imax (of (List.foldl imin (of (mul a.lo b.lo false).fst (mul a.lo b.lo true).fst).lo [(mul a.lo b.lo false).fst]) (List.foldl imax (of (mul a.lo b.lo false).fst (mul a.lo b.lo true).fst).hi [(mul a.lo b.lo true).fst])).hi [(mul a.lo b.hi true).fst])).hi [(mul a.hi b.lo true).fst])).hi [(mul a.hi b.hi true).fst])).no))]))))))))) := by kernel_rfl
theorem cs_endsM : CSOk Try.prog (tabC [(24, e24), (65, e65), (76, e76)]) := tabC_cons eok24 <| tabC_cons eok65 <| tabC_cons eok76 <| tabC_nil
theorem con_endsM (a : Iv) (b : Iv)  : Con Try.prog 79 [.fn 76 [], .agg (Iv.enc a), .agg (Iv.enc b)] (.agg (Iv.enc (ends mul a b))) := by
  refine con_fin evEnv_ok cs_endsM noCP_ok noCI_ok owOk_no (n := 2000) (LS := []) (fn := Try.f79) rfl loopsOk_nil ?_
  rw [sx_endsM]
  refine condI (fun h0 => ?_) (fun h0 => condI (fun h1 => ?_) (fun h1 => condI (fun h2 => ?_) (fun h2 => condI (fun h3 => ?_) (fun h3 => condI (fun h4 => ?_) (fun h4 => condI (fun h5 => ?_) (fun h5 => condI (fun h6 => ?_) (fun h6 => condI (fun h7 => ?_) (fun h7 => ?_))))))))
  all_goals simp only [Bool.not_eq_true', Bool.not_eq_false'] at *
  all_goals first | exact congrArg (fun e => PV.agg (Iv.enc e)) (ends_no (by simp [*])) | exact congrArg (fun e => PV.agg (Iv.enc e)) (ends_chain good_mul h0 h1 h2 h3 h4 h5 h6 h7)
theorem eok_endsM : EntOk Try.prog 79 e_endsM := by
  intro args r ps h hp
  unfold e_endsM at h
  split at h
  · rename_i p1 p2 p3 p4 p5 p6
    cases (Option.some.inj h)
    exact con_endsM (⟨p1, p2, p3⟩ : Iv) (⟨p4, p5, p6⟩ : Iv) 
  · exact absurd h (by simp)
theorem sx_endsD (a : Iv) (b : Iv) (Q : PV → Prop) : sxF evEnv (tabC [(24, e24), (65, e65), (80, e80)]) noCP noCI noG [] 2000 Try.f79 [.fn 80 [], .agg (Iv.enc a), .agg (Iv.enc b)] Q = (bif !(div a.lo b.lo false).snd then Q (.agg [.v (.int IntKind.i64 ((0 : Int))), .v (.int IntKind.i64 ((0 : Int))), .v (.bool (true))]) else (bif !(div a.lo b.lo true).snd then Q (.agg [.v (.int IntKind.i64 ((0 : Int))), .v (.int IntKind.i64 ((0 : Int))), .v (.bool (true))]) else (bif !(div a.lo b.hi false).snd then Q (.agg [.v (.int IntKind.i64 ((0 : Int))), .v (.int IntKind.i64 ((0 : Int))), .v (.bool (true))]) else (bif !(div a.lo b.hi true).snd then Q (.agg [.v (.int IntKind.i64 ((0 : Int))), .v (.int IntKind.i64 ((0 : Int))), .v (.bool (true))]) else (bif !(div a.hi b.lo false).snd then Q (.agg [.v (.int IntKind.i64 ((0 : Int))), .v (.int IntKind.i64 ((0 : Int))), .v (.bool (true))]) else (bif !(div a.hi b.lo true).snd then Q (.agg [.v (.int IntKind.i64 ((0 : Int))), .v (.int IntKind.i64 ((0 : Int))), .v (.bool (true))]) else (bif !(div a.hi b.hi false).snd then Q (.agg [.v (.int IntKind.i64 ((0 : Int))), .v (.int IntKind.i64 ((0 : Int))), .v (.bool (true))]) else (bif !(div a.hi b.hi true).snd then Q (.agg [.v (.int IntKind.i64 ((0 : Int))), .v (.int IntKind.i64 ((0 : Int))), .v (.bool (true))]) else Q (.agg [.v (.int IntKind.i64 ((of (List.foldl imin (of (List.foldl imin (of (List.foldl imin (of (List.foldl imin (of (div a.lo b.lo false).fst (div a.lo b.lo true).fst).lo [(div a.lo b.lo false).fst]) (List.foldl imax (of (div a.lo b.lo false).fst (div a.lo b.lo true).fst).hi [(div a.lo b.lo true).fst])).lo [(div a.lo b.hi false).fst]) (List.foldl imax (of (List.foldl imin (of (div a.lo b.lo false).fst (div a.lo b.lo true).fst).lo [(div a.lo b.lo false).fst]) (List.foldl imax (of (div a.lo b.lo false).fst (div a.lo b.lo true).fst).hi [(div a.lo b.lo true).fst])).hi [(div a.lo b.hi true).fst])).lo [(div a.hi b.lo false).fst]) (List.foldl imax (of (List.foldl imin (of (List.foldl imin (of (div a.lo b.lo false).fst (div a.lo b.lo true).fst).lo [(div a.lo b.lo false).fst]) (List.foldl imax (of (div a.lo b.lo false).fst (div a.lo b.lo true).fst).hi [(div a.lo b.lo true).fst])).lo [(div a.lo b.hi false).fst]) (List.foldl imax (of (List.foldl imin (of (div a.lo b.lo false).fst (div a.lo b.lo true).fst).lo [(div a.lo b.lo false).fst]) (List.foldl imax (of (div a.lo b.lo false).fst (div a.lo b.lo true).fst).hi [(div a.lo b.lo true).fst])).hi [(div a.lo b.hi true).fst])).hi [(div a.hi b.lo true).fst])).lo [(div a.hi b.hi false).fst]) (List.foldl imax (of (List.foldl imin (of (List.foldl imin (of (List.foldl imin (of (div a.lo b.lo false).fst (div a.lo b.lo true).fst).lo [(div a.lo b.lo false).fst]) (List.foldl imax (of (div a.lo b.lo false).fst (div a.lo b.lo true).fst).hi [(div a.lo b.lo true).fst])).lo [(div a.lo b.hi false).fst]) (List.foldl imax (of (List.foldl imin (of (div a.lo b.lo false).fst (div a.lo b.lo true).fst).lo [(div a.lo b.lo false).fst]) (List.foldl imax (of (div a.lo b.lo false).fst (div a.lo b.lo true).fst).hi [(div a.lo b.lo true).fst])).hi [(div a.lo b.hi true).fst])).lo [(div a.hi b.lo false).fst]) (List.foldl imax (of (List.foldl imin (of (List.foldl imin (of (div a.lo b.lo false).fst (div a.lo b.lo true).fst).lo [(div a.lo b.lo false).fst]) (List.foldl imax (of (div a.lo b.lo false).fst (div a.lo b.lo true).fst).hi [(div a.lo b.lo true).fst])).lo [(div a.lo b.hi false).fst]) (List.foldl imax (of (List.foldl imin (of (div a.lo b.lo false).fst (div a.lo b.lo true).fst).lo [(div a.lo b.lo false).fst]) (List.foldl imax (of (div a.lo b.lo false).fst (div a.lo b.lo true).fst).hi [(div a.lo b.lo true).fst])).hi [(div a.lo b.hi true).fst])).hi [(div a.hi b.lo true).fst])).hi [(div a.hi b.hi true).fst])).lo)), .v (.int IntKind.i64 ((of (List.foldl imin (of (List.foldl imin (of (List.foldl imin (of (List.foldl imin (of (div a.lo b.lo false).fst (div a.lo b.lo true).fst).lo [(div a.lo b.lo false).fst]) (List.foldl imax (of (div a.lo b.lo false).fst (div a.lo b.lo true).fst).hi [(div a.lo b.lo true).fst])).lo [(div a.lo b.hi false).fst]) (List.foldl imax (of (List.foldl imin (of (div a.lo b.lo false).fst (div a.lo b.lo true).fst).lo [(div a.lo b.lo false).fst]) (List.foldl imax (of (div a.lo b.lo false).fst (div a.lo b.lo true).fst).hi [(div a.lo b.lo true).fst])).hi [(div a.lo b.hi true).fst])).lo [(div a.hi b.lo false).fst]) (List.foldl imax (of (List.foldl imin (of (List.foldl imin (of (div a.lo b.lo false).fst (div a.lo b.lo true).fst).lo [(div a.lo b.lo false).fst]) (List.foldl imax (of (div a.lo b.lo false).fst (div a.lo b.lo true).fst).hi [(div a.lo b.lo true).fst])).lo [(div a.lo b.hi false).fst]) (List.foldl imax (of (List.foldl imin (of (div a.lo b.lo false).fst (div a.lo b.lo true).fst).lo [(div a.lo b.lo false).fst]) (List.foldl imax (of (div a.lo b.lo false).fst (div a.lo b.lo true).fst).hi [(div a.lo b.lo true).fst])).hi [(div a.lo b.hi true).fst])).hi [(div a.hi b.lo true).fst])).lo [(div a.hi b.hi false).fst]) (List.foldl imax (of (List.foldl imin (of (List.foldl imin (of (List.foldl imin (of (div a.lo b.lo false).fst (div a.lo b.lo true).fst).lo [(div a.lo b.lo false).fst]) (List.foldl imax (of (div a.lo b.lo false).fst (div a.lo b.lo true).fst).hi [(div a.lo b.lo true).fst])).lo [(div a.lo b.hi false).fst]) (List.foldl imax (of (List.foldl imin (of (div a.lo b.lo false).fst (div a.lo b.lo true).fst).lo [(div a.lo b.lo false).fst]) (List.foldl imax (of (div a.lo b.lo false).fst (div a.lo b.lo true).fst).hi [(div a.lo b.lo true).fst])).hi [(div a.lo b.hi true).fst])).lo [(div a.hi b.lo false).fst]) (List.foldl imax (of (List.foldl imin (of (List.foldl imin (of (div a.lo b.lo false).fst (div a.lo b.lo true).fst).lo [(div a.lo b.lo false).fst]) (List.foldl imax (of (div a.lo b.lo false).fst (div a.lo b.lo true).fst).hi [(div a.lo b.lo true).fst])).lo [(div a.lo b.hi false).fst]) (List.foldl imax (of (List.foldl imin (of (div a.lo b.lo false).fst (div a.lo b.lo true).fst).lo [(div a.lo b.lo false).fst]) (List.foldl imax (of (div a.lo b.lo false).fst (div a.lo b.lo true).fst).hi [(div a.lo b.lo true).fst])).hi [(div a.lo b.hi true).fst])).hi [(div a.hi b.lo true).fst])).hi [(div a.hi b.hi true).fst])).hi)), .v (.bool ((of (List.foldl imin (of (List.foldl imin (of (List.foldl imin (of (List.foldl imin (of (div a.lo b.lo false).fst (div a.lo b.lo true).fst).lo [(div a.lo b.lo false).fst]) (List.foldl imax (of (div a.lo b.lo false).fst (div a.lo b.lo true).fst).hi [(div a.lo b.lo true).fst])).lo [(div a.lo b.hi false).fst]) (List.foldl imax (of (List.foldl imin (of (div a.lo b.lo false).fst (div a.lo b.lo true).fst).lo [(div a.lo b.lo false).fst]) (List.foldl imax (of (div a.lo b.lo false).fst (div a.lo b.lo true).fst).hi [(div a.lo b.lo true).fst])).hi [(div a.lo b.hi true).fst])).lo [(div a.hi b.lo false).fst]) (List.foldl imax (of (List.foldl imin (of (List.foldl imin (of (div a.lo b.lo false).fst (div a.lo b.lo true).fst).lo [(div a.lo b.lo false).fst]) (List.foldl imax (of (div a.lo b.lo false).fst (div a.lo b.lo true).fst).hi [(div a.lo b.lo true).fst])).lo [(div a.lo b.hi false).fst]) (List.foldl imax (of (List.foldl imin (of (div a.lo b.lo false).fst (div a.lo b.lo true).fst).lo [(div a.lo b.lo false).fst]) (List.foldl imax (of (div a.lo b.lo false).fst (div a.lo b.lo true).fst).hi [(div a.lo b.lo true).fst])).hi [(div a.lo b.hi true).fst])).hi [(div a.hi b.lo true).fst])).lo [(div a.hi b.hi false).fst]) (List.foldl imax (of (List.foldl imin (of (List.foldl imin (of (List.foldl imin (of (div a.lo b.lo false).fst (div a.lo b.lo true).fst).lo [(div a.lo b.lo false).fst]) (List.foldl imax (of (div a.lo b.lo false).fst (div a.lo b.lo true).fst).hi [(div a.lo b.lo true).fst])).lo [(div a.lo b.hi false).fst]) (List.foldl imax (of (List.foldl imin (of (div a.lo b.lo false).fst (div a.lo b.lo true).fst).lo [(div a.lo b.lo false).fst]) (List.foldl imax (of (div a.lo b.lo false).fst (div a.lo b.lo true).fst).hi [(div a.lo b.lo true).fst])).hi [(div a.lo b.hi true).fst])).lo [(div a.hi b.lo false).fst]) (List.foldl imax (of (List.foldl imin (of (List.foldl imin (of (div a.lo b.lo false).fst (div a.lo b.lo true).fst).lo [(div a.lo b.lo false).fst]) (List.foldl imax (of (div a.lo b.lo false).fst (div a.lo b.lo true).fst).hi [(div a.lo b.lo true).fst])).lo [(div a.lo b.hi false).fst]) (List.foldl imax (of (List.foldl imin (of (div a.lo b.lo false).fst (div a.lo b.lo true).fst).lo [(div a.lo b.lo false).fst]) (List.foldl imax (of (div a.lo b.lo false).fst (div a.lo b.lo true).fst).hi [(div a.lo b.lo true).fst])).hi [(div a.lo b.hi true).fst])).hi [(div a.hi b.lo true).fst])).hi [(div a.hi b.hi true).fst])).no))]))))))))) := by kernel_rfl
theorem cs_endsD : CSOk Try.prog (tabC [(24, e24), (65, e65), (80, e80)]) := tabC_cons eok24 <| tabC_cons eok65 <| tabC_cons eok80 <| tabC_nil
theorem con_endsD (a : Iv) (b : Iv)  : Con Try.prog 79 [.fn 80 [], .agg (Iv.enc a), .agg (Iv.enc b)] (.agg (Iv.enc (ends div a b))) := by
  refine con_fin evEnv_ok cs_endsD noCP_ok noCI_ok owOk_no (n := 2000) (LS := []) (fn := Try.f79) rfl loopsOk_nil ?_
  rw [sx_endsD]
  refine condI (fun h0 => ?_) (fun h0 => condI (fun h1 => ?_) (fun h1 => condI (fun h2 => ?_) (fun h2 => condI (fun h3 => ?_) (fun h3 => condI (fun h4 => ?_) (fun h4 => condI (fun h5 => ?_) (fun h5 => condI (fun h6 => ?_) (fun h6 => condI (fun h7 => ?_) (fun h7 => ?_))))))))
  all_goals simp only [Bool.not_eq_true', Bool.not_eq_false'] at *
  all_goals first | exact congrArg (fun e => PV.agg (Iv.enc e)) (ends_no (by simp [*])) | exact congrArg (fun e => PV.agg (Iv.enc e)) (ends_chain good_div h0 h1 h2 h3 h4 h5 h6 h7)
theorem eok_endsD : EntOk Try.prog 79 e_endsD := by
  intro args r ps h hp
  unfold e_endsD at h
  split at h
  · rename_i p1 p2 p3 p4 p5 p6
    cases (Option.some.inj h)
    exact con_endsD (⟨p1, p2, p3⟩ : Iv) (⟨p4, p5, p6⟩ : Iv) 
  · exact absurd h (by simp)
theorem eok79 : EntOk Try.prog 79 e79 := eOr_ok eok_endsM (eok_endsD)
theorem sx_REndsM (a : Iv) (b : Iv) (Q : PV → Prop) : sxF evEnv (tabC [(62, e62), (82, e82), (25, e25), (56, e56)]) noCP noCI noG [] 2000 Try.f63 [.agg (Iv.enc a), .agg (Iv.enc b), .v (.bool false)] Q = (((2 : Int) ≠ (0 : Int)) ∧ (((2 : Int) ≠ (0 : Int)) ∧ (bif !(mul a.lo b.lo false).snd then Q (.agg [.v (.int IntKind.i64 ((0 : Int))), .v (.int IntKind.i64 ((0 : Int))), .v (.bool (true))]) else (bif !(mul a.lo b.lo true).snd then Q (.agg [.v (.int IntKind.i64 ((0 : Int))), .v (.int IntKind.i64 ((0 : Int))), .v (.bool (true))]) else (((2 : Int) ≠ (0 : Int)) ∧ (((2 : Int) ≠ (0 : Int)) ∧ (bif !(mul a.hi b.lo false).snd then Q (.agg [.v (.int IntKind.i64 ((0 : Int))), .v (.int IntKind.i64 ((0 : Int))), .v (.bool (true))]) else (bif !(mul a.hi b.lo true).snd then Q (.agg [.v (.int IntKind.i64 ((0 : Int))), .v (.int IntKind.i64 ((0 : Int))), .v (.bool (true))]) else (bif decide ((mul a.hi b.lo false).fst < (mul a.lo b.lo false).fst) then (bif decide ((mul a.hi b.lo true).fst > (mul a.lo b.lo true).fst) then (((2 : Int) ≠ (0 : Int)) ∧ (((2 : Int) ≠ (0 : Int)) ∧ (bif !(mul a.lo b.hi false).snd then Q (.agg [.v (.int IntKind.i64 ((0 : Int))), .v (.int IntKind.i64 ((0 : Int))), .v (.bool (true))]) else (bif !(mul a.lo b.hi true).snd then Q (.agg [.v (.int IntKind.i64 ((0 : Int))), .v (.int IntKind.i64 ((0 : Int))), .v (.bool (true))]) else (bif decide ((mul a.lo b.hi false).fst < (mul a.hi b.lo false).fst) then (bif decide ((mul a.lo b.hi true).fst > (mul a.hi b.lo true).fst) then (((2 : Int) ≠ (0 : Int)) ∧ (((2 : Int) ≠ (0 : Int)) ∧ (bif !(mul a.hi b.hi false).snd then Q (.agg [.v (.int IntKind.i64 ((0 : Int))), .v (.int IntKind.i64 ((0 : Int))), .v (.bool (true))]) else (bif !(mul a.hi b.hi true).snd then Q (.agg [.v (.int IntKind.i64 ((0 : Int))), .v (.int IntKind.i64 ((0 : Int))), .v (.bool (true))]) else (bif decide ((mul a.hi b.hi false).fst < (mul a.lo b.hi false).fst) then (bif decide ((mul a.hi b.hi true).fst > (mul a.lo b.hi true).fst) then Q (.agg [.v (.int IntKind.i64 ((of (mul a.hi b.hi false).fst (mul a.hi b.hi true).fst).lo)), .v (.int IntKind.i64 ((of (mul a.hi b.hi false).fst (mul a.hi b.hi true).fst).hi)), .v (.bool ((of (mul a.hi b.hi false).fst (mul a.hi b.hi true).fst).no))]) else Q (.agg [.v (.int IntKind.i64 ((of (mul a.hi b.hi false).fst (mul a.lo b.hi true).fst).lo)), .v (.int IntKind.i64 ((of (mul a.hi b.hi false).fst (mul a.lo b.hi true).fst).hi)), .v (.bool ((of (mul a.hi b.hi false).fst (mul a.lo b.hi true).fst).no))])) else (bif decide ((mul a.hi b.hi true).fst > (mul a.lo b.hi true).fst) then Q (.agg [.v (.int IntKind.i64 ((of (mul a.lo b.hi false).fst (mul a.hi b.hi true).fst).lo)), .v (.int IntKind.i64 ((of (mul a.lo b.hi false).fst (mul a.hi b.hi true).fst).hi)), .v (.bool ((of (mul a.lo b.hi false).fst (mul a.hi b.hi true).fst).no))]) else Q (.agg [.v (.int IntKind.i64 ((of (mul a.lo b.hi false).fst (mul a.lo b.hi true).fst).lo)), .v (.int IntKind.i64 ((of (mul a.lo b.hi false).fst (mul a.lo b.hi true).fst).hi)), .v (.bool ((of (mul a.lo b.hi false).fst (mul a.lo b.hi true).fst).no))]))))))) else (((2 : Int) ≠ (0 : Int)) ∧ (((2 : Int) ≠ (0 : Int)) ∧ (bif !(mul a.hi b.hi false).snd then Q (.agg [.v (.int IntKind.i64 ((0 : Int))), .v (.int IntKind.i64 ((0 : Int))), .v (.bool (true))]) else (bif !(mul a.hi b.hi true).snd then Q (.agg [.v (.int IntKind.i64 ((0 : Int))), .v (.int IntKind.i64 ((0 : Int))), .v (.bool (true))]) else (bif decide ((mul a.hi b.hi false).fst < (mul a.lo b.hi false).fst) then (bif decide ((mul a.hi b.hi true).fst > (mul a.hi b.lo true).fst) then Q (.agg [.v (.int IntKind.i64 ((of (mul a.hi b.hi false).fst (mul a.hi b.hi true).fst).lo)), .v (.int IntKind.i64 ((of (mul a.hi b.hi false).fst (mul a.hi b.hi true).fst).hi)), .v (.bool ((of (mul a.hi b.hi false).fst (mul a.hi b.hi true).fst).no))]) else Q (.agg [.v (.int IntKind.i64 ((of (mul a.hi b.hi false).fst (mul a.hi b.lo true).fst).lo)), .v (.int IntKind.i64 ((of (mul a.hi b.hi false).fst (mul a.hi b.lo true).fst).hi)), .v (.bool ((of (mul a.hi b.hi false).fst (mul a.hi b.lo true).fst).no))])) else (bif decide ((mul a.hi b.hi true).fst > (mul a.hi b.lo true).fst) then Q (.agg [.v (.int IntKind.i64 ((of (mul a.lo b.hi false).fst (mul a.hi b.hi true).fst).lo)), .v (.int IntKind.i64 ((of (mul a.lo b.hi false).fst (mul a.hi b.hi true).fst).hi)), .v (.bool ((of (mul a.lo b.hi false).fst (mul a.hi b.hi true).fst).no))]) else Q (.agg [.v (.int IntKind.i64 ((of (mul a.lo b.hi false).fst (mul a.hi b.lo true).fst).lo)), .v (.int IntKind.i64 ((of (mul a.lo b.hi false).fst (mul a.hi b.lo true).fst).hi)), .v (.bool ((of (mul a.lo b.hi false).fst (mul a.hi b.lo true).fst).no))])))))))) else (bif decide ((mul a.lo b.hi true).fst > (mul a.hi b.lo true).fst) then (((2 : Int) ≠ (0 : Int)) ∧ (((2 : Int) ≠ (0 : Int)) ∧ (bif !(mul a.hi b.hi false).snd then Q (.agg [.v (.int IntKind.i64 ((0 : Int))), .v (.int IntKind.i64 ((0 : Int))), .v (.bool (true))]) else (bif !(mul a.hi b.hi true).snd then Q (.agg [.v (.int IntKind.i64 ((0 : Int))), .v (.int IntKind.i64 ((0 : Int))), .v (.bool (true))]) else (bif decide ((mul a.hi b.hi false).fst < (mul a.hi b.lo false).fst) then (bif decide ((mul a.hi b.hi true).fst > (mul a.lo b.hi true).fst) then Q (.agg [.v (.int IntKind.i64 ((of (mul a.hi b.hi false).fst (mul a.hi b.hi true).fst).lo)), .v (.int IntKind.i64 ((of (mul a.hi b.hi false).fst (mul a.hi b.hi true).fst).hi)), .v (.bool ((of (mul a.hi b.hi false).fst (mul a.hi b.hi true).fst).no))]) else Q (.agg [.v (.int IntKind.i64 ((of (mul a.hi b.hi false).fst (mul a.lo b.hi true).fst).lo)), .v (.int IntKind.i64 ((of (mul a.hi b.hi false).fst (mul a.lo b.hi true).fst).hi)), .v (.bool ((of (mul a.hi b.hi false).fst (mul a.lo b.hi true).fst).no))])) else (bif decide ((mul a.hi b.hi true).fst > (mul a.lo b.hi true).fst) then Q (.agg [.v (.int IntKind.i64 ((of (mul a.hi b.lo false).fst (mul a.hi b.hi true).fst).lo)), .v (.int IntKind.i64 ((of (mul a.hi b.lo false).fst (mul a.hi b.hi true).fst).hi)), .v (.bool ((of (mul a.hi b.lo false).fst (mul a.hi b.hi true).fst).no))]) else Q (.agg [.v (.int IntKind.i64 ((of (mul a.hi b.lo false).fst (mul a.lo b.hi true).fst).lo)), .v (.int IntKind.i64 ((of (mul a.hi b.lo false).fst (mul a.lo b.hi true).fst).hi)), .v (.bool ((of (mul a.hi b.lo false).fst (mul a.lo b.hi true).fst).no))]))))))) else (((2 : Int) ≠ (0 : Int)) ∧ (((2 : Int) ≠ (0 : Int)) ∧ (bif !(mul a.hi b.hi false).snd then Q (.agg [.v (.int IntKind.i64 ((0 : Int))), .v (.int IntKind.i64 ((0 : Int))), .v (.bool (true))]) else (bif !(mul a.hi b.hi true).snd then Q (.agg [.v (.int IntKind.i64 ((0 : Int))), .v (.int IntKind.i64 ((0 : Int))), .v (.bool (true))]) else (bif decide ((mul a.hi b.hi false).fst < (mul a.hi b.lo false).fst) then (bif decide ((mul a.hi b.hi true).fst > (mul a.hi b.lo true).fst) then Q (.agg [.v (.int IntKind.i64 ((of (mul a.hi b.hi false).fst (mul a.hi b.hi true).fst).lo)), .v (.int IntKind.i64 ((of (mul a.hi b.hi false).fst (mul a.hi b.hi true).fst).hi)), .v (.bool ((of (mul a.hi b.hi false).fst (mul a.hi b.hi true).fst).no))]) else Q (.agg [.v (.int IntKind.i64 ((of (mul a.hi b.hi false).fst (mul a.hi b.lo true).fst).lo)), .v (.int IntKind.i64 ((of (mul a.hi b.hi false).fst (mul a.hi b.lo true).fst).hi)), .v (.bool ((of (mul a.hi b.hi false).fst (mul a.hi b.lo true).fst).no))])) else (bif decide ((mul a.hi b.hi true).fst > (mul a.hi b.lo true).fst) then Q (.agg [.v (.int IntKind.i64 ((of (mul a.hi b.lo false).fst (mul a.hi b.hi true).fst).lo)), .v (.int IntKind.i64 ((of (mul a.hi b.lo false).fst (mul a.hi b.hi true).fst).hi)), .v (.bool ((of (mul a.hi b.lo false).fst (mul a.hi b.hi true).fst).no))]) else Q (.agg [.v (.int IntKind.i64 ((of (mul a.hi b.lo false).fst (mul a.hi b.lo true).fst).lo)), .v (.int IntKind.i64 ((of (mul a.hi b.lo false).fst (mul a.hi b.lo true).fst).hi)), .v (.bool ((of (mul a.hi b.lo false).fst (mul a.hi b.lo true).fst).no))]))))))))))))) else (((2 : Int) ≠ (0 : Int)) ∧ (((2 : Int) ≠ (0 : Int)) ∧ (bif !(mul a.lo b.hi false).snd then Q (.agg [.v (.int IntKind.i64 ((0 : Int))), .v (.int IntKind.i64 ((0 : Int))), .v (.bool (true))]) else (bif !(mul a.lo b.hi true).snd then Q (.agg [.v (.int IntKind.i64 ((0 : Int))), .v (.int IntKind.i64 ((0 : Int))), .v (.bool (true))]) else (bif decide ((mul a.lo b.hi false).fst < (mul a.hi b.lo false).fst) then (bif decide ((mul a.lo b.hi true).fst > (mul a.lo b.lo true).fst) then (((2 : Int) ≠ (0 : Int)) ∧ (((2 : Int) ≠ (0 : Int)) ∧ (bif !(mul a.hi b.hi false).snd then Q (.agg [.v (.int IntKind.i64 ((0 : Int))), .v (.int IntKind.i64 ((0 : Int))), .v (.bool (true))]) else (bif !(mul a.hi b.hi true).snd then Q (.agg [.v (.int IntKind.i64 ((0 : Int))), .v (.int IntKind.i64 ((0 : Int))), .v (.bool (true))]) else (bif decide ((mul a.hi b.hi false).fst < (mul a.lo b.hi false).fst) then (bif decide ((mul a.hi b.hi true).fst > (mul a.lo b.hi true).fst) then Q (.agg [.v (.int IntKind.i64 ((of (mul a.hi b.hi false).fst (mul a.hi b.hi true).fst).lo)), .v (.int IntKind.i64 ((of (mul a.hi b.hi false).fst (mul a.hi b.hi true).fst).hi)), .v (.bool ((of (mul a.hi b.hi false).fst (mul a.hi b.hi true).fst).no))]) else Q (.agg [.v (.int IntKind.i64 ((of (mul a.hi b.hi false).fst (mul a.lo b.hi true).fst).lo)), .v (.int IntKind.i64 ((of (mul a.hi b.hi false).fst (mul a.lo b.hi true).fst).hi)), .v (.bool ((of (mul a.hi b.hi false).fst (mul a.lo b.hi true).fst).no))])) else (bif decide ((mul a.hi b.hi true).fst > (mul a.lo b.hi true).fst) then Q (.agg [.v (.int IntKind.i64 ((of (mul a.lo b.hi false).fst (mul a.hi b.hi true).fst).lo)), .v (.int IntKind.i64 ((of (mul a.lo b.hi false).fst (mul a.hi b.hi true).fst).hi)), .v (.bool ((of (mul a.lo b.hi false).fst (mul a.hi b.hi true).fst).no))]) else Q (.agg [.v (.int IntKind.i64 ((of (mul a.lo b.hi false).fst (mul a.lo b.hi true).fst).lo)), .v (.int IntKind.i64 ((of (mul a.lo b.hi false).fst (mul a.lo b.hi true).fst).hi)), .v (.bool ((of (mul a.lo b.hi false).fst (mul a.lo b.hi true).fst).no))]))))))) else (((2 : Int) ≠ (0 : Int)) ∧ (((2 : Int) ≠ (0 : Int)) ∧ (bif !(mul a.hi b.hi false).snd then Q (.agg [.v (.int IntKind.i64 ((0 : Int))), .v (.int IntKind.i64 ((0 : Int))), .v (.bool (true))]) else (bif !(mul a.hi b.hi true).snd then Q (.agg [.v (.int IntKind.i64 ((0 : Int))), .v (.int IntKind.i64 ((0 : Int))), .v (.bool (true))]) else (bif decide ((mul a.hi b.hi false).fst < (mul a.lo b.hi false).fst) then (bif decide ((mul a.hi b.hi true).fst > (mul a.lo b.lo true).fst) then Q (.agg [.v (.int IntKind.i64 ((of (mul a.hi b.hi false).fst (mul a.hi b.hi true).fst).lo)), .v (.int IntKind.i64 ((of (mul a.hi b.hi false).fst (mul a.hi b.hi true).fst).hi)), .v (.bool ((of (mul a.hi b.hi false).fst (mul a.hi b.hi true).fst).no))]) else Q (.agg [.v (.int IntKind.i64 ((of (mul a.hi b.hi false).fst (mul a.lo b.lo true).fst).lo)), .v (.int IntKind.i64 ((of (mul a.hi b.hi false).fst (mul a.lo b.lo true).fst).hi)), .v (.bool ((of (mul a.hi b.hi false).fst (mul a.lo b.lo true).fst).no))])) else (bif decide ((mul a.hi b.hi true).fst > (mul a.lo b.lo true).fst) then Q (.agg [.v (.int IntKind.i64 ((of (mul a.lo b.hi false).fst (mul a.hi b.hi true).fst).lo)), .v (.int IntKind.i64 ((of (mul a.lo b.hi false).fst (mul a.hi b.hi true).fst).hi)), .v (.bool ((of (mul a.lo b.hi false).fst (mul a.hi b.hi true).fst).no))]) else Q (.agg [.v (.int IntKind.i64 ((of (mul a.lo b.hi false).fst (mul a.lo b.lo true).fst).lo)), .v (.int IntKind.i64 ((of (mul a.lo b.hi false).fst (mul a.lo b.lo true).fst).hi)), .v (.bool ((of (mul a.lo b.hi false).fst (mul a.lo b.lo true).fst).no))])))))))) else (bif decide ((mul a.lo b.hi true).fst > (mul a.lo b.lo true).fst) then (((2 : Int) ≠ (0 : Int)) ∧ (((2 : Int) ≠ (0 : Int)) ∧ (bif !(mul a.hi b.hi false).snd then Q (.agg [.v (.int IntKind.i64 ((0 : Int))), .v (.int IntKind.i64 ((0 : Int))), .v (.bool (true))]) else (bif !(mul a.hi b.hi true).snd then Q (.agg [.v (.int IntKind.i64 ((0 : Int))), .v (.int IntKind.i64 ((0 : Int))), .v (.bool (true))]) else (bif decide ((mul a.hi b.hi false).fst < (mul a.hi b.lo false).fst) then (bif decide ((mul a.hi b.hi true).fst > (mul a.lo b.hi true).fst) then Q (.agg [.v (.int IntKind.i64 ((of (mul a.hi b.hi false).fst (mul a.hi b.hi true).fst).lo)), .v (.int IntKind.i64 ((of (mul a.hi b.hi false).fst (mul a.hi b.hi true).fst).hi)), .v (.bool ((of (mul a.hi b.hi false).fst (mul a.hi b.hi true).fst).no))]) else Q (.agg [.v (.int IntKind.i64 ((of (mul a.hi b.hi false).fst (mul a.lo b.hi true).fst).lo)), .v (.int IntKind.i64 ((of (mul a.hi b.hi false).fst (mul a.lo b.hi true).fst).hi)), .v (.bool ((of (mul a.hi b.hi false).fst (mul a.lo b.hi true).fst).no))])) else (bif decide ((mul a.hi b.hi true).fst > (mul a.lo b.hi true).fst) then Q (.agg [.v (.int IntKind.i64 ((of (mul a.hi b.lo false).fst (mul a.hi b.hi true).fst).lo)), .v (.int IntKind.i64 ((of (mul a.hi b.lo false).fst (mul a.hi b.hi true).fst).hi)), .v (.bool ((of (mul a.hi b.lo false).fst (mul a.hi b.hi true).fst).no))]) else Q (.agg [.v (.int IntKind.i64 ((of (mul a.hi b.lo false).fst (mul a.lo b.hi true).fst).lo)), .v (.int IntKind.i64 ((of (mul a.hi b.lo false).fst (mul a.lo b.hi true).fst).hi)), .v (.bool ((of (mul a.hi b.lo false).fst (mul a.lo b.hi true).fst).no))]))))))) else (((2 : Int) ≠ (0 : Int)) ∧ (((2 : Int) ≠ (0 : Int)) ∧ (bif !(mul a.hi b.hi false).snd then Q (.agg [.v (.int IntKind.i64 ((0 : Int))), .v (.int IntKind.i64 ((0 : Int))), .v (.bool (true))]) else (bif !(mul a.hi b.hi true).snd then Q (.agg [.v (.int IntKind.i64 ((0 : Int))), .v (.int IntKind.i64 ((0 : Int))), .v (.bool (true))]) else (bif decide ((mul a.hi b.hi false).fst < (mul a.hi b.lo false).fst) then (bif decide ((mul a.hi b.hi true).fst > (mul a.lo b.lo true).fst) then Q (.agg [.v (.int IntKind.i64 ((of (mul a.hi b.hi false).fst (mul a.hi b.hi true).fst).lo)), .v (.int IntKind.i64 ((of (mul a.hi b.hi false).fst (mul a.hi b.hi true).fst).hi)), .v (.bool ((of (mul a.hi b.hi false).fst (mul a.hi b.hi true).fst).no))]) else Q (.agg [.v (.int IntKind.i64 ((of (mul a.hi b.hi false).fst (mul a.lo b.lo true).fst).lo)), .v (.int IntKind.i64 ((of (mul a.hi b.hi false).fst (mul a.lo b.lo true).fst).hi)), .v (.bool ((of (mul a.hi b.hi false).fst (mul a.lo b.lo true).fst).no))])) else (bif decide ((mul a.hi b.hi true).fst > (mul a.lo b.lo true).fst) then Q (.agg [.v (.int IntKind.i64 ((of (mul a.hi b.lo false).fst (mul a.hi b.hi true).fst).lo)), .v (.int IntKind.i64 ((of (mul a.hi b.lo false).fst (mul a.hi b.hi true).fst).hi)), .v (.bool ((of (mul a.hi b.lo false).fst (mul a.hi b.hi true).fst).no))]) else Q (.agg [.v (.int IntKind.i64 ((of (mul a.hi b.lo false).fst (mul a.lo b.lo true).fst).lo)), .v (.int IntKind.i64 ((of (mul a.hi b.lo false).fst (mul a.lo b.lo true).fst).hi)), .v (.bool ((of (mul a.hi b.lo false).fst (mul a.lo b.lo true).fst).no))])))))))))))))) else (bif decide ((mul a.hi b.lo true).fst > (mul a.lo b.lo true).fst) then (((2 : Int) ≠ (0 : Int)) ∧ (((2 : Int) ≠ (0 : Int)) ∧ (bif !(mul a.lo b.hi false).snd then Q (.agg [.v (.int IntKind.i64 ((0 : Int))), .v (.int IntKind.i64 ((0 : Int))), .v (.bool (true))]) else (bif !(mul a.lo b.hi true).snd then Q (.agg [.v (.int IntKind.i64 ((0 : Int))), .v (.int IntKind.i64 ((0 : Int))), .v (.bool (true))]) else (bif decide ((mul a.lo b.hi false).fst < (mul a.lo b.lo false).fst) then (bif decide ((mul a.lo b.hi true).fst > (mul a.hi b.lo true).fst) then (((2 : Int) ≠ (0 : Int)) ∧ (((2 : Int) ≠ (0 : Int)) ∧ (bif !(mul a.hi b.hi false).snd then Q (.agg [.v (.int IntKind.i64 ((0 : Int))), .v (.int IntKind.i64 ((0 : Int))), .v (.bool (true))]) else (bif !(mul a.hi b.hi true).snd then Q (.agg [.v (.int IntKind.i64 ((0 : Int))), .v (.int IntKind.i64 ((0 : Int))), .v (.bool (true))]) else (bif decide ((mul a.hi b.hi false).fst < (mul a.lo b.hi false).fst) then (bif decide ((mul a.hi b.hi true).fst > (mul a.lo b.hi true).fst) then Q (.agg [.v (.int IntKind.i64 ((of (mul a.hi b.hi false).fst (mul a.hi b.hi true).fst).lo)), .v (.int IntKind.i64 ((of (mul a.hi b.hi false).fst (mul a.hi b.hi true).fst).hi)), .v (.bool ((of (mul a.hi b.hi false).fst (mul a.hi b.hi true).fst).no))]) else Q (.agg [.v (.int IntKind.i64 ((of (mul a.hi b.hi false).fst (mul a.lo b.hi true).fst).lo)), .v (.int IntKind.i64 ((of (mul a.hi b.hi false).fst (mul a.lo b.hi true).fst).hi)), .v (.bool ((of (mul a.hi b.hi false).fst (mul a.lo b.hi true).fst).no))])) else (bif decide ((mul a.hi b.hi true).fst > (mul a.lo b.hi true).fst) then Q (.agg [.v (.int IntKind.i64 ((of (mul a.lo b.hi false).fst (mul a.hi b.hi true).fst).lo)), .v (.int IntKind.i64 ((of (mul a.lo b.hi false).fst (mul a.hi b.hi true).fst).hi)), .v (.bool ((of (mul a.lo b.hi false).fst (mul a.hi b.hi true).fst).no))]) else Q (.agg [.v (.int IntKind.i64 ((of (mul a.lo b.hi false).fst (mul a.lo b.hi true).fst).lo)), .v (.int IntKind.i64 ((of (mul a.lo b.hi false).fst (mul a.lo b.hi true).fst).hi)), .v (.bool ((of (mul a.lo b.hi false).fst (mul a.lo b.hi true).fst).no))]))))))) else (((2 : Int) ≠ (0 : Int)) ∧ (((2 : Int) ≠ (0 : Int)) ∧ (bif !(mul a.hi b.hi false).snd then Q (.agg [.v (.int IntKind.i64 ((0 : Int))), .v (.int IntKind.i64 ((0 : Int))), .v (.bool (true))]) else (bif !(mul a.hi b.hi true).snd then Q (.agg [.v (.int IntKind.i64 ((0 : Int))), .v (.int IntKind.i64 ((0 : Int))), .v (.bool (true))]) else (bif decide ((mul a.hi b.hi false).fst < (mul a.lo b.hi false).fst) then (bif decide ((mul a.hi b.hi true).fst > (mul a.hi b.lo true).fst) then Q (.agg [.v (.int IntKind.i64 ((of (mul a.hi b.hi false).fst (mul a.hi b.hi true).fst).lo)), .v (.int IntKind.i64 ((of (mul a.hi b.hi false).fst (mul a.hi b.hi true).fst).hi)), .v (.bool ((of (mul a.hi b.hi false).fst (mul a.hi b.hi true).fst).no))]) else Q (.agg [.v (.int IntKind.i64 ((of (mul a.hi b.hi false).fst (mul a.hi b.lo true).fst).lo)), .v (.int IntKind.i64 ((of (mul a.hi b.hi false).fst (mul a.hi b.lo true).fst).hi)), .v (.bool ((of (mul a.hi b.hi false).fst (mul a.hi b.lo true).fst).no))])) else (bif decide ((mul a.hi b.hi true).fst > (mul a.hi b.lo true).fst) then Q (.agg [.v (.int IntKind.i64 ((of (mul a.lo b.hi false).fst (mul a.hi b.hi true).fst).lo)), .v (.int IntKind.i64 ((of (mul a.lo b.hi false).fst (mul a.hi b.hi true).fst).hi)), .v (.bool ((of (mul a.lo b.hi false).fst (mul a.hi b.hi true).fst).no))]) else Q (.agg [.v (.int IntKind.i64 ((of (mul a.lo b.hi false).fst (mul a.hi b.lo true).fst).lo)), .v (.int IntKind.i64 ((of (mul a.lo b.hi false).fst (mul a.hi b.lo true).fst).hi)), .v (.bool ((of (mul a.lo b.hi false).fst (mul a.hi b.lo true).fst).no))])))))))) else (bif decide ((mul a.lo b.hi true).fst > (mul a.hi b.lo true).fst) then (((2 : Int) ≠ (0 : Int)) ∧ (((2 : Int) ≠ (0 : Int)) ∧ (bif !(mul a.hi b.hi false).snd then Q (.agg [.v (.int IntKind.i64 ((0 : Int))), .v (.int IntKind.i64 ((0 : Int))), .v (.bool (true))]) else (bif !(mul a.hi b.hi true).snd then Q (.agg [.v (.int IntKind.i64 ((0 : Int))), .v (.int IntKind.i64 ((0 : Int))), .v (.bool (true))]) else (bif decide ((mul a.hi b.hi false).fst < (mul a.lo b.lo false).fst) then (bif decide ((mul a.hi b.hi true).fst > (mul a.lo b.hi true).fst) then Q (.agg [.v (.int IntKind.i64 ((of (mul a.hi b.hi false).fst (mul a.hi b.hi true).fst).lo)), .v (.int IntKind.i64 ((of (mul a.hi b.hi false).fst (mul a.hi b.hi true).fst).hi)), .v (.bool ((of (mul a.hi b.hi false).fst (mul a.hi b.hi true).fst).no))]) else Q (.agg [.v (.int IntKind.i64 ((of (mul a.hi b.hi false).fst (mul a.lo b.hi true).fst).lo)), .v (.int IntKind.i64 ((of (mul a.hi b.hi false).fst (mul a.lo b.hi true).fst).hi)), .v (.bool ((of (mul a.hi b.hi false).fst (mul a.lo b.hi true).fst).no))])) else (bif decide ((mul a.hi b.hi true).fst > (mul a.lo b.hi true).fst) then Q (.agg [.v (.int IntKind.i64 ((of (mul a.lo b.lo false).fst (mul a.hi b.hi true).fst).lo)), .v (.int IntKind.i64 ((of (mul a.lo b.lo false).fst (mul a.hi b.hi true).fst).hi)), .v (.bool ((of (mul a.lo b.lo false).fst (mul a.hi b.hi true).fst).no))]) else Q (.agg [.v (.int IntKind.i64 ((of (mul a.lo b.lo false).fst (mul a.lo b.hi true).fst).lo)), .v (.int IntKind.i64 ((of (mul a.lo b.lo false).fst (mul a.lo b.hi true).fst).hi)), .v (.bool ((of (mul a.lo b.lo false).fst (mul a.lo b.hi true).fst).no))]))))))) else (((2 : Int) ≠ (0 : Int)) ∧ (((2 : Int) ≠ (0 : Int)) ∧ (bif !(mul a.hi b.hi false).snd then Q (.agg [.v (.int IntKind.i64 ((0 : Int))), .v (.int IntKind.i64 ((0 : Int))), .v (.bool (true))]) else (bif !(mul a.hi b.hi true).snd then Q (.agg [.v (.int IntKind.i64 ((0 : Int))), .v (.int IntKind.i64 ((0 : Int))), .v (.bool (true))]) else (bif decide ((mul a.hi b.hi false).fst < (mul a.lo b.lo false).fst) then (bif decide ((mul a.hi b.hi true).fst > (mul a.hi b.lo true).fst) then Q (.agg [.v (.int IntKind.i64 ((of (mul a.hi b.hi false).fst (mul a.hi b.hi true).fst).lo)), .v (.int IntKind.i64 ((of (mul a.hi b.hi false).fst (mul a.hi b.hi true).fst).hi)), .v (.bool ((of (mul a.hi b.hi false).fst (mul a.hi b.hi true).fst).no))]) else Q (.agg [.v (.int IntKind.i64 ((of (mul a.hi b.hi false).fst (mul a.hi b.lo true).fst).lo)), .v (.int IntKind.i64 ((of (mul a.hi b.hi false).fst (mul a.hi b.lo true).fst).hi)), .v (.bool ((of (mul a.hi b.hi false).fst (mul a.hi b.lo true).fst).no))])) else (bif decide ((mul a.hi b.hi true).fst > (mul a.hi b.lo true).fst) then Q (.agg [.v (.int IntKind.i64 ((of (mul a.lo b.lo false).fst (mul a.hi b.hi true).fst).lo)), .v (.int IntKind.i64 ((of (mul a.lo b.lo false).fst (mul a.hi b.hi true).fst).hi)), .v (.bool ((of (mul a.lo b.lo false).fst (mul a.hi b.hi true).fst).no))]) else Q (.agg [.v (.int IntKind.i64 ((of (mul a.lo b.lo false).fst (mul a.hi b.lo true).fst).lo)), .v (.int IntKind.i64 ((of (mul a.lo b.lo false).fst (mul a.hi b.lo true).fst).hi)), .v (.bool ((of (mul a.lo b.lo false).fst (mul a.hi b.lo true).fst).no))]))))))))))))) else (((2 : Int) ≠ (0 : Int)) ∧ (((2 : Int) ≠ (0 : Int)) ∧ (bif !(mul a.lo b.hi false).snd then Q (.agg [.v (.int IntKind.i64 ((0 : Int))), .v (.int IntKind.i64 ((0 : Int))), .v (.bool (true))]) else (bif !(mul a.lo b.hi true).snd then Q (.agg [.v (.int IntKind.i64 ((0 : Int))), .v (.int IntKind.i64 ((0 : Int))), .v (.bool (true))]) else (bif decide ((mul a.lo b.hi false).fst < (mul a.lo b.lo false).fst) then (bif decide ((mul a.lo b.hi true).fst > (mul a.lo b.lo true).fst) then (((2 : Int) ≠ (0 : Int)) ∧ (((2 : Int) ≠ (0 : Int)) ∧ (bif !(mul a.hi b.hi false).snd then Q (.agg [.v (.int IntKind.i64 ((0 : Int))), .v (.int IntKind.i64 ((0 : Int))), .v (.bool (true))]) else (bif !(mul a.hi b.hi true).snd then Q (.agg [.v (.int IntKind.i64 ((0 : Int))), .v (.int IntKind.i64 ((0 : Int))), .v (.bool (true))]) else (bif decide ((mul a.hi b.hi false).fst < (mul a.lo b.hi false).fst) then (bif decide ((mul a.hi b.hi true).fst > (mul a.lo b.hi true).fst) then Q (.agg [.v (.int IntKind.i64 ((of (mul a.hi b.hi false).fst (mul a.hi b.hi true).fst).lo)), .v (.int IntKind.i64 ((of (mul a.hi b.hi false).fst (mul a.hi b.hi true).fst).hi)), .v (.bool ((of (mul a.hi b.hi false).fst (mul a.hi b.hi true).fst).no))]) else Q (.agg [.v (.int IntKind.i64 ((of (mul a.hi b.hi false).fst (mul a.lo b.hi true).fst).lo)), .v (.int IntKind.i64 ((of (mul a.hi b.hi false).fst (mul a.lo b.hi true).fst).hi)), .v (.bool ((of (mul a.hi b.hi false).fst (mul a.lo b.hi true).fst).no))])) else (bif decide ((mul a.hi b.hi true).fst > (mul a.lo b.hi true).fst) then Q (.agg [.v (.int IntKind.i64 ((of (mul a.lo b.hi false).fst (mul a.hi b.hi true).fst).lo)), .v (.int IntKind.i64 ((of (mul a.lo b.hi false).fst (mul a.hi b.hi true).fst).hi)), .v (.bool ((of (mul a.lo b.hi false).fst (mul a.hi b.hi true).fst).no))]) else Q (.agg [.v (.int IntKind.i64 ((of (mul a.lo b.hi false).fst (mul a.lo b.hi true).fst).lo)), .v (.int IntKind.i64 ((of (mul a.lo b.hi false).fst (mul a.lo b.hi true).fst).hi)), .v (.bool ((of (mul a.lo b.hi false).fst (mul a.lo b.hi true).fst).no))]))))))) else (((2 : Int) ≠ (0 : Int)) ∧ (((2 : Int) ≠ (0 : Int)) ∧ (bif !(mul a.hi b.hi false).snd then Q (.agg [.v (.int IntKind.i64 ((0 : Int))), .v (.int IntKind.i64 ((0 : Int))), .v (.bool (true))]) else (bif !(mul a.hi b.hi true).snd then Q (.agg [.v (.int IntKind.i64 ((0 : Int))), .v (.int IntKind.i64 ((0 : Int))), .v (.bool (true))]) else (bif decide ((mul a.hi b.hi false).fst < (mul a.lo b.hi false).fst) then (bif decide ((mul a.hi b.hi true).fst > (mul a.lo b.lo true).fst) then Q (.agg [.v (.int IntKind.i64 ((of (mul a.hi b.hi false).fst (mul a.hi b.hi true).fst).lo)), .v (.int IntKind.i64 ((of (mul a.hi b.hi false).fst (mul a.hi b.hi true).fst).hi)), .v (.bool ((of (mul a.hi b.hi false).fst (mul a.hi b.hi true).fst).no))]) else Q (.agg [.v (.int IntKind.i64 ((of (mul a.hi b.hi false).fst (mul a.lo b.lo true).fst).lo)), .v (.int IntKind.i64 ((of (mul a.hi b.hi false).fst (mul a.lo b.lo true).fst).hi)), .v (.bool ((of (mul a.hi b.hi false).fst (mul a.lo b.lo true).fst).no))])) else (bif decide ((mul a.hi b.hi true).fst > (mul a.lo b.lo true).fst) then Q (.agg [.v (.int IntKind.i64 ((of (mul a.lo b.hi false).fst (mul a.hi b.hi true).fst).lo)), .v (.int IntKind.i64 ((of (mul a.lo b.hi false).fst (mul a.hi b.hi true).fst).hi)), .v (.bool ((of (mul a.lo b.hi false).fst (mul a.hi b.hi true).fst).no))]) else Q (.agg [.v (.int IntKind.i64 ((of (mul a.lo b.hi false).fst (mul a.lo b.lo true).fst).lo)), .v (.int IntKind.i64 ((of (mul a.lo b.hi false).fst (mul a.lo b.lo true).fst).hi)), .v (.bool ((of (mul a.lo b.hi false).fst (mul a.lo b.lo true).fst).no))])))))))) else (bif decide ((mul a.lo b.hi true).fst > (mul a.lo b.lo true).fst) then (((2 : Int) ≠ (0 : Int)) ∧ (((2 : Int) ≠ (0 : Int)) ∧ (bif !(mul a.hi b.hi false).snd then Q (.agg [.v (.int IntKind.i64 ((0 : Int))), .v (.int IntKind.i64 ((0 : Int))), .v (.bool (true))]) else (bif !(mul a.hi b.hi true).snd then Q (.agg [.v (.int IntKind.i64 ((0 : Int))), .v (.int IntKind.i64 ((0 : Int))), .v (.bool (true))]) else (bif decide ((mul a.hi b.hi false).fst < (mul a.lo b.lo false).fst) then (bif decide ((mul a.hi b.hi true).fst > (mul a.lo b.hi true).fst) then Q (.agg [.v (.int IntKind.i64 ((of (mul a.hi b.hi false).fst (mul a.hi b.hi true).fst).lo)), .v (.int IntKind.i64 ((of (mul a.hi b.hi false).fst (mul a.hi b.hi true).fst).hi)), .v (.bool ((of (mul a.hi b.hi false).fst (mul a.hi b.hi true).fst).no))]) else Q (.agg [.v (.int IntKind.i64 ((of (mul a.hi b.hi false).fst (mul a.lo b.hi true).fst).lo)), .v (.int IntKind.i64 ((of (mul a.hi b.hi false).fst (mul a.lo b.hi true).fst).hi)), .v (.bool ((of (mul a.hi b.hi false).fst (mul a.lo b.hi true).fst).no))])) else (bif decide ((mul a.hi b.hi true).fst > (mul a.lo b.hi true).fst) then Q (.agg [.v (.int IntKind.i64 ((of (mul a.lo b.lo false).fst (mul a.hi b.hi true).fst).lo)), .v (.int IntKind.i64 ((of (mul a.lo b.lo false).fst (mul a.hi b.hi true).fst).hi)), .v (.bool ((of (mul a.lo b.lo false).fst (mul a.hi b.hi true).fst).no))]) else Q (.agg [.v (.int IntKind.i64 ((of (mul a.lo b.lo false).fst (mul a.lo b.hi true).fst).lo)), .v (.int IntKind.i64 ((of (mul a.lo b.lo false).fst (mul a.lo b.hi true).fst).hi)), .v (.bool ((of (mul a.lo b.lo false).fst (mul a.lo b.hi true).fst).no))]))))))) else (((2 : Int) ≠ (0 : Int)) ∧ (((2 : Int) ≠ (0 : Int)) ∧ (bif !(mul a.hi b.hi false).snd then Q (.agg [.v (.int IntKind.i64 ((0 : Int))), .v (.int IntKind.i64 ((0 : Int))), .v (.bool (true))]) else (bif !(mul a.hi b.hi true).snd then Q (.agg [.v (.int IntKind.i64 ((0 : Int))), .v (.int IntKind.i64 ((0 : Int))), .v (.bool (true))]) else (bif decide ((mul a.hi b.hi false).fst < (mul a.lo b.lo false).fst) then (bif decide ((mul a.hi b.hi true).fst > (mul a.lo b.lo true).fst) then Q (.agg [.v (.int IntKind.i64 ((of (mul a.hi b.hi false).fst (mul a.hi b.hi true).fst).lo)), .v (.int IntKind.i64 ((of (mul a.hi b.hi false).fst (mul a.hi b.hi true).fst).hi)), .v (.bool ((of (mul a.hi b.hi false).fst (mul a.hi b.hi true).fst).no))]) else Q (.agg [.v (.int IntKind.i64 ((of (mul a.hi b.hi false).fst (mul a.lo b.lo true).fst).lo)), .v (.int IntKind.i64 ((of (mul a.hi b.hi false).fst (mul a.lo b.lo true).fst).hi)), .v (.bool ((of (mul a.hi b.hi false).fst (mul a.lo b.lo true).fst).no))])) else (bif decide ((mul a.hi b.hi true).fst > (mul a.lo b.lo true).fst) then Q (.agg [.v (.int IntKind.i64 ((of (mul a.lo b.lo false).fst (mul a.hi b.hi true).fst).lo)), .v (.int IntKind.i64 ((of (mul a.lo b.lo false).fst (mul a.hi b.hi true).fst).hi)), .v (.bool ((of (mul a.lo b.lo false).fst (mul a.hi b.hi true).fst).no))]) else Q (.agg [.v (.int IntKind.i64 ((of (mul a.lo b.lo false).fst (mul a.lo b.lo true).fst).lo)), .v (.int IntKind.i64 ((of (mul a.lo b.lo false).fst (mul a.lo b.lo true).fst).hi)), .v (.bool ((of (mul a.lo b.lo false).fst (mul a.lo b.lo true).fst).no))]))))))))))))))))))))))) := by kernel_rfl
theorem cs_REndsM : CSOk Try.prog (tabC [(62, e62), (82, e82), (25, e25), (56, e56)]) := tabC_cons eok62 <| tabC_cons eok82 <| tabC_cons eok25 <| tabC_cons eok56 <| tabC_nil
theorem con_REndsM (a : Iv) (b : Iv)  : Con Try.prog 63 [.agg (Iv.enc a), .agg (Iv.enc b), .v (.bool false)] (.agg (Iv.enc (ends mul a b))) := by
  refine con_fin evEnv_ok cs_REndsM noCP_ok noCI_ok owOk_no (n := 2000) (LS := []) (fn := Try.f63) rfl loopsOk_nil ?_
  rw [sx_REndsM]
  refine ⟨?r43, ⟨?r42, condI (fun h0 => ?_) (fun h0 => condI (fun h1 => ?_) (fun h1 => ⟨?r41, ⟨?r40, condI (fun h2 => ?_) (fun h2 => condI (fun h3 => ?_) (fun h3 => condI (fun h4 => condI (fun h5 => ⟨?r9, ⟨?r8, condI (fun h6 => ?_) (fun h6 => condI (fun h7 => ?_) (fun h7 => condI (fun h8 => condI (fun h9 => ⟨?r1, ⟨?r0, condI (fun h10 => ?_) (fun h10 => condI (fun h11 => ?_) (fun h11 => condI (fun h12 => condI (fun h13 => ?_) (fun h13 => ?_)) (fun h12 => condI (fun h13 => ?_) (fun h13 => ?_))))⟩⟩) (fun h9 => ⟨?r3, ⟨?r2, condI (fun h10 => ?_) (fun h10 => condI (fun h11 => ?_) (fun h11 => condI (fun h12 => condI (fun h13 => ?_) (fun h13 => ?_)) (fun h12 => condI (fun h13 => ?_) (fun h13 => ?_))))⟩⟩)) (fun h8 => condI (fun h9 => ⟨?r5, ⟨?r4, condI (fun h10 => ?_) (fun h10 => condI (fun h11 => ?_) (fun h11 => condI (fun h12 => condI (fun h13 => ?_) (fun h13 => ?_)) (fun h12 => condI (fun h13 => ?_) (fun h13 => ?_))))⟩⟩) (fun h9 => ⟨?r7, ⟨?r6, condI (fun h10 => ?_) (fun h10 => condI (fun h11 => ?_) (fun h11 => condI (fun h12 => condI (fun h13 => ?_) (fun h13 => ?_)) (fun h12 => condI (fun h13 => ?_) (fun h13 => ?_))))⟩⟩))))⟩⟩) (fun h5 => ⟨?r19, ⟨?r18, condI (fun h6 => ?_) (fun h6 => condI (fun h7 => ?_) (fun h7 => condI (fun h8 => condI (fun h9 => ⟨?r11, ⟨?r10, condI (fun h10 => ?_) (fun h10 => condI (fun h11 => ?_) (fun h11 => condI (fun h12 => condI (fun h13 => ?_) (fun h13 => ?_)) (fun h12 => condI (fun h13 => ?_) (fun h13 => ?_))))⟩⟩) (fun h9 => ⟨?r13, ⟨?r12, condI (fun h10 => ?_) (fun h10 => condI (fun h11 => ?_) (fun h11 => condI (fun h12 => condI (fun h13 => ?_) (fun h13 => ?_)) (fun h12 => condI (fun h13 => ?_) (fun h13 => ?_))))⟩⟩)) (fun h8 => condI (fun h9 => ⟨?r15, ⟨?r14, condI (fun h10 => ?_) (fun h10 => condI (fun h11 => ?_) (fun h11 => condI (fun h12 => condI (fun h13 => ?_) (fun h13 => ?_)) (fun h12 => condI (fun h13 => ?_) (fun h13 => ?_))))⟩⟩) (fun h9 => ⟨?r17, ⟨?r16, condI (fun h10 => ?_) (fun h10 => condI (fun h11 => ?_) (fun h11 => condI (fun h12 => condI (fun h13 => ?_) (fun h13 => ?_)) (fun h12 => condI (fun h13 => ?_) (fun h13 => ?_))))⟩⟩))))⟩⟩)) (fun h4 => condI (fun h5 => ⟨?r29, ⟨?r28, condI (fun h6 => ?_) (fun h6 => condI (fun h7 => ?_) (fun h7 => condI (fun h8 => condI (fun h9 => ⟨?r21, ⟨?r20, condI (fun h10 => ?_) (fun h10 => condI (fun h11 => ?_) (fun h11 => condI (fun h12 => condI (fun h13 => ?_) (fun h13 => ?_)) (fun h12 => condI (fun h13 => ?_) (fun h13 => ?_))))⟩⟩) (fun h9 => ⟨?r23, ⟨?r22, condI (fun h10 => ?_) (fun h10 => condI (fun h11 => ?_) (fun h11 => condI (fun h12 => condI (fun h13 => ?_) (fun h13 => ?_)) (fun h12 => condI (fun h13 => ?_) (fun h13 => ?_))))⟩⟩)) (fun h8 => condI (fun h9 => ⟨?r25, ⟨?r24, condI (fun h10 => ?_) (fun h10 => condI (fun h11 => ?_) (fun h11 => condI (fun h12 => condI (fun h13 => ?_) (fun h13 => ?_)) (fun h12 => condI (fun h13 => ?_) (fun h13 => ?_))))⟩⟩) (fun h9 => ⟨?r27, ⟨?r26, condI (fun h10 => ?_) (fun h10 => condI (fun h11 => ?_) (fun h11 => condI (fun h12 => condI (fun h13 => ?_) (fun h13 => ?_)) (fun h12 => condI (fun h13 => ?_) (fun h13 => ?_))))⟩⟩))))⟩⟩) (fun h5 => ⟨?r39, ⟨?r38, condI (fun h6 => ?_) (fun h6 => condI (fun h7 => ?_) (fun h7 => condI (fun h8 => condI (fun h9 => ⟨?r31, ⟨?r30, condI (fun h10 => ?_) (fun h10 => condI (fun h11 => ?_) (fun h11 => condI (fun h12 => condI (fun h13 => ?_) (fun h13 => ?_)) (fun h12 => condI (fun h13 => ?_) (fun h13 => ?_))))⟩⟩) (fun h9 => ⟨?r33, ⟨?r32, condI (fun h10 => ?_) (fun h10 => condI (fun h11 => ?_) (fun h11 => condI (fun h12 => condI (fun h13 => ?_) (fun h13 => ?_)) (fun h12 => condI (fun h13 => ?_) (fun h13 => ?_))))⟩⟩)) (fun h8 => condI (fun h9 => ⟨?r35, ⟨?r34, condI (fun h10 => ?_) (fun h10 => condI (fun h11 => ?_) (fun h11 => condI (fun h12 => condI (fun h13 => ?_) (fun h13 => ?_)) (fun h12 => condI (fun h13 => ?_) (fun h13 => ?_))))⟩⟩) (fun h9 => ⟨?r37, ⟨?r36, condI (fun h10 => ?_) (fun h10 => condI (fun h11 => ?_) (fun h11 => condI (fun h12 => condI (fun h13 => ?_) (fun h13 => ?_)) (fun h12 => condI (fun h13 => ?_) (fun h13 => ?_))))⟩⟩))))⟩⟩))))⟩⟩))⟩⟩
  case r0 | r1 | r2 | r3 | r4 | r5 | r6 | r7 | r8 | r9 | r10 | r11 | r12 | r13 | r14 | r15 | r16 | r17 | r18 | r19 | r20 | r21 | r22 | r23 | r24 | r25 | r26 | r27 | r28 | r29 | r30 | r31 | r32 | r33 | r34 | r35 | r36 | r37 | r38 | r39 | r40 | r41 | r42 | r43 => decide
  all_goals simp only [Bool.not_eq_true', Bool.not_eq_false', decide_eq_true_eq, decide_eq_false_iff_not] at *
  all_goals first | exact congrArg (fun e => PV.agg (Iv.enc e)) (ends_no (by simp [*])) | exact congrArg (fun e => PV.agg (Iv.enc e)) (ends_of h0 h1 h6 h7 h2 h3 h10 h11 (by omega) (by omega))
theorem eok_REndsM : EntOk Try.prog 63 e_REndsM := by
  intro args r ps h hp
  unfold e_REndsM at h
  split at h
  · rename_i p1 p2 p3 p4 p5 p6
    cases (Option.some.inj h)
    exact con_REndsM (⟨p1, p2, p3⟩ : Iv) (⟨p4, p5, p6⟩ : Iv) 
  · exact absurd h (by simp)
theorem sx_REndsD (a : Iv) (b : Iv) (Q : PV → Prop) : sxF evEnv (tabC [(62, e62), (82, e82), (25, e25), (56, e56)]) noCP noCI noG [] 2000 Try.f63 [.agg (Iv.enc a), .agg (Iv.enc b), .v (.bool true)] Q = (((2 : Int) ≠ (0 : Int)) ∧ (((2 : Int) ≠ (0 : Int)) ∧ (bif !(div a.lo b.lo false).snd then Q (.agg [.v (.int IntKind.i64 ((0 : Int))), .v (.int IntKind.i64 ((0 : Int))), .v (.bool (true))]) else (bif !(div a.lo b.lo true).snd then Q (.agg [.v (.int IntKind.i64 ((0 : Int))), .v (.int IntKind.i64 ((0 : Int))), .v (.bool (true))]) else (((2 : Int) ≠ (0 : Int)) ∧ (((2 : Int) ≠ (0 : Int)) ∧ (bif !(div a.hi b.lo false).snd then Q (.agg [.v (.int IntKind.i64 ((0 : Int))), .v (.int IntKind.i64 ((0 : Int))), .v (.bool (true))]) else (bif !(div a.hi b.lo true).snd then Q (.agg [.v (.int IntKind.i64 ((0 : Int))), .v (.int IntKind.i64 ((0 : Int))), .v (.bool (true))]) else (bif decide ((div a.hi b.lo false).fst < (div a.lo b.lo false).fst) then (bif decide ((div a.hi b.lo true).fst > (div a.lo b.lo true).fst) then (((2 : Int) ≠ (0 : Int)) ∧ (((2 : Int) ≠ (0 : Int)) ∧ (bif !(div a.lo b.hi false).snd then Q (.agg [.v (.int IntKind.i64 ((0 : Int))), .v (.int IntKind.i64 ((0 : Int))), .v (.bool (true))]) else (bif !(div a.lo b.hi true).snd then Q (.agg [.v (.int IntKind.i64 ((0 : Int))), .v (.int IntKind.i64 ((0 : Int))), .v (.bool (true))]) else (bif decide ((div a.lo b.hi false).fst < (div a.hi b.lo false).fst) then (bif decide ((div a.lo b.hi true).fst > (div a.hi b.lo true).fst) then (((2 : Int) ≠ (0 : Int)) ∧ (((2 : Int) ≠ (0 : Int)) ∧ (bif !(div a.hi b.hi false).snd then Q (.agg [.v (.int IntKind.i64 ((0 : Int))), .v (.int IntKind.i64 ((0 : Int))), .v (.bool (true))]) else (bif !(div a.hi b.hi true).snd then Q (.agg [.v (.int IntKind.i64 ((0 : Int))), .v (.int IntKind.i64 ((0 : Int))), .v (.bool (true))]) else (bif decide ((div a.hi b.hi false).fst < (div a.lo b.hi false).fst) then (bif decide ((div a.hi b.hi true).fst > (div a.lo b.hi true).fst) then Q (.agg [.v (.int IntKind.i64 ((of (div a.hi b.hi false).fst (div a.hi b.hi true).fst).lo)), .v (.int IntKind.i64 ((of (div a.hi b.hi false).fst (div a.hi b.hi true).fst).hi)), .v (.bool ((of (div a.hi b.hi false).fst (div a.hi b.hi true).fst).no))]) else Q (.agg [.v (.int IntKind.i64 ((of (div a.hi b.hi false).fst (div a.lo b.hi true).fst).lo)), .v (.int IntKind.i64 ((of (div a.hi b.hi false).fst (div a.lo b.hi true).fst).hi)), .v (.bool ((of (div a.hi b.hi false).fst (div a.lo b.hi true).fst).no))])) else (bif decide ((div a.hi b.hi true).fst > (div a.lo b.hi true).fst) then Q (.agg [.v (.int IntKind.i64 ((of (div a.lo b.hi false).fst (div a.hi b.hi true).fst).lo)), .v (.int IntKind.i64 ((of (div a.lo b.hi false).fst (div a.hi b.hi true).fst).hi)), .v (.bool ((of (div a.lo b.hi false).fst (div a.hi b.hi true).fst).no))]) else Q (.agg [.v (.int IntKind.i64 ((of (div a.lo b.hi false).fst (div a.lo b.hi true).fst).lo)), .v (.int IntKind.i64 ((of (div a.lo b.hi false).fst (div a.lo b.hi true).fst).hi)), .v (.bool ((of (div a.lo b.hi false).fst (div a.lo b.hi true).fst).no))]))))))) else (((2 : Int) ≠ (0 : Int)) ∧ (((2 : Int) ≠ (0 : Int)) ∧ (bif !(div a.hi b.hi false).snd then Q (.agg [.v (.int IntKind.i64 ((0 : Int))), .v (.int IntKind.i64 ((0 : Int))), .v (.bool (true))]) else (bif !(div a.hi b.hi true).snd then Q (.agg [.v (.int IntKind.i64 ((0 : Int))), .v (.int IntKind.i64 ((0 : Int))), .v (.bool (true))]) else (bif decide ((div a.hi b.hi false).fst < (div a.lo b.hi false).fst) then (bif decide ((div a.hi b.hi true).fst > (div a.hi b.lo true).fst) then Q (.agg [.v (.int IntKind.i64 ((of (div a.hi b.hi false).fst (div a.hi b.hi true).fst).lo)), .v (.int IntKind.i64 ((of (div a.hi b.hi false).fst (div a.hi b.hi true).fst).hi)), .v (.bool ((of (div a.hi b.hi false).fst (div a.hi b.hi true).fst).no))]) else Q (.agg [.v (.int IntKind.i64 ((of (div a.hi b.hi false).fst (div a.hi b.lo true).fst).lo)), .v (.int IntKind.i64 ((of (div a.hi b.hi false).fst (div a.hi b.lo true).fst).hi)), .v (.bool ((of (div a.hi b.hi false).fst (div a.hi b.lo true).fst).no))])) else (bif decide ((div a.hi b.hi true).fst > (div a.hi b.lo true).fst) then Q (.agg [.v (.int IntKind.i64 ((of (div a.lo b.hi false).fst (div a.hi b.hi true).fst).lo)), .v (.int IntKind.i64 ((of (div a.lo b.hi false).fst (div a.hi b.hi true).fst).hi)), .v (.bool ((of (div a.lo b.hi false).fst (div a.hi b.hi true).fst).no))]) else Q (.agg [.v (.int IntKind.i64 ((of (div a.lo b.hi false).fst (div a.hi b.lo true).fst).lo)), .v (.int IntKind.i64 ((of (div a.lo b.hi false).fst (div a.hi b.lo true).fst).hi)), .v (.bool ((of (div a.lo b.hi false).fst (div a.hi b.lo true).fst).no))])))))))) else (bif decide ((div a.lo b.hi true).fst > (div a.hi b.lo true).fst) then (((2 : Int) ≠ (0 : Int)) ∧ (((2 : Int) ≠ (0 : Int)) ∧ (bif !(div a.hi b.hi false).snd then Q (.agg [.v (.int IntKind.i64 ((0 : Int))), .v (.int IntKind.i64 ((0 : Int))), .v (.bool (true))]) else (bif !(div a.hi b.hi true).snd then Q (.agg [.v (.int IntKind.i64 ((0 : Int))), .v (.int IntKind.i64 ((0 : Int))), .v (.bool (true))]) else (bif decide ((div a.hi b.hi false).fst < (div a.hi b.lo false).fst) then (bif decide ((div a.hi b.hi true).fst > (div a.lo b.hi true).fst) then Q (.agg [.v (.int IntKind.i64 ((of (div a.hi b.hi false).fst (div a.hi b.hi true).fst).lo)), .v (.int IntKind.i64 ((of (div a.hi b.hi false).fst (div a.hi b.hi true).fst).hi)), .v (.bool ((of (div a.hi b.hi false).fst (div a.hi b.hi true).fst).no))]) else Q (.agg [.v (.int IntKind.i64 ((of (div a.hi b.hi false).fst (div a.lo b.hi true).fst).lo)), .v (.int IntKind.i64 ((of (div a.hi b.hi false).fst (div a.lo b.hi true).fst).hi)), .v (.bool ((of (div a.hi b.hi false).fst (div a.lo b.hi true).fst).no))])) else (bif decide ((div a.hi b.hi true).fst > (div a.lo b.hi true).fst) then Q (.agg [.v (.int IntKind.i64 ((of (div a.hi b.lo false).fst (div a.hi b.hi true).fst).lo)), .v (.int IntKind.i64 ((of (div a.hi b.lo false).fst (div a.hi b.hi true).fst).hi)), .v (.bool ((of (div a.hi b.lo false).fst (div a.hi b.hi true).fst).no))]) else Q (.agg [.v (.int IntKind.i64 ((of (div a.hi b.lo false).fst (div a.lo b.hi true).fst).lo)), .v (.int IntKind.i64 ((of (div a.hi b.lo false).fst (div a.lo b.hi true).fst).hi)), .v (.bool ((of (div a.hi b.lo false).fst (div a.lo b.hi true).fst).no))]))))))) else (((2 : Int) ≠ (0 : Int)) ∧ (((2 : Int) ≠ (0 : Int)) ∧ (bif !(div a.hi b.hi false).snd then Q (.agg [.v (.int IntKind.i64 ((0 : Int))), .v (.int IntKind.i64 ((0 : Int))), .v (.bool (true))]) else (bif !(div a.hi b.hi true).snd then Q (.agg [.v (.int IntKind.i64 ((0 : Int))), .v (.int IntKind.i64 ((0 : Int))), .v (.bool (true))]) else (bif decide ((div a.hi b.hi false).fst < (div a.hi b.lo false).fst) then (bif decide ((div a.hi b.hi true).fst > (div a.hi b.lo true).fst) then Q (.agg [.v (.int IntKind.i64 ((of (div a.hi b.hi false).fst (div a.hi b.hi true).fst).lo)), .v (.int IntKind.i64 ((of (div a.hi b.hi false).fst (div a.hi b.hi true).fst).hi)), .v (.bool ((of (div a.hi b.hi false).fst (div a.hi b.hi true).fst).no))]) else Q (.agg [.v (.int IntKind.i64 ((of (div a.hi b.hi false).fst (div a.hi b.lo true).fst).lo)), .v (.int IntKind.i64 ((of (div a.hi b.hi false).fst (div a.hi b.lo true).fst).hi)), .v (.bool ((of (div a.hi b.hi false).fst (div a.hi b.lo true).fst).no))])) else (bif decide ((div a.hi b.hi true).fst > (div a.hi b.lo true).fst) then Q (.agg [.v (.int IntKind.i64 ((of (div a.hi b.lo false).fst (div a.hi b.hi true).fst).lo)), .v (.int IntKind.i64 ((of (div a.hi b.lo false).fst (div a.hi b.hi true).fst).hi)), .v (.bool ((of (div a.hi b.lo false).fst (div a.hi b.hi true).fst).no))]) else Q (.agg [.v (.int IntKind.i64 ((of (div a.hi b.lo false).fst (div a.hi b.lo true).fst).lo)), .v (.int IntKind.i64 ((of (div a.hi b.lo false).fst (div a.hi b.lo true).fst).hi)), .v (.bool ((of (div a.hi b.lo false).fst (div a.hi b.lo true).fst).no))]))))))))))))) else (((2 : Int) ≠ (0 : Int)) ∧ (((2 : Int) ≠ (0 : Int)) ∧ (bif !(div a.lo b.hi false).snd then Q (.agg [.v (.int IntKind.i64 ((0 : Int))), .v (.int IntKind.i64 ((0 : Int))), .v (.bool (true))]) else (bif !(div a.lo b.hi true).snd then Q (.agg [.v (.int IntKind.i64 ((0 : Int))), .v (.int IntKind.i64 ((0 : Int))), .v (.bool (true))]) else (bif decide ((div a.lo b.hi false).fst < (div a.hi b.lo false).fst) then (bif decide ((div a.lo b.hi true).fst > (div a.lo b.lo true).fst) then (((2 : Int) ≠ (0 : Int)) ∧ (((2 : Int) ≠ (0 : Int)) ∧ (bif !(div a.hi b.hi false).snd then Q (.agg [.v (.int IntKind.i64 ((0 : Int))), .v (.int IntKind.i64 ((0 : Int))), .v (.bool (true))]) else (bif !(div a.hi b.hi true).snd then Q (.agg [.v (.int IntKind.i64 ((0 : Int))), .v (.int IntKind.i64 ((0 : Int))), .v (.bool (true))]) else (bif decide ((div a.hi b.hi false).fst < (div a.lo b.hi false).fst) then (bif decide ((div a.hi b.hi true).fst > (div a.lo b.hi true).fst) then Q (.agg [.v (.int IntKind.i64 ((of (div a.hi b.hi false).fst (div a.hi b.hi true).fst).lo)), .v (.int IntKind.i64 ((of (div a.hi b.hi false).fst (div a.hi b.hi true).fst).hi)), .v (.bool ((of (div a.hi b.hi false).fst (div a.hi b.hi true).fst).no))]) else Q (.agg [.v (.int IntKind.i64 ((of (div a.hi b.hi false).fst (div a.lo b.hi true).fst).lo)), .v (.int IntKind.i64 ((of (div a.hi b.hi false).fst (div a.lo b.hi true).fst).hi)), .v (.bool ((of (div a.hi b.hi false).fst (div a.lo b.hi true).fst).no))])) else (bif decide ((div a.hi b.hi true).fst > (div a.lo b.hi true).fst) then Q (.agg [.v (.int IntKind.i64 ((of (div a.lo b.hi false).fst (div a.hi b.hi true).fst).lo)), .v (.int IntKind.i64 ((of (div a.lo b.hi false).fst (div a.hi b.hi true).fst).hi)), .v (.bool ((of (div a.lo b.hi false).fst (div a.hi b.hi true).fst).no))]) else Q (.agg [.v (.int IntKind.i64 ((of (div a.lo b.hi false).fst (div a.lo b.hi true).fst).lo)), .v (.int IntKind.i64 ((of (div a.lo b.hi false).fst (div a.lo b.hi true).fst).hi)), .v (.bool ((of (div a.lo b.hi false).fst (div a.lo b.hi true).fst).no))]))))))) else (((2 : Int) ≠ (0 : Int)) ∧ (((2 : Int) ≠ (0 : Int)) ∧ (bif !(div a.hi b.hi false).snd then Q (.agg [.v (.int IntKind.i64 ((0 : Int))), .v (.int IntKind.i64 ((0 : Int))), .v (.bool (true))]) else (bif !(div a.hi b.hi true).snd then Q (.agg [.v (.int IntKind.i64 ((0 : Int))), .v (.int IntKind.i64 ((0 : Int))), .v (.bool (true))]) else (bif decide ((div a.hi b.hi false).fst < (div a.lo b.hi false).fst) then (bif decide ((div a.hi b.hi true).fst > (div a.lo b.lo true).fst) then Q (.agg [.v (.int IntKind.i64 ((of (div a.hi b.hi false).fst (div a.hi b.hi true).fst).lo)), .v (.int IntKind.i64 ((of (div a.hi b.hi false).fst (div a.hi b.hi true).fst).hi)), .v (.bool ((of (div a.hi b.hi false).fst (div a.hi b.hi true).fst).no))]) else Q (.agg [.v (.int IntKind.i64 ((of (div a.hi b.hi false).fst (div a.lo b.lo true).fst).lo)), .v (.int IntKind.i64 ((of (div a.hi b.hi false).fst (div a.lo b.lo true).fst).hi)), .v (.bool ((of (div a.hi b.hi false).fst (div a.lo b.lo true).fst).no))])) else (bif decide ((div a.hi b.hi true).fst > (div a.lo b.lo true).fst) then Q (.agg [.v (.int IntKind.i64 ((of (div a.lo b.hi false).fst (div a.hi b.hi true).fst).lo)), .v (.int IntKind.i64 ((of (div a.lo b.hi false).fst (div a.hi b.hi true).fst).hi)), .v (.bool ((of (div a.lo b.hi false).fst (div a.hi b.hi true).fst).no))]) else Q (.agg [.v (.int IntKind.i64 ((of (div a.lo b.hi false).fst (div a.lo b.lo true).fst).lo)), .v (.int IntKind.i64 ((of (div a.lo b.hi false).fst (div a.lo b.lo true).fst).hi)), .v (.bool ((of (div a.lo b.hi false).fst (div a.lo b.lo true).fst).no))])))))))) else (bif decide ((div a.lo b.hi true).fst > (div a.lo b.lo true).fst) then (((2 : Int) ≠ (0 : Int)) ∧ (((2 : Int) ≠ (0 : Int)) ∧ (bif !(div a.hi b.hi false).snd then Q (.agg [.v (.int IntKind.i64 ((0 : Int))), .v (.int IntKind.i64 ((0 : Int))), .v (.bool (true))]) else (bif !(div a.hi b.hi true).snd then Q (.agg [.v (.int IntKind.i64 ((0 : Int))), .v (.int IntKind.i64 ((0 : Int))), .v (.bool (true))]) else (bif decide ((div a.hi b.hi false).fst < (div a.hi b.lo false).fst) then (bif decide ((div a.hi b.hi true).fst > (div a.lo b.hi true).fst) then Q (.agg [.v (.int IntKind.i64 ((of (div a.hi b.hi false).fst (div a.hi b.hi true).fst).lo)), .v (.int IntKind.i64 ((of (div a.hi b.hi false).fst (div a.hi b.hi true).fst).hi)), .v (.bool ((of (div a.hi b.hi false).fst (div a.hi b.hi true).fst).no))]) else Q (.agg [.v (.int IntKind.i64 ((of (div a.hi b.hi false).fst (div a.lo b.hi true).fst).lo)), .v (.int IntKind.i64 ((of (div a.hi b.hi false).fst (div a.lo b.hi true).fst).hi)), .v (.bool ((of (div a.hi b.hi false).fst (div a.lo b.hi true).fst).no))])) else (bif decide ((div a.hi b.hi true).fst > (div a.lo b.hi true).fst) then Q (.agg [.v (.int IntKind.i64 ((of (div a.hi b.lo false).fst (div a.hi b.hi true).fst).lo)), .v (.int IntKind.i64 ((of (div a.hi b.lo false).fst (div a.hi b.hi true).fst).hi)), .v (.bool ((of (div a.hi b.lo false).fst (div a.hi b.hi true).fst).no))]) else Q (.agg [.v (.int IntKind.i64 ((of (div a.hi b.lo false).fst (div a.lo b.hi true).fst).lo)), .v (.int IntKind.i64 ((of (div a.hi b.lo false).fst (div a.lo b.hi true).fst).hi)), .v (.bool ((of (div a.hi b.lo false).fst (div a.lo b.hi true).fst).no))]))))))) else (((2 : Int) ≠ (0 : Int)) ∧ (((2 : Int) ≠ (0 : Int)) ∧ (bif !(div a.hi b.hi false).snd then Q (.agg [.v (.int IntKind.i64 ((0 : Int))), .v (.int IntKind.i64 ((0 : Int))), .v (.bool (true))]) else (bif !(div a.hi b.hi true).snd then Q (.agg [.v (.int IntKind.i64 ((0 : Int))), .v (.int IntKind.i64 ((0 : Int))), .v (.bool (true))]) else (bif decide ((div a.hi b.hi false).fst < (div a.hi b.lo false).fst) then (bif decide ((div a.hi b.hi true).fst > (div a.lo b.lo true).fst) then Q (.agg [.v (.int IntKind.i64 ((of (div a.hi b.hi false).fst (div a.hi b.hi true).fst).lo)), .v (.int IntKind.i64 ((of (div a.hi b.hi false).fst (div a.hi b.hi true).fst).hi)), .v (.bool ((of (div a.hi b.hi false).fst (div a.hi b.hi true).fst).no))]) else Q (.agg [.v (.int IntKind.i64 ((of (div a.hi b.hi false).fst (div a.lo b.lo true).fst).lo)), .v (.int IntKind.i64 ((of (div a.hi b.hi false).fst (div a.lo b.lo true).fst).hi)), .v (.bool ((of (div a.hi b.hi false).fst (div a.lo b.lo true).fst).no))])) else (bif decide ((div a.hi b.hi true).fst > (div a.lo b.lo true).fst) then Q (.agg [.v (.int IntKind.i64 ((of (div a.hi b.lo false).fst (div a.hi b.hi true).fst).lo)), .v (.int IntKind.i64 ((of (div a.hi b.lo false).fst (div a.hi b.hi true).fst).hi)), .v (.bool ((of (div a.hi b.lo false).fst (div a.hi b.hi true).fst).no))]) else Q (.agg [.v (.int IntKind.i64 ((of (div a.hi b.lo false).fst (div a.lo b.lo true).fst).lo)), .v (.int IntKind.i64 ((of (div a.hi b.lo false).fst (div a.lo b.lo true).fst).hi)), .v (.bool ((of (div a.hi b.lo false).fst (div a.lo b.lo true).fst).no))])))))))))))))) else (bif decide ((div a.hi b.lo true).fst > (div a.lo b.lo true).fst) then (((2 : Int) ≠ (0 : Int)) ∧ (((2 : Int) ≠ (0 : Int)) ∧ (bif !(div a.lo b.hi false).snd then Q (.agg [.v (.int IntKind.i64 ((0 : Int))), .v (.int IntKind.i64 ((0 : Int))), .v (.bool (true))]) else (bif !(div a.lo b.hi true).snd then Q (.agg [.v (.int IntKind.i64 ((0 : Int))), .v (.int IntKind.i64 ((0 : Int))), .v (.bool (true))]) else (bif decide ((div a.lo b.hi false).fst < (div a.lo b.lo false).fst) then (bif decide ((div a.lo b.hi true).fst > (div a.hi b.lo true).fst) then (((2 : Int) ≠ (0 : Int)) ∧ (((2 : Int) ≠ (0 : Int)) ∧ (bif !(div a.hi b.hi false).snd then Q (.agg [.v (.int IntKind.i64 ((0 : Int))), .v (.int IntKind.i64 ((0 : Int))), .v (.bool (true))]) else (bif !(div a.hi b.hi true).snd then Q (.agg [.v (.int IntKind.i64 ((0 : Int))), .v (.int IntKind.i64 ((0 : Int))), .v (.bool (true))]) else (bif decide ((div a.hi b.hi false).fst < (div a.lo b.hi false).fst) then (bif decide ((div a.hi b.hi true).fst > (div a.lo b.hi true).fst) then Q (.agg [.v (.int IntKind.i64 ((of (div a.hi b.hi false).fst (div a.hi b.hi true).fst).lo)), .v (.int IntKind.i64 ((of (div a.hi b.hi false).fst (div a.hi b.hi true).fst).hi)), .v (.bool ((of (div a.hi b.hi false).fst (div a.hi b.hi true).fst).no))]) else Q (.agg [.v (.int IntKind.i64 ((of (div a.hi b.hi false).fst (div a.lo b.hi true).fst).lo)), .v (.int IntKind.i64 ((of (div a.hi b.hi false).fst (div a.lo b.hi true).fst).hi)), .v (.bool ((of (div a.hi b.hi false).fst (div a.lo b.hi true).fst).no))])) else (bif decide ((div a.hi b.hi true).fst > (div a.lo b.hi true).fst) then Q (.agg [.v (.int IntKind.i64 ((of (div a.lo b.hi false).fst (div a.hi b.hi true).fst).lo)), .v (.int IntKind.i64 ((of (div a.lo b.hi false).fst (div a.hi b.hi true).fst).hi)), .v (.bool ((of (div a.lo b.hi false).fst (div a.hi b.hi true).fst).no))]) else Q (.agg [.v (.int IntKind.i64 ((of (div a.lo b.hi false).fst (div a.lo b.hi true).fst).lo)), .v (.int IntKind.i64 ((of (div a.lo b.hi false).fst (div a.lo b.hi true).fst).hi)), .v (.bool ((of (div a.lo b.hi false).fst (div a.lo b.hi true).fst).no))]))))))) else (((2 : Int) ≠ (0 : Int)) ∧ (((2 : Int) ≠ (0 : Int)) ∧ (bif !(div a.hi b.hi false).snd then Q (.agg [.v (.int IntKind.i64 ((0 : Int))), .v (.int IntKind.i64 ((0 : Int))), .v (.bool (true))]) else (bif !(div a.hi b.hi true).snd then Q (.agg [.v (.int IntKind.i64 ((0 : Int))), .v (.int IntKind.i64 ((0 : Int))), .v (.bool (true))]) else (bif decide ((div a.hi b.hi false).fst < (div a.lo b.hi false).fst) then (bif decide ((div a.hi b.hi true).fst > (div a.hi b.lo true).fst) then Q (.agg [.v (.int IntKind.i64 ((of (div a.hi b.hi false).fst (div a.hi b.hi true).fst).lo)), .v (.int IntKind.i64 ((of (div a.hi b.hi false).fst (div a.hi b.hi true).fst).hi)), .v (.bool ((of (div a.hi b.hi false).fst (div a.hi b.hi true).fst).no))]) else Q (.agg [.v (.int IntKind.i64 ((of (div a.hi b.hi false).fst (div a.hi b.lo true).fst).lo)), .v (.int IntKind.i64 ((of (div a.hi b.hi false).fst (div a.hi b.lo true).fst).hi)), .v (.bool ((of (div a.hi b.hi false).fst (div a.hi b.lo true).fst).no))])) else (bif decide ((div a.hi b.hi true).fst > (div a.hi b.lo true).fst) then Q (.agg [.v (.int IntKind.i64 ((of (div a.lo b.hi false).fst (div a.hi b.hi true).fst).lo)), .v (.int IntKind.i64 ((of (div a.lo b.hi false).fst (div a.hi b.hi true).fst).hi)), .v (.bool ((of (div a.lo b.hi false).fst (div a.hi b.hi true).fst).no))]) else Q (.agg [.v (.int IntKind.i64 ((of (div a.lo b.hi false).fst (div a.hi b.lo true).fst).lo)), .v (.int IntKind.i64 ((of (div a.lo b.hi false).fst (div a.hi b.lo true).fst).hi)), .v (.bool ((of (div a.lo b.hi false).fst (div a.hi b.lo true).fst).no))])))))))) else (bif decide ((div a.lo b.hi true).fst > (div a.hi b.lo true).fst) then (((2 : Int) ≠ (0 : Int)) ∧ (((2 : Int) ≠ (0 : Int)) ∧ (bif !(div a.hi b.hi false).snd then Q (.agg [.v (.int IntKind.i64 ((0 : Int))), .v (.int IntKind.i64 ((0 : Int))), .v (.bool (true))]) else (bif !(div a.hi b.hi true).snd then Q (.agg [.v (.int IntKind.i64 ((0 : Int))), .v (.int IntKind.i64 ((0 : Int))), .v (.bool (true))]) else (bif decide ((div a.hi b.hi false).fst < (div a.lo b.lo false).fst) then (bif decide ((div a.hi b.hi true).fst > (div a.lo b.hi true).fst) then Q (.agg [.v (.int IntKind.i64 ((of (div a.hi b.hi false).fst (div a.hi b.hi true).fst).lo)), .v (.int IntKind.i64 ((of (div a.hi b.hi false).fst (div a.hi b.hi true).fst).hi)), .v (.bool ((of (div a.hi b.hi false).fst (div a.hi b.hi true).fst).no))]) else Q (.agg [.v (.int IntKind.i64 ((of (div a.hi b.hi false).fst (div a.lo b.hi true).fst).lo)), .v (.int IntKind.i64 ((of (div a.hi b.hi false).fst (div a.lo b.hi true).fst).hi)), .v (.bool ((of (div a.hi b.hi false).fst (div a.lo b.hi true).fst).no))])) else (bif decide ((div a.hi b.hi true).fst > (div a.lo b.hi true).fst) then Q (.agg [.v (.int IntKind.i64 ((of (div a.lo b.lo false).fst (div a.hi b.hi true).fst).lo)), .v (.int IntKind.i64 ((of (div a.lo b.lo false).fst (div a.hi b.hi true).fst).hi)), .v (.bool ((of (div a.lo b.lo false).fst (div a.hi b.hi true).fst).no))]) else Q (.agg [.v (.int IntKind.i64 ((of (div a.lo b.lo false).fst (div a.lo b.hi true).fst).lo)), .v (.int IntKind.i64 ((of (div a.lo b.lo false).fst (div a.lo b.hi true).fst).hi)), .v (.bool ((of (div a.lo b.lo false).fst (div a.lo b.hi true).fst).no))]))))))) else (((2 : Int) ≠ (0 : Int)) ∧ (((2 : Int) ≠ (0 : Int)) ∧ (bif !(div a.hi b.hi false).snd then Q (.agg [.v (.int IntKind.i64 ((0 : Int))), .v (.int IntKind.i64 ((0 : Int))), .v (.bool (true))]) else (bif !(div a.hi b.hi true).snd then Q (.agg [.v (.int IntKind.i64 ((0 : Int))), .v (.int IntKind.i64 ((0 : Int))), .v (.bool (true))]) else (bif decide ((div a.hi b.hi false).fst < (div a.lo b.lo false).fst) then (bif decide ((div a.hi b.hi true).fst > (div a.hi b.lo true).fst) then Q (.agg [.v (.int IntKind.i64 ((of (div a.hi b.hi false).fst (div a.hi b.hi true).fst).lo)), .v (.int IntKind.i64 ((of (div a.hi b.hi false).fst (div a.hi b.hi true).fst).hi)), .v (.bool ((of (div a.hi b.hi false).fst (div a.hi b.hi true).fst).no))]) else Q (.agg [.v (.int IntKind.i64 ((of (div a.hi b.hi false).fst (div a.hi b.lo true).fst).lo)), .v (.int IntKind.i64 ((of (div a.hi b.hi false).fst (div a.hi b.lo true).fst).hi)), .v (.bool ((of (div a.hi b.hi false).fst (div a.hi b.lo true).fst).no))])) else (bif decide ((div a.hi b.hi true).fst > (div a.hi b.lo true).fst) then Q (.agg [.v (.int IntKind.i64 ((of (div a.lo b.lo false).fst (div a.hi b.hi true).fst).lo)), .v (.int IntKind.i64 ((of (div a.lo b.lo false).fst (div a.hi b.hi true).fst).hi)), .v (.bool ((of (div a.lo b.lo false).fst (div a.hi b.hi true).fst).no))]) else Q (.agg [.v (.int IntKind.i64 ((of (div a.lo b.lo false).fst (div a.hi b.lo true).fst).lo)), .v (.int IntKind.i64 ((of (div a.lo b.lo false).fst (div a.hi b.lo true).fst).hi)), .v (.bool ((of (div a.lo b.lo false).fst (div a.hi b.lo true).fst).no))]))))))))))))) else (((2 : Int) ≠ (0 : Int)) ∧ (((2 : Int) ≠ (0 : Int)) ∧ (bif !(div a.lo b.hi false).snd then Q (.agg [.v (.int IntKind.i64 ((0 : Int))), .v (.int IntKind.i64 ((0 : Int))), .v (.bool (true))]) else (bif !(div a.lo b.hi true).snd then Q (.agg [.v (.int IntKind.i64 ((0 : Int))), .v (.int IntKind.i64 ((0 : Int))), .v (.bool (true))]) else (bif decide ((div a.lo b.hi false).fst < (div a.lo b.lo false).fst) then (bif decide ((div a.lo b.hi true).fst > (div a.lo b.lo true).fst) then (((2 : Int) ≠ (0 : Int)) ∧ (((2 : Int) ≠ (0 : Int)) ∧ (bif !(div a.hi b.hi false).snd then Q (.agg [.v (.int IntKind.i64 ((0 : Int))), .v (.int IntKind.i64 ((0 : Int))), .v (.bool (true))]) else (bif !(div a.hi b.hi true).snd then Q (.agg [.v (.int IntKind.i64 ((0 : Int))), .v (.int IntKind.i64 ((0 : Int))), .v (.bool (true))]) else (bif decide ((div a.hi b.hi false).fst < (div a.lo b.hi false).fst) then (bif decide ((div a.hi b.hi true).fst > (div a.lo b.hi true).fst) then Q (.agg [.v (.int IntKind.i64 ((of (div a.hi b.hi false).fst (div a.hi b.hi true).fst).lo)), .v (.int IntKind.i64 ((of (div a.hi b.hi false).fst (div a.hi b.hi true).fst).hi)), .v (.bool ((of (div a.hi b.hi false).fst (div a.hi b.hi true).fst).no))]) else Q (.agg [.v (.int IntKind.i64 ((of (div a.hi b.hi false).fst (div a.lo b.hi true).fst).lo)), .v (.int IntKind.i64 ((of (div a.hi b.hi false).fst (div a.lo b.hi true).fst).hi)), .v (.bool ((of (div a.hi b.hi false).fst (div a.lo b.hi true).fst).no))])) else (bif decide ((div a.hi b.hi true).fst > (div a.lo b.hi true).fst) then Q (.agg [.v (.int IntKind.i64 ((of (div a.lo b.hi false).fst (div a.hi b.hi true).fst).lo)), .v (.int IntKind.i64 ((of (div a.lo b.hi false).fst (div a.hi b.hi true).fst).hi)), .v (.bool ((of (div a.lo b.hi false).fst (div a.hi b.hi true).fst).no))]) else Q (.agg [.v (.int IntKind.i64 ((of (div a.lo b.hi false).fst (div a.lo b.hi true).fst).lo)), .v (.int IntKind.i64 ((of (div a.lo b.hi false).fst (div a.lo b.hi true).fst).hi)), .v (.bool ((of (div a.lo b.hi false).fst (div a.lo b.hi true).fst).no))]))))))) else (((2 : Int) ≠ (0 : Int)) ∧ (((2 : Int) ≠ (0 : Int)) ∧ (bif !(div a.hi b.hi false).snd then Q (.agg [.v (.int IntKind.i64 ((0 : Int))), .v (.int IntKind.i64 ((0 : Int))), .v (.bool (true))]) else (bif !(div a.hi b.hi true).snd then Q (.agg [.v (.int IntKind.i64 ((0 : Int))), .v (.int IntKind.i64 ((0 : Int))), .v (.bool (true))]) else (bif decide ((div a.hi b.hi false).fst < (div a.lo b.hi false).fst) then (bif decide ((div a.hi b.hi true).fst > (div a.lo b.lo true).fst) then Q (.agg [.v (.int IntKind.i64 ((of (div a.hi b.hi false).fst (div a.hi b.hi true).fst).lo)), .v (.int IntKind.i64 ((of (div a.hi b.hi false).fst (div a.hi b.hi true).fst).hi)), .v (.bool ((of (div a.hi b.hi false).fst (div a.hi b.hi true).fst).no))]) else Q (.agg [.v (.int IntKind.i64 ((of (div a.hi b.hi false).fst (div a.lo b.lo true).fst).lo)), .v (.int IntKind.i64 ((of (div a.hi b.hi false).fst (div a.lo b.lo true).fst).hi)), .v (.bool ((of (div a.hi b.hi false).fst (div a.lo b.lo true).fst).no))])) else (bif decide ((div a.hi b.hi true).fst > (div a.lo b.lo true).fst) then Q (.agg [.v (.int IntKind.i64 ((of (div a.lo b.hi false).fst (div a.hi b.hi true).fst).lo)), .v (.int IntKind.i64 ((of (div a.lo b.hi false).fst (div a.hi b.hi true).fst).hi)), .v (.bool ((of (div a.lo b.hi false).fst (div a.hi b.hi true).fst).no))]) else Q (.agg [.v (.int IntKind.i64 ((of (div a.lo b.hi false).fst (div a.lo b.lo true).fst).lo)), .v (.int IntKind.i64 ((of (div a.lo b.hi false).fst (div a.lo b.lo true).fst).hi)), .v (.bool ((of (div a.lo b.hi false).fst (div a.lo b.lo true).fst).no))])))))))) else (bif decide ((div a.lo b.hi true).fst > (div a.lo b.lo true).fst) then (((2 : Int) ≠ (0 : Int)) ∧ (((2 : Int) ≠ (0 : Int)) ∧ (bif !(div a.hi b.hi false).snd then Q (.agg [.v (.int IntKind.i64 ((0 : Int))), .v (.int IntKind.i64 ((0 : Int))), .v (.bool (true))]) else (bif !(div a.hi b.hi true).snd then Q (.agg [.v (.int IntKind.i64 ((0 : Int))), .v (.int IntKind.i64 ((0 : Int))), .v (.bool (true))]) else (bif decide ((div a.hi b.hi false).fst < (div a.lo b.lo false).fst) then (bif decide ((div a.hi b.hi true).fst > (div a.lo b.hi true).fst) then Q (.agg [.v (.int IntKind.i64 ((of (div a.hi b.hi false).fst (div a.hi b.hi true).fst).lo)), .v (.int IntKind.i64 ((of (div a.hi b.hi false).fst (div a.hi b.hi true).fst).hi)), .v (.bool ((of (div a.hi b.hi false).fst (div a.hi b.hi true).fst).no))]) else Q (.agg [.v (.int IntKind.i64 ((of (div a.hi b.hi false).fst (div a.lo b.hi true).fst).lo)), .v (.int IntKind.i64 ((of (div a.hi b.hi false).fst (div a.lo b.hi true).fst).hi)), .v (.bool ((of (div a.hi b.hi false).fst (div a.lo b.hi true).fst).no))])) else (bif decide ((div a.hi b.hi true).fst > (div a.lo b.hi true).fst) then Q (.agg [.v (.int IntKind.i64 ((of (div a.lo b.lo false).fst (div a.hi b.hi true).fst).lo)), .v (.int IntKind.i64 ((of (div a.lo b.lo false).fst (div a.hi b.hi true).fst).hi)), .v (.bool ((of (div a.lo b.lo false).fst (div a.hi b.hi true).fst).no))]) else Q (.agg [.v (.int IntKind.i64 ((of (div a.lo b.lo false).fst (div a.lo b.hi true).fst).lo)), .v (.int IntKind.i64 ((of (div a.lo b.lo false).fst (div a.lo b.hi true).fst).hi)), .v (.bool ((of (div a.lo b.lo false).fst (div a.lo b.hi true).fst).no))]))))))) else (((2 : Int) ≠ (0 : Int)) ∧ (((2 : Int) ≠ (0 : Int)) ∧ (bif !(div a.hi b.hi false).snd then Q (.agg [.v (.int IntKind.i64 ((0 : Int))), .v (.int IntKind.i64 ((0 : Int))), .v (.bool (true))]) else (bif !(div a.hi b.hi true).snd then Q (.agg [.v (.int IntKind.i64 ((0 : Int))), .v (.int IntKind.i64 ((0 : Int))), .v (.bool (true))]) else (bif decide ((div a.hi b.hi false).fst < (div a.lo b.lo false).fst) then (bif decide ((div a.hi b.hi true).fst > (div a.lo b.lo true).fst) then Q (.agg [.v (.int IntKind.i64 ((of (div a.hi b.hi false).fst (div a.hi b.hi true).fst).lo)), .v (.int IntKind.i64 ((of (div a.hi b.hi false).fst (div a.hi b.hi true).fst).hi)), .v (.bool ((of (div a.hi b.hi false).fst (div a.hi b.hi true).fst).no))]) else Q (.agg [.v (.int IntKind.i64 ((of (div a.hi b.hi false).fst (div a.lo b.lo true).fst).lo)), .v (.int IntKind.i64 ((of (div a.hi b.hi false).fst (div a.lo b.lo true).fst).hi)), .v (.bool ((of (div a.hi b.hi false).fst (div a.lo b.lo true).fst).no))])) else (bif decide ((div a.hi b.hi true).fst > (div a.lo b.lo true).fst) then Q (.agg [.v (.int IntKind.i64 ((of (div a.lo b.lo false).fst (div a.hi b.hi true).fst).lo)), .v (.int IntKind.i64 ((of (div a.lo b.lo false).fst (div a.hi b.hi true).fst).hi)), .v (.bool ((of (div a.lo b.lo false).fst (div a.hi b.hi true).fst).no))]) else Q (.agg [.v (.int IntKind.i64 ((of (div a.lo b.lo false).fst (div a.lo b.lo true).fst).lo)), .v (.int IntKind.i64 ((of (div a.lo b.lo false).fst (div a.lo b.lo true).fst).hi)), .v (.bool ((of (div a.lo b.lo false).fst (div a.lo b.lo true).fst).no))]))))))))))))))))))))))) := by kernel_rfl
theorem cs_REndsD : CSOk Try.prog (tabC [(62, e62), (82, e82), (25, e25), (56, e56)]) := tabC_cons eok62 <| tabC_cons eok82 <| tabC_cons eok25 <| tabC_cons eok56 <| tabC_nil
theorem con_REndsD (a : Iv) (b : Iv)  : Con Try.prog 63 [.agg (Iv.enc a), .agg (Iv.enc b), .v (.bool true)] (.agg (Iv.enc (ends div a b))) := by
  refine con_fin evEnv_ok cs_REndsD noCP_ok noCI_ok owOk_no (n := 2000) (LS := []) (fn := Try.f63) rfl loopsOk_nil ?_
  rw [sx_REndsD]
  refine ⟨?r43, ⟨?r42, condI (fun h0 => ?_) (fun h0 => condI (fun h1 => ?_) (fun h1 => ⟨?r41, ⟨?r40, condI (fun h2 => ?_) (fun h2 => condI (fun h3 => ?_) (fun h3 => condI (fun h4 => condI (fun h5 => ⟨?r9, ⟨?r8, condI (fun h6 => ?_) (fun h6 => condI (fun h7 => ?_) (fun h7 => condI (fun h8 => condI (fun h9 => ⟨?r1, ⟨?r0, condI (fun h10 => ?_) (fun h10 => condI (fun h11 => ?_) (fun h11 => condI (fun h12 => condI (fun h13 => ?_) (fun h13 => ?_)) (fun h12 => condI (fun h13 => ?_) (fun h13 => ?_))))⟩⟩) (fun h9 => ⟨?r3, ⟨?r2, condI (fun h10 => ?_) (fun h10 => condI (fun h11 => ?_) (fun h11 => condI (fun h12 => condI (fun h13 => ?_) (fun h13 => ?_)) (fun h12 => condI (fun h13 => ?_) (fun h13 => ?_))))⟩⟩)) (fun h8 => condI (fun h9 => ⟨?r5, ⟨?r4, condI (fun h10 => ?_) (fun h10 => condI (fun h11 => ?_) (fun h11 => condI (fun h12 => condI (fun h13 => ?_) (fun h13 => ?_)) (fun h12 => condI (fun h13 => ?_) (fun h13 => ?_))))⟩⟩) (fun h9 => ⟨?r7, ⟨?r6, condI (fun h10 => ?_) (fun h10 => condI (fun h11 => ?_) (fun h11 => condI (fun h12 => condI (fun h13 => ?_) (fun h13 => ?_)) (fun h12 => condI (fun h13 => ?_) (fun h13 => ?_))))⟩⟩))))⟩⟩) (fun h5 => ⟨?r19, ⟨?r18, condI (fun h6 => ?_) (fun h6 => condI (fun h7 => ?_) (fun h7 => condI (fun h8 => condI (fun h9 => ⟨?r11, ⟨?r10, condI (fun h10 => ?_) (fun h10 => condI (fun h11 => ?_) (fun h11 => condI (fun h12 => condI (fun h13 => ?_) (fun h13 => ?_)) (fun h12 => condI (fun h13 => ?_) (fun h13 => ?_))))⟩⟩) (fun h9 => ⟨?r13, ⟨?r12, condI (fun h10 => ?_) (fun h10 => condI (fun h11 => ?_) (fun h11 => condI (fun h12 => condI (fun h13 => ?_) (fun h13 => ?_)) (fun h12 => condI (fun h13 => ?_) (fun h13 => ?_))))⟩⟩)) (fun h8 => condI (fun h9 => ⟨?r15, ⟨?r14, condI (fun h10 => ?_) (fun h10 => condI (fun h11 => ?_) (fun h11 => condI (fun h12 => condI (fun h13 => ?_) (fun h13 => ?_)) (fun h12 => condI (fun h13 => ?_) (fun h13 => ?_))))⟩⟩) (fun h9 => ⟨?r17, ⟨?r16, condI (fun h10 => ?_) (fun h10 => condI (fun h11 => ?_) (fun h11 => condI (fun h12 => condI (fun h13 => ?_) (fun h13 => ?_)) (fun h12 => condI (fun h13 => ?_) (fun h13 => ?_))))⟩⟩))))⟩⟩)) (fun h4 => condI (fun h5 => ⟨?r29, ⟨?r28, condI (fun h6 => ?_) (fun h6 => condI (fun h7 => ?_) (fun h7 => condI (fun h8 => condI (fun h9 => ⟨?r21, ⟨?r20, condI (fun h10 => ?_) (fun h10 => condI (fun h11 => ?_) (fun h11 => condI (fun h12 => condI (fun h13 => ?_) (fun h13 => ?_)) (fun h12 => condI (fun h13 => ?_) (fun h13 => ?_))))⟩⟩) (fun h9 => ⟨?r23, ⟨?r22, condI (fun h10 => ?_) (fun h10 => condI (fun h11 => ?_) (fun h11 => condI (fun h12 => condI (fun h13 => ?_) (fun h13 => ?_)) (fun h12 => condI (fun h13 => ?_) (fun h13 => ?_))))⟩⟩)) (fun h8 => condI (fun h9 => ⟨?r25, ⟨?r24, condI (fun h10 => ?_) (fun h10 => condI (fun h11 => ?_) (fun h11 => condI (fun h12 => condI (fun h13 => ?_) (fun h13 => ?_)) (fun h12 => condI (fun h13 => ?_) (fun h13 => ?_))))⟩⟩) (fun h9 => ⟨?r27, ⟨?r26, condI (fun h10 => ?_) (fun h10 => condI (fun h11 => ?_) (fun h11 => condI (fun h12 => condI (fun h13 => ?_) (fun h13 => ?_)) (fun h12 => condI (fun h13 => ?_) (fun h13 => ?_))))⟩⟩))))⟩⟩) (fun h5 => ⟨?r39, ⟨?r38, condI (fun h6 => ?_) (fun h6 => condI (fun h7 => ?_) (fun h7 => condI (fun h8 => condI (fun h9 => ⟨?r31, ⟨?r30, condI (fun h10 => ?_) (fun h10 => condI (fun h11 => ?_) (fun h11 => condI (fun h12 => condI (fun h13 => ?_) (fun h13 => ?_)) (fun h12 => condI (fun h13 => ?_) (fun h13 => ?_))))⟩⟩) (fun h9 => ⟨?r33, ⟨?r32, condI (fun h10 => ?_) (fun h10 => condI (fun h11 => ?_) (fun h11 => condI (fun h12 => condI (fun h13 => ?_) (fun h13 => ?_)) (fun h12 => condI (fun h13 => ?_) (fun h13 => ?_))))⟩⟩)) (fun h8 => condI (fun h9 => ⟨?r35, ⟨?r34, condI (fun h10 => ?_) (fun h10 => condI (fun h11 => ?_) (fun h11 => condI (fun h12 => condI (fun h13 => ?_) (fun h13 => ?_)) (fun h12 => condI (fun h13 => ?_) (fun h13 => ?_))))⟩⟩) (fun h9 => ⟨?r37, ⟨?r36, condI (fun h10 => ?_) (fun h10 => condI (fun h11 => ?_) (fun h11 => condI (fun h12 => condI (fun h13 => ?_) (fun h13 => ?_)) (fun h12 => condI (fun h13 => ?_) (fun h13 => ?_))))⟩⟩))))⟩⟩))))⟩⟩))⟩⟩
  case r0 | r1 | r2 | r3 | r4 | r5 | r6 | r7 | r8 | r9 | r10 | r11 | r12 | r13 | r14 | r15 | r16 | r17 | r18 | r19 | r20 | r21 | r22 | r23 | r24 | r25 | r26 | r27 | r28 | r29 | r30 | r31 | r32 | r33 | r34 | r35 | r36 | r37 | r38 | r39 | r40 | r41 | r42 | r43 => decide
  all_goals simp only [Bool.not_eq_true', Bool.not_eq_false', decide_eq_true_eq, decide_eq_false_iff_not] at *
  all_goals first | exact congrArg (fun e => PV.agg (Iv.enc e)) (ends_no (by simp [*])) | exact congrArg (fun e => PV.agg (Iv.enc e)) (ends_of h0 h1 h6 h7 h2 h3 h10 h11 (by omega) (by omega))
theorem eok_REndsD : EntOk Try.prog 63 e_REndsD := by
  intro args r ps h hp
  unfold e_REndsD at h
  split at h
  · rename_i p1 p2 p3 p4 p5 p6
    cases (Option.some.inj h)
    exact con_REndsD (⟨p1, p2, p3⟩ : Iv) (⟨p4, p5, p6⟩ : Iv) 
  · exact absurd h (by simp)
theorem eok63 : EntOk Try.prog 63 e63 := eOr_ok eok_REndsM (eok_REndsD)
end Go.Men
namespace Go.Men
open Go.Ev Go.Proofs Go.Proofs.Ytoldgmhepeficaa
theorem sx_Root_6 (bit : Int) (n : Int) (r : Int) (up : Bool) (Q : Ex → Option St → Prop) : sxH evEnv (tabC [(66, e66)]) noCP noCI noG [] 2000 (bodyOf Try.f83 0) k_Root_6 ke_Root_6 kr_Root_6 (H_Root_6 bit n r up) Q = (bif decide (bit ≥ (0 : Int)) then (((0 : Int) ≤ bit) ∧ (bif decide (IntKind.i64.wrap (IntKind.i64.wrap ↑(BitVec.ofInt (64 : Nat) r ||| BitVec.ofInt (64 : Nat) (IntKind.i64.wrap ((1 : Int) * (2 : Int) ^ min bit.toNat (64 : Nat)))).toNat * IntKind.i64.wrap ↑(BitVec.ofInt (64 : Nat) r ||| BitVec.ofInt (64 : Nat) (IntKind.i64.wrap ((1 : Int) * (2 : Int) ^ min bit.toNat (64 : Nat)))).toNat) ≤ n) then Q (Ex.normal) (some ⟨44, [(8, .p (.v (.int IntKind.i64 (IntKind.i64.wrap (bit - (1 : Int)))))), (6, .p (.v (.int IntKind.i64 (n)))), (7, .p (.v (.int IntKind.i64 (IntKind.i64.wrap ↑(BitVec.ofInt (64 : Nat) r ||| BitVec.ofInt (64 : Nat) (IntKind.i64.wrap ((1 : Int) * (2 : Int) ^ min bit.toNat (64 : Nat)))).toNat)))), (1, .p (.v (.bool (up))))], [], [], [], []⟩) else Q (Ex.normal) (some ⟨44, [(8, .p (.v (.int IntKind.i64 (IntKind.i64.wrap (bit - (1 : Int)))))), (6, .p (.v (.int IntKind.i64 (n)))), (7, .p (.v (.int IntKind.i64 (r)))), (1, .p (.v (.bool (up))))], [], [], [], []⟩))) else Q (Ex.exit (0 : Nat)) (some ⟨44, [(7, .p (.v (.int IntKind.i64 (r)))), (6, .p (.v (.int IntKind.i64 (n)))), (1, .p (.v (.bool (up))))], [], [], [], []⟩)) := by kernel_rfl
theorem cs_Root : CSOk Try.prog (tabC [(66, e66)]) := tabC_cons eok66 <| tabC_nil
theorem lp_Root_6 : LsOk Try.prog (bodyOf Try.f83 0) S_Root_6 := by
  refine lsOkH_of evEnv_ok.Γ (loopH_rule evEnv_ok cs_Root noCP_ok noCI_ok owOk_no (LS := []) (lsA_get (l := []) (by kernel_rfl) (lsA_nil)) (n := 2000) (X := Int × Int × Int × Bool) (fun x => H_Root_6 x.1 x.2.1 x.2.2.1 x.2.2.2) (fun x => I_Root_6 x.1 x.2.1 x.2.2.1 x.2.2.2) (fun x e s => (e = .exit 0 ∧ s = X_Root_6 x.1 x.2.1 x.2.2.1 x.2.2.2)) (fun x => (x.1 + 1).toNat) k_Root_6 ke_Root_6 kr_Root_6 ?_) k_Root_6 ?_
  · intro x hx
    obtain ⟨bit, n, r, up⟩ := x
    simp only [I_Root_6] at hx
    show sxH _ _ _ _ _ _ _ _ _ _ _ (H_Root_6 bit n r up) _
    rw [sx_Root_6]
    refine condI (fun h0 => ⟨?r0, condI (fun h1 => .inl ⟨rfl, (IntKind.i64.wrap (bit - (1 : Int)), n, IntKind.i64.wrap ↑(BitVec.ofInt (64 : Nat) r ||| BitVec.ofInt (64 : Nat) (IntKind.i64.wrap ((1 : Int) * (2 : Int) ^ min bit.toNat (64 : Nat)))).toNat, up), by first | rfl | (simp only [H_Root_6, List.map_append, List.map_cons, List.map_nil]; rfl), ?_, ?_, ?_⟩) (fun h1 => .inl ⟨rfl, (IntKind.i64.wrap (bit - (1 : Int)), n, r, up), by first | rfl | (simp only [H_Root_6, List.map_append, List.map_cons, List.map_nil]; rfl), ?_, ?_, ?_⟩)⟩) (fun h0 => .inr ⟨by simp, _, rfl, ?_⟩)
    case r0 => first | rfl | (simp only [dShape, dI, dIv]; omega) | (simp [decL, chunk]; done) | (simp only [dShape, dI, dIv]; done) | (exact idx_ok (fun _ => rfl) (by omega) (by omega)) | (simp only [decide_eq_true_eq, List.length_map] at *; exact idx_ok (fun _ => rfl) (by omega) (by omega)) | assumption | trivial | (simp_all; done) | omega
    all_goals obtain ⟨a1, a2, a3, a4⟩ := hx
    all_goals simp only [decide_eq_true_eq, decide_eq_false_iff_not] at h0
    · have hm := more_eq h0 a1.2 a3 a4
      obtain ⟨k1, k2, k3, k4, k5, k6⟩ := more_facts h0 a3
      simp only [hm, wrap_fit k5, decide_eq_true_eq] at h1
      simp only [hm, wrap_fit (show Fit (bit - 1) by constructor <;> omega), I_Root_6, k1]
      exact ⟨by omega, a2, by omega, Int.dvd_add (Int.dvd_trans ⟨2, by rw [k4]; omega⟩ a4) (Int.dvd_refl _)⟩
    · simp only [wrap_fit (show Fit (bit - 1) by constructor <;> omega)]; omega
    · have hm := more_eq h0 a1.2 a3 a4
      obtain ⟨k1, k2, k3, k4, k5, k6⟩ := more_facts h0 a3
      simp only [hm, wrap_fit k5, decide_eq_true_eq] at h1
      simp only [hm, wrap_fit (show Fit (bit - 1) by constructor <;> omega), X_Root_6, k1, k2]
      intro e s h
      unfold rootL
      rw [if_pos h1]
      exact h
    · obtain ⟨k1, k2, k3, k4, k5, k6⟩ := more_facts h0 a3
      simp only [wrap_fit (show Fit (bit - 1) by constructor <;> omega), I_Root_6, k1]
      exact ⟨by omega, a2, by omega, Int.dvd_trans ⟨2, by rw [k4]; omega⟩ a4⟩
    · simp only [wrap_fit (show Fit (bit - 1) by constructor <;> omega)]; omega
    · have hm := more_eq h0 a1.2 a3 a4
      obtain ⟨k1, k2, k3, k4, k5, k6⟩ := more_facts h0 a3
      simp only [hm, wrap_fit k5, decide_eq_false_iff_not] at h1
      simp only [wrap_fit (show Fit (bit - 1) by constructor <;> omega), X_Root_6, k1, k2]
      intro e s h
      unfold rootL
      rw [if_neg h1]
      exact h
    · have : (bit + 1).toNat = 0 := by omega
      exact ⟨rfl, by simp only [X_Root_6]; rw [this]; rfl⟩
  · intro σ K hS
    unfold S_Root_6 at hS
    split at hS
    · rename_i p1 p2 p3 p4 hk
      obtain ⟨hi, hK⟩ := alls_get hS
      refine ⟨(p1, p2, p3, p4), hk, hi _ (by simp), fun e s hf => ?_⟩
      obtain ⟨rfl, rfl⟩ := hf
      exact hK
    · exact hS.elim
theorem lok_Root : LoopsOk Try.prog [(6, S_Root_6)] Try.f83 := loopsOk_A (l := [bodyOf Try.f83 0]) (by kernel_rfl) (lsA_cons (i := 6) (by kernel_rfl) rfl lp_Root_6 (lsA_nil))
theorem sx_Root (a : Int) (up : Bool) (Q : PV → Prop) : sxF evEnv (tabC [(66, e66)]) noCP noCI noG [(6, S_Root_6)] 2000 Try.f83 [.v (.int .i64 a), .v (.bool up)] Q = (bif decide (a < (0 : Int)) then Q (.tup [.v (.int IntKind.i64 ((0 : Int))), .v (.bool (false))]) else (bif !inB a then Q (.tup [.v (.int IntKind.i64 ((0 : Int))), .v (.bool (false))]) else ((I_Root_6 (24 : Int) (IntKind.i64.wrap (a * (65536 : Int))) (0 : Int) up) ∧ (bif up then (bif decide (IntKind.i64.wrap (rootL (25 : Nat) (IntKind.i64.wrap (a * (65536 : Int))) (0 : Int) * rootL (25 : Nat) (IntKind.i64.wrap (a * (65536 : Int))) (0 : Int)) < IntKind.i64.wrap (a * (65536 : Int))) then Q (.tup [.v (.int IntKind.i64 (IntKind.i64.wrap (rootL (25 : Nat) (IntKind.i64.wrap (a * (65536 : Int))) (0 : Int) + (1 : Int)))), .v (.bool (true))]) else Q (.tup [.v (.int IntKind.i64 (rootL (25 : Nat) (IntKind.i64.wrap (a * (65536 : Int))) (0 : Int))), .v (.bool (true))])) else Q (.tup [.v (.int IntKind.i64 (rootL (25 : Nat) (IntKind.i64.wrap (a * (65536 : Int))) (0 : Int))), .v (.bool (true))]))))) := by kernel_rfl
theorem con_Root (a : Int) (up : Bool)  : Con Try.prog 83 [.v (.int .i64 a), .v (.bool up)] (.tup [.v (.int .i64 ((root a up).1)), .v (.bool ((root a up).2))]) := by
  refine con_fin evEnv_ok cs_Root noCP_ok noCI_ok owOk_no (n := 2000) (LS := [(6, S_Root_6)]) (fn := Try.f83) rfl lok_Root ?_
  rw [sx_Root]
  refine condI (fun h0 => ?_) (fun h0 => condI (fun h1 => ?_) (fun h1 => ⟨?_, condI (fun h2 => condI (fun h3 => ?_) (fun h3 => ?_)) (fun h2 => ?_)⟩))
  · simp only [decide_eq_true_eq] at h0
    have : decide (0 ≤ a) = false := by simp; omega
    simp only [root, this, Bool.and_false, cond_false]; rfl
  · simp_all [nz, nzA, root]
  all_goals simp only [Bool.not_eq_false', decide_eq_false_iff_not, inB_iff] at h0 h1
  all_goals try rw [wrap_fit (show Fit (a * 65536) by constructor <;> omega)] at *
  · exact ⟨by omega, by omega, by simp, by simp⟩
  all_goals rw [rootL_25 (by omega)] at *
  all_goals have hf := root_fit (n := a * 65536)
  all_goals have hb : inB a = true := inB_iff.2 h1
  all_goals have h00 : decide (0 ≤ a) = true := by simp; omega
  · rw [wrap_fit root_sq] at h3
    rw [wrap_fit (by constructor <;> omega)]
    simp only [root, hb, h2, h3, h00, Bool.and_self, cond_true]; rfl
  · rw [wrap_fit root_sq] at h3
    simp only [root, hb, h2, h3, h00, Bool.and_self, cond_true, cond_false, Bool.and_false]; rfl
  · simp only [root, hb, h2, h00, Bool.and_self, cond_true, cond_false, Bool.false_and]; rfl
theorem eok_Root : EntOk Try.prog 83 e_Root := by
  intro args r ps h hp
  unfold e_Root at h
  split at h
  · rename_i p1 p2
    cases (Option.some.inj h)
    exact con_Root p1 p2 
  · exact absurd h (by simp)
theorem eok83 : EntOk Try.prog 83 e83 := eok_Root
theorem sx_RRoot_7 (bit : Int) (n : Int) (r : Int) (up : Bool) (Q : Ex → Option St → Prop) : sxH evEnv (tabC [(64, e64), (81, e81)]) noCP noCI noG [] 2000 (bodyOf Try.f67 0) k_RRoot_7 ke_RRoot_7 kr_RRoot_7 (H_RRoot_7 bit n r up) Q = (bif decide (bit ≥ (0 : Int)) then (((0 : Int) ≤ IntKind.u64.wrap bit) ∧ (bif decide (IntKind.i64.wrap (IntKind.i64.wrap (r + IntKind.i64.wrap ((1 : Int) * (2 : Int) ^ min (IntKind.u64.wrap bit).toNat (64 : Nat))) * IntKind.i64.wrap (r + IntKind.i64.wrap ((1 : Int) * (2 : Int) ^ min (IntKind.u64.wrap bit).toNat (64 : Nat)))) ≤ n) then Q (Ex.normal) (some ⟨48, [(8, .p (.v (.int IntKind.i64 (IntKind.i64.wrap (bit - (1 : Int)))))), (6, .p (.v (.int IntKind.i64 (n)))), (7, .p (.v (.int IntKind.i64 (IntKind.i64.wrap (r + IntKind.i64.wrap ((1 : Int) * (2 : Int) ^ min (IntKind.u64.wrap bit).toNat (64 : Nat))))))), (1, .p (.v (.bool (up))))], [], [], [], []⟩) else Q (Ex.normal) (some ⟨48, [(8, .p (.v (.int IntKind.i64 (IntKind.i64.wrap (bit - (1 : Int)))))), (6, .p (.v (.int IntKind.i64 (n)))), (7, .p (.v (.int IntKind.i64 (r)))), (1, .p (.v (.bool (up))))], [], [], [], []⟩))) else Q (Ex.exit (0 : Nat)) (some ⟨48, [(7, .p (.v (.int IntKind.i64 (r)))), (6, .p (.v (.int IntKind.i64 (n)))), (1, .p (.v (.bool (up))))], [], [], [], []⟩)) := by kernel_rfl
theorem cs_RRoot : CSOk Try.prog (tabC [(64, e64), (81, e81)]) := tabC_cons eok64 <| tabC_cons eok81 <| tabC_nil
theorem lp_RRoot_7 : LsOk Try.prog (bodyOf Try.f67 0) S_RRoot_7 := by
  refine lsOkH_of evEnv_ok.Γ (loopH_rule evEnv_ok cs_RRoot noCP_ok noCI_ok owOk_no (LS := []) (lsA_get (l := []) (by kernel_rfl) (lsA_nil)) (n := 2000) (X := Int × Int × Int × Bool) (fun x => H_RRoot_7 x.1 x.2.1 x.2.2.1 x.2.2.2) (fun x => I_RRoot_7 x.1 x.2.1 x.2.2.1 x.2.2.2) (fun x e s => (e = .exit 0 ∧ s = X_RRoot_7 x.1 x.2.1 x.2.2.1 x.2.2.2)) (fun x => (x.1 + 1).toNat) k_RRoot_7 ke_RRoot_7 kr_RRoot_7 ?_) k_RRoot_7 ?_
  · intro x hx
    obtain ⟨bit, n, r, up⟩ := x
    simp only [I_RRoot_7] at hx
    show sxH _ _ _ _ _ _ _ _ _ _ _ (H_RRoot_7 bit n r up) _
    rw [sx_RRoot_7]
    refine condI (fun h0 => ⟨?r0, condI (fun h1 => .inl ⟨rfl, (IntKind.i64.wrap (bit - (1 : Int)), n, IntKind.i64.wrap (r + IntKind.i64.wrap ((1 : Int) * (2 : Int) ^ min (IntKind.u64.wrap bit).toNat (64 : Nat))), up), by first | rfl | (simp only [H_RRoot_7, List.map_append, List.map_cons, List.map_nil]; rfl), ?_, ?_, ?_⟩) (fun h1 => .inl ⟨rfl, (IntKind.i64.wrap (bit - (1 : Int)), n, r, up), by first | rfl | (simp only [H_RRoot_7, List.map_append, List.map_cons, List.map_nil]; rfl), ?_, ?_, ?_⟩)⟩) (fun h0 => .inr ⟨by simp, _, rfl, ?_⟩)
    case r0 => show (0 : Int) ≤ IntKind.u64.wrap _; have hx0 := hx; simp only [decide_eq_true_eq] at h0; have hu : IntKind.u64.wrap bit = bit := (by simp [IntKind.wrap, IntKind.bits, IntKind.signed]; omega); omega
    all_goals try obtain ⟨a1, a2, a3⟩ := hx
    all_goals try simp only [decide_eq_true_eq, decide_eq_false_iff_not] at h0
    all_goals try have hu : IntKind.u64.wrap bit = bit := by simp [IntKind.wrap, IntKind.bits, IntKind.signed]; omega
    · have hm := pow_two h0 a1.2 a3
      obtain ⟨k1, k2, k3, k4, k5, k6⟩ := more_facts h0 a3
      simp only [hu, hm, wrap_fit (show Fit (r + 2 ^ bit.toNat) by constructor <;> omega), wrap_fit k5, decide_eq_true_eq] at h1
      simp only [hu, hm, wrap_fit (show Fit (r + 2 ^ bit.toNat) by constructor <;> omega), wrap_fit (show Fit (bit - 1) by constructor <;> omega), I_RRoot_7, k1]
      exact ⟨by omega, a2, by omega⟩
    · simp only [wrap_fit (show Fit (bit - 1) by constructor <;> omega)]; omega
    · have hm := pow_two h0 a1.2 a3
      obtain ⟨k1, k2, k3, k4, k5, k6⟩ := more_facts h0 a3
      simp only [hu, hm, wrap_fit (show Fit (r + 2 ^ bit.toNat) by constructor <;> omega), wrap_fit k5, decide_eq_true_eq] at h1
      simp only [hu, hm, wrap_fit (show Fit (r + 2 ^ bit.toNat) by constructor <;> omega), wrap_fit (show Fit (bit - 1) by constructor <;> omega), X_RRoot_7, k1, k2]
      intro e s h
      unfold rootL
      rw [if_pos h1]
      exact h
    · obtain ⟨k1, k2, k3, k4, k5, k6⟩ := more_facts h0 a3
      simp only [wrap_fit (show Fit (bit - 1) by constructor <;> omega), I_RRoot_7, k1]
      exact ⟨by omega, a2, by omega⟩
    · simp only [wrap_fit (show Fit (bit - 1) by constructor <;> omega)]; omega
    · have hm := pow_two h0 a1.2 a3
      obtain ⟨k1, k2, k3, k4, k5, k6⟩ := more_facts h0 a3
      simp only [hu, hm, wrap_fit (show Fit (r + 2 ^ bit.toNat) by constructor <;> omega), wrap_fit k5, decide_eq_false_iff_not] at h1
      simp only [wrap_fit (show Fit (bit - 1) by constructor <;> omega), X_RRoot_7, k1, k2]
      intro e s h
      unfold rootL
      rw [if_neg h1]
      exact h
    · have : (bit + 1).toNat = 0 := by omega
      exact ⟨rfl, by simp only [X_RRoot_7]; rw [this]; rfl⟩
  · intro σ K hS
    unfold S_RRoot_7 at hS
    split at hS
    · rename_i p1 p2 p3 p4 hk
      obtain ⟨hi, hK⟩ := alls_get hS
      refine ⟨(p1, p2, p3, p4), hk, hi _ (by simp), fun e s hf => ?_⟩
      obtain ⟨rfl, rfl⟩ := hf
      exact hK
    · exact hS.elim
theorem lok_RRoot : LoopsOk Try.prog [(7, S_RRoot_7)] Try.f67 := loopsOk_A (l := [bodyOf Try.f67 0]) (by kernel_rfl) (lsA_cons (i := 7) (by kernel_rfl) rfl lp_RRoot_7 (lsA_nil))
theorem sx_RRoot (a : Int) (up : Bool) (Q : PV → Prop) : sxF evEnv (tabC [(64, e64), (81, e81)]) noCP noCI noG [(7, S_RRoot_7)] 2000 Try.f67 [.v (.int .i64 a), .v (.bool up)] Q = (bif !inB a then Q (.tup [.v (.int IntKind.i64 ((0 : Int))), .v (.bool (false))]) else (bif decide (a < (0 : Int)) then Q (.tup [.v (.int IntKind.i64 ((0 : Int))), .v (.bool (false))]) else ((I_RRoot_7 (23 : Int) (IntKind.i64.wrap (a * (65536 : Int))) (0 : Int) up) ∧ (bif up then (bif IntKind.i64.wrap (rootL (24 : Nat) (IntKind.i64.wrap (a * (65536 : Int))) (0 : Int) * rootL (24 : Nat) (IntKind.i64.wrap (a * (65536 : Int))) (0 : Int)) != IntKind.i64.wrap (a * (65536 : Int)) then Q (.tup [.v (.int IntKind.i64 ((told (IntKind.i64.wrap (rootL (24 : Nat) (IntKind.i64.wrap (a * (65536 : Int))) (0 : Int) + (1 : Int)))).fst)), .v (.bool ((told (IntKind.i64.wrap (rootL (24 : Nat) (IntKind.i64.wrap (a * (65536 : Int))) (0 : Int) + (1 : Int)))).snd))]) else Q (.tup [.v (.int IntKind.i64 ((told (rootL (24 : Nat) (IntKind.i64.wrap (a * (65536 : Int))) (0 : Int))).fst)), .v (.bool ((told (rootL (24 : Nat) (IntKind.i64.wrap (a * (65536 : Int))) (0 : Int))).snd))])) else Q (.tup [.v (.int IntKind.i64 ((told (rootL (24 : Nat) (IntKind.i64.wrap (a * (65536 : Int))) (0 : Int))).fst)), .v (.bool ((told (rootL (24 : Nat) (IntKind.i64.wrap (a * (65536 : Int))) (0 : Int))).snd))]))))) := by kernel_rfl
theorem con_RRoot (a : Int) (up : Bool)  : Con Try.prog 67 [.v (.int .i64 a), .v (.bool up)] (.tup [.v (.int .i64 ((root a up).1)), .v (.bool ((root a up).2))]) := by
  refine con_fin evEnv_ok cs_RRoot noCP_ok noCI_ok owOk_no (n := 2000) (LS := [(7, S_RRoot_7)]) (fn := Try.f67) rfl lok_RRoot ?_
  rw [sx_RRoot]
  refine condI (fun h0 => ?_) (fun h0 => condI (fun h1 => ?_) (fun h1 => ⟨?_, condI (fun h2 => condI (fun h3 => ?_) (fun h3 => ?_)) (fun h2 => ?_)⟩))
  · simp_all [nz, nzA, root]
  · simp only [decide_eq_true_eq] at h1
    have : decide (0 ≤ a) = false := by simp; omega
    simp only [root, this, Bool.and_false, cond_false]; rfl
  all_goals simp only [Bool.not_eq_false', decide_eq_false_iff_not, inB_iff] at h0 h1
  all_goals try rw [wrap_fit (show Fit (a * 65536) by constructor <;> omega)] at *
  · exact ⟨by omega, by omega, by simp⟩
  all_goals have hf := root_fit (n := a * 65536)
  all_goals have hb : inB a = true := inB_iff.2 h0
  all_goals have h00 : decide (0 ≤ a) = true := by simp; omega
  all_goals have hb2 : inB (rootL 24 (a * 65536) 0) = true := inB_iff.2 (by omega)
  all_goals have hb3 : inB (rootL 24 (a * 65536) 0 + 1) = true := inB_iff.2 (by omega)
  all_goals have hsq := rootL_sq (n := a * 65536) (by omega)
  · rw [wrap_fit root_sq] at h3
    have h4 : decide (rootL 24 (a * 65536) 0 * rootL 24 (a * 65536) 0 < a * 65536) = true := by simp at h3 ⊢; omega
    rw [wrap_fit (by constructor <;> omega)]
    simp only [root, told, hb, hb3, h2, h4, h00, Bool.and_self, cond_true]; rfl
  · rw [wrap_fit root_sq] at h3
    have h4 : decide (rootL 24 (a * 65536) 0 * rootL 24 (a * 65536) 0 < a * 65536) = false := by simp at h3 ⊢; omega
    simp only [root, told, hb, hb2, h2, h4, h00, Bool.and_self, cond_true, cond_false, Bool.and_false]; rfl
  · simp only [root, told, hb, hb2, h2, h00, Bool.and_self, cond_true, cond_false, Bool.false_and]; rfl
theorem eok_RRoot : EntOk Try.prog 67 e_RRoot := by
  intro args r ps h hp
  unfold e_RRoot at h
  split at h
  · rename_i p1 p2
    cases (Option.some.inj h)
    exact con_RRoot p1 p2 
  · exact absurd h (by simp)
theorem eok67 : EntOk Try.prog 67 e67 := eok_RRoot
theorem sx_power_4 (i : Int) (out : Int) (n : Int) (Q : Ex → Option St → Prop) : sxH evEnv (tabC []) noCP noCI noG [] 2000 (bodyOf Try.f69 0) k_power_4 ke_power_4 kr_power_4 (H_power_4 i out n) Q = (bif decide (i < n) then Q (Ex.normal) (some ⟨11, [(5, .p (.v (.int IntKind.i64 (IntKind.i64.wrap (i + (1 : Int)))))), (3, .p (.v (.int IntKind.i64 (IntKind.i64.wrap (out * (10 : Int)))))), (4, .p (.v (.int IntKind.i64 (n))))], [], [], [], []⟩) else Q (Ex.exit (0 : Nat)) (some ⟨11, [(3, .p (.v (.int IntKind.i64 (out))))], [], [], [], []⟩)) := by kernel_rfl
theorem cs_power : CSOk Try.prog (tabC []) := tabC_nil
theorem lp_power_4 : LsOk Try.prog (bodyOf Try.f69 0) S_power_4 := by
  refine lsOkH_of evEnv_ok.Γ (loopH_rule evEnv_ok cs_power noCP_ok noCI_ok owOk_no (LS := []) (lsA_get (l := []) (by kernel_rfl) (lsA_nil)) (n := 2000) (X := Int × Int × Int) (fun x => H_power_4 x.1 x.2.1 x.2.2) (fun x => I_power_4 x.1 x.2.1 x.2.2) (fun x e s => (e = .exit 0 ∧ s = X_power_4 x.1 x.2.1 x.2.2)) (fun x => (x.2.2 - x.1).toNat) k_power_4 ke_power_4 kr_power_4 ?_) k_power_4 ?_
  · intro x hx
    obtain ⟨i, out, n⟩ := x
    simp only [I_power_4] at hx
    show sxH _ _ _ _ _ _ _ _ _ _ _ (H_power_4 i out n) _
    rw [sx_power_4]
    refine condI (fun h0 => .inl ⟨rfl, (IntKind.i64.wrap (i + (1 : Int)), IntKind.i64.wrap (out * (10 : Int)), n), by first | rfl | (simp only [H_power_4, List.map_append, List.map_cons, List.map_nil]; rfl), ?_, ?_, ?_⟩) (fun h0 => .inr ⟨by simp, _, rfl, ?_⟩)
    all_goals obtain ⟨a1, a2, a3, a4⟩ := hx
    all_goals simp only [decide_eq_true_eq, decide_eq_false_iff_not] at h0
    · have hw : IntKind.i64.wrap (i + 1) = i + 1 := wrap_fit (by constructor <;> omega)
      have h1 := pow10_pos i
      have h2 := pow10_18 (i := i + 1) (by omega)
      rw [pow10_succ a1] at h2
      rw [hw, wrap_fit (by constructor <;> omega)]
      simp only [I_power_4]
      exact ⟨by omega, by omega, a3, by rw [a4, pow10_succ a1]⟩
    · show (n - IntKind.i64.wrap (i + 1)).toNat < (n - i).toNat
      rw [wrap_fit (by constructor <;> omega)]; omega
    · exact fun e s h => h
    · have : i = n := by omega
      subst this
      exact ⟨rfl, by rw [a4]; rfl⟩
  · intro σ K hS
    unfold S_power_4 at hS
    split at hS
    · rename_i p1 p2 p3 hk
      obtain ⟨hi, hK⟩ := alls_get hS
      refine ⟨(p1, p2, p3), hk, hi _ (by simp), fun e s hf => ?_⟩
      obtain ⟨rfl, rfl⟩ := hf
      exact hK
    · exact hS.elim
theorem lok_power : LoopsOk Try.prog [(4, S_power_4)] Try.f69 := loopsOk_A (l := [bodyOf Try.f69 0]) (by kernel_rfl) (lsA_cons (i := 4) (by kernel_rfl) rfl lp_power_4 (lsA_nil))
theorem sx_power (n : Int) (Q : PV → Prop) : sxF evEnv (tabC []) noCP noCI noG [(4, S_power_4)] 2000 Try.f69 [.v (.int .i64 n)] Q = ((I_power_4 (0 : Int) (1 : Int) n) ∧ Q (.v (.int IntKind.i64 (pow10 n)))) := by kernel_rfl
theorem con_power (n : Int) (hp0 : 0 ≤ n ∧ n ≤ 18) : Con Try.prog 69 [.v (.int .i64 n)] (.v (.int .i64 (pow10 n))) := by
  refine con_fin evEnv_ok cs_power noCP_ok noCI_ok owOk_no (n := 2000) (LS := [(4, S_power_4)]) (fn := Try.f69) rfl lok_power ?_
  rw [sx_power]
  refine ⟨?_, ?_⟩
  · exact ⟨by omega, hp0.1, hp0.2, rfl⟩
  · rfl
theorem eok_power : EntOk Try.prog 69 e_power := by
  intro args r ps h hp
  unfold e_power at h
  split at h
  · rename_i p1
    cases (Option.some.inj h)
    exact con_power p1 (hp _ (by simp))
  · exact absurd h (by simp)
theorem eok69 : EntOk Try.prog 69 e69 := eok_power
theorem sx_ten_3 (k : Int) (out : Int) (Q : Ex → Option St → Prop) : sxH evEnv (tabC []) noCP noCI noG [] 2000 (bodyOf Try.f58 0) k_ten_3 ke_ten_3 kr_ten_3 (H_ten_3 k out) Q = (bif decide (k > (0 : Int)) then Q (Ex.normal) (some ⟨11, [(0, .p (.v (.int IntKind.i64 (IntKind.i64.wrap (k - (1 : Int)))))), (3, .p (.v (.int IntKind.i64 (IntKind.i64.wrap ((10 : Int) * out)))))], [], [], [], []⟩) else Q (Ex.exit (0 : Nat)) (some ⟨11, [(3, .p (.v (.int IntKind.i64 (out))))], [], [], [], []⟩)) := by kernel_rfl
theorem cs_ten : CSOk Try.prog (tabC []) := tabC_nil
theorem lp_ten_3 : LsOk Try.prog (bodyOf Try.f58 0) S_ten_3 := by
  refine lsOkH_of evEnv_ok.Γ (loopH_rule evEnv_ok cs_ten noCP_ok noCI_ok owOk_no (LS := []) (lsA_get (l := []) (by kernel_rfl) (lsA_nil)) (n := 2000) (X := Int × Int) (fun x => H_ten_3 x.1 x.2) (fun x => I_ten_3 x.1 x.2) (fun x e s => (e = .exit 0 ∧ s = X_ten_3 x.1 x.2)) (fun x => x.1.toNat) k_ten_3 ke_ten_3 kr_ten_3 ?_) k_ten_3 ?_
  · intro x hx
    obtain ⟨k, out⟩ := x
    simp only [I_ten_3] at hx
    show sxH _ _ _ _ _ _ _ _ _ _ _ (H_ten_3 k out) _
    rw [sx_ten_3]
    refine condI (fun h0 => .inl ⟨rfl, (IntKind.i64.wrap (k - (1 : Int)), IntKind.i64.wrap ((10 : Int) * out)), by first | rfl | (simp only [H_ten_3, List.map_append, List.map_cons, List.map_nil]; rfl), ?_, ?_, ?_⟩) (fun h0 => .inr ⟨by simp, _, rfl, ?_⟩)
    all_goals obtain ⟨a1, a2⟩ := hx
    all_goals simp only [decide_eq_true_eq, decide_eq_false_iff_not] at h0
    all_goals try have e1 : out * 10 * pow10 (k - 1) = out * pow10 k := by rw [Int.mul_assoc, Int.mul_comm 10, ← pow10_succ (by omega), Int.sub_add_cancel]
    all_goals try have e2 : out * 10 ≤ out * 10 * pow10 (k - 1) := by have := Int.mul_le_mul_of_nonneg_left (pow10_pos (k - 1)) (show 0 ≤ out * 10 by omega); omega
    all_goals try rw [wrap_fit (show Fit (k - 1) by constructor <;> omega)]
    · rw [wrap_fit (by constructor <;> omega)]
      exact ⟨by omega, by omega, by rw [Int.mul_comm 10 out, e1]; exact a2.2⟩
    · simp only; omega
    · rw [wrap_fit (by constructor <;> omega)]
      intro e s h
      simp only [X_ten_3] at h ⊢
      rw [Int.mul_comm 10 out, e1] at h
      exact h
    · have : k = 0 := by omega
      subst this
      exact ⟨rfl, by simp [X_ten_3, pow10]⟩
  · intro σ K hS
    unfold S_ten_3 at hS
    split at hS
    · rename_i p1 p2 hk
      obtain ⟨hi, hK⟩ := alls_get hS
      refine ⟨(p1, p2), hk, hi _ (by simp), fun e s hf => ?_⟩
      obtain ⟨rfl, rfl⟩ := hf
      exact hK
    · exact hS.elim
theorem lok_ten : LoopsOk Try.prog [(3, S_ten_3)] Try.f58 := loopsOk_A (l := [bodyOf Try.f58 0]) (by kernel_rfl) (lsA_cons (i := 3) (by kernel_rfl) rfl lp_ten_3 (lsA_nil))
theorem sx_ten (n : Int) (Q : PV → Prop) : sxF evEnv (tabC []) noCP noCI noG [(3, S_ten_3)] 2000 Try.f58 [.v (.int .i64 n)] Q = ((I_ten_3 n (1 : Int)) ∧ Q (.v (.int IntKind.i64 ((1 : Int) * pow10 n)))) := by kernel_rfl
theorem con_ten (n : Int) (hp0 : 0 ≤ n ∧ n ≤ 18) : Con Try.prog 58 [.v (.int .i64 n)] (.v (.int .i64 (pow10 n))) := by
  refine con_fin evEnv_ok cs_ten noCP_ok noCI_ok owOk_no (n := 2000) (LS := [(3, S_ten_3)]) (fn := Try.f58) rfl lok_ten ?_
  rw [sx_ten]
  refine ⟨?_, ?_⟩
  · exact ⟨hp0, by have := pow10_18 hp0.2; omega⟩
  · simp [nz, nzA]
theorem eok_ten : EntOk Try.prog 58 e_ten := by
  intro args r ps h hp
  unfold e_ten at h
  split at h
  · rename_i p1
    cases (Option.some.inj h)
    exact con_ten p1 (hp _ (by simp))
  · exact absurd h (by simp)
theorem eok58 : EntOk Try.prog 58 e58 := eok_ten
end Go.Men
namespace Go.Men
open Go.Ev Go.Proofs Go.Proofs.Ytoldgmhepeficaa
theorem sx_MulIv (a : Iv) (b : Iv) (Q : PV → Prop) : sxF evEnv (tabC [(77, e77), (24, e24), (79, e79), (76, e76)]) noCP noCI noG [] 2000 Try.f71 [.agg (Iv.enc a), .agg (Iv.enc b)] Q = (bif !both a b then Q (.agg [.v (.int IntKind.i64 ((0 : Int))), .v (.int IntKind.i64 ((0 : Int))), .v (.bool (true))]) else Q (.agg [.v (.int IntKind.i64 ((ends mul a b).lo)), .v (.int IntKind.i64 ((ends mul a b).hi)), .v (.bool ((ends mul a b).no))])) := by kernel_rfl
theorem cs_MulIv : CSOk Try.prog (tabC [(77, e77), (24, e24), (79, e79), (76, e76)]) := tabC_cons eok77 <| tabC_cons eok24 <| tabC_cons eok79 <| tabC_cons eok76 <| tabC_nil
theorem con_MulIv (a : Iv) (b : Iv)  : Con Try.prog 71 [.agg (Iv.enc a), .agg (Iv.enc b)] (.agg (Iv.enc (mulIv a b))) := by
  refine con_fin evEnv_ok cs_MulIv noCP_ok noCI_ok owOk_no (n := 2000) (LS := []) (fn := Try.f71) rfl loopsOk_nil ?_
  rw [sx_MulIv]
  refine condI (fun h0 => ?_) (fun h0 => ?_)
  all_goals (first | rfl | (simp_all [nz, nzA, nz1, Iv.enc, V.enc, Ray.enc, Dec.enc, Shape.enc, none', told, Bool.cond_decide, mulIv]; done) | (simp_all [nz, nzA, nz1, Iv.enc, V.enc, Ray.enc, Dec.enc, Shape.enc, none', told, Bool.cond_decide, mulIv]; omega) | (simp_all [nz, nzA, nz1, Iv.enc, V.enc, Ray.enc, Dec.enc, Shape.enc, none', told, Bool.cond_decide, mulIv]; (repeat' split) <;> (first | rfl | (exfalso; omega) | (simp_all; done) | omega)))
theorem eok_MulIv : EntOk Try.prog 71 e_MulIv := by
  intro args r ps h hp
  unfold e_MulIv at h
  split at h
  · rename_i p1 p2 p3 p4 p5 p6
    cases (Option.some.inj h)
    exact con_MulIv (⟨p1, p2, p3⟩ : Iv) (⟨p4, p5, p6⟩ : Iv) 
  · exact absurd h (by simp)
theorem eok71 : EntOk Try.prog 71 e71 := eok_MulIv
theorem sx_RMulIv (a : Iv) (b : Iv) (Q : PV → Prop) : sxF evEnv (tabC [(34, e34), (25, e25), (63, e63)]) noCP noCI noG [] 2000 Try.f60 [.agg (Iv.enc a), .agg (Iv.enc b)] Q = (bif !right a then Q (.agg [.v (.int IntKind.i64 ((0 : Int))), .v (.int IntKind.i64 ((0 : Int))), .v (.bool (true))]) else (bif !right b then Q (.agg [.v (.int IntKind.i64 ((0 : Int))), .v (.int IntKind.i64 ((0 : Int))), .v (.bool (true))]) else Q (.agg [.v (.int IntKind.i64 ((ends mul a b).lo)), .v (.int IntKind.i64 ((ends mul a b).hi)), .v (.bool ((ends mul a b).no))]))) := by kernel_rfl
theorem cs_RMulIv : CSOk Try.prog (tabC [(34, e34), (25, e25), (63, e63)]) := tabC_cons eok34 <| tabC_cons eok25 <| tabC_cons eok63 <| tabC_nil
theorem con_RMulIv (a : Iv) (b : Iv)  : Con Try.prog 60 [.agg (Iv.enc a), .agg (Iv.enc b)] (.agg (Iv.enc (mulIv a b))) := by
  refine con_fin evEnv_ok cs_RMulIv noCP_ok noCI_ok owOk_no (n := 2000) (LS := []) (fn := Try.f60) rfl loopsOk_nil ?_
  rw [sx_RMulIv]
  refine condI (fun h0 => ?_) (fun h0 => condI (fun h1 => ?_) (fun h1 => ?_))
  all_goals (first | rfl | (simp_all [nz, nzA, nz1, Iv.enc, V.enc, Ray.enc, Dec.enc, Shape.enc, none', told, Bool.cond_decide, both, mulIv]; done) | (simp_all [nz, nzA, nz1, Iv.enc, V.enc, Ray.enc, Dec.enc, Shape.enc, none', told, Bool.cond_decide, both, mulIv]; omega) | (simp_all [nz, nzA, nz1, Iv.enc, V.enc, Ray.enc, Dec.enc, Shape.enc, none', told, Bool.cond_decide, both, mulIv]; (repeat' split) <;> (first | rfl | (exfalso; omega) | (simp_all; done) | omega)))
theorem eok_RMulIv : EntOk Try.prog 60 e_RMulIv := by
  intro args r ps h hp
  unfold e_RMulIv at h
  split at h
  · rename_i p1 p2 p3 p4 p5 p6
    cases (Option.some.inj h)
    exact con_RMulIv (⟨p1, p2, p3⟩ : Iv) (⟨p4, p5, p6⟩ : Iv) 
  · exact absurd h (by simp)
theorem eok60 : EntOk Try.prog 60 e60 := eok_RMulIv
theorem sx_DivIv (a : Iv) (b : Iv) (Q : PV → Prop) : sxF evEnv (tabC [(77, e77), (78, e78), (24, e24), (79, e79), (80, e80)]) noCP noCI noG [] 2000 Try.f55 [.agg (Iv.enc a), .agg (Iv.enc b)] Q = (bif !both a b then Q (.agg [.v (.int IntKind.i64 ((0 : Int))), .v (.int IntKind.i64 ((0 : Int))), .v (.bool (true))]) else (bif Men.has b (0 : Int) then Q (.agg [.v (.int IntKind.i64 ((0 : Int))), .v (.int IntKind.i64 ((0 : Int))), .v (.bool (true))]) else Q (.agg [.v (.int IntKind.i64 ((ends div a b).lo)), .v (.int IntKind.i64 ((ends div a b).hi)), .v (.bool ((ends div a b).no))]))) := by kernel_rfl
theorem cs_DivIv : CSOk Try.prog (tabC [(77, e77), (78, e78), (24, e24), (79, e79), (80, e80)]) := tabC_cons eok77 <| tabC_cons eok78 <| tabC_cons eok24 <| tabC_cons eok79 <| tabC_cons eok80 <| tabC_nil
theorem con_DivIv (a : Iv) (b : Iv)  : Con Try.prog 55 [.agg (Iv.enc a), .agg (Iv.enc b)] (.agg (Iv.enc (divIv a b))) := by
  refine con_fin evEnv_ok cs_DivIv noCP_ok noCI_ok owOk_no (n := 2000) (LS := []) (fn := Try.f55) rfl loopsOk_nil ?_
  rw [sx_DivIv]
  refine condI (fun h0 => ?_) (fun h0 => condI (fun h1 => ?_) (fun h1 => ?_))
  all_goals (first | rfl | (simp_all [nz, nzA, nz1, Iv.enc, V.enc, Ray.enc, Dec.enc, Shape.enc, none', told, Bool.cond_decide, divIv]; done) | (simp_all [nz, nzA, nz1, Iv.enc, V.enc, Ray.enc, Dec.enc, Shape.enc, none', told, Bool.cond_decide, divIv]; omega) | (simp_all [nz, nzA, nz1, Iv.enc, V.enc, Ray.enc, Dec.enc, Shape.enc, none', told, Bool.cond_decide, divIv]; (repeat' split) <;> (first | rfl | (exfalso; omega) | (simp_all; done) | omega)))
theorem eok_DivIv : EntOk Try.prog 55 e_DivIv := by
  intro args r ps h hp
  unfold e_DivIv at h
  split at h
  · rename_i p1 p2 p3 p4 p5 p6
    cases (Option.some.inj h)
    exact con_DivIv (⟨p1, p2, p3⟩ : Iv) (⟨p4, p5, p6⟩ : Iv) 
  · exact absurd h (by simp)
theorem eok55 : EntOk Try.prog 55 e55 := eok_DivIv
theorem sx_RDivIv (a : Iv) (b : Iv) (Q : PV → Prop) : sxF evEnv (tabC [(34, e34), (25, e25), (63, e63)]) noCP noCI noG [] 2000 Try.f33 [.agg (Iv.enc a), .agg (Iv.enc b)] Q = (bif !right a then Q (.agg [.v (.int IntKind.i64 ((0 : Int))), .v (.int IntKind.i64 ((0 : Int))), .v (.bool (true))]) else (bif !right b then Q (.agg [.v (.int IntKind.i64 ((0 : Int))), .v (.int IntKind.i64 ((0 : Int))), .v (.bool (true))]) else (bif decide (b.lo ≤ (0 : Int)) then (bif decide (b.hi ≥ (0 : Int)) then Q (.agg [.v (.int IntKind.i64 ((0 : Int))), .v (.int IntKind.i64 ((0 : Int))), .v (.bool (true))]) else Q (.agg [.v (.int IntKind.i64 ((ends div a b).lo)), .v (.int IntKind.i64 ((ends div a b).hi)), .v (.bool ((ends div a b).no))])) else Q (.agg [.v (.int IntKind.i64 ((ends div a b).lo)), .v (.int IntKind.i64 ((ends div a b).hi)), .v (.bool ((ends div a b).no))])))) := by kernel_rfl
theorem cs_RDivIv : CSOk Try.prog (tabC [(34, e34), (25, e25), (63, e63)]) := tabC_cons eok34 <| tabC_cons eok25 <| tabC_cons eok63 <| tabC_nil
theorem con_RDivIv (a : Iv) (b : Iv)  : Con Try.prog 33 [.agg (Iv.enc a), .agg (Iv.enc b)] (.agg (Iv.enc (divIv a b))) := by
  refine con_fin evEnv_ok cs_RDivIv noCP_ok noCI_ok owOk_no (n := 2000) (LS := []) (fn := Try.f33) rfl loopsOk_nil ?_
  rw [sx_RDivIv]
  refine condI (fun h0 => ?_) (fun h0 => condI (fun h1 => ?_) (fun h1 => condI (fun h2 => condI (fun h3 => ?_) (fun h3 => ?_)) (fun h2 => ?_)))
  all_goals simp only [Bool.not_eq_true', Bool.not_eq_false', decide_eq_true_eq, decide_eq_false_iff_not] at *
  · simp [nz, nzA, nz1, divIv, both, h0, none', Iv.enc]
  · simp [nz, nzA, nz1, divIv, both, h0, h1, none', Iv.enc]
  · have hh : has b 0 = true := by simp [has, h1]; omega
    simp [nz, nzA, nz1, divIv, both, h0, h1, hh, none', Iv.enc]
  · have hh : has b 0 = false := by simp [has, h1]; omega
    simp [nz, nzA, nz1, divIv, both, h0, h1, hh, Iv.enc]
  · have hh : has b 0 = false := by simp [has, h1]; omega
    simp [nz, nzA, nz1, divIv, both, h0, h1, hh, Iv.enc]
theorem eok_RDivIv : EntOk Try.prog 33 e_RDivIv := by
  intro args r ps h hp
  unfold e_RDivIv at h
  split at h
  · rename_i p1 p2 p3 p4 p5 p6
    cases (Option.some.inj h)
    exact con_RDivIv (⟨p1, p2, p3⟩ : Iv) (⟨p4, p5, p6⟩ : Iv) 
  · exact absurd h (by simp)
theorem eok33 : EntOk Try.prog 33 e33 := eok_RDivIv
theorem sx_Sqr (a : Iv) (Q : PV → Prop) : sxF evEnv (tabC [(75, e75), (24, e24), (76, e76), (65, e65)]) noCP noCI noG [] 2000 Try.f54 [.agg (Iv.enc a)] Q = (bif !right a then Q (.agg [.v (.int IntKind.i64 ((0 : Int))), .v (.int IntKind.i64 ((0 : Int))), .v (.bool (true))]) else (bif !(mul (List.foldl imax (IntKind.i64.wrap ((0 : Int) - a.lo)) [a.hi]) (List.foldl imax (IntKind.i64.wrap ((0 : Int) - a.lo)) [a.hi]) true).snd then Q (.agg [.v (.int IntKind.i64 ((0 : Int))), .v (.int IntKind.i64 ((0 : Int))), .v (.bool (true))]) else Q (.agg [.v (.int IntKind.i64 ((of (mul (List.foldl imax a.lo [IntKind.i64.wrap ((0 : Int) - a.hi), (0 : Int)]) (List.foldl imax a.lo [IntKind.i64.wrap ((0 : Int) - a.hi), (0 : Int)]) false).fst (mul (List.foldl imax (IntKind.i64.wrap ((0 : Int) - a.lo)) [a.hi]) (List.foldl imax (IntKind.i64.wrap ((0 : Int) - a.lo)) [a.hi]) true).fst).lo)), .v (.int IntKind.i64 ((of (mul (List.foldl imax a.lo [IntKind.i64.wrap ((0 : Int) - a.hi), (0 : Int)]) (List.foldl imax a.lo [IntKind.i64.wrap ((0 : Int) - a.hi), (0 : Int)]) false).fst (mul (List.foldl imax (IntKind.i64.wrap ((0 : Int) - a.lo)) [a.hi]) (List.foldl imax (IntKind.i64.wrap ((0 : Int) - a.lo)) [a.hi]) true).fst).hi)), .v (.bool ((of (mul (List.foldl imax a.lo [IntKind.i64.wrap ((0 : Int) - a.hi), (0 : Int)]) (List.foldl imax a.lo [IntKind.i64.wrap ((0 : Int) - a.hi), (0 : Int)]) false).fst (mul (List.foldl imax (IntKind.i64.wrap ((0 : Int) - a.lo)) [a.hi]) (List.foldl imax (IntKind.i64.wrap ((0 : Int) - a.lo)) [a.hi]) true).fst).no))]))) := by kernel_rfl
theorem cs_Sqr : CSOk Try.prog (tabC [(75, e75), (24, e24), (76, e76), (65, e65)]) := tabC_cons eok75 <| tabC_cons eok24 <| tabC_cons eok76 <| tabC_cons eok65 <| tabC_nil
theorem con_Sqr (a : Iv)  : Con Try.prog 54 [.agg (Iv.enc a)] (.agg (Iv.enc (sqr a))) := by
  refine con_fin evEnv_ok cs_Sqr noCP_ok noCI_ok owOk_no (n := 2000) (LS := []) (fn := Try.f54) rfl loopsOk_nil ?_
  rw [sx_Sqr]
  refine condI (fun h0 => ?_) (fun h0 => condI (fun h1 => ?_) (fun h1 => ?_))
  all_goals simp only [Bool.not_eq_true', Bool.not_eq_false', List.foldl, imax_eq, imin_eq] at *
  · simp [nz, nzA, nz1, sqr, h0, none', Iv.enc]
  all_goals have ha := right_bd h0
  all_goals rw [zero_sub_fit (n := a.lo) (by omega)] at *
  all_goals try rw [zero_sub_fit (n := a.hi) (by omega)]
  · simp [nz, nzA, nz1, sqr, h0, far, h1, none', Iv.enc]
  · simp [nz, nzA, nz1, sqr, h0, far, near, h1, Iv.enc]
theorem eok_Sqr : EntOk Try.prog 54 e_Sqr := by
  intro args r ps h hp
  unfold e_Sqr at h
  split at h
  · rename_i p1 p2 p3
    cases (Option.some.inj h)
    exact con_Sqr (⟨p1, p2, p3⟩ : Iv) 
  · exact absurd h (by simp)
theorem eok54 : EntOk Try.prog 54 e54 := eok_Sqr
theorem sx_RSqr (a : Iv) (Q : PV → Prop) : sxF evEnv (tabC [(34, e34), (25, e25), (62, e62), (56, e56)]) noCP noCI noG [] 2000 Try.f32 [.agg (Iv.enc a)] Q = (bif !right a then Q (.agg [.v (.int IntKind.i64 ((0 : Int))), .v (.int IntKind.i64 ((0 : Int))), .v (.bool (true))]) else (bif decide (a.lo ≤ (0 : Int)) then (bif decide (a.hi ≥ (0 : Int)) then (bif !(mul (List.foldl imax a.lo [IntKind.i64.wrap ((0 : Int) - a.lo), a.hi, IntKind.i64.wrap ((0 : Int) - a.hi)]) (List.foldl imax a.lo [IntKind.i64.wrap ((0 : Int) - a.lo), a.hi, IntKind.i64.wrap ((0 : Int) - a.hi)]) true).snd then Q (.agg [.v (.int IntKind.i64 ((0 : Int))), .v (.int IntKind.i64 ((0 : Int))), .v (.bool (true))]) else Q (.agg [.v (.int IntKind.i64 ((of (0 : Int) (mul (List.foldl imax a.lo [IntKind.i64.wrap ((0 : Int) - a.lo), a.hi, IntKind.i64.wrap ((0 : Int) - a.hi)]) (List.foldl imax a.lo [IntKind.i64.wrap ((0 : Int) - a.lo), a.hi, IntKind.i64.wrap ((0 : Int) - a.hi)]) true).fst).lo)), .v (.int IntKind.i64 ((of (0 : Int) (mul (List.foldl imax a.lo [IntKind.i64.wrap ((0 : Int) - a.lo), a.hi, IntKind.i64.wrap ((0 : Int) - a.hi)]) (List.foldl imax a.lo [IntKind.i64.wrap ((0 : Int) - a.lo), a.hi, IntKind.i64.wrap ((0 : Int) - a.hi)]) true).fst).hi)), .v (.bool ((of (0 : Int) (mul (List.foldl imax a.lo [IntKind.i64.wrap ((0 : Int) - a.lo), a.hi, IntKind.i64.wrap ((0 : Int) - a.hi)]) (List.foldl imax a.lo [IntKind.i64.wrap ((0 : Int) - a.lo), a.hi, IntKind.i64.wrap ((0 : Int) - a.hi)]) true).fst).no))])) else (bif !(mul (List.foldl imax a.lo [IntKind.i64.wrap ((0 : Int) - a.lo), a.hi, IntKind.i64.wrap ((0 : Int) - a.hi)]) (List.foldl imax a.lo [IntKind.i64.wrap ((0 : Int) - a.lo), a.hi, IntKind.i64.wrap ((0 : Int) - a.hi)]) true).snd then Q (.agg [.v (.int IntKind.i64 ((0 : Int))), .v (.int IntKind.i64 ((0 : Int))), .v (.bool (true))]) else Q (.agg [.v (.int IntKind.i64 ((of (mul (List.foldl imin (List.foldl imax a.lo [IntKind.i64.wrap ((0 : Int) - a.lo)]) [List.foldl imax a.hi [IntKind.i64.wrap ((0 : Int) - a.hi)]]) (List.foldl imin (List.foldl imax a.lo [IntKind.i64.wrap ((0 : Int) - a.lo)]) [List.foldl imax a.hi [IntKind.i64.wrap ((0 : Int) - a.hi)]]) false).fst (mul (List.foldl imax a.lo [IntKind.i64.wrap ((0 : Int) - a.lo), a.hi, IntKind.i64.wrap ((0 : Int) - a.hi)]) (List.foldl imax a.lo [IntKind.i64.wrap ((0 : Int) - a.lo), a.hi, IntKind.i64.wrap ((0 : Int) - a.hi)]) true).fst).lo)), .v (.int IntKind.i64 ((of (mul (List.foldl imin (List.foldl imax a.lo [IntKind.i64.wrap ((0 : Int) - a.lo)]) [List.foldl imax a.hi [IntKind.i64.wrap ((0 : Int) - a.hi)]]) (List.foldl imin (List.foldl imax a.lo [IntKind.i64.wrap ((0 : Int) - a.lo)]) [List.foldl imax a.hi [IntKind.i64.wrap ((0 : Int) - a.hi)]]) false).fst (mul (List.foldl imax a.lo [IntKind.i64.wrap ((0 : Int) - a.lo), a.hi, IntKind.i64.wrap ((0 : Int) - a.hi)]) (List.foldl imax a.lo [IntKind.i64.wrap ((0 : Int) - a.lo), a.hi, IntKind.i64.wrap ((0 : Int) - a.hi)]) true).fst).hi)), .v (.bool ((of (mul (List.foldl imin (List.foldl imax a.lo [IntKind.i64.wrap ((0 : Int) - a.lo)]) [List.foldl imax a.hi [IntKind.i64.wrap ((0 : Int) - a.hi)]]) (List.foldl imin (List.foldl imax a.lo [IntKind.i64.wrap ((0 : Int) - a.lo)]) [List.foldl imax a.hi [IntKind.i64.wrap ((0 : Int) - a.hi)]]) false).fst (mul (List.foldl imax a.lo [IntKind.i64.wrap ((0 : Int) - a.lo), a.hi, IntKind.i64.wrap ((0 : Int) - a.hi)]) (List.foldl imax a.lo [IntKind.i64.wrap ((0 : Int) - a.lo), a.hi, IntKind.i64.wrap ((0 : Int) - a.hi)]) true).fst).no))]))) else (bif !(mul (List.foldl imax a.lo [IntKind.i64.wrap ((0 : Int) - a.lo), a.hi, IntKind.i64.wrap ((0 : Int) - a.hi)]) (List.foldl imax a.lo [IntKind.i64.wrap ((0 : Int) - a.lo), a.hi, IntKind.i64.wrap ((0 : Int) - a.hi)]) true).snd then Q (.agg [.v (.int IntKind.i64 ((0 : Int))), .v (.int IntKind.i64 ((0 : Int))), .v (.bool (true))]) else Q (.agg [.v (.int IntKind.i64 ((of (mul (List.foldl imin (List.foldl imax a.lo [IntKind.i64.wrap ((0 : Int) - a.lo)]) [List.foldl imax a.hi [IntKind.i64.wrap ((0 : Int) - a.hi)]]) (List.foldl imin (List.foldl imax a.lo [IntKind.i64.wrap ((0 : Int) - a.lo)]) [List.foldl imax a.hi [IntKind.i64.wrap ((0 : Int) - a.hi)]]) false).fst (mul (List.foldl imax a.lo [IntKind.i64.wrap ((0 : Int) - a.lo), a.hi, IntKind.i64.wrap ((0 : Int) - a.hi)]) (List.foldl imax a.lo [IntKind.i64.wrap ((0 : Int) - a.lo), a.hi, IntKind.i64.wrap ((0 : Int) - a.hi)]) true).fst).lo)), .v (.int IntKind.i64 ((of (mul (List.foldl imin (List.foldl imax a.lo [IntKind.i64.wrap ((0 : Int) - a.lo)]) [List.foldl imax a.hi [IntKind.i64.wrap ((0 : Int) - a.hi)]]) (List.foldl imin (List.foldl imax a.lo [IntKind.i64.wrap ((0 : Int) - a.lo)]) [List.foldl imax a.hi [IntKind.i64.wrap ((0 : Int) - a.hi)]]) false).fst (mul (List.foldl imax a.lo [IntKind.i64.wrap ((0 : Int) - a.lo), a.hi, IntKind.i64.wrap ((0 : Int) - a.hi)]) (List.foldl imax a.lo [IntKind.i64.wrap ((0 : Int) - a.lo), a.hi, IntKind.i64.wrap ((0 : Int) - a.hi)]) true).fst).hi)), .v (.bool ((of (mul (List.foldl imin (List.foldl imax a.lo [IntKind.i64.wrap ((0 : Int) - a.lo)]) [List.foldl imax a.hi [IntKind.i64.wrap ((0 : Int) - a.hi)]]) (List.foldl imin (List.foldl imax a.lo [IntKind.i64.wrap ((0 : Int) - a.lo)]) [List.foldl imax a.hi [IntKind.i64.wrap ((0 : Int) - a.hi)]]) false).fst (mul (List.foldl imax a.lo [IntKind.i64.wrap ((0 : Int) - a.lo), a.hi, IntKind.i64.wrap ((0 : Int) - a.hi)]) (List.foldl imax a.lo [IntKind.i64.wrap ((0 : Int) - a.lo), a.hi, IntKind.i64.wrap ((0 : Int) - a.hi)]) true).fst).no))])))) := by kernel_rfl
theorem cs_RSqr : CSOk Try.prog (tabC [(34, e34), (25, e25), (62, e62), (56, e56)]) := tabC_cons eok34 <| tabC_cons eok25 <| tabC_cons eok62 <| tabC_cons eok56 <| tabC_nil
theorem con_RSqr (a : Iv)  : Con Try.prog 32 [.agg (Iv.enc a)] (.agg (Iv.enc (sqr a))) := by
  refine con_fin evEnv_ok cs_RSqr noCP_ok noCI_ok owOk_no (n := 2000) (LS := []) (fn := Try.f32) rfl loopsOk_nil ?_
  rw [sx_RSqr]
  refine condI (fun h0 => ?_) (fun h0 => condI (fun h1 => condI (fun h2 => condI (fun h3 => ?_) (fun h3 => ?_)) (fun h2 => condI (fun h3 => ?_) (fun h3 => ?_))) (fun h1 => condI (fun h2 => ?_) (fun h2 => ?_)))
  all_goals simp only [Bool.not_eq_true', Bool.not_eq_false', List.foldl, imax_eq, imin_eq] at *
  · simp [nz, nzA, nz1, sqr, h0, none', Iv.enc]
  all_goals have ha := right_bd h0
  all_goals rw [zero_sub_fit (n := a.lo) (by omega), zero_sub_fit (n := a.hi) (by omega)] at *
  all_goals rw [show max (max (max a.lo (-a.lo)) a.hi) (-a.hi) = far a by unfold far; omega] at *
  · simp [nz, nzA, nz1, sqr, h0, h3, none', Iv.enc]
  · simp only [decide_eq_true_eq] at h1 h2
    have e : near a = 0 := by unfold near; omega
    simp [nz, nzA, nz1, sqr, h0, h3, e, Iv.enc, show (mul 0 0 false).1 = 0 from rfl]
  · simp [nz, nzA, nz1, sqr, h0, h3, none', Iv.enc]
  · simp only [decide_eq_true_eq, decide_eq_false_iff_not] at h1 h2
    have e : min (max a.lo (-a.lo)) (max a.hi (-a.hi)) = near a := by unfold near; omega
    rw [e]
    simp [nz, nzA, nz1, sqr, h0, h3, Iv.enc]
  · simp [nz, nzA, nz1, sqr, h0, h2, none', Iv.enc]
  · simp only [decide_eq_false_iff_not] at h1
    have e : min (max a.lo (-a.lo)) (max a.hi (-a.hi)) = near a := by unfold near; omega
    rw [e]
    simp [nz, nzA, nz1, sqr, h0, h2, Iv.enc]
theorem eok_RSqr : EntOk Try.prog 32 e_RSqr := by
  intro args r ps h hp
  unfold e_RSqr at h
  split at h
  · rename_i p1 p2 p3
    cases (Option.some.inj h)
    exact con_RSqr (⟨p1, p2, p3⟩ : Iv) 
  · exact absurd h (by simp)
theorem eok32 : EntOk Try.prog 32 e32 := eok_RSqr
theorem sx_RootIv (a : Iv) (Q : PV → Prop) : sxF evEnv (tabC [(75, e75), (24, e24), (83, e83), (65, e65)]) noCP noCI noG [] 2000 Try.f72 [.agg (Iv.enc a)] Q = (bif !right a then Q (.agg [.v (.int IntKind.i64 ((0 : Int))), .v (.int IntKind.i64 ((0 : Int))), .v (.bool (true))]) else (bif decide (a.lo < (0 : Int)) then Q (.agg [.v (.int IntKind.i64 ((0 : Int))), .v (.int IntKind.i64 ((0 : Int))), .v (.bool (true))]) else Q (.agg [.v (.int IntKind.i64 ((of (root a.lo false).fst (root a.hi true).fst).lo)), .v (.int IntKind.i64 ((of (root a.lo false).fst (root a.hi true).fst).hi)), .v (.bool ((of (root a.lo false).fst (root a.hi true).fst).no))]))) := by kernel_rfl
theorem cs_RootIv : CSOk Try.prog (tabC [(75, e75), (24, e24), (83, e83), (65, e65)]) := tabC_cons eok75 <| tabC_cons eok24 <| tabC_cons eok83 <| tabC_cons eok65 <| tabC_nil
theorem con_RootIv (a : Iv)  : Con Try.prog 72 [.agg (Iv.enc a)] (.agg (Iv.enc (rootIv a))) := by
  refine con_fin evEnv_ok cs_RootIv noCP_ok noCI_ok owOk_no (n := 2000) (LS := []) (fn := Try.f72) rfl loopsOk_nil ?_
  rw [sx_RootIv]
  refine condI (fun h0 => ?_) (fun h0 => condI (fun h1 => ?_) (fun h1 => ?_))
  all_goals (first | rfl | (simp_all [nz, nzA, nz1, Iv.enc, V.enc, Ray.enc, Dec.enc, Shape.enc, none', told, Bool.cond_decide, rootIv]; done) | (simp_all [nz, nzA, nz1, Iv.enc, V.enc, Ray.enc, Dec.enc, Shape.enc, none', told, Bool.cond_decide, rootIv]; omega) | (simp_all [nz, nzA, nz1, Iv.enc, V.enc, Ray.enc, Dec.enc, Shape.enc, none', told, Bool.cond_decide, rootIv]; (repeat' split) <;> (first | rfl | (exfalso; omega) | (simp_all; done) | omega)))
theorem eok_RootIv : EntOk Try.prog 72 e_RootIv := by
  intro args r ps h hp
  unfold e_RootIv at h
  split at h
  · rename_i p1 p2 p3
    cases (Option.some.inj h)
    exact con_RootIv (⟨p1, p2, p3⟩ : Iv) 
  · exact absurd h (by simp)
theorem eok72 : EntOk Try.prog 72 e72 := eok_RootIv
theorem sx_RRootIv (a : Iv) (Q : PV → Prop) : sxF evEnv (tabC [(34, e34), (25, e25), (67, e67), (56, e56)]) noCP noCI noG [] 2000 Try.f39 [.agg (Iv.enc a)] Q = (bif !right a then Q (.agg [.v (.int IntKind.i64 ((0 : Int))), .v (.int IntKind.i64 ((0 : Int))), .v (.bool (true))]) else (bif decide (a.lo < (0 : Int)) then Q (.agg [.v (.int IntKind.i64 ((0 : Int))), .v (.int IntKind.i64 ((0 : Int))), .v (.bool (true))]) else Q (.agg [.v (.int IntKind.i64 ((of (root a.lo false).fst (root a.hi true).fst).lo)), .v (.int IntKind.i64 ((of (root a.lo false).fst (root a.hi true).fst).hi)), .v (.bool ((of (root a.lo false).fst (root a.hi true).fst).no))]))) := by kernel_rfl
theorem cs_RRootIv : CSOk Try.prog (tabC [(34, e34), (25, e25), (67, e67), (56, e56)]) := tabC_cons eok34 <| tabC_cons eok25 <| tabC_cons eok67 <| tabC_cons eok56 <| tabC_nil
theorem con_RRootIv (a : Iv)  : Con Try.prog 39 [.agg (Iv.enc a)] (.agg (Iv.enc (rootIv a))) := by
  refine con_fin evEnv_ok cs_RRootIv noCP_ok noCI_ok owOk_no (n := 2000) (LS := []) (fn := Try.f39) rfl loopsOk_nil ?_
  rw [sx_RRootIv]
  refine condI (fun h0 => ?_) (fun h0 => condI (fun h1 => ?_) (fun h1 => ?_))
  all_goals (first | rfl | (simp_all [nz, nzA, nz1, Iv.enc, V.enc, Ray.enc, Dec.enc, Shape.enc, none', told, Bool.cond_decide, rootIv]; done) | (simp_all [nz, nzA, nz1, Iv.enc, V.enc, Ray.enc, Dec.enc, Shape.enc, none', told, Bool.cond_decide, rootIv]; omega) | (simp_all [nz, nzA, nz1, Iv.enc, V.enc, Ray.enc, Dec.enc, Shape.enc, none', told, Bool.cond_decide, rootIv]; (repeat' split) <;> (first | rfl | (exfalso; omega) | (simp_all; done) | omega)))
theorem eok_RRootIv : EntOk Try.prog 39 e_RRootIv := by
  intro args r ps h hp
  unfold e_RRootIv at h
  split at h
  · rename_i p1 p2 p3
    cases (Option.some.inj h)
    exact con_RRootIv (⟨p1, p2, p3⟩ : Iv) 
  · exact absurd h (by simp)
theorem eok39 : EntOk Try.prog 39 e39 := eok_RRootIv
theorem sx_Near (a : Iv) (b : Iv) (c : Iv) (Q : PV → Prop) : sxF evEnv (tabC [(54, e54), (71, e71), (53, e53), (24, e24), (72, e72), (55, e55)]) noCP noCI noG [] 2000 Try.f50 [.agg (Iv.enc a), .agg (Iv.enc b), .agg (Iv.enc c)] Q = (bif (sub (sqr b) (mulIv a c)).no then Q (.tup [.agg [.v (.int IntKind.i64 ((0 : Int))), .v (.int IntKind.i64 ((0 : Int))), .v (.bool (true))], .v (.int IntKind.i64 ((0 : Int)))]) else (bif decide ((sub (sqr b) (mulIv a c)).hi < (0 : Int)) then Q (.tup [.agg [.v (.int IntKind.i64 ((0 : Int))), .v (.int IntKind.i64 ((0 : Int))), .v (.bool (true))], .v (.int IntKind.i64 ((2 : Int)))]) else (bif decide ((sub (sqr b) (mulIv a c)).lo < (0 : Int)) then Q (.tup [.agg [.v (.int IntKind.i64 ((0 : Int))), .v (.int IntKind.i64 ((0 : Int))), .v (.bool (true))], .v (.int IntKind.i64 ((0 : Int)))]) else (bif (divIv c (sub (rootIv (sub (sqr b) (mulIv a c))) b)).no then Q (.tup [.agg [.v (.int IntKind.i64 ((0 : Int))), .v (.int IntKind.i64 ((0 : Int))), .v (.bool (true))], .v (.int IntKind.i64 ((0 : Int)))]) else Q (.tup [.agg [.v (.int IntKind.i64 ((divIv c (sub (rootIv (sub (sqr b) (mulIv a c))) b)).lo)), .v (.int IntKind.i64 ((divIv c (sub (rootIv (sub (sqr b) (mulIv a c))) b)).hi)), .v (.bool ((divIv c (sub (rootIv (sub (sqr b) (mulIv a c))) b)).no))], .v (.int IntKind.i64 ((1 : Int)))]))))) := by kernel_rfl
theorem cs_Near : CSOk Try.prog (tabC [(54, e54), (71, e71), (53, e53), (24, e24), (72, e72), (55, e55)]) := tabC_cons eok54 <| tabC_cons eok71 <| tabC_cons eok53 <| tabC_cons eok24 <| tabC_cons eok72 <| tabC_cons eok55 <| tabC_nil
theorem con_Near (a : Iv) (b : Iv) (c : Iv)  : Con Try.prog 50 [.agg (Iv.enc a), .agg (Iv.enc b), .agg (Iv.enc c)] (.tup [.agg (Iv.enc ((nearR a b c).1)), .v (.int .i64 ((nearR a b c).2))]) := by
  refine con_fin evEnv_ok cs_Near noCP_ok noCI_ok owOk_no (n := 2000) (LS := []) (fn := Try.f50) rfl loopsOk_nil ?_
  rw [sx_Near]
  refine condI (fun h0 => ?_) (fun h0 => condI (fun h1 => ?_) (fun h1 => condI (fun h2 => ?_) (fun h2 => condI (fun h3 => ?_) (fun h3 => ?_))))
  all_goals simp only [nearR, *, cond_true, cond_false]
  all_goals first | rfl | (simp [nz, nzA, nz1, Iv.enc, *])
theorem eok_Near : EntOk Try.prog 50 e_Near := by
  intro args r ps h hp
  unfold e_Near at h
  split at h
  · rename_i p1 p2 p3 p4 p5 p6 p7 p8 p9
    cases (Option.some.inj h)
    exact con_Near (⟨p1, p2, p3⟩ : Iv) (⟨p4, p5, p6⟩ : Iv) (⟨p7, p8, p9⟩ : Iv) 
  · exact absurd h (by simp)
theorem eok50 : EntOk Try.prog 50 e50 := eok_Near
theorem sx_RNear (a : Iv) (b : Iv) (c : Iv) (Q : PV → Prop) : sxF evEnv (tabC [(32, e32), (60, e60), (31, e31), (34, e34), (25, e25), (39, e39), (33, e33)]) noCP noCI noG [] 2000 Try.f28 [.agg (Iv.enc a), .agg (Iv.enc b), .agg (Iv.enc c)] Q = (bif !right (sub (sqr b) (mulIv a c)) then Q (.tup [.agg [.v (.int IntKind.i64 ((0 : Int))), .v (.int IntKind.i64 ((0 : Int))), .v (.bool (true))], .v (.int IntKind.i64 ((0 : Int)))]) else (bif decide ((sub (sqr b) (mulIv a c)).hi < (0 : Int)) then Q (.tup [.agg [.v (.int IntKind.i64 ((0 : Int))), .v (.int IntKind.i64 ((0 : Int))), .v (.bool (true))], .v (.int IntKind.i64 ((2 : Int)))]) else (bif decide ((sub (sqr b) (mulIv a c)).lo < (0 : Int)) then Q (.tup [.agg [.v (.int IntKind.i64 ((0 : Int))), .v (.int IntKind.i64 ((0 : Int))), .v (.bool (true))], .v (.int IntKind.i64 ((0 : Int)))]) else (bif !right (divIv c (sub (rootIv (sub (sqr b) (mulIv a c))) b)) then Q (.tup [.agg [.v (.int IntKind.i64 ((0 : Int))), .v (.int IntKind.i64 ((0 : Int))), .v (.bool (true))], .v (.int IntKind.i64 ((0 : Int)))]) else Q (.tup [.agg [.v (.int IntKind.i64 ((divIv c (sub (rootIv (sub (sqr b) (mulIv a c))) b)).lo)), .v (.int IntKind.i64 ((divIv c (sub (rootIv (sub (sqr b) (mulIv a c))) b)).hi)), .v (.bool ((divIv c (sub (rootIv (sub (sqr b) (mulIv a c))) b)).no))], .v (.int IntKind.i64 ((1 : Int)))]))))) := by kernel_rfl
theorem cs_RNear : CSOk Try.prog (tabC [(32, e32), (60, e60), (31, e31), (34, e34), (25, e25), (39, e39), (33, e33)]) := tabC_cons eok32 <| tabC_cons eok60 <| tabC_cons eok31 <| tabC_cons eok34 <| tabC_cons eok25 <| tabC_cons eok39 <| tabC_cons eok33 <| tabC_nil
theorem con_RNear (a : Iv) (b : Iv) (c : Iv)  : Con Try.prog 28 [.agg (Iv.enc a), .agg (Iv.enc b), .agg (Iv.enc c)] (.tup [.agg (Iv.enc ((nearR a b c).1)), .v (.int .i64 ((nearR a b c).2))]) := by
  refine con_fin evEnv_ok cs_RNear noCP_ok noCI_ok owOk_no (n := 2000) (LS := []) (fn := Try.f28) rfl loopsOk_nil ?_
  rw [sx_RNear]
  refine condI (fun h0 => ?_) (fun h0 => condI (fun h1 => ?_) (fun h1 => condI (fun h2 => ?_) (fun h2 => condI (fun h3 => ?_) (fun h3 => ?_))))
  all_goals simp only [ok_sub, ok_divIv, Bool.not_not] at *
  all_goals simp only [nearR, *, cond_true, cond_false]
  all_goals first | rfl | (simp [nz, nzA, nz1, Iv.enc, *])
theorem eok_RNear : EntOk Try.prog 28 e_RNear := by
  intro args r ps h hp
  unfold e_RNear at h
  split at h
  · rename_i p1 p2 p3 p4 p5 p6 p7 p8 p9
    cases (Option.some.inj h)
    exact con_RNear (⟨p1, p2, p3⟩ : Iv) (⟨p4, p5, p6⟩ : Iv) (⟨p7, p8, p9⟩ : Iv) 
  · exact absurd h (by simp)
theorem eok28 : EntOk Try.prog 28 e28 := eok_RNear
theorem sx_VOf (x : Iv) (y : Iv) (z : Iv) (Q : PV → Prop) : sxF evEnv (tabC []) noCP noCI noG [] 2000 Try.f48 [.agg (Iv.enc x), .agg (Iv.enc y), .agg (Iv.enc z)] Q = Q (.agg [.v (.int IntKind.i64 (x.lo)), .v (.int IntKind.i64 (x.hi)), .v (.bool (x.no)), .v (.int IntKind.i64 (y.lo)), .v (.int IntKind.i64 (y.hi)), .v (.bool (y.no)), .v (.int IntKind.i64 (z.lo)), .v (.int IntKind.i64 (z.hi)), .v (.bool (z.no))]) := by kernel_rfl
theorem cs_VOf : CSOk Try.prog (tabC []) := tabC_nil
theorem con_VOf (x : Iv) (y : Iv) (z : Iv)  : Con Try.prog 48 [.agg (Iv.enc x), .agg (Iv.enc y), .agg (Iv.enc z)] (.agg (V.enc (⟨x, y, z⟩ : V))) := by
  refine con_fin evEnv_ok cs_VOf noCP_ok noCI_ok owOk_no (n := 2000) (LS := []) (fn := Try.f48) rfl loopsOk_nil ?_
  rw [sx_VOf]
  refine ?_
  all_goals (first | rfl | (simp_all [nz, nzA, nz1, Iv.enc, V.enc, Ray.enc, Dec.enc, Shape.enc, none', told, Bool.cond_decide]; done) | (simp_all [nz, nzA, nz1, Iv.enc, V.enc, Ray.enc, Dec.enc, Shape.enc, none', told, Bool.cond_decide]; omega) | (simp_all [nz, nzA, nz1, Iv.enc, V.enc, Ray.enc, Dec.enc, Shape.enc, none', told, Bool.cond_decide]; (repeat' split) <;> (first | rfl | (exfalso; omega) | (simp_all; done) | omega)))
theorem eok_VOf : EntOk Try.prog 48 e_VOf := by
  intro args r ps h hp
  unfold e_VOf at h
  split at h
  · rename_i p1 p2 p3 p4 p5 p6 p7 p8 p9
    cases (Option.some.inj h)
    exact con_VOf (⟨p1, p2, p3⟩ : Iv) (⟨p4, p5, p6⟩ : Iv) (⟨p7, p8, p9⟩ : Iv) 
  · exact absurd h (by simp)
theorem eok48 : EntOk Try.prog 48 e48 := eok_VOf
theorem sx_VSub (a : V) (b : V) (Q : PV → Prop) : sxF evEnv (tabC [(53, e53), (48, e48)]) noCP noCI noG [] 2000 Try.f47 [.agg (V.enc a), .agg (V.enc b)] Q = Q (.agg [.v (.int IntKind.i64 ((sub a.x b.x).lo)), .v (.int IntKind.i64 ((sub a.x b.x).hi)), .v (.bool ((sub a.x b.x).no)), .v (.int IntKind.i64 ((sub a.y b.y).lo)), .v (.int IntKind.i64 ((sub a.y b.y).hi)), .v (.bool ((sub a.y b.y).no)), .v (.int IntKind.i64 ((sub a.z b.z).lo)), .v (.int IntKind.i64 ((sub a.z b.z).hi)), .v (.bool ((sub a.z b.z).no))]) := by kernel_rfl
theorem cs_VSub : CSOk Try.prog (tabC [(53, e53), (48, e48)]) := tabC_cons eok53 <| tabC_cons eok48 <| tabC_nil
theorem con_VSub (a : V) (b : V)  : Con Try.prog 47 [.agg (V.enc a), .agg (V.enc b)] (.agg (V.enc (subV a b))) := by
  refine con_fin evEnv_ok cs_VSub noCP_ok noCI_ok owOk_no (n := 2000) (LS := []) (fn := Try.f47) rfl loopsOk_nil ?_
  rw [sx_VSub]
  refine ?_
  all_goals (first | rfl | (simp_all [nz, nzA, nz1, Iv.enc, V.enc, Ray.enc, Dec.enc, Shape.enc, none', told, Bool.cond_decide, subV]; done) | (simp_all [nz, nzA, nz1, Iv.enc, V.enc, Ray.enc, Dec.enc, Shape.enc, none', told, Bool.cond_decide, subV]; omega) | (simp_all [nz, nzA, nz1, Iv.enc, V.enc, Ray.enc, Dec.enc, Shape.enc, none', told, Bool.cond_decide, subV]; (repeat' split) <;> (first | rfl | (exfalso; omega) | (simp_all; done) | omega)))
theorem eok_VSub : EntOk Try.prog 47 e_VSub := by
  intro args r ps h hp
  unfold e_VSub at h
  split at h
  · rename_i p1 p2 p3 p4 p5 p6 p7 p8 p9 p10 p11 p12 p13 p14 p15 p16 p17 p18
    cases (Option.some.inj h)
    exact con_VSub (⟨⟨p1, p2, p3⟩, ⟨p4, p5, p6⟩, ⟨p7, p8, p9⟩⟩ : V) (⟨⟨p10, p11, p12⟩, ⟨p13, p14, p15⟩, ⟨p16, p17, p18⟩⟩ : V) 
  · exact absurd h (by simp)
theorem eok47 : EntOk Try.prog 47 e47 := eok_VSub
theorem sx_RVSub (a : V) (b : V) (Q : PV → Prop) : sxF evEnv (tabC [(31, e31)]) noCP noCI noG [] 2000 Try.f26 [.agg (V.enc a), .agg (V.enc b)] Q = Q (.agg [.v (.int IntKind.i64 ((sub a.x b.x).lo)), .v (.int IntKind.i64 ((sub a.x b.x).hi)), .v (.bool ((sub a.x b.x).no)), .v (.int IntKind.i64 ((sub a.y b.y).lo)), .v (.int IntKind.i64 ((sub a.y b.y).hi)), .v (.bool ((sub a.y b.y).no)), .v (.int IntKind.i64 ((sub a.z b.z).lo)), .v (.int IntKind.i64 ((sub a.z b.z).hi)), .v (.bool ((sub a.z b.z).no))]) := by kernel_rfl
theorem cs_RVSub : CSOk Try.prog (tabC [(31, e31)]) := tabC_cons eok31 <| tabC_nil
theorem con_RVSub (a : V) (b : V)  : Con Try.prog 26 [.agg (V.enc a), .agg (V.enc b)] (.agg (V.enc (subV a b))) := by
  refine con_fin evEnv_ok cs_RVSub noCP_ok noCI_ok owOk_no (n := 2000) (LS := []) (fn := Try.f26) rfl loopsOk_nil ?_
  rw [sx_RVSub]
  refine ?_
  all_goals (first | rfl | (simp_all [nz, nzA, nz1, Iv.enc, V.enc, Ray.enc, Dec.enc, Shape.enc, none', told, Bool.cond_decide, subV]; done) | (simp_all [nz, nzA, nz1, Iv.enc, V.enc, Ray.enc, Dec.enc, Shape.enc, none', told, Bool.cond_decide, subV]; omega) | (simp_all [nz, nzA, nz1, Iv.enc, V.enc, Ray.enc, Dec.enc, Shape.enc, none', told, Bool.cond_decide, subV]; (repeat' split) <;> (first | rfl | (exfalso; omega) | (simp_all; done) | omega)))
theorem eok_RVSub : EntOk Try.prog 26 e_RVSub := by
  intro args r ps h hp
  unfold e_RVSub at h
  split at h
  · rename_i p1 p2 p3 p4 p5 p6 p7 p8 p9 p10 p11 p12 p13 p14 p15 p16 p17 p18
    cases (Option.some.inj h)
    exact con_RVSub (⟨⟨p1, p2, p3⟩, ⟨p4, p5, p6⟩, ⟨p7, p8, p9⟩⟩ : V) (⟨⟨p10, p11, p12⟩, ⟨p13, p14, p15⟩, ⟨p16, p17, p18⟩⟩ : V) 
  · exact absurd h (by simp)
theorem eok26 : EntOk Try.prog 26 e26 := eok_RVSub
theorem sx_Dot (a : V) (b : V) (Q : PV → Prop) : sxF evEnv (tabC [(71, e71), (73, e73)]) noCP noCI noG [] 2000 Try.f52 [.agg (V.enc a), .agg (V.enc b)] Q = Q (.agg [.v (.int IntKind.i64 ((add (add (mulIv a.x b.x) (mulIv a.y b.y)) (mulIv a.z b.z)).lo)), .v (.int IntKind.i64 ((add (add (mulIv a.x b.x) (mulIv a.y b.y)) (mulIv a.z b.z)).hi)), .v (.bool ((add (add (mulIv a.x b.x) (mulIv a.y b.y)) (mulIv a.z b.z)).no))]) := by kernel_rfl
theorem cs_Dot : CSOk Try.prog (tabC [(71, e71), (73, e73)]) := tabC_cons eok71 <| tabC_cons eok73 <| tabC_nil
theorem con_Dot (a : V) (b : V)  : Con Try.prog 52 [.agg (V.enc a), .agg (V.enc b)] (.agg (Iv.enc (dot a b))) := by
  refine con_fin evEnv_ok cs_Dot noCP_ok noCI_ok owOk_no (n := 2000) (LS := []) (fn := Try.f52) rfl loopsOk_nil ?_
  rw [sx_Dot]
  refine ?_
  all_goals (first | rfl | (simp_all [nz, nzA, nz1, Iv.enc, V.enc, Ray.enc, Dec.enc, Shape.enc, none', told, Bool.cond_decide, dot]; done) | (simp_all [nz, nzA, nz1, Iv.enc, V.enc, Ray.enc, Dec.enc, Shape.enc, none', told, Bool.cond_decide, dot]; omega) | (simp_all [nz, nzA, nz1, Iv.enc, V.enc, Ray.enc, Dec.enc, Shape.enc, none', told, Bool.cond_decide, dot]; (repeat' split) <;> (first | rfl | (exfalso; omega) | (simp_all; done) | omega)))
theorem eok_Dot : EntOk Try.prog 52 e_Dot := by
  intro args r ps h hp
  unfold e_Dot at h
  split at h
  · rename_i p1 p2 p3 p4 p5 p6 p7 p8 p9 p10 p11 p12 p13 p14 p15 p16 p17 p18
    cases (Option.some.inj h)
    exact con_Dot (⟨⟨p1, p2, p3⟩, ⟨p4, p5, p6⟩, ⟨p7, p8, p9⟩⟩ : V) (⟨⟨p10, p11, p12⟩, ⟨p13, p14, p15⟩, ⟨p16, p17, p18⟩⟩ : V) 
  · exact absurd h (by simp)
theorem eok52 : EntOk Try.prog 52 e52 := eok_Dot
theorem sx_RDot (a : V) (b : V) (Q : PV → Prop) : sxF evEnv (tabC [(60, e60), (61, e61)]) noCP noCI noG [] 2000 Try.f30 [.agg (V.enc a), .agg (V.enc b)] Q = Q (.agg [.v (.int IntKind.i64 ((add (add (mulIv a.x b.x) (mulIv a.y b.y)) (mulIv a.z b.z)).lo)), .v (.int IntKind.i64 ((add (add (mulIv a.x b.x) (mulIv a.y b.y)) (mulIv a.z b.z)).hi)), .v (.bool ((add (add (mulIv a.x b.x) (mulIv a.y b.y)) (mulIv a.z b.z)).no))]) := by kernel_rfl
theorem cs_RDot : CSOk Try.prog (tabC [(60, e60), (61, e61)]) := tabC_cons eok60 <| tabC_cons eok61 <| tabC_nil
theorem con_RDot (a : V) (b : V)  : Con Try.prog 30 [.agg (V.enc a), .agg (V.enc b)] (.agg (Iv.enc (dot a b))) := by
  refine con_fin evEnv_ok cs_RDot noCP_ok noCI_ok owOk_no (n := 2000) (LS := []) (fn := Try.f30) rfl loopsOk_nil ?_
  rw [sx_RDot]
  refine ?_
  all_goals (first | rfl | (simp_all [nz, nzA, nz1, Iv.enc, V.enc, Ray.enc, Dec.enc, Shape.enc, none', told, Bool.cond_decide, dot]; done) | (simp_all [nz, nzA, nz1, Iv.enc, V.enc, Ray.enc, Dec.enc, Shape.enc, none', told, Bool.cond_decide, dot]; omega) | (simp_all [nz, nzA, nz1, Iv.enc, V.enc, Ray.enc, Dec.enc, Shape.enc, none', told, Bool.cond_decide, dot]; (repeat' split) <;> (first | rfl | (exfalso; omega) | (simp_all; done) | omega)))
theorem eok_RDot : EntOk Try.prog 30 e_RDot := by
  intro args r ps h hp
  unfold e_RDot at h
  split at h
  · rename_i p1 p2 p3 p4 p5 p6 p7 p8 p9 p10 p11 p12 p13 p14 p15 p16 p17 p18
    cases (Option.some.inj h)
    exact con_RDot (⟨⟨p1, p2, p3⟩, ⟨p4, p5, p6⟩, ⟨p7, p8, p9⟩⟩ : V) (⟨⟨p10, p11, p12⟩, ⟨p13, p14, p15⟩, ⟨p16, p17, p18⟩⟩ : V) 
  · exact absurd h (by simp)
theorem eok30 : EntOk Try.prog 30 e30 := eok_RDot
theorem sx_Len2 (a : V) (Q : PV → Prop) : sxF evEnv (tabC [(54, e54), (73, e73)]) noCP noCI noG [] 2000 Try.f51 [.agg (V.enc a)] Q = Q (.agg [.v (.int IntKind.i64 ((add (add (sqr a.x) (sqr a.y)) (sqr a.z)).lo)), .v (.int IntKind.i64 ((add (add (sqr a.x) (sqr a.y)) (sqr a.z)).hi)), .v (.bool ((add (add (sqr a.x) (sqr a.y)) (sqr a.z)).no))]) := by kernel_rfl
theorem cs_Len2 : CSOk Try.prog (tabC [(54, e54), (73, e73)]) := tabC_cons eok54 <| tabC_cons eok73 <| tabC_nil
theorem con_Len2 (a : V)  : Con Try.prog 51 [.agg (V.enc a)] (.agg (Iv.enc (len2 a))) := by
  refine con_fin evEnv_ok cs_Len2 noCP_ok noCI_ok owOk_no (n := 2000) (LS := []) (fn := Try.f51) rfl loopsOk_nil ?_
  rw [sx_Len2]
  refine ?_
  all_goals (first | rfl | (simp_all [nz, nzA, nz1, Iv.enc, V.enc, Ray.enc, Dec.enc, Shape.enc, none', told, Bool.cond_decide, len2]; done) | (simp_all [nz, nzA, nz1, Iv.enc, V.enc, Ray.enc, Dec.enc, Shape.enc, none', told, Bool.cond_decide, len2]; omega) | (simp_all [nz, nzA, nz1, Iv.enc, V.enc, Ray.enc, Dec.enc, Shape.enc, none', told, Bool.cond_decide, len2]; (repeat' split) <;> (first | rfl | (exfalso; omega) | (simp_all; done) | omega)))
theorem eok_Len2 : EntOk Try.prog 51 e_Len2 := by
  intro args r ps h hp
  unfold e_Len2 at h
  split at h
  · rename_i p1 p2 p3 p4 p5 p6 p7 p8 p9
    cases (Option.some.inj h)
    exact con_Len2 (⟨⟨p1, p2, p3⟩, ⟨p4, p5, p6⟩, ⟨p7, p8, p9⟩⟩ : V) 
  · exact absurd h (by simp)
theorem eok51 : EntOk Try.prog 51 e51 := eok_Len2
theorem sx_RLen2 (a : V) (Q : PV → Prop) : sxF evEnv (tabC [(32, e32), (61, e61)]) noCP noCI noG [] 2000 Try.f29 [.agg (V.enc a)] Q = Q (.agg [.v (.int IntKind.i64 ((add (add (sqr a.x) (sqr a.y)) (sqr a.z)).lo)), .v (.int IntKind.i64 ((add (add (sqr a.x) (sqr a.y)) (sqr a.z)).hi)), .v (.bool ((add (add (sqr a.x) (sqr a.y)) (sqr a.z)).no))]) := by kernel_rfl
theorem cs_RLen2 : CSOk Try.prog (tabC [(32, e32), (61, e61)]) := tabC_cons eok32 <| tabC_cons eok61 <| tabC_nil
theorem con_RLen2 (a : V)  : Con Try.prog 29 [.agg (V.enc a)] (.agg (Iv.enc (len2 a))) := by
  refine con_fin evEnv_ok cs_RLen2 noCP_ok noCI_ok owOk_no (n := 2000) (LS := []) (fn := Try.f29) rfl loopsOk_nil ?_
  rw [sx_RLen2]
  refine ?_
  all_goals (first | rfl | (simp_all [nz, nzA, nz1, Iv.enc, V.enc, Ray.enc, Dec.enc, Shape.enc, none', told, Bool.cond_decide, len2]; done) | (simp_all [nz, nzA, nz1, Iv.enc, V.enc, Ray.enc, Dec.enc, Shape.enc, none', told, Bool.cond_decide, len2]; omega) | (simp_all [nz, nzA, nz1, Iv.enc, V.enc, Ray.enc, Dec.enc, Shape.enc, none', told, Bool.cond_decide, len2]; (repeat' split) <;> (first | rfl | (exfalso; omega) | (simp_all; done) | omega)))
theorem eok_RLen2 : EntOk Try.prog 29 e_RLen2 := by
  intro args r ps h hp
  unfold e_RLen2 at h
  split at h
  · rename_i p1 p2 p3 p4 p5 p6 p7 p8 p9
    cases (Option.some.inj h)
    exact con_RLen2 (⟨⟨p1, p2, p3⟩, ⟨p4, p5, p6⟩, ⟨p7, p8, p9⟩⟩ : V) 
  · exact absurd h (by simp)
theorem eok29 : EntOk Try.prog 29 e29 := eok_RLen2
theorem sx_RUnit (a : V) (Q : PV → Prop) : sxF evEnv (tabC [(29, e29), (39, e39), (33, e33)]) noCP noCI noG [] 2000 Try.f16 [.agg (V.enc a)] Q = Q (.agg [.v (.int IntKind.i64 ((divIv a.x (rootIv (len2 a))).lo)), .v (.int IntKind.i64 ((divIv a.x (rootIv (len2 a))).hi)), .v (.bool ((divIv a.x (rootIv (len2 a))).no)), .v (.int IntKind.i64 ((divIv a.y (rootIv (len2 a))).lo)), .v (.int IntKind.i64 ((divIv a.y (rootIv (len2 a))).hi)), .v (.bool ((divIv a.y (rootIv (len2 a))).no)), .v (.int IntKind.i64 ((divIv a.z (rootIv (len2 a))).lo)), .v (.int IntKind.i64 ((divIv a.z (rootIv (len2 a))).hi)), .v (.bool ((divIv a.z (rootIv (len2 a))).no))]) := by kernel_rfl
theorem cs_RUnit : CSOk Try.prog (tabC [(29, e29), (39, e39), (33, e33)]) := tabC_cons eok29 <| tabC_cons eok39 <| tabC_cons eok33 <| tabC_nil
theorem con_RUnit (a : V)  : Con Try.prog 16 [.agg (V.enc a)] (.agg (V.enc (unit a))) := by
  refine con_fin evEnv_ok cs_RUnit noCP_ok noCI_ok owOk_no (n := 2000) (LS := []) (fn := Try.f16) rfl loopsOk_nil ?_
  rw [sx_RUnit]
  refine ?_
  all_goals (first | rfl | (simp_all [nz, nzA, nz1, Iv.enc, V.enc, Ray.enc, Dec.enc, Shape.enc, none', told, Bool.cond_decide, unit]; done) | (simp_all [nz, nzA, nz1, Iv.enc, V.enc, Ray.enc, Dec.enc, Shape.enc, none', told, Bool.cond_decide, unit]; omega) | (simp_all [nz, nzA, nz1, Iv.enc, V.enc, Ray.enc, Dec.enc, Shape.enc, none', told, Bool.cond_decide, unit]; (repeat' split) <;> (first | rfl | (exfalso; omega) | (simp_all; done) | omega)))
theorem eok_RUnit : EntOk Try.prog 16 e_RUnit := by
  intro args r ps h hp
  unfold e_RUnit at h
  split at h
  · rename_i p1 p2 p3 p4 p5 p6 p7 p8 p9
    cases (Option.some.inj h)
    exact con_RUnit (⟨⟨p1, p2, p3⟩, ⟨p4, p5, p6⟩, ⟨p7, p8, p9⟩⟩ : V) 
  · exact absurd h (by simp)
theorem eok16 : EntOk Try.prog 16 e16 := eok_RUnit
theorem sx_DecRight (d : Dec) (Q : PV → Prop) : sxF evEnv (tabC []) noCP noCI noG [] 2000 Try.f45 [.agg (Dec.enc d)] Q = (bif decide (d.c ≥ (-100000000000 : Int)) then (bif decide (d.c ≤ (100000000000 : Int)) then (bif decide (d.scale ≥ (0 : Int)) then (bif decide (d.scale ≤ (6 : Int)) then (bif d.scale == (0 : Int) then Q (.v (.bool (true))) else (((10 : Int) ≠ (0 : Int)) ∧ Q (.v (.bool (d.c.tmod (10 : Int) != (0 : Int)))))) else Q (.v (.bool (false)))) else Q (.v (.bool (false)))) else Q (.v (.bool (false)))) else Q (.v (.bool (false)))) := by kernel_rfl
theorem cs_DecRight : CSOk Try.prog (tabC []) := tabC_nil
theorem con_DecRight (d : Dec)  : Con Try.prog 45 [.agg (Dec.enc d)] (.v (.bool (decRight d))) := by
  refine con_fin evEnv_ok cs_DecRight noCP_ok noCI_ok owOk_no (n := 2000) (LS := []) (fn := Try.f45) rfl loopsOk_nil ?_
  rw [sx_DecRight]
  refine condI (fun h0 => condI (fun h1 => condI (fun h2 => condI (fun h3 => condI (fun h4 => ?_) (fun h4 => ⟨?r0, ?_⟩)) (fun h3 => ?_)) (fun h2 => ?_)) (fun h1 => ?_)) (fun h0 => ?_)
  case r0 => first | rfl | (simp only [dShape, dI, dIv]; omega) | (simp [decL, chunk]; done) | (simp only [dShape, dI, dIv]; done) | (exact idx_ok (fun _ => rfl) (by omega) (by omega)) | (simp only [decide_eq_true_eq, List.length_map] at *; exact idx_ok (fun _ => rfl) (by omega) (by omega)) | assumption | trivial | (simp_all; done) | omega
  all_goals (first | rfl | (simp_all [nz, nzA, nz1, Iv.enc, V.enc, Ray.enc, Dec.enc, Shape.enc, none', told, Bool.cond_decide, decRight]; done) | (simp_all [nz, nzA, nz1, Iv.enc, V.enc, Ray.enc, Dec.enc, Shape.enc, none', told, Bool.cond_decide, decRight]; omega) | (simp_all [nz, nzA, nz1, Iv.enc, V.enc, Ray.enc, Dec.enc, Shape.enc, none', told, Bool.cond_decide, decRight]; (repeat' split) <;> (first | rfl | (exfalso; omega) | (simp_all; done) | omega)))
theorem eok_DecRight : EntOk Try.prog 45 e_DecRight := by
  intro args r ps h hp
  unfold e_DecRight at h
  split at h
  · rename_i p1 p2
    cases (Option.some.inj h)
    exact con_DecRight (⟨p1, p2⟩ : Dec) 
  · exact absurd h (by simp)
theorem eok45 : EntOk Try.prog 45 e45 := eok_DecRight
theorem sx_RDecRight (d : Dec) (Q : PV → Prop) : sxF evEnv (tabC []) noCP noCI noG [] 2000 Try.f22 [.agg (Dec.enc d)] Q = (bif decide (d.c ≥ (-100000000000 : Int)) then (bif decide (d.c ≤ (100000000000 : Int)) then (bif decide (d.scale ≥ (0 : Int)) then (bif decide (d.scale ≤ (6 : Int)) then (bif d.scale == (0 : Int) then Q (.v (.bool (true))) else (((10 : Int) ≠ (0 : Int)) ∧ Q (.v (.bool (d.c.tmod (10 : Int) != (0 : Int)))))) else Q (.v (.bool (false)))) else Q (.v (.bool (false)))) else Q (.v (.bool (false)))) else Q (.v (.bool (false)))) := by kernel_rfl
theorem cs_RDecRight : CSOk Try.prog (tabC []) := tabC_nil
theorem con_RDecRight (d : Dec)  : Con Try.prog 22 [.agg (Dec.enc d)] (.v (.bool (decRight d))) := by
  refine con_fin evEnv_ok cs_RDecRight noCP_ok noCI_ok owOk_no (n := 2000) (LS := []) (fn := Try.f22) rfl loopsOk_nil ?_
  rw [sx_RDecRight]
  refine condI (fun h0 => condI (fun h1 => condI (fun h2 => condI (fun h3 => condI (fun h4 => ?_) (fun h4 => ⟨?r0, ?_⟩)) (fun h3 => ?_)) (fun h2 => ?_)) (fun h1 => ?_)) (fun h0 => ?_)
  case r0 => first | rfl | (simp only [dShape, dI, dIv]; omega) | (simp [decL, chunk]; done) | (simp only [dShape, dI, dIv]; done) | (exact idx_ok (fun _ => rfl) (by omega) (by omega)) | (simp only [decide_eq_true_eq, List.length_map] at *; exact idx_ok (fun _ => rfl) (by omega) (by omega)) | assumption | trivial | (simp_all; done) | omega
  all_goals (first | rfl | (simp_all [nz, nzA, nz1, Iv.enc, V.enc, Ray.enc, Dec.enc, Shape.enc, none', told, Bool.cond_decide, decRight]; done) | (simp_all [nz, nzA, nz1, Iv.enc, V.enc, Ray.enc, Dec.enc, Shape.enc, none', told, Bool.cond_decide, decRight]; omega) | (simp_all [nz, nzA, nz1, Iv.enc, V.enc, Ray.enc, Dec.enc, Shape.enc, none', told, Bool.cond_decide, decRight]; (repeat' split) <;> (first | rfl | (exfalso; omega) | (simp_all; done) | omega)))
theorem eok_RDecRight : EntOk Try.prog 22 e_RDecRight := by
  intro args r ps h hp
  unfold e_RDecRight at h
  split at h
  · rename_i p1 p2
    cases (Option.some.inj h)
    exact con_RDecRight (⟨p1, p2⟩ : Dec) 
  · exact absurd h (by simp)
theorem eok22 : EntOk Try.prog 22 e22 := eok_RDecRight
theorem sx_DecIv (d : Dec) (Q : PV → Prop) : sxF evEnv (tabC [(45, e45), (24, e24), (69, e69), (70, e70), (65, e65)]) noCP noCI noG [] 2000 Try.f49 [.agg (Dec.enc d)] Q = (bif !decRight d then Q (.agg [.v (.int IntKind.i64 ((0 : Int))), .v (.int IntKind.i64 ((0 : Int))), .v (.bool (true))]) else (((0 : Int) ≤ d.scale ∧ d.scale ≤ (18 : Int)) ∧ (((-4611686018427387904 : Int) ≤ IntKind.i64.wrap (d.c * (65536 : Int)) ∧ IntKind.i64.wrap (d.c * (65536 : Int)) ≤ (4611686018427387904 : Int)) ∧ (((-4611686018427387904 : Int) ≤ IntKind.i64.wrap ((0 : Int) - IntKind.i64.wrap (d.c * (65536 : Int))) ∧ IntKind.i64.wrap ((0 : Int) - IntKind.i64.wrap (d.c * (65536 : Int))) ≤ (4611686018427387904 : Int)) ∧ Q (.agg [.v (.int IntKind.i64 ((of (floor (IntKind.i64.wrap (d.c * (65536 : Int))) (pow10 d.scale)) (IntKind.i64.wrap ((0 : Int) - floor (IntKind.i64.wrap ((0 : Int) - IntKind.i64.wrap (d.c * (65536 : Int)))) (pow10 d.scale)))).lo)), .v (.int IntKind.i64 ((of (floor (IntKind.i64.wrap (d.c * (65536 : Int))) (pow10 d.scale)) (IntKind.i64.wrap ((0 : Int) - floor (IntKind.i64.wrap ((0 : Int) - IntKind.i64.wrap (d.c * (65536 : Int)))) (pow10 d.scale)))).hi)), .v (.bool ((of (floor (IntKind.i64.wrap (d.c * (65536 : Int))) (pow10 d.scale)) (IntKind.i64.wrap ((0 : Int) - floor (IntKind.i64.wrap ((0 : Int) - IntKind.i64.wrap (d.c * (65536 : Int)))) (pow10 d.scale)))).no))]))))) := by kernel_rfl
theorem cs_DecIv : CSOk Try.prog (tabC [(45, e45), (24, e24), (69, e69), (70, e70), (65, e65)]) := tabC_cons eok45 <| tabC_cons eok24 <| tabC_cons eok69 <| tabC_cons eok70 <| tabC_cons eok65 <| tabC_nil
theorem con_DecIv (d : Dec)  : Con Try.prog 49 [.agg (Dec.enc d)] (.agg (Iv.enc (decIv d))) := by
  refine con_fin evEnv_ok cs_DecIv noCP_ok noCI_ok owOk_no (n := 2000) (LS := []) (fn := Try.f49) rfl loopsOk_nil ?_
  rw [sx_DecIv]
  refine condI (fun h0 => ?_) (fun h0 => ⟨?_, ⟨?_, ⟨?_, ?_⟩⟩⟩)
  · simp only [Bool.not_eq_true'] at h0
    simp [nz, nzA, nz1, decIv, h0, none', Iv.enc]
  all_goals simp only [Bool.not_eq_false'] at h0
  all_goals have hd := decRight_bd h0
  all_goals have hw : IntKind.i64.wrap (d.c * 65536) = d.c * 65536 := wrap_fit (by constructor <;> omega)
  all_goals have hp := pow10_pos d.scale
  all_goals try rw [hw]
  all_goals try rw [zero_sub_fit (n := d.c * 65536) (by omega)]
  · omega
  · omega
  · omega
  · have hf := fdiv_fit (a := -(d.c * 65536)) (b := pow10 d.scale) (by omega)
    have e : floor (-(d.c * 65536)) (pow10 d.scale) = (-(d.c * 65536)).fdiv (pow10 d.scale) := rfl
    rw [zero_sub_fit (n := floor (-(d.c * 65536)) (pow10 d.scale)) (by rw [e]; omega)]
    simp [nz, nzA, nz1, decIv, h0, Iv.enc]
theorem eok_DecIv : EntOk Try.prog 49 e_DecIv := by
  intro args r ps h hp
  unfold e_DecIv at h
  split at h
  · rename_i p1 p2
    cases (Option.some.inj h)
    exact con_DecIv (⟨p1, p2⟩ : Dec) 
  · exact absurd h (by simp)
theorem eok49 : EntOk Try.prog 49 e49 := eok_DecIv
theorem sx_RDecIv (d : Dec) (Q : PV → Prop) : sxF evEnv (tabC [(22, e22), (25, e25), (58, e58), (57, e57), (59, e59), (56, e56)]) noCP noCI noG [] 2000 Try.f27 [.agg (Dec.enc d)] Q = (bif !decRight d then Q (.agg [.v (.int IntKind.i64 ((0 : Int))), .v (.int IntKind.i64 ((0 : Int))), .v (.bool (true))]) else (((0 : Int) ≤ d.scale ∧ d.scale ≤ (18 : Int)) ∧ (((-4611686018427387904 : Int) ≤ IntKind.i64.wrap (d.c * (65536 : Int)) ∧ IntKind.i64.wrap (d.c * (65536 : Int)) ≤ (4611686018427387904 : Int)) ∧ (((0 : Int) ≤ d.scale ∧ d.scale ≤ (18 : Int)) ∧ (((-4611686018427387904 : Int) ≤ IntKind.i64.wrap (d.c * (65536 : Int)) ∧ IntKind.i64.wrap (d.c * (65536 : Int)) ≤ (4611686018427387904 : Int)) ∧ (((-4611686018427387904 : Int) ≤ pow10 d.scale ∧ pow10 d.scale ≤ (4611686018427387904 : Int)) ∧ ((pow10 d.scale ≠ (0 : Int)) ∧ Q (.agg [.v (.int IntKind.i64 ((of (floor (IntKind.i64.wrap (d.c * (65536 : Int))) (pow10 d.scale)) (up1 (IntKind.i64.wrap (d.c * (65536 : Int))) (pow10 d.scale))).lo)), .v (.int IntKind.i64 ((of (floor (IntKind.i64.wrap (d.c * (65536 : Int))) (pow10 d.scale)) (up1 (IntKind.i64.wrap (d.c * (65536 : Int))) (pow10 d.scale))).hi)), .v (.bool ((of (floor (IntKind.i64.wrap (d.c * (65536 : Int))) (pow10 d.scale)) (up1 (IntKind.i64.wrap (d.c * (65536 : Int))) (pow10 d.scale))).no))])))))))) := by kernel_rfl
theorem cs_RDecIv : CSOk Try.prog (tabC [(22, e22), (25, e25), (58, e58), (57, e57), (59, e59), (56, e56)]) := tabC_cons eok22 <| tabC_cons eok25 <| tabC_cons eok58 <| tabC_cons eok57 <| tabC_cons eok59 <| tabC_cons eok56 <| tabC_nil
theorem con_RDecIv (d : Dec)  : Con Try.prog 27 [.agg (Dec.enc d)] (.agg (Iv.enc (decIv d))) := by
  refine con_fin evEnv_ok cs_RDecIv noCP_ok noCI_ok owOk_no (n := 2000) (LS := []) (fn := Try.f27) rfl loopsOk_nil ?_
  rw [sx_RDecIv]
  refine condI (fun h0 => ?_) (fun h0 => ⟨?_, ⟨?_, ⟨?_, ⟨?_, ⟨?_, ⟨?_, ?_⟩⟩⟩⟩⟩⟩)
  · simp only [Bool.not_eq_true'] at h0
    simp [nz, nzA, nz1, decIv, h0, none', Iv.enc]
  all_goals simp only [Bool.not_eq_false'] at h0
  all_goals have hd := decRight_bd h0
  all_goals have hw : IntKind.i64.wrap (d.c * 65536) = d.c * 65536 := wrap_fit (by constructor <;> omega)
  all_goals have hp := pow10_pos d.scale
  all_goals have hq := pow10_18 (i := d.scale) (by omega)
  all_goals try rw [hw]
  · omega
  · omega
  · omega
  · omega
  · omega
  · omega
  · rw [← neg_floor_up (by omega)]
    simp [nz, nzA, nz1, decIv, h0, Iv.enc]
theorem eok_RDecIv : EntOk Try.prog 27 e_RDecIv := by
  intro args r ps h hp
  unfold e_RDecIv at h
  split at h
  · rename_i p1 p2
    cases (Option.some.inj h)
    exact con_RDecIv (⟨p1, p2⟩ : Dec) 
  · exact absurd h (by simp)
theorem eok27 : EntOk Try.prog 27 e27 := eok_RDecIv
theorem sx_Within (n : Int) (low : Int) (high : Int) (Q : PV → Prop) : sxF evEnv (tabC []) noCP noCI noG [] 2000 Try.f40 [.v (.int .i64 n), .v (.int .i64 low), .v (.int .i64 high)] Q = Q (.v (.int IntKind.i64 (List.foldl imax low [List.foldl imin high [n]]))) := by kernel_rfl
theorem cs_Within : CSOk Try.prog (tabC []) := tabC_nil
theorem con_Within (n : Int) (low : Int) (high : Int)  : Con Try.prog 40 [.v (.int .i64 n), .v (.int .i64 low), .v (.int .i64 high)] (.v (.int .i64 (within n low high))) := by
  refine con_fin evEnv_ok cs_Within noCP_ok noCI_ok owOk_no (n := 2000) (LS := []) (fn := Try.f40) rfl loopsOk_nil ?_
  rw [sx_Within]
  refine ?_
  simp [nz, nzA, within, List.foldl, imax_eq, imin_eq]
theorem eok_Within : EntOk Try.prog 40 e_Within := by
  intro args r ps h hp
  unfold e_Within at h
  split at h
  · rename_i p1 p2 p3
    cases (Option.some.inj h)
    exact con_Within p1 p2 p3 
  · exact absurd h (by simp)
theorem eok40 : EntOk Try.prog 40 e40 := eok_Within
end Go.Men
namespace Go.Men
open Go.Ev Go.Proofs Go.Proofs.Ytoldgmhepeficaa
theorem sx_Pick (n : Int) (m : Int) (Q : PV → Prop) : sxF evEnv (tabC []) noCP noCI noG [] 2000 Try.f5 [.v (.int .i64 n), .v (.int .i64 m)] Q = ((m ≠ (0 : Int)) ∧ (bif decide (n.tmod m < (0 : Int)) then Q (.v (.int IntKind.i64 (IntKind.i64.wrap (n.tmod m + m)))) else Q (.v (.int IntKind.i64 (n.tmod m))))) := by kernel_rfl
theorem cs_Pick : CSOk Try.prog (tabC []) := tabC_nil
theorem con_Pick (n : Int) (m : Int) (hp0 : 0 < m ∧ m ≤ 4611686018427387904) : Con Try.prog 5 [.v (.int .i64 n), .v (.int .i64 m)] (.v (.int .i64 (pick n m))) := by
  refine con_fin evEnv_ok cs_Pick noCP_ok noCI_ok owOk_no (n := 2000) (LS := []) (fn := Try.f5) rfl loopsOk_nil ?_
  rw [sx_Pick]
  refine ⟨?r0, condI (fun h0 => ?_) (fun h0 => ?_)⟩
  case r0 => first | rfl | (simp only [dShape, dI, dIv]; omega) | (simp [decL, chunk]; done) | (simp only [dShape, dI, dIv]; done) | (exact idx_ok (fun _ => rfl) (by omega) (by omega)) | (simp only [decide_eq_true_eq, List.length_map] at *; exact idx_ok (fun _ => rfl) (by omega) (by omega)) | assumption | trivial | (simp_all; done) | omega
  all_goals simp only [decide_eq_true_eq, decide_eq_false_iff_not] at h0
  all_goals have hb := tmod_bd (n := n) hp0.1
  · rw [wrap_fit (by constructor <;> omega)]
    simp [nz, nzA, pick_eq hp0.1, h0]
  · simp [nz, nzA, pick_eq hp0.1, h0]
theorem eok_Pick : EntOk Try.prog 5 e_Pick := by
  intro args r ps h hp
  unfold e_Pick at h
  split at h
  · rename_i p1 p2
    cases (Option.some.inj h)
    exact con_Pick p1 p2 (hp _ (by simp))
  · exact absurd h (by simp)
theorem eok5 : EntOk Try.prog 5 e5 := eok_Pick
theorem sx_Num (n : Int) (Q : PV → Prop) : sxF evEnv (tabC [(5, e5)]) noCP noCI noG [] 2000 Try.f41 [.v (.int .i64 n)] Q = (((0 : Int) < (9 : Int) ∧ (9 : Int) ≤ (4611686018427387904 : Int)) ∧ (bif pick n (9 : Int) == (0 : Int) then Q (.v (.int IntKind.i64 (n))) else (bif pick n (9 : Int) == (1 : Int) then (((9 : Int) ≠ (0 : Int)) ∧ (((0 : Int) < (201 : Int) ∧ (201 : Int) ≤ (4611686018427387904 : Int)) ∧ Q (.v (.int IntKind.i64 (IntKind.i64.wrap (IntKind.i64.wrap (pick (IntKind.i64.wrap (n.tdiv (9 : Int))) (201 : Int) - (100 : Int)) * (65536 : Int))))))) else (bif pick n (9 : Int) == (2 : Int) then (((9 : Int) ≠ (0 : Int)) ∧ (((0 : Int) < (9 : Int) ∧ (9 : Int) ≤ (4611686018427387904 : Int)) ∧ Q (.v (.int IntKind.i64 (IntKind.i64.wrap (pick (IntKind.i64.wrap (n.tdiv (9 : Int))) (9 : Int) - (4 : Int))))))) else (bif pick n (9 : Int) == (3 : Int) then (((9 : Int) ≠ (0 : Int)) ∧ (((0 : Int) < (2147483657 : Int) ∧ (2147483657 : Int) ≤ (4611686018427387904 : Int)) ∧ Q (.v (.int IntKind.i64 (IntKind.i64.wrap (IntKind.i64.wrap (pick (IntKind.i64.wrap (n.tdiv (9 : Int))) (2147483657 : Int) - (1073741824 : Int)) - (4 : Int))))))) else (((9 : Int) ≠ (0 : Int)) ∧ (((0 : Int) < (2621440 : Int) ∧ (2621440 : Int) ≤ (4611686018427387904 : Int)) ∧ Q (.v (.int IntKind.i64 (IntKind.i64.wrap (pick (IntKind.i64.wrap (n.tdiv (9 : Int))) (2621440 : Int) - (1310720 : Int)))))))))))) := by kernel_rfl
theorem cs_Num : CSOk Try.prog (tabC [(5, e5)]) := tabC_cons eok5 <| tabC_nil
theorem con_Num (n : Int)  : Con Try.prog 41 [.v (.int .i64 n)] (.v (.int .i64 (num n))) := by
  refine con_fin evEnv_ok cs_Num noCP_ok noCI_ok owOk_no (n := 2000) (LS := []) (fn := Try.f41) rfl loopsOk_nil ?_
  rw [sx_Num]
  refine ⟨?r8, condI (fun h0 => ?_) (fun h0 => condI (fun h1 => ⟨?r1, ⟨?r0, ?_⟩⟩) (fun h1 => condI (fun h2 => ⟨?r3, ⟨?r2, ?_⟩⟩) (fun h2 => condI (fun h3 => ⟨?r5, ⟨?r4, ?_⟩⟩) (fun h3 => ⟨?r7, ⟨?r6, ?_⟩⟩))))⟩
  case r0 | r1 | r2 | r3 | r4 | r5 | r6 | r7 | r8 => omega
  all_goals have b1 := pick_bd (n := IntKind.i64.wrap (n.tdiv 9)) (m := 201) (by omega)
  all_goals have b2 := pick_bd (n := IntKind.i64.wrap (n.tdiv 9)) (m := 9) (by omega)
  all_goals have b3 := pick_bd (n := IntKind.i64.wrap (n.tdiv 9)) (m := 2147483657) (by omega)
  all_goals have b4 := pick_bd (n := IntKind.i64.wrap (n.tdiv 9)) (m := 2621440) (by omega)
  · simp only [num, h0, cond_true]; rfl
  · rw [wrap_fit (show Fit (pick (IntKind.i64.wrap (n.tdiv 9)) 201 - 100) by constructor <;> omega), wrap_fit (by constructor <;> omega)]
    simp only [num, h0, h1, cond_true, cond_false]; rfl
  · rw [wrap_fit (show Fit (pick (IntKind.i64.wrap (n.tdiv 9)) 9 - 4) by constructor <;> omega)]
    simp only [num, h0, h1, h2, cond_true, cond_false]; rfl
  · rw [wrap_fit (show Fit (pick (IntKind.i64.wrap (n.tdiv 9)) 2147483657 - 1073741824) by constructor <;> omega), wrap_fit (by constructor <;> omega)]
    simp only [num, h0, h1, h2, h3, cond_true, cond_false]; rfl
  · rw [wrap_fit (show Fit (pick (IntKind.i64.wrap (n.tdiv 9)) 2621440 - 1310720) by constructor <;> omega)]
    simp only [num, h0, h1, h2, h3, cond_true, cond_false]; rfl
theorem eok_Num : EntOk Try.prog 41 e_Num := by
  intro args r ps h hp
  unfold e_Num at h
  split at h
  · rename_i p1
    cases (Option.some.inj h)
    exact con_Num p1 
  · exact absurd h (by simp)
theorem eok41 : EntOk Try.prog 41 e41 := eok_Num
theorem sx_Wide (x : Int) (w : Int) (Q : PV → Prop) : sxF evEnv (tabC [(40, e40)]) noCP noCI noG [] 2000 Try.f17 [.v (.int .i64 x), .v (.int .i64 w)] Q = Q (.agg [.v (.int IntKind.i64 (within x (-1073741824 : Int) (1073741824 : Int))), .v (.int IntKind.i64 (List.foldl imin (1073741824 : Int) [IntKind.i64.wrap (within x (-1073741824 : Int) (1073741824 : Int) + w)])), .v (.bool (false))]) := by kernel_rfl
theorem cs_Wide : CSOk Try.prog (tabC [(40, e40)]) := tabC_cons eok40 <| tabC_nil
theorem con_Wide (x : Int) (w : Int) (hp0 : 0 ≤ w ∧ w ≤ 1073741824) : Con Try.prog 17 [.v (.int .i64 x), .v (.int .i64 w)] (.agg (Iv.enc (wide x w))) := by
  refine con_fin evEnv_ok cs_Wide noCP_ok noCI_ok owOk_no (n := 2000) (LS := []) (fn := Try.f17) rfl loopsOk_nil ?_
  rw [sx_Wide]
  refine ?_
  have hb : -1073741824 ≤ within x (-1073741824) 1073741824 ∧ within x (-1073741824) 1073741824 ≤ 1073741824 := by unfold within; omega
  rw [wrap_fit (by constructor <;> omega)]
  simp only [List.foldl, imin_eq]; rfl
theorem eok_Wide : EntOk Try.prog 17 e_Wide := by
  intro args r ps h hp
  unfold e_Wide at h
  split at h
  · rename_i p1 p2
    cases (Option.some.inj h)
    exact con_Wide p1 p2 (hp _ (by simp))
  · exact absurd h (by simp)
theorem eok17 : EntOk Try.prog 17 e17 := eok_Wide
theorem sx_HIv (n : Int) (w : Int) (Q : PV → Prop) : sxF evEnv (tabC [(41, e41), (5, e5), (17, e17)]) noCP noCI noG [] 2000 Try.f18 [.v (.int .i64 n), .v (.int .i64 w)] Q = (((0 : Int) < (12 : Int) ∧ (12 : Int) ≤ (4611686018427387904 : Int)) ∧ (bif pick w (12 : Int) == (0 : Int) then (((12 : Int) ≠ (0 : Int)) ∧ Q (.agg [.v (.int IntKind.i64 (num n)), .v (.int IntKind.i64 (num (IntKind.i64.wrap (w.tdiv (12 : Int))))), .v (.bool (false))])) else (bif pick w (12 : Int) == (1 : Int) then (((12 : Int) ≠ (0 : Int)) ∧ (((0 : Int) < (5 : Int) ∧ (5 : Int) ≤ (4611686018427387904 : Int)) ∧ Q (.agg [.v (.int IntKind.i64 (num n)), .v (.int IntKind.i64 (num n)), .v (.bool (pick (IntKind.i64.wrap (w.tdiv (12 : Int))) (5 : Int) == (4 : Int)))]))) else (bif pick w (12 : Int) == (2 : Int) then (bif pick w (12 : Int) == (2 : Int) then Q (.agg [.v (.int IntKind.i64 (num n)), .v (.int IntKind.i64 (num n)), .v (.bool (false))]) else (((12 : Int) ≠ (0 : Int)) ∧ (((0 : Int) < (9000 : Int) ∧ (9000 : Int) ≤ (4611686018427387904 : Int)) ∧ (((0 : Int) ≤ pick (IntKind.i64.wrap (w.tdiv (12 : Int))) (9000 : Int) ∧ pick (IntKind.i64.wrap (w.tdiv (12 : Int))) (9000 : Int) ≤ (1073741824 : Int)) ∧ Q (.agg [.v (.int IntKind.i64 ((wide (num n) (pick (IntKind.i64.wrap (w.tdiv (12 : Int))) (9000 : Int))).lo)), .v (.int IntKind.i64 ((wide (num n) (pick (IntKind.i64.wrap (w.tdiv (12 : Int))) (9000 : Int))).hi)), .v (.bool ((wide (num n) (pick (IntKind.i64.wrap (w.tdiv (12 : Int))) (9000 : Int))).no))]))))) else (bif pick w (12 : Int) == (3 : Int) then Q (.agg [.v (.int IntKind.i64 (num n)), .v (.int IntKind.i64 (num n)), .v (.bool (false))]) else (((12 : Int) ≠ (0 : Int)) ∧ (((0 : Int) < (9000 : Int) ∧ (9000 : Int) ≤ (4611686018427387904 : Int)) ∧ (((0 : Int) ≤ pick (IntKind.i64.wrap (w.tdiv (12 : Int))) (9000 : Int) ∧ pick (IntKind.i64.wrap (w.tdiv (12 : Int))) (9000 : Int) ≤ (1073741824 : Int)) ∧ Q (.agg [.v (.int IntKind.i64 ((wide (num n) (pick (IntKind.i64.wrap (w.tdiv (12 : Int))) (9000 : Int))).lo)), .v (.int IntKind.i64 ((wide (num n) (pick (IntKind.i64.wrap (w.tdiv (12 : Int))) (9000 : Int))).hi)), .v (.bool ((wide (num n) (pick (IntKind.i64.wrap (w.tdiv (12 : Int))) (9000 : Int))).no))]))))))))) := by kernel_rfl
theorem cs_HIv : CSOk Try.prog (tabC [(41, e41), (5, e5), (17, e17)]) := tabC_cons eok41 <| tabC_cons eok5 <| tabC_cons eok17 <| tabC_nil
theorem con_HIv (n : Int) (w : Int)  : Con Try.prog 18 [.v (.int .i64 n), .v (.int .i64 w)] (.agg (Iv.enc (handIv n w))) := by
  refine con_fin evEnv_ok cs_HIv noCP_ok noCI_ok owOk_no (n := 2000) (LS := []) (fn := Try.f18) rfl loopsOk_nil ?_
  rw [sx_HIv]
  refine ⟨?r9, condI (fun h0 => ⟨?r0, ?_⟩) (fun h0 => condI (fun h1 => ⟨?r2, ⟨?r1, ?_⟩⟩) (fun h1 => condI (fun h2 => condI (fun h3 => ?_) (fun h3 => ⟨?r5, ⟨?r4, ⟨?r3, ?_⟩⟩⟩)) (fun h2 => condI (fun h3 => ?_) (fun h3 => ⟨?r8, ⟨?r7, ⟨?r6, ?_⟩⟩⟩))))⟩
  case r0 | r1 | r2 | r3 | r4 | r5 | r6 | r7 | r8 | r9 => have := pick_bd (n := IntKind.i64.wrap (w.tdiv 12)) (m := 9000) (by omega); omega
  all_goals simp_all only [handIv, cond_true, cond_false, Bool.or_true, Bool.true_or, Bool.or_self]
  all_goals first | rfl | simp_all
theorem eok_HIv : EntOk Try.prog 18 e_HIv := by
  intro args r ps h hp
  unfold e_HIv at h
  split at h
  · rename_i p1 p2
    cases (Option.some.inj h)
    exact con_HIv p1 p2 
  · exact absurd h (by simp)
theorem eok18 : EntOk Try.prog 18 e18 := eok_HIv
theorem sx_HV (l : A6) (Q : PV → Prop) : sxF evEnv (tabC [(18, e18)]) noCP noCI noG [] 2000 Try.f7 [.agg (A6.enc l)] Q = (((0 : Int) ≤ (0 : Int) ∧ (0 : Int) < (6 : Int)) ∧ (((0 : Int) ≤ (1 : Int) ∧ (1 : Int) < (6 : Int)) ∧ (((0 : Int) ≤ (2 : Int) ∧ (2 : Int) < (6 : Int)) ∧ (((0 : Int) ≤ (3 : Int) ∧ (3 : Int) < (6 : Int)) ∧ (((0 : Int) ≤ (4 : Int) ∧ (4 : Int) < (6 : Int)) ∧ (((0 : Int) ≤ (5 : Int) ∧ (5 : Int) < (6 : Int)) ∧ Q (.agg [.v (.int IntKind.i64 ((handIv l.a l.b).lo)), .v (.int IntKind.i64 ((handIv l.a l.b).hi)), .v (.bool ((handIv l.a l.b).no)), .v (.int IntKind.i64 ((handIv l.c l.d).lo)), .v (.int IntKind.i64 ((handIv l.c l.d).hi)), .v (.bool ((handIv l.c l.d).no)), .v (.int IntKind.i64 ((handIv l.e l.f).lo)), .v (.int IntKind.i64 ((handIv l.e l.f).hi)), .v (.bool ((handIv l.e l.f).no))]))))))) := by kernel_rfl
theorem cs_HV : CSOk Try.prog (tabC [(18, e18)]) := tabC_cons eok18 <| tabC_nil
theorem con_HV (l : A6)  : Con Try.prog 7 [.agg (A6.enc l)] (.agg (V.enc (handV l))) := by
  refine con_fin evEnv_ok cs_HV noCP_ok noCI_ok owOk_no (n := 2000) (LS := []) (fn := Try.f7) rfl loopsOk_nil ?_
  rw [sx_HV]
  refine ⟨?r5, ⟨?r4, ⟨?r3, ⟨?r2, ⟨?r1, ⟨?r0, ?_⟩⟩⟩⟩⟩⟩
  case r0 | r1 | r2 | r3 | r4 | r5 => first | rfl | (simp only [dShape, dI, dIv]; omega) | (simp [decL, chunk]; done) | (simp only [dShape, dI, dIv]; done) | (exact idx_ok (fun _ => rfl) (by omega) (by omega)) | (simp only [decide_eq_true_eq, List.length_map] at *; exact idx_ok (fun _ => rfl) (by omega) (by omega)) | assumption | trivial | (simp_all; done) | omega
  all_goals (first | rfl | (simp_all [nz, nzA, nz1, Iv.enc, V.enc, Ray.enc, Dec.enc, Shape.enc, none', told, Bool.cond_decide, handV]; done) | (simp_all [nz, nzA, nz1, Iv.enc, V.enc, Ray.enc, Dec.enc, Shape.enc, none', told, Bool.cond_decide, handV]; omega) | (simp_all [nz, nzA, nz1, Iv.enc, V.enc, Ray.enc, Dec.enc, Shape.enc, none', told, Bool.cond_decide, handV]; (repeat' split) <;> (first | rfl | (exfalso; omega) | (simp_all; done) | omega)))
theorem eok_HV : EntOk Try.prog 7 e_HV := by
  intro args r ps h hp
  unfold e_HV at h
  split at h
  · rename_i p1 p2 p3 p4 p5 p6
    cases (Option.some.inj h)
    exact con_HV (⟨p1, p2, p3, p4, p5, p6⟩ : A6) 
  · exact absurd h (by simp)
theorem eok7 : EntOk Try.prog 7 e7 := eok_HV
theorem sx_HRay (r : RawRay) (Q : PV → Prop) : sxF evEnv (tabC [(5, e5), (17, e17), (16, e16)]) noCP noCI noG [] 2000 Try.f6 [.agg (RawRay.enc r)] Q = (((0 : Int) < (400 : Int) ∧ (400 : Int) ≤ (4611686018427387904 : Int)) ∧ (((5 : Int) ≠ (0 : Int)) ∧ (bif r.wide.tmod (5 : Int) == (4 : Int) then (((0 : Int) < (9000 : Int) ∧ (9000 : Int) ≤ (4611686018427387904 : Int)) ∧ (((5 : Int) ≠ (0 : Int)) ∧ (bif r.wide.tmod (5 : Int) == (3 : Int) then (((3 : Int) ≠ (0 : Int)) ∧ (bif r.lean.tmod (3 : Int) == (2 : Int) then (((0 : Int) < (200 : Int) ∧ (200 : Int) ≤ (4611686018427387904 : Int)) ∧ (((0 : Int) < (30000 : Int) ∧ (30000 : Int) ≤ (4611686018427387904 : Int)) ∧ (((0 : Int) ≤ pick r.lean (200 : Int) ∧ pick r.lean (200 : Int) ≤ (1073741824 : Int)) ∧ (((0 : Int) < (30000 : Int) ∧ (30000 : Int) ≤ (4611686018427387904 : Int)) ∧ (((0 : Int) ≤ pick r.lean (200 : Int) ∧ pick r.lean (200 : Int) ≤ (1073741824 : Int)) ∧ (((0 : Int) < (655360 : Int) ∧ (655360 : Int) ≤ (4611686018427387904 : Int)) ∧ (((0 : Int) ≤ (0 : Int) ∧ (0 : Int) ≤ (1073741824 : Int)) ∧ (((0 : Int) < (655360 : Int) ∧ (655360 : Int) ≤ (4611686018427387904 : Int)) ∧ (((0 : Int) ≤ (0 : Int) ∧ (0 : Int) ≤ (1073741824 : Int)) ∧ Q (.agg [.v (.int IntKind.i64 ((wide (IntKind.i64.wrap (pick r.x (655360 : Int) - (327680 : Int))) (0 : Int)).lo)), .v (.int IntKind.i64 ((wide (IntKind.i64.wrap (pick r.x (655360 : Int) - (327680 : Int))) (0 : Int)).hi)), .v (.bool ((wide (IntKind.i64.wrap (pick r.x (655360 : Int) - (327680 : Int))) (0 : Int)).no)), .v (.int IntKind.i64 ((wide (IntKind.i64.wrap (pick r.y (655360 : Int) - (327680 : Int))) (0 : Int)).lo)), .v (.int IntKind.i64 ((wide (IntKind.i64.wrap (pick r.y (655360 : Int) - (327680 : Int))) (0 : Int)).hi)), .v (.bool ((wide (IntKind.i64.wrap (pick r.y (655360 : Int) - (327680 : Int))) (0 : Int)).no)), .v (.int IntKind.i64 ((0 : Int))), .v (.int IntKind.i64 ((0 : Int))), .v (.bool (false)), .v (.int IntKind.i64 ((unit (V.mk (wide (IntKind.i64.wrap (pick r.u (30000 : Int) - (15000 : Int))) (pick r.lean (200 : Int))) (wide (IntKind.i64.wrap (pick r.w (30000 : Int) - (15000 : Int))) (pick r.lean (200 : Int))) (Iv.mk (65536 : Int) (65536 : Int) false))).x.lo)), .v (.int IntKind.i64 ((unit (V.mk (wide (IntKind.i64.wrap (pick r.u (30000 : Int) - (15000 : Int))) (pick r.lean (200 : Int))) (wide (IntKind.i64.wrap (pick r.w (30000 : Int) - (15000 : Int))) (pick r.lean (200 : Int))) (Iv.mk (65536 : Int) (65536 : Int) false))).x.hi)), .v (.bool ((unit (V.mk (wide (IntKind.i64.wrap (pick r.u (30000 : Int) - (15000 : Int))) (pick r.lean (200 : Int))) (wide (IntKind.i64.wrap (pick r.w (30000 : Int) - (15000 : Int))) (pick r.lean (200 : Int))) (Iv.mk (65536 : Int) (65536 : Int) false))).x.no)), .v (.int IntKind.i64 ((unit (V.mk (wide (IntKind.i64.wrap (pick r.u (30000 : Int) - (15000 : Int))) (pick r.lean (200 : Int))) (wide (IntKind.i64.wrap (pick r.w (30000 : Int) - (15000 : Int))) (pick r.lean (200 : Int))) (Iv.mk (65536 : Int) (65536 : Int) false))).y.lo)), .v (.int IntKind.i64 ((unit (V.mk (wide (IntKind.i64.wrap (pick r.u (30000 : Int) - (15000 : Int))) (pick r.lean (200 : Int))) (wide (IntKind.i64.wrap (pick r.w (30000 : Int) - (15000 : Int))) (pick r.lean (200 : Int))) (Iv.mk (65536 : Int) (65536 : Int) false))).y.hi)), .v (.bool ((unit (V.mk (wide (IntKind.i64.wrap (pick r.u (30000 : Int) - (15000 : Int))) (pick r.lean (200 : Int))) (wide (IntKind.i64.wrap (pick r.w (30000 : Int) - (15000 : Int))) (pick r.lean (200 : Int))) (Iv.mk (65536 : Int) (65536 : Int) false))).y.no)), .v (.int IntKind.i64 ((unit (V.mk (wide (IntKind.i64.wrap (pick r.u (30000 : Int) - (15000 : Int))) (pick r.lean (200 : Int))) (wide (IntKind.i64.wrap (pick r.w (30000 : Int) - (15000 : Int))) (pick r.lean (200 : Int))) (Iv.mk (65536 : Int) (65536 : Int) false))).z.lo)), .v (.int IntKind.i64 ((unit (V.mk (wide (IntKind.i64.wrap (pick r.u (30000 : Int) - (15000 : Int))) (pick r.lean (200 : Int))) (wide (IntKind.i64.wrap (pick r.w (30000 : Int) - (15000 : Int))) (pick r.lean (200 : Int))) (Iv.mk (65536 : Int) (65536 : Int) false))).z.hi)), .v (.bool ((unit (V.mk (wide (IntKind.i64.wrap (pick r.u (30000 : Int) - (15000 : Int))) (pick r.lean (200 : Int))) (wide (IntKind.i64.wrap (pick r.w (30000 : Int) - (15000 : Int))) (pick r.lean (200 : Int))) (Iv.mk (65536 : Int) (65536 : Int) false))).z.no))])))))))))) else (((0 : Int) < (30000 : Int) ∧ (30000 : Int) ≤ (4611686018427387904 : Int)) ∧ (((0 : Int) ≤ (0 : Int) ∧ (0 : Int) ≤ (1073741824 : Int)) ∧ (((0 : Int) < (30000 : Int) ∧ (30000 : Int) ≤ (4611686018427387904 : Int)) ∧ (((0 : Int) ≤ (0 : Int) ∧ (0 : Int) ≤ (1073741824 : Int)) ∧ (((0 : Int) < (655360 : Int) ∧ (655360 : Int) ≤ (4611686018427387904 : Int)) ∧ (((0 : Int) ≤ (0 : Int) ∧ (0 : Int) ≤ (1073741824 : Int)) ∧ (((0 : Int) < (655360 : Int) ∧ (655360 : Int) ≤ (4611686018427387904 : Int)) ∧ (((0 : Int) ≤ (0 : Int) ∧ (0 : Int) ≤ (1073741824 : Int)) ∧ Q (.agg [.v (.int IntKind.i64 ((wide (IntKind.i64.wrap (pick r.x (655360 : Int) - (327680 : Int))) (0 : Int)).lo)), .v (.int IntKind.i64 ((wide (IntKind.i64.wrap (pick r.x (655360 : Int) - (327680 : Int))) (0 : Int)).hi)), .v (.bool ((wide (IntKind.i64.wrap (pick r.x (655360 : Int) - (327680 : Int))) (0 : Int)).no)), .v (.int IntKind.i64 ((wide (IntKind.i64.wrap (pick r.y (655360 : Int) - (327680 : Int))) (0 : Int)).lo)), .v (.int IntKind.i64 ((wide (IntKind.i64.wrap (pick r.y (655360 : Int) - (327680 : Int))) (0 : Int)).hi)), .v (.bool ((wide (IntKind.i64.wrap (pick r.y (655360 : Int) - (327680 : Int))) (0 : Int)).no)), .v (.int IntKind.i64 ((0 : Int))), .v (.int IntKind.i64 ((0 : Int))), .v (.bool (false)), .v (.int IntKind.i64 ((unit (V.mk (wide (IntKind.i64.wrap (pick r.u (30000 : Int) - (15000 : Int))) (0 : Int)) (wide (IntKind.i64.wrap (pick r.w (30000 : Int) - (15000 : Int))) (0 : Int)) (Iv.mk (65536 : Int) (65536 : Int) false))).x.lo)), .v (.int IntKind.i64 ((unit (V.mk (wide (IntKind.i64.wrap (pick r.u (30000 : Int) - (15000 : Int))) (0 : Int)) (wide (IntKind.i64.wrap (pick r.w (30000 : Int) - (15000 : Int))) (0 : Int)) (Iv.mk (65536 : Int) (65536 : Int) false))).x.hi)), .v (.bool ((unit (V.mk (wide (IntKind.i64.wrap (pick r.u (30000 : Int) - (15000 : Int))) (0 : Int)) (wide (IntKind.i64.wrap (pick r.w (30000 : Int) - (15000 : Int))) (0 : Int)) (Iv.mk (65536 : Int) (65536 : Int) false))).x.no)), .v (.int IntKind.i64 ((unit (V.mk (wide (IntKind.i64.wrap (pick r.u (30000 : Int) - (15000 : Int))) (0 : Int)) (wide (IntKind.i64.wrap (pick r.w (30000 : Int) - (15000 : Int))) (0 : Int)) (Iv.mk (65536 : Int) (65536 : Int) false))).y.lo)), .v (.int IntKind.i64 ((unit (V.mk (wide (IntKind.i64.wrap (pick r.u (30000 : Int) - (15000 : Int))) (0 : Int)) (wide (IntKind.i64.wrap (pick r.w (30000 : Int) - (15000 : Int))) (0 : Int)) (Iv.mk (65536 : Int) (65536 : Int) false))).y.hi)), .v (.bool ((unit (V.mk (wide (IntKind.i64.wrap (pick r.u (30000 : Int) - (15000 : Int))) (0 : Int)) (wide (IntKind.i64.wrap (pick r.w (30000 : Int) - (15000 : Int))) (0 : Int)) (Iv.mk (65536 : Int) (65536 : Int) false))).y.no)), .v (.int IntKind.i64 ((unit (V.mk (wide (IntKind.i64.wrap (pick r.u (30000 : Int) - (15000 : Int))) (0 : Int)) (wide (IntKind.i64.wrap (pick r.w (30000 : Int) - (15000 : Int))) (0 : Int)) (Iv.mk (65536 : Int) (65536 : Int) false))).z.lo)), .v (.int IntKind.i64 ((unit (V.mk (wide (IntKind.i64.wrap (pick r.u (30000 : Int) - (15000 : Int))) (0 : Int)) (wide (IntKind.i64.wrap (pick r.w (30000 : Int) - (15000 : Int))) (0 : Int)) (Iv.mk (65536 : Int) (65536 : Int) false))).z.hi)), .v (.bool ((unit (V.mk (wide (IntKind.i64.wrap (pick r.u (30000 : Int) - (15000 : Int))) (0 : Int)) (wide (IntKind.i64.wrap (pick r.w (30000 : Int) - (15000 : Int))) (0 : Int)) (Iv.mk (65536 : Int) (65536 : Int) false))).z.no))]))))))))))) else (((3 : Int) ≠ (0 : Int)) ∧ (bif r.lean.tmod (3 : Int) == (2 : Int) then (((0 : Int) < (200 : Int) ∧ (200 : Int) ≤ (4611686018427387904 : Int)) ∧ (((0 : Int) < (30000 : Int) ∧ (30000 : Int) ≤ (4611686018427387904 : Int)) ∧ (((0 : Int) ≤ pick r.lean (200 : Int) ∧ pick r.lean (200 : Int) ≤ (1073741824 : Int)) ∧ (((0 : Int) < (30000 : Int) ∧ (30000 : Int) ≤ (4611686018427387904 : Int)) ∧ (((0 : Int) ≤ pick r.lean (200 : Int) ∧ pick r.lean (200 : Int) ≤ (1073741824 : Int)) ∧ (((0 : Int) < (655360 : Int) ∧ (655360 : Int) ≤ (4611686018427387904 : Int)) ∧ (((0 : Int) ≤ pick r.wide (9000 : Int) ∧ pick r.wide (9000 : Int) ≤ (1073741824 : Int)) ∧ (((0 : Int) < (655360 : Int) ∧ (655360 : Int) ≤ (4611686018427387904 : Int)) ∧ (((0 : Int) ≤ pick r.wide (9000 : Int) ∧ pick r.wide (9000 : Int) ≤ (1073741824 : Int)) ∧ Q (.agg [.v (.int IntKind.i64 ((wide (IntKind.i64.wrap (pick r.x (655360 : Int) - (327680 : Int))) (pick r.wide (9000 : Int))).lo)), .v (.int IntKind.i64 ((wide (IntKind.i64.wrap (pick r.x (655360 : Int) - (327680 : Int))) (pick r.wide (9000 : Int))).hi)), .v (.bool ((wide (IntKind.i64.wrap (pick r.x (655360 : Int) - (327680 : Int))) (pick r.wide (9000 : Int))).no)), .v (.int IntKind.i64 ((wide (IntKind.i64.wrap (pick r.y (655360 : Int) - (327680 : Int))) (pick r.wide (9000 : Int))).lo)), .v (.int IntKind.i64 ((wide (IntKind.i64.wrap (pick r.y (655360 : Int) - (327680 : Int))) (pick r.wide (9000 : Int))).hi)), .v (.bool ((wide (IntKind.i64.wrap (pick r.y (655360 : Int) - (327680 : Int))) (pick r.wide (9000 : Int))).no)), .v (.int IntKind.i64 ((0 : Int))), .v (.int IntKind.i64 ((0 : Int))), .v (.bool (false)), .v (.int IntKind.i64 ((unit (V.mk (wide (IntKind.i64.wrap (pick r.u (30000 : Int) - (15000 : Int))) (pick r.lean (200 : Int))) (wide (IntKind.i64.wrap (pick r.w (30000 : Int) - (15000 : Int))) (pick r.lean (200 : Int))) (Iv.mk (65536 : Int) (65536 : Int) false))).x.lo)), .v (.int IntKind.i64 ((unit (V.mk (wide (IntKind.i64.wrap (pick r.u (30000 : Int) - (15000 : Int))) (pick r.lean (200 : Int))) (wide (IntKind.i64.wrap (pick r.w (30000 : Int) - (15000 : Int))) (pick r.lean (200 : Int))) (Iv.mk (65536 : Int) (65536 : Int) false))).x.hi)), .v (.bool ((unit (V.mk (wide (IntKind.i64.wrap (pick r.u (30000 : Int) - (15000 : Int))) (pick r.lean (200 : Int))) (wide (IntKind.i64.wrap (pick r.w (30000 : Int) - (15000 : Int))) (pick r.lean (200 : Int))) (Iv.mk (65536 : Int) (65536 : Int) false))).x.no)), .v (.int IntKind.i64 ((unit (V.mk (wide (IntKind.i64.wrap (pick r.u (30000 : Int) - (15000 : Int))) (pick r.lean (200 : Int))) (wide (IntKind.i64.wrap (pick r.w (30000 : Int) - (15000 : Int))) (pick r.lean (200 : Int))) (Iv.mk (65536 : Int) (65536 : Int) false))).y.lo)), .v (.int IntKind.i64 ((unit (V.mk (wide (IntKind.i64.wrap (pick r.u (30000 : Int) - (15000 : Int))) (pick r.lean (200 : Int))) (wide (IntKind.i64.wrap (pick r.w (30000 : Int) - (15000 : Int))) (pick r.lean (200 : Int))) (Iv.mk (65536 : Int) (65536 : Int) false))).y.hi)), .v (.bool ((unit (V.mk (wide (IntKind.i64.wrap (pick r.u (30000 : Int) - (15000 : Int))) (pick r.lean (200 : Int))) (wide (IntKind.i64.wrap (pick r.w (30000 : Int) - (15000 : Int))) (pick r.lean (200 : Int))) (Iv.mk (65536 : Int) (65536 : Int) false))).y.no)), .v (.int IntKind.i64 ((unit (V.mk (wide (IntKind.i64.wrap (pick r.u (30000 : Int) - (15000 : Int))) (pick r.lean (200 : Int))) (wide (IntKind.i64.wrap (pick r.w (30000 : Int) - (15000 : Int))) (pick r.lean (200 : Int))) (Iv.mk (65536 : Int) (65536 : Int) false))).z.lo)), .v (.int IntKind.i64 ((unit (V.mk (wide (IntKind.i64.wrap (pick r.u (30000 : Int) - (15000 : Int))) (pick r.lean (200 : Int))) (wide (IntKind.i64.wrap (pick r.w (30000 : Int) - (15000 : Int))) (pick r.lean (200 : Int))) (Iv.mk (65536 : Int) (65536 : Int) false))).z.hi)), .v (.bool ((unit (V.mk (wide (IntKind.i64.wrap (pick r.u (30000 : Int) - (15000 : Int))) (pick r.lean (200 : Int))) (wide (IntKind.i64.wrap (pick r.w (30000 : Int) - (15000 : Int))) (pick r.lean (200 : Int))) (Iv.mk (65536 : Int) (65536 : Int) false))).z.no))])))))))))) else (((0 : Int) < (30000 : Int) ∧ (30000 : Int) ≤ (4611686018427387904 : Int)) ∧ (((0 : Int) ≤ (0 : Int) ∧ (0 : Int) ≤ (1073741824 : Int)) ∧ (((0 : Int) < (30000 : Int) ∧ (30000 : Int) ≤ (4611686018427387904 : Int)) ∧ (((0 : Int) ≤ (0 : Int) ∧ (0 : Int) ≤ (1073741824 : Int)) ∧ (((0 : Int) < (655360 : Int) ∧ (655360 : Int) ≤ (4611686018427387904 : Int)) ∧ (((0 : Int) ≤ pick r.wide (9000 : Int) ∧ pick r.wide (9000 : Int) ≤ (1073741824 : Int)) ∧ (((0 : Int) < (655360 : Int) ∧ (655360 : Int) ≤ (4611686018427387904 : Int)) ∧ (((0 : Int) ≤ pick r.wide (9000 : Int) ∧ pick r.wide (9000 : Int) ≤ (1073741824 : Int)) ∧ Q (.agg [.v (.int IntKind.i64 ((wide (IntKind.i64.wrap (pick r.x (655360 : Int) - (327680 : Int))) (pick r.wide (9000 : Int))).lo)), .v (.int IntKind.i64 ((wide (IntKind.i64.wrap (pick r.x (655360 : Int) - (327680 : Int))) (pick r.wide (9000 : Int))).hi)), .v (.bool ((wide (IntKind.i64.wrap (pick r.x (655360 : Int) - (327680 : Int))) (pick r.wide (9000 : Int))).no)), .v (.int IntKind.i64 ((wide (IntKind.i64.wrap (pick r.y (655360 : Int) - (327680 : Int))) (pick r.wide (9000 : Int))).lo)), .v (.int IntKind.i64 ((wide (IntKind.i64.wrap (pick r.y (655360 : Int) - (327680 : Int))) (pick r.wide (9000 : Int))).hi)), .v (.bool ((wide (IntKind.i64.wrap (pick r.y (655360 : Int) - (327680 : Int))) (pick r.wide (9000 : Int))).no)), .v (.int IntKind.i64 ((0 : Int))), .v (.int IntKind.i64 ((0 : Int))), .v (.bool (false)), .v (.int IntKind.i64 ((unit (V.mk (wide (IntKind.i64.wrap (pick r.u (30000 : Int) - (15000 : Int))) (0 : Int)) (wide (IntKind.i64.wrap (pick r.w (30000 : Int) - (15000 : Int))) (0 : Int)) (Iv.mk (65536 : Int) (65536 : Int) false))).x.lo)), .v (.int IntKind.i64 ((unit (V.mk (wide (IntKind.i64.wrap (pick r.u (30000 : Int) - (15000 : Int))) (0 : Int)) (wide (IntKind.i64.wrap (pick r.w (30000 : Int) - (15000 : Int))) (0 : Int)) (Iv.mk (65536 : Int) (65536 : Int) false))).x.hi)), .v (.bool ((unit (V.mk (wide (IntKind.i64.wrap (pick r.u (30000 : Int) - (15000 : Int))) (0 : Int)) (wide (IntKind.i64.wrap (pick r.w (30000 : Int) - (15000 : Int))) (0 : Int)) (Iv.mk (65536 : Int) (65536 : Int) false))).x.no)), .v (.int IntKind.i64 ((unit (V.mk (wide (IntKind.i64.wrap (pick r.u (30000 : Int) - (15000 : Int))) (0 : Int)) (wide (IntKind.i64.wrap (pick r.w (30000 : Int) - (15000 : Int))) (0 : Int)) (Iv.mk (65536 : Int) (65536 : Int) false))).y.lo)), .v (.int IntKind.i64 ((unit (V.mk (wide (IntKind.i64.wrap (pick r.u (30000 : Int) - (15000 : Int))) (0 : Int)) (wide (IntKind.i64.wrap (pick r.w (30000 : Int) - (15000 : Int))) (0 : Int)) (Iv.mk (65536 : Int) (65536 : Int) false))).y.hi)), .v (.bool ((unit (V.mk (wide (IntKind.i64.wrap (pick r.u (30000 : Int) - (15000 : Int))) (0 : Int)) (wide (IntKind.i64.wrap (pick r.w (30000 : Int) - (15000 : Int))) (0 : Int)) (Iv.mk (65536 : Int) (65536 : Int) false))).y.no)), .v (.int IntKind.i64 ((unit (V.mk (wide (IntKind.i64.wrap (pick r.u (30000 : Int) - (15000 : Int))) (0 : Int)) (wide (IntKind.i64.wrap (pick r.w (30000 : Int) - (15000 : Int))) (0 : Int)) (Iv.mk (65536 : Int) (65536 : Int) false))).z.lo)), .v (.int IntKind.i64 ((unit (V.mk (wide (IntKind.i64.wrap (pick r.u (30000 : Int) - (15000 : Int))) (0 : Int)) (wide (IntKind.i64.wrap (pick r.w (30000 : Int) - (15000 : Int))) (0 : Int)) (Iv.mk (65536 : Int) (65536 : Int) false))).z.hi)), .v (.bool ((unit (V.mk (wide (IntKind.i64.wrap (pick r.u (30000 : Int) - (15000 : Int))) (0 : Int)) (wide (IntKind.i64.wrap (pick r.w (30000 : Int) - (15000 : Int))) (0 : Int)) (Iv.mk (65536 : Int) (65536 : Int) false))).z.no))])))))))))))))) else (((5 : Int) ≠ (0 : Int)) ∧ (bif r.wide.tmod (5 : Int) == (3 : Int) then (((3 : Int) ≠ (0 : Int)) ∧ (bif r.lean.tmod (3 : Int) == (2 : Int) then (((0 : Int) < (200 : Int) ∧ (200 : Int) ≤ (4611686018427387904 : Int)) ∧ (((0 : Int) < (30000 : Int) ∧ (30000 : Int) ≤ (4611686018427387904 : Int)) ∧ (((0 : Int) ≤ pick r.lean (200 : Int) ∧ pick r.lean (200 : Int) ≤ (1073741824 : Int)) ∧ (((0 : Int) < (30000 : Int) ∧ (30000 : Int) ≤ (4611686018427387904 : Int)) ∧ (((0 : Int) ≤ pick r.lean (200 : Int) ∧ pick r.lean (200 : Int) ≤ (1073741824 : Int)) ∧ (((0 : Int) < (655360 : Int) ∧ (655360 : Int) ≤ (4611686018427387904 : Int)) ∧ (((0 : Int) ≤ (0 : Int) ∧ (0 : Int) ≤ (1073741824 : Int)) ∧ (((0 : Int) < (655360 : Int) ∧ (655360 : Int) ≤ (4611686018427387904 : Int)) ∧ (((0 : Int) ≤ (0 : Int) ∧ (0 : Int) ≤ (1073741824 : Int)) ∧ Q (.agg [.v (.int IntKind.i64 ((wide (IntKind.i64.wrap (pick r.x (655360 : Int) - (327680 : Int))) (0 : Int)).lo)), .v (.int IntKind.i64 ((wide (IntKind.i64.wrap (pick r.x (655360 : Int) - (327680 : Int))) (0 : Int)).hi)), .v (.bool ((wide (IntKind.i64.wrap (pick r.x (655360 : Int) - (327680 : Int))) (0 : Int)).no)), .v (.int IntKind.i64 ((wide (IntKind.i64.wrap (pick r.y (655360 : Int) - (327680 : Int))) (0 : Int)).lo)), .v (.int IntKind.i64 ((wide (IntKind.i64.wrap (pick r.y (655360 : Int) - (327680 : Int))) (0 : Int)).hi)), .v (.bool ((wide (IntKind.i64.wrap (pick r.y (655360 : Int) - (327680 : Int))) (0 : Int)).no)), .v (.int IntKind.i64 ((0 : Int))), .v (.int IntKind.i64 ((0 : Int))), .v (.bool (false)), .v (.int IntKind.i64 ((unit (V.mk (wide (IntKind.i64.wrap (pick r.u (30000 : Int) - (15000 : Int))) (pick r.lean (200 : Int))) (wide (IntKind.i64.wrap (pick r.w (30000 : Int) - (15000 : Int))) (pick r.lean (200 : Int))) (Iv.mk (65536 : Int) (65536 : Int) false))).x.lo)), .v (.int IntKind.i64 ((unit (V.mk (wide (IntKind.i64.wrap (pick r.u (30000 : Int) - (15000 : Int))) (pick r.lean (200 : Int))) (wide (IntKind.i64.wrap (pick r.w (30000 : Int) - (15000 : Int))) (pick r.lean (200 : Int))) (Iv.mk (65536 : Int) (65536 : Int) false))).x.hi)), .v (.bool ((unit (V.mk (wide (IntKind.i64.wrap (pick r.u (30000 : Int) - (15000 : Int))) (pick r.lean (200 : Int))) (wide (IntKind.i64.wrap (pick r.w (30000 : Int) - (15000 : Int))) (pick r.lean (200 : Int))) (Iv.mk (65536 : Int) (65536 : Int) false))).x.no)), .v (.int IntKind.i64 ((unit (V.mk (wide (IntKind.i64.wrap (pick r.u (30000 : Int) - (15000 : Int))) (pick r.lean (200 : Int))) (wide (IntKind.i64.wrap (pick r.w (30000 : Int) - (15000 : Int))) (pick r.lean (200 : Int))) (Iv.mk (65536 : Int) (65536 : Int) false))).y.lo)), .v (.int IntKind.i64 ((unit (V.mk (wide (IntKind.i64.wrap (pick r.u (30000 : Int) - (15000 : Int))) (pick r.lean (200 : Int))) (wide (IntKind.i64.wrap (pick r.w (30000 : Int) - (15000 : Int))) (pick r.lean (200 : Int))) (Iv.mk (65536 : Int) (65536 : Int) false))).y.hi)), .v (.bool ((unit (V.mk (wide (IntKind.i64.wrap (pick r.u (30000 : Int) - (15000 : Int))) (pick r.lean (200 : Int))) (wide (IntKind.i64.wrap (pick r.w (30000 : Int) - (15000 : Int))) (pick r.lean (200 : Int))) (Iv.mk (65536 : Int) (65536 : Int) false))).y.no)), .v (.int IntKind.i64 ((unit (V.mk (wide (IntKind.i64.wrap (pick r.u (30000 : Int) - (15000 : Int))) (pick r.lean (200 : Int))) (wide (IntKind.i64.wrap (pick r.w (30000 : Int) - (15000 : Int))) (pick r.lean (200 : Int))) (Iv.mk (65536 : Int) (65536 : Int) false))).z.lo)), .v (.int IntKind.i64 ((unit (V.mk (wide (IntKind.i64.wrap (pick r.u (30000 : Int) - (15000 : Int))) (pick r.lean (200 : Int))) (wide (IntKind.i64.wrap (pick r.w (30000 : Int) - (15000 : Int))) (pick r.lean (200 : Int))) (Iv.mk (65536 : Int) (65536 : Int) false))).z.hi)), .v (.bool ((unit (V.mk (wide (IntKind.i64.wrap (pick r.u (30000 : Int) - (15000 : Int))) (pick r.lean (200 : Int))) (wide (IntKind.i64.wrap (pick r.w (30000 : Int) - (15000 : Int))) (pick r.lean (200 : Int))) (Iv.mk (65536 : Int) (65536 : Int) false))).z.no))])))))))))) else (((0 : Int) < (30000 : Int) ∧ (30000 : Int) ≤ (4611686018427387904 : Int)) ∧ (((0 : Int) ≤ (0 : Int) ∧ (0 : Int) ≤ (1073741824 : Int)) ∧ (((0 : Int) < (30000 : Int) ∧ (30000 : Int) ≤ (4611686018427387904 : Int)) ∧ (((0 : Int) ≤ (0 : Int) ∧ (0 : Int) ≤ (1073741824 : Int)) ∧ (((0 : Int) < (655360 : Int) ∧ (655360 : Int) ≤ (4611686018427387904 : Int)) ∧ (((0 : Int) ≤ (0 : Int) ∧ (0 : Int) ≤ (1073741824 : Int)) ∧ (((0 : Int) < (655360 : Int) ∧ (655360 : Int) ≤ (4611686018427387904 : Int)) ∧ (((0 : Int) ≤ (0 : Int) ∧ (0 : Int) ≤ (1073741824 : Int)) ∧ Q (.agg [.v (.int IntKind.i64 ((wide (IntKind.i64.wrap (pick r.x (655360 : Int) - (327680 : Int))) (0 : Int)).lo)), .v (.int IntKind.i64 ((wide (IntKind.i64.wrap (pick r.x (655360 : Int) - (327680 : Int))) (0 : Int)).hi)), .v (.bool ((wide (IntKind.i64.wrap (pick r.x (655360 : Int) - (327680 : Int))) (0 : Int)).no)), .v (.int IntKind.i64 ((wide (IntKind.i64.wrap (pick r.y (655360 : Int) - (327680 : Int))) (0 : Int)).lo)), .v (.int IntKind.i64 ((wide (IntKind.i64.wrap (pick r.y (655360 : Int) - (327680 : Int))) (0 : Int)).hi)), .v (.bool ((wide (IntKind.i64.wrap (pick r.y (655360 : Int) - (327680 : Int))) (0 : Int)).no)), .v (.int IntKind.i64 ((0 : Int))), .v (.int IntKind.i64 ((0 : Int))), .v (.bool (false)), .v (.int IntKind.i64 ((unit (V.mk (wide (IntKind.i64.wrap (pick r.u (30000 : Int) - (15000 : Int))) (0 : Int)) (wide (IntKind.i64.wrap (pick r.w (30000 : Int) - (15000 : Int))) (0 : Int)) (Iv.mk (65536 : Int) (65536 : Int) false))).x.lo)), .v (.int IntKind.i64 ((unit (V.mk (wide (IntKind.i64.wrap (pick r.u (30000 : Int) - (15000 : Int))) (0 : Int)) (wide (IntKind.i64.wrap (pick r.w (30000 : Int) - (15000 : Int))) (0 : Int)) (Iv.mk (65536 : Int) (65536 : Int) false))).x.hi)), .v (.bool ((unit (V.mk (wide (IntKind.i64.wrap (pick r.u (30000 : Int) - (15000 : Int))) (0 : Int)) (wide (IntKind.i64.wrap (pick r.w (30000 : Int) - (15000 : Int))) (0 : Int)) (Iv.mk (65536 : Int) (65536 : Int) false))).x.no)), .v (.int IntKind.i64 ((unit (V.mk (wide (IntKind.i64.wrap (pick r.u (30000 : Int) - (15000 : Int))) (0 : Int)) (wide (IntKind.i64.wrap (pick r.w (30000 : Int) - (15000 : Int))) (0 : Int)) (Iv.mk (65536 : Int) (65536 : Int) false))).y.lo)), .v (.int IntKind.i64 ((unit (V.mk (wide (IntKind.i64.wrap (pick r.u (30000 : Int) - (15000 : Int))) (0 : Int)) (wide (IntKind.i64.wrap (pick r.w (30000 : Int) - (15000 : Int))) (0 : Int)) (Iv.mk (65536 : Int) (65536 : Int) false))).y.hi)), .v (.bool ((unit (V.mk (wide (IntKind.i64.wrap (pick r.u (30000 : Int) - (15000 : Int))) (0 : Int)) (wide (IntKind.i64.wrap (pick r.w (30000 : Int) - (15000 : Int))) (0 : Int)) (Iv.mk (65536 : Int) (65536 : Int) false))).y.no)), .v (.int IntKind.i64 ((unit (V.mk (wide (IntKind.i64.wrap (pick r.u (30000 : Int) - (15000 : Int))) (0 : Int)) (wide (IntKind.i64.wrap (pick r.w (30000 : Int) - (15000 : Int))) (0 : Int)) (Iv.mk (65536 : Int) (65536 : Int) false))).z.lo)), .v (.int IntKind.i64 ((unit (V.mk (wide (IntKind.i64.wrap (pick r.u (30000 : Int) - (15000 : Int))) (0 : Int)) (wide (IntKind.i64.wrap (pick r.w (30000 : Int) - (15000 : Int))) (0 : Int)) (Iv.mk (65536 : Int) (65536 : Int) false))).z.hi)), .v (.bool ((unit (V.mk (wide (IntKind.i64.wrap (pick r.u (30000 : Int) - (15000 : Int))) (0 : Int)) (wide (IntKind.i64.wrap (pick r.w (30000 : Int) - (15000 : Int))) (0 : Int)) (Iv.mk (65536 : Int) (65536 : Int) false))).z.no))]))))))))))) else (((3 : Int) ≠ (0 : Int)) ∧ (bif r.lean.tmod (3 : Int) == (2 : Int) then (((0 : Int) < (200 : Int) ∧ (200 : Int) ≤ (4611686018427387904 : Int)) ∧ (((0 : Int) < (30000 : Int) ∧ (30000 : Int) ≤ (4611686018427387904 : Int)) ∧ (((0 : Int) ≤ pick r.lean (200 : Int) ∧ pick r.lean (200 : Int) ≤ (1073741824 : Int)) ∧ (((0 : Int) < (30000 : Int) ∧ (30000 : Int) ≤ (4611686018427387904 : Int)) ∧ (((0 : Int) ≤ pick r.lean (200 : Int) ∧ pick r.lean (200 : Int) ≤ (1073741824 : Int)) ∧ (((0 : Int) < (655360 : Int) ∧ (655360 : Int) ≤ (4611686018427387904 : Int)) ∧ (((0 : Int) ≤ pick r.wide (400 : Int) ∧ pick r.wide (400 : Int) ≤ (1073741824 : Int)) ∧ (((0 : Int) < (655360 : Int) ∧ (655360 : Int) ≤ (4611686018427387904 : Int)) ∧ (((0 : Int) ≤ pick r.wide (400 : Int) ∧ pick r.wide (400 : Int) ≤ (1073741824 : Int)) ∧ Q (.agg [.v (.int IntKind.i64 ((wide (IntKind.i64.wrap (pick r.x (655360 : Int) - (327680 : Int))) (pick r.wide (400 : Int))).lo)), .v (.int IntKind.i64 ((wide (IntKind.i64.wrap (pick r.x (655360 : Int) - (327680 : Int))) (pick r.wide (400 : Int))).hi)), .v (.bool ((wide (IntKind.i64.wrap (pick r.x (655360 : Int) - (327680 : Int))) (pick r.wide (400 : Int))).no)), .v (.int IntKind.i64 ((wide (IntKind.i64.wrap (pick r.y (655360 : Int) - (327680 : Int))) (pick r.wide (400 : Int))).lo)), .v (.int IntKind.i64 ((wide (IntKind.i64.wrap (pick r.y (655360 : Int) - (327680 : Int))) (pick r.wide (400 : Int))).hi)), .v (.bool ((wide (IntKind.i64.wrap (pick r.y (655360 : Int) - (327680 : Int))) (pick r.wide (400 : Int))).no)), .v (.int IntKind.i64 ((0 : Int))), .v (.int IntKind.i64 ((0 : Int))), .v (.bool (false)), .v (.int IntKind.i64 ((unit (V.mk (wide (IntKind.i64.wrap (pick r.u (30000 : Int) - (15000 : Int))) (pick r.lean (200 : Int))) (wide (IntKind.i64.wrap (pick r.w (30000 : Int) - (15000 : Int))) (pick r.lean (200 : Int))) (Iv.mk (65536 : Int) (65536 : Int) false))).x.lo)), .v (.int IntKind.i64 ((unit (V.mk (wide (IntKind.i64.wrap (pick r.u (30000 : Int) - (15000 : Int))) (pick r.lean (200 : Int))) (wide (IntKind.i64.wrap (pick r.w (30000 : Int) - (15000 : Int))) (pick r.lean (200 : Int))) (Iv.mk (65536 : Int) (65536 : Int) false))).x.hi)), .v (.bool ((unit (V.mk (wide (IntKind.i64.wrap (pick r.u (30000 : Int) - (15000 : Int))) (pick r.lean (200 : Int))) (wide (IntKind.i64.wrap (pick r.w (30000 : Int) - (15000 : Int))) (pick r.lean (200 : Int))) (Iv.mk (65536 : Int) (65536 : Int) false))).x.no)), .v (.int IntKind.i64 ((unit (V.mk (wide (IntKind.i64.wrap (pick r.u (30000 : Int) - (15000 : Int))) (pick r.lean (200 : Int))) (wide (IntKind.i64.wrap (pick r.w (30000 : Int) - (15000 : Int))) (pick r.lean (200 : Int))) (Iv.mk (65536 : Int) (65536 : Int) false))).y.lo)), .v (.int IntKind.i64 ((unit (V.mk (wide (IntKind.i64.wrap (pick r.u (30000 : Int) - (15000 : Int))) (pick r.lean (200 : Int))) (wide (IntKind.i64.wrap (pick r.w (30000 : Int) - (15000 : Int))) (pick r.lean (200 : Int))) (Iv.mk (65536 : Int) (65536 : Int) false))).y.hi)), .v (.bool ((unit (V.mk (wide (IntKind.i64.wrap (pick r.u (30000 : Int) - (15000 : Int))) (pick r.lean (200 : Int))) (wide (IntKind.i64.wrap (pick r.w (30000 : Int) - (15000 : Int))) (pick r.lean (200 : Int))) (Iv.mk (65536 : Int) (65536 : Int) false))).y.no)), .v (.int IntKind.i64 ((unit (V.mk (wide (IntKind.i64.wrap (pick r.u (30000 : Int) - (15000 : Int))) (pick r.lean (200 : Int))) (wide (IntKind.i64.wrap (pick r.w (30000 : Int) - (15000 : Int))) (pick r.lean (200 : Int))) (Iv.mk (65536 : Int) (65536 : Int) false))).z.lo)), .v (.int IntKind.i64 ((unit (V.mk (wide (IntKind.i64.wrap (pick r.u (30000 : Int) - (15000 : Int))) (pick r.lean (200 : Int))) (wide (IntKind.i64.wrap (pick r.w (30000 : Int) - (15000 : Int))) (pick r.lean (200 : Int))) (Iv.mk (65536 : Int) (65536 : Int) false))).z.hi)), .v (.bool ((unit (V.mk (wide (IntKind.i64.wrap (pick r.u (30000 : Int) - (15000 : Int))) (pick r.lean (200 : Int))) (wide (IntKind.i64.wrap (pick r.w (30000 : Int) - (15000 : Int))) (pick r.lean (200 : Int))) (Iv.mk (65536 : Int) (65536 : Int) false))).z.no))])))))))))) else (((0 : Int) < (30000 : Int) ∧ (30000 : Int) ≤ (4611686018427387904 : Int)) ∧ (((0 : Int) ≤ (0 : Int) ∧ (0 : Int) ≤ (1073741824 : Int)) ∧ (((0 : Int) < (30000 : Int) ∧ (30000 : Int) ≤ (4611686018427387904 : Int)) ∧ (((0 : Int) ≤ (0 : Int) ∧ (0 : Int) ≤ (1073741824 : Int)) ∧ (((0 : Int) < (655360 : Int) ∧ (655360 : Int) ≤ (4611686018427387904 : Int)) ∧ (((0 : Int) ≤ pick r.wide (400 : Int) ∧ pick r.wide (400 : Int) ≤ (1073741824 : Int)) ∧ (((0 : Int) < (655360 : Int) ∧ (655360 : Int) ≤ (4611686018427387904 : Int)) ∧ (((0 : Int) ≤ pick r.wide (400 : Int) ∧ pick r.wide (400 : Int) ≤ (1073741824 : Int)) ∧ Q (.agg [.v (.int IntKind.i64 ((wide (IntKind.i64.wrap (pick r.x (655360 : Int) - (327680 : Int))) (pick r.wide (400 : Int))).lo)), .v (.int IntKind.i64 ((wide (IntKind.i64.wrap (pick r.x (655360 : Int) - (327680 : Int))) (pick r.wide (400 : Int))).hi)), .v (.bool ((wide (IntKind.i64.wrap (pick r.x (655360 : Int) - (327680 : Int))) (pick r.wide (400 : Int))).no)), .v (.int IntKind.i64 ((wide (IntKind.i64.wrap (pick r.y (655360 : Int) - (327680 : Int))) (pick r.wide (400 : Int))).lo)), .v (.int IntKind.i64 ((wide (IntKind.i64.wrap (pick r.y (655360 : Int) - (327680 : Int))) (pick r.wide (400 : Int))).hi)), .v (.bool ((wide (IntKind.i64.wrap (pick r.y (655360 : Int) - (327680 : Int))) (pick r.wide (400 : Int))).no)), .v (.int IntKind.i64 ((0 : Int))), .v (.int IntKind.i64 ((0 : Int))), .v (.bool (false)), .v (.int IntKind.i64 ((unit (V.mk (wide (IntKind.i64.wrap (pick r.u (30000 : Int) - (15000 : Int))) (0 : Int)) (wide (IntKind.i64.wrap (pick r.w (30000 : Int) - (15000 : Int))) (0 : Int)) (Iv.mk (65536 : Int) (65536 : Int) false))).x.lo)), .v (.int IntKind.i64 ((unit (V.mk (wide (IntKind.i64.wrap (pick r.u (30000 : Int) - (15000 : Int))) (0 : Int)) (wide (IntKind.i64.wrap (pick r.w (30000 : Int) - (15000 : Int))) (0 : Int)) (Iv.mk (65536 : Int) (65536 : Int) false))).x.hi)), .v (.bool ((unit (V.mk (wide (IntKind.i64.wrap (pick r.u (30000 : Int) - (15000 : Int))) (0 : Int)) (wide (IntKind.i64.wrap (pick r.w (30000 : Int) - (15000 : Int))) (0 : Int)) (Iv.mk (65536 : Int) (65536 : Int) false))).x.no)), .v (.int IntKind.i64 ((unit (V.mk (wide (IntKind.i64.wrap (pick r.u (30000 : Int) - (15000 : Int))) (0 : Int)) (wide (IntKind.i64.wrap (pick r.w (30000 : Int) - (15000 : Int))) (0 : Int)) (Iv.mk (65536 : Int) (65536 : Int) false))).y.lo)), .v (.int IntKind.i64 ((unit (V.mk (wide (IntKind.i64.wrap (pick r.u (30000 : Int) - (15000 : Int))) (0 : Int)) (wide (IntKind.i64.wrap (pick r.w (30000 : Int) - (15000 : Int))) (0 : Int)) (Iv.mk (65536 : Int) (65536 : Int) false))).y.hi)), .v (.bool ((unit (V.mk (wide (IntKind.i64.wrap (pick r.u (30000 : Int) - (15000 : Int))) (0 : Int)) (wide (IntKind.i64.wrap (pick r.w (30000 : Int) - (15000 : Int))) (0 : Int)) (Iv.mk (65536 : Int) (65536 : Int) false))).y.no)), .v (.int IntKind.i64 ((unit (V.mk (wide (IntKind.i64.wrap (pick r.u (30000 : Int) - (15000 : Int))) (0 : Int)) (wide (IntKind.i64.wrap (pick r.w (30000 : Int) - (15000 : Int))) (0 : Int)) (Iv.mk (65536 : Int) (65536 : Int) false))).z.lo)), .v (.int IntKind.i64 ((unit (V.mk (wide (IntKind.i64.wrap (pick r.u (30000 : Int) - (15000 : Int))) (0 : Int)) (wide (IntKind.i64.wrap (pick r.w (30000 : Int) - (15000 : Int))) (0 : Int)) (Iv.mk (65536 : Int) (65536 : Int) false))).z.hi)), .v (.bool ((unit (V.mk (wide (IntKind.i64.wrap (pick r.u (30000 : Int) - (15000 : Int))) (0 : Int)) (wide (IntKind.i64.wrap (pick r.w (30000 : Int) - (15000 : Int))) (0 : Int)) (Iv.mk (65536 : Int) (65536 : Int) false))).z.no))])))))))))))))))) := by kernel_rfl
theorem cs_HRay : CSOk Try.prog (tabC [(5, e5), (17, e17), (16, e16)]) := tabC_cons eok5 <| tabC_cons eok17 <| tabC_cons eok16 <| tabC_nil
theorem con_HRay (r : RawRay)  : Con Try.prog 6 [.agg (RawRay.enc r)] (.agg (Ray.enc (handRay r))) := by
  refine con_fin evEnv_ok cs_HRay noCP_ok noCI_ok owOk_no (n := 2000) (LS := []) (fn := Try.f6) rfl loopsOk_nil ?_
  rw [sx_HRay]
  refine ⟨?r76, ⟨?r75, condI (fun h0 => ⟨?r37, ⟨?r36, condI (fun h1 => ⟨?r17, condI (fun h2 => ⟨?r8, ⟨?r7, ⟨?r6, ⟨?r5, ⟨?r4, ⟨?r3, ⟨?r2, ⟨?r1, ⟨?r0, ?_⟩⟩⟩⟩⟩⟩⟩⟩⟩) (fun h2 => ⟨?r16, ⟨?r15, ⟨?r14, ⟨?r13, ⟨?r12, ⟨?r11, ⟨?r10, ⟨?r9, ?_⟩⟩⟩⟩⟩⟩⟩⟩)⟩) (fun h1 => ⟨?r35, condI (fun h2 => ⟨?r26, ⟨?r25, ⟨?r24, ⟨?r23, ⟨?r22, ⟨?r21, ⟨?r20, ⟨?r19, ⟨?r18, ?_⟩⟩⟩⟩⟩⟩⟩⟩⟩) (fun h2 => ⟨?r34, ⟨?r33, ⟨?r32, ⟨?r31, ⟨?r30, ⟨?r29, ⟨?r28, ⟨?r27, ?_⟩⟩⟩⟩⟩⟩⟩⟩)⟩)⟩⟩) (fun h0 => ⟨?r74, condI (fun h1 => ⟨?r55, condI (fun h2 => ⟨?r46, ⟨?r45, ⟨?r44, ⟨?r43, ⟨?r42, ⟨?r41, ⟨?r40, ⟨?r39, ⟨?r38, ?_⟩⟩⟩⟩⟩⟩⟩⟩⟩) (fun h2 => ⟨?r54, ⟨?r53, ⟨?r52, ⟨?r51, ⟨?r50, ⟨?r49, ⟨?r48, ⟨?r47, ?_⟩⟩⟩⟩⟩⟩⟩⟩)⟩) (fun h1 => ⟨?r73, condI (fun h2 => ⟨?r64, ⟨?r63, ⟨?r62, ⟨?r61, ⟨?r60, ⟨?r59, ⟨?r58, ⟨?r57, ⟨?r56, ?_⟩⟩⟩⟩⟩⟩⟩⟩⟩) (fun h2 => ⟨?r72, ⟨?r71, ⟨?r70, ⟨?r69, ⟨?r68, ⟨?r67, ⟨?r66, ⟨?r65, ?_⟩⟩⟩⟩⟩⟩⟩⟩)⟩)⟩)⟩⟩
  case r0 | r1 | r2 | r3 | r4 | r5 | r6 | r7 | r8 | r9 | r10 | r11 | r12 | r13 | r14 | r15 | r16 | r17 | r18 | r19 | r20 | r21 | r22 | r23 | r24 | r25 | r26 | r27 | r28 | r29 | r30 | r31 | r32 | r33 | r34 | r35 | r36 | r37 | r38 | r39 | r40 | r41 | r42 | r43 | r44 | r45 | r46 | r47 | r48 | r49 | r50 | r51 | r52 | r53 | r54 | r55 | r56 | r57 | r58 | r59 | r60 | r61 | r62 | r63 | r64 | r65 | r66 | r67 | r68 | r69 | r70 | r71 | r72 | r73 | r74 | r75 | r76 => have b1 := pick_bd (n := r.lean) (m := 200) (by omega); have b2 := pick_bd (n := r.wide) (m := 9000) (by omega); have b3 := pick_bd (n := r.wide) (m := 400) (by omega); omega
  all_goals rw [wrap_fit (show Fit (pick r.x 655360 - 327680) by have := pick_bd (n := r.x) (m := 655360) (by omega); constructor <;> omega), wrap_fit (show Fit (pick r.y 655360 - 327680) by have := pick_bd (n := r.y) (m := 655360) (by omega); constructor <;> omega), wrap_fit (show Fit (pick r.u 30000 - 15000) by have := pick_bd (n := r.u) (m := 30000) (by omega); constructor <;> omega), wrap_fit (show Fit (pick r.w 30000 - 15000) by have := pick_bd (n := r.w) (m := 30000) (by omega); constructor <;> omega)]
  all_goals simp only [handRay, *, cond_true, cond_false]
  all_goals rfl
theorem eok_HRay : EntOk Try.prog 6 e_HRay := by
  intro args r ps h hp
  unfold e_HRay at h
  split at h
  · rename_i p1 p2 p3 p4 p5 p6
    cases (Option.some.inj h)
    exact con_HRay (⟨p1, p2, p3, p4, p5, p6⟩ : RawRay) 
  · exact absurd h (by simp)
theorem eok6 : EntOk Try.prog 6 e6 := eok_HRay
theorem sx_nought  (Q : PV → Prop) : sxF evEnv (tabC []) noCP noCI noG [] 2000 Try.f46 [] Q = Q (.agg [.v (.int IntKind.i64 ((0 : Int))), .v (.int IntKind.i64 ((0 : Int)))]) := by kernel_rfl
theorem cs_nought : CSOk Try.prog (tabC []) := tabC_nil
theorem con_nought   : Con Try.prog 46 [] (.agg (Dec.enc (⟨0, 0⟩ : Dec))) := by
  refine con_fin evEnv_ok cs_nought noCP_ok noCI_ok owOk_no (n := 2000) (LS := []) (fn := Try.f46) rfl loopsOk_nil ?_
  rw [sx_nought]
  refine ?_
  all_goals (first | rfl | (simp_all [nz, nzA, nz1, Iv.enc, V.enc, Ray.enc, Dec.enc, Shape.enc, none', told, Bool.cond_decide]; done) | (simp_all [nz, nzA, nz1, Iv.enc, V.enc, Ray.enc, Dec.enc, Shape.enc, none', told, Bool.cond_decide]; omega) | (simp_all [nz, nzA, nz1, Iv.enc, V.enc, Ray.enc, Dec.enc, Shape.enc, none', told, Bool.cond_decide]; (repeat' split) <;> (first | rfl | (exfalso; omega) | (simp_all; done) | omega)))
theorem eok_nought : EntOk Try.prog 46 e_nought := by
  intro args r ps h hp
  unfold e_nought at h
  split at h
  · cases (Option.some.inj h)
    exact con_nought  
  · exact absurd h (by simp)
theorem eok46 : EntOk Try.prog 46 e46 := eok_nought
theorem sx_meet (s : Shape) (r : Ray) (Q : PV → Prop) : sxF evEnv (tabC [(49, e49), (48, e48), (47, e47), (51, e51), (52, e52), (54, e54), (53, e53), (50, e50), (55, e55), (24, e24)]) noCP noCI noG [] 2000 Try.f23 [.agg (Shape.enc s), .agg (Ray.enc r)] Q = (bif s.kind == (1 : Int) then Q (.tup [.agg [.v (.int IntKind.i64 ((nearR (len2 r.d) (dot (subV r.o (V.mk (decIv s.x) (decIv s.y) (decIv s.z))) r.d) (sub (len2 (subV r.o (V.mk (decIv s.x) (decIv s.y) (decIv s.z)))) (sqr (decIv s.r)))).fst.lo)), .v (.int IntKind.i64 ((nearR (len2 r.d) (dot (subV r.o (V.mk (decIv s.x) (decIv s.y) (decIv s.z))) r.d) (sub (len2 (subV r.o (V.mk (decIv s.x) (decIv s.y) (decIv s.z)))) (sqr (decIv s.r)))).fst.hi)), .v (.bool ((nearR (len2 r.d) (dot (subV r.o (V.mk (decIv s.x) (decIv s.y) (decIv s.z))) r.d) (sub (len2 (subV r.o (V.mk (decIv s.x) (decIv s.y) (decIv s.z)))) (sqr (decIv s.r)))).fst.no))], .v (.int IntKind.i64 ((nearR (len2 r.d) (dot (subV r.o (V.mk (decIv s.x) (decIv s.y) (decIv s.z))) r.d) (sub (len2 (subV r.o (V.mk (decIv s.x) (decIv s.y) (decIv s.z)))) (sqr (decIv s.r)))).snd))]) else (bif s.kind == (2 : Int) then (bif !(divIv (sub (decIv s.z) r.o.z) r.d.z).no then Q (.tup [.agg [.v (.int IntKind.i64 ((divIv (sub (decIv s.z) r.o.z) r.d.z).lo)), .v (.int IntKind.i64 ((divIv (sub (decIv s.z) r.o.z) r.d.z).hi)), .v (.bool ((divIv (sub (decIv s.z) r.o.z) r.d.z).no))], .v (.int IntKind.i64 ((1 : Int)))]) else Q (.tup [.agg [.v (.int IntKind.i64 ((0 : Int))), .v (.int IntKind.i64 ((0 : Int))), .v (.bool (true))], .v (.int IntKind.i64 ((0 : Int)))])) else Q (.tup [.agg [.v (.int IntKind.i64 ((0 : Int))), .v (.int IntKind.i64 ((0 : Int))), .v (.bool (true))], .v (.int IntKind.i64 ((0 : Int)))]))) := by kernel_rfl
theorem cs_meet : CSOk Try.prog (tabC [(49, e49), (48, e48), (47, e47), (51, e51), (52, e52), (54, e54), (53, e53), (50, e50), (55, e55), (24, e24)]) := tabC_cons eok49 <| tabC_cons eok48 <| tabC_cons eok47 <| tabC_cons eok51 <| tabC_cons eok52 <| tabC_cons eok54 <| tabC_cons eok53 <| tabC_cons eok50 <| tabC_cons eok55 <| tabC_cons eok24 <| tabC_nil
theorem con_meet (s : Shape) (r : Ray)  : Con Try.prog 23 [.agg (Shape.enc s), .agg (Ray.enc r)] (.tup [.agg (Iv.enc ((meet s r).1)), .v (.int .i64 ((meet s r).2))]) := by
  refine con_fin evEnv_ok cs_meet noCP_ok noCI_ok owOk_no (n := 2000) (LS := []) (fn := Try.f23) rfl loopsOk_nil ?_
  rw [sx_meet]
  refine condI (fun h0 => ?_) (fun h0 => condI (fun h1 => condI (fun h2 => ?_) (fun h2 => ?_)) (fun h1 => ?_))
  all_goals (try simp only [Bool.not_eq_true', Bool.not_eq_false'] at *)
  all_goals simp only [meet, *, cond_true, cond_false]
  all_goals first | rfl | (simp [nz, nzA, nz1, Iv.enc, *])
theorem eok_meet : EntOk Try.prog 23 e_meet := by
  intro args r ps h hp
  unfold e_meet at h
  split at h
  · rename_i p1 p2 p3 p4 p5 p6 p7 p8 p9 p10 p11 p12 p13 p14 p15 p16 p17 p18 p19 p20 p21 p22 p23 p24 p25 p26 p27 p28 p29 p30
    cases (Option.some.inj h)
    exact con_meet (⟨p1, ⟨p2, p3⟩, ⟨p4, p5⟩, ⟨p6, p7⟩, ⟨p8, p9⟩, ⟨p10, p11, p12⟩⟩ : Shape) (⟨⟨⟨p13, p14, p15⟩, ⟨p16, p17, p18⟩, ⟨p19, p20, p21⟩⟩, ⟨⟨p22, p23, p24⟩, ⟨p25, p26, p27⟩, ⟨p28, p29, p30⟩⟩⟩ : Ray) 
  · exact absurd h (by simp)
theorem eok23 : EntOk Try.prog 23 e23 := eok_meet
theorem sx_Hit (s : Shape) (r : Ray) (Q : PV → Prop) : sxF evEnv (tabC [(23, e23), (24, e24)]) noCP noCI noG [] 2000 Try.f10 [.agg (Shape.enc s), .agg (Ray.enc r)] Q = (bif (meet s r).snd != (1 : Int) then Q (.tup [.agg [.v (.int IntKind.i64 ((0 : Int))), .v (.int IntKind.i64 ((0 : Int))), .v (.bool (true))], .v (.int IntKind.i64 ((meet s r).snd))]) else (bif decide ((meet s r).fst.hi ≤ (0 : Int)) then Q (.tup [.agg [.v (.int IntKind.i64 ((0 : Int))), .v (.int IntKind.i64 ((0 : Int))), .v (.bool (true))], .v (.int IntKind.i64 ((2 : Int)))]) else (bif decide ((meet s r).fst.lo ≤ (0 : Int)) then Q (.tup [.agg [.v (.int IntKind.i64 ((0 : Int))), .v (.int IntKind.i64 ((0 : Int))), .v (.bool (true))], .v (.int IntKind.i64 ((0 : Int)))]) else Q (.tup [.agg [.v (.int IntKind.i64 ((meet s r).fst.lo)), .v (.int IntKind.i64 ((meet s r).fst.hi)), .v (.bool ((meet s r).fst.no))], .v (.int IntKind.i64 ((1 : Int)))])))) := by kernel_rfl
theorem cs_Hit : CSOk Try.prog (tabC [(23, e23), (24, e24)]) := tabC_cons eok23 <| tabC_cons eok24 <| tabC_nil
theorem con_Hit (s : Shape) (r : Ray)  : Con Try.prog 10 [.agg (Shape.enc s), .agg (Ray.enc r)] (.tup [.agg (Iv.enc ((hit s r).1)), .v (.int .i64 ((hit s r).2))]) := by
  refine con_fin evEnv_ok cs_Hit noCP_ok noCI_ok owOk_no (n := 2000) (LS := []) (fn := Try.f10) rfl loopsOk_nil ?_
  rw [sx_Hit]
  refine condI (fun h0 => ?_) (fun h0 => condI (fun h1 => ?_) (fun h1 => condI (fun h2 => ?_) (fun h2 => ?_)))
  all_goals simp only [bne, Bool.not_eq_true', Bool.not_eq_false'] at h0
  all_goals simp only [hit, *, cond_true, cond_false, Bool.not_true, Bool.not_false]
  all_goals rfl
theorem eok_Hit : EntOk Try.prog 10 e_Hit := by
  intro args r ps h hp
  unfold e_Hit at h
  split at h
  · rename_i p1 p2 p3 p4 p5 p6 p7 p8 p9 p10 p11 p12 p13 p14 p15 p16 p17 p18 p19 p20 p21 p22 p23 p24 p25 p26 p27 p28 p29 p30
    cases (Option.some.inj h)
    exact con_Hit (⟨p1, ⟨p2, p3⟩, ⟨p4, p5⟩, ⟨p6, p7⟩, ⟨p8, p9⟩, ⟨p10, p11, p12⟩⟩ : Shape) (⟨⟨⟨p13, p14, p15⟩, ⟨p16, p17, p18⟩, ⟨p19, p20, p21⟩⟩, ⟨⟨p22, p23, p24⟩, ⟨p25, p26, p27⟩, ⟨p28, p29, p30⟩⟩⟩ : Ray) 
  · exact absurd h (by simp)
theorem eok10 : EntOk Try.prog 10 e10 := eok_Hit
theorem sx_HitShape (s : Shape) (r : Ray) (Q : PV → Prop) : sxF evEnv (tabC [(25, e25), (27, e27), (26, e26), (29, e29), (30, e30), (32, e32), (31, e31), (28, e28), (33, e33), (34, e34)]) noCP noCI noG [] 2000 Try.f11 [.agg (Shape.enc s), .agg (Ray.enc r)] Q = (bif s.kind == (1 : Int) then (bif (nearR (len2 r.d) (dot (subV r.o (V.mk (decIv s.x) (decIv s.y) (decIv s.z))) r.d) (sub (len2 (subV r.o (V.mk (decIv s.x) (decIv s.y) (decIv s.z)))) (sqr (decIv s.r)))).snd != (1 : Int) then Q (.tup [.agg [.v (.int IntKind.i64 ((0 : Int))), .v (.int IntKind.i64 ((0 : Int))), .v (.bool (true))], .v (.int IntKind.i64 ((nearR (len2 r.d) (dot (subV r.o (V.mk (decIv s.x) (decIv s.y) (decIv s.z))) r.d) (sub (len2 (subV r.o (V.mk (decIv s.x) (decIv s.y) (decIv s.z)))) (sqr (decIv s.r)))).snd))]) else (bif decide ((nearR (len2 r.d) (dot (subV r.o (V.mk (decIv s.x) (decIv s.y) (decIv s.z))) r.d) (sub (len2 (subV r.o (V.mk (decIv s.x) (decIv s.y) (decIv s.z)))) (sqr (decIv s.r)))).fst.hi ≤ (0 : Int)) then Q (.tup [.agg [.v (.int IntKind.i64 ((0 : Int))), .v (.int IntKind.i64 ((0 : Int))), .v (.bool (true))], .v (.int IntKind.i64 ((2 : Int)))]) else (bif decide ((nearR (len2 r.d) (dot (subV r.o (V.mk (decIv s.x) (decIv s.y) (decIv s.z))) r.d) (sub (len2 (subV r.o (V.mk (decIv s.x) (decIv s.y) (decIv s.z)))) (sqr (decIv s.r)))).fst.lo ≤ (0 : Int)) then Q (.tup [.agg [.v (.int IntKind.i64 ((0 : Int))), .v (.int IntKind.i64 ((0 : Int))), .v (.bool (true))], .v (.int IntKind.i64 ((0 : Int)))]) else Q (.tup [.agg [.v (.int IntKind.i64 ((nearR (len2 r.d) (dot (subV r.o (V.mk (decIv s.x) (decIv s.y) (decIv s.z))) r.d) (sub (len2 (subV r.o (V.mk (decIv s.x) (decIv s.y) (decIv s.z)))) (sqr (decIv s.r)))).fst.lo)), .v (.int IntKind.i64 ((nearR (len2 r.d) (dot (subV r.o (V.mk (decIv s.x) (decIv s.y) (decIv s.z))) r.d) (sub (len2 (subV r.o (V.mk (decIv s.x) (decIv s.y) (decIv s.z)))) (sqr (decIv s.r)))).fst.hi)), .v (.bool ((nearR (len2 r.d) (dot (subV r.o (V.mk (decIv s.x) (decIv s.y) (decIv s.z))) r.d) (sub (len2 (subV r.o (V.mk (decIv s.x) (decIv s.y) (decIv s.z)))) (sqr (decIv s.r)))).fst.no))], .v (.int IntKind.i64 ((1 : Int)))])))) else (bif s.kind == (2 : Int) then (bif right (divIv (sub (decIv s.z) r.o.z) r.d.z) then (bif decide ((divIv (sub (decIv s.z) r.o.z) r.d.z).hi ≤ (0 : Int)) then Q (.tup [.agg [.v (.int IntKind.i64 ((0 : Int))), .v (.int IntKind.i64 ((0 : Int))), .v (.bool (true))], .v (.int IntKind.i64 ((2 : Int)))]) else (bif decide ((divIv (sub (decIv s.z) r.o.z) r.d.z).lo ≤ (0 : Int)) then Q (.tup [.agg [.v (.int IntKind.i64 ((0 : Int))), .v (.int IntKind.i64 ((0 : Int))), .v (.bool (true))], .v (.int IntKind.i64 ((0 : Int)))]) else Q (.tup [.agg [.v (.int IntKind.i64 ((divIv (sub (decIv s.z) r.o.z) r.d.z).lo)), .v (.int IntKind.i64 ((divIv (sub (decIv s.z) r.o.z) r.d.z).hi)), .v (.bool ((divIv (sub (decIv s.z) r.o.z) r.d.z).no))], .v (.int IntKind.i64 ((1 : Int)))]))) else Q (.tup [.agg [.v (.int IntKind.i64 ((0 : Int))), .v (.int IntKind.i64 ((0 : Int))), .v (.bool (true))], .v (.int IntKind.i64 ((0 : Int)))])) else Q (.tup [.agg [.v (.int IntKind.i64 ((0 : Int))), .v (.int IntKind.i64 ((0 : Int))), .v (.bool (true))], .v (.int IntKind.i64 ((0 : Int)))]))) := by kernel_rfl
theorem cs_HitShape : CSOk Try.prog (tabC [(25, e25), (27, e27), (26, e26), (29, e29), (30, e30), (32, e32), (31, e31), (28, e28), (33, e33), (34, e34)]) := tabC_cons eok25 <| tabC_cons eok27 <| tabC_cons eok26 <| tabC_cons eok29 <| tabC_cons eok30 <| tabC_cons eok32 <| tabC_cons eok31 <| tabC_cons eok28 <| tabC_cons eok33 <| tabC_cons eok34 <| tabC_nil
theorem con_HitShape (s : Shape) (r : Ray)  : Con Try.prog 11 [.agg (Shape.enc s), .agg (Ray.enc r)] (.tup [.agg (Iv.enc ((hit s r).1)), .v (.int .i64 ((hit s r).2))]) := by
  refine con_fin evEnv_ok cs_HitShape noCP_ok noCI_ok owOk_no (n := 2000) (LS := []) (fn := Try.f11) rfl loopsOk_nil ?_
  rw [sx_HitShape]
  refine condI (fun h0 => condI (fun h1 => ?_) (fun h1 => condI (fun h2 => ?_) (fun h2 => condI (fun h3 => ?_) (fun h3 => ?_)))) (fun h0 => condI (fun h1 => condI (fun h2 => condI (fun h3 => ?_) (fun h3 => condI (fun h4 => ?_) (fun h4 => ?_))) (fun h2 => ?_)) (fun h1 => ?_))
  all_goals (try simp only [ok_divIv, bne, Bool.not_eq_true', Bool.not_eq_false', Bool.not_not] at *)
  all_goals simp only [hit, meet, *, cond_true, cond_false, Bool.not_true, Bool.not_false]
  all_goals first | rfl | (simp [nz, nzA, nz1, Iv.enc, *])
theorem eok_HitShape : EntOk Try.prog 11 e_HitShape := by
  intro args r ps h hp
  unfold e_HitShape at h
  split at h
  · rename_i p1 p2 p3 p4 p5 p6 p7 p8 p9 p10 p11 p12 p13 p14 p15 p16 p17 p18 p19 p20 p21 p22 p23 p24 p25 p26 p27 p28 p29 p30
    cases (Option.some.inj h)
    exact con_HitShape (⟨p1, ⟨p2, p3⟩, ⟨p4, p5⟩, ⟨p6, p7⟩, ⟨p8, p9⟩, ⟨p10, p11, p12⟩⟩ : Shape) (⟨⟨⟨p13, p14, p15⟩, ⟨p16, p17, p18⟩, ⟨p19, p20, p21⟩⟩, ⟨⟨p22, p23, p24⟩, ⟨p25, p26, p27⟩, ⟨p28, p29, p30⟩⟩⟩ : Ray) 
  · exact absurd h (by simp)
theorem eok11 : EntOk Try.prog 11 e11 := eok_HitShape
end Go.Men
