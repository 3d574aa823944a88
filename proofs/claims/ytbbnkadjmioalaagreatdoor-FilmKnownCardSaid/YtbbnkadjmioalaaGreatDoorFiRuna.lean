/- The evaluation of 'FilmKnown', call by call, by Lean's kernel, in an evaluator that is proved sound for whatever memory. PRINTED by a program of this claim's author; Lean checks it. -/
import Derived.Test.YtbbnkadjmioalaaGreatDoorFiEnv
namespace Go.Proofs.YtbbnkadjmioalaaGreatDoor
open Go.Ev

def filmKnownA0 : List PV := [.v (.int .i64 8)]
def filmKnownR0 : PV := .v (.bool true)
def filmKnownTab0 : Tab2 := []
theorem filmKnown_tab0 : Tab2Ok Tryz.prog filmKnownTab0 := tab2Ok_nil
/-- meniscusref1.In: 26 operations. -/
theorem filmKnown_c0 : (exFT evEnv filmKnownTab0 1000 60).1 82 filmKnownA0 = some filmKnownR0 := by kernel_rfl
def filmKnownA1 : List PV := [.v (.int .i64 524288)]
def filmKnownR1 : PV := .v (.bool true)
def filmKnownF82n1 : Tab := (82, filmKnownA0, filmKnownR0) :: []
theorem filmKnown_f82n1 : TabOk Tryz.prog filmKnownF82n1 := tabOk_cons ((exFT_ok evEnv_ok filmKnown_tab0 1000 60).1 _ _ _ filmKnown_c0) tabOk_nil
def filmKnownTab1 : Tab2 := [(82, filmKnownF82n1)]
theorem filmKnown_tab1 : Tab2Ok Tryz.prog filmKnownTab1 := tab2Ok_cons filmKnown_f82n1 <| tab2Ok_nil
/-- meniscusref1.In: 49 operations. -/
theorem filmKnown_c1 : (exFT evEnv filmKnownTab1 1000 60).1 82 filmKnownA1 = some filmKnownR1 := by kernel_rfl
def filmKnownA2 : List PV := [.v (.int .i64 1), .v (.int .i64 2)]
def filmKnownR2 : PV := .v (.int .i64 1)
def filmKnownF82n2 : Tab := (82, filmKnownA1, filmKnownR1) :: filmKnownF82n1
theorem filmKnown_f82n2 : TabOk Tryz.prog filmKnownF82n2 := tabOk_cons ((exFT_ok evEnv_ok filmKnown_tab1 1000 60).1 _ _ _ filmKnown_c1) filmKnown_f82n1
def filmKnownTab2 : Tab2 := [(82, filmKnownF82n2)]
theorem filmKnown_tab2 : Tab2Ok Tryz.prog filmKnownTab2 := tab2Ok_cons filmKnown_f82n2 <| tab2Ok_nil
/-- meniscushand.Pick: 40 operations. -/
theorem filmKnown_c2 : (exFT evEnv filmKnownTab2 1000 60).1 47 filmKnownA2 = some filmKnownR2 := by kernel_rfl
def filmKnownA3 : List PV := [.v (.int .i64 0)]
def filmKnownR3 : PV := .v (.bool true)
def filmKnownF47n1 : Tab := (47, filmKnownA2, filmKnownR2) :: []
theorem filmKnown_f47n1 : TabOk Tryz.prog filmKnownF47n1 := tabOk_cons ((exFT_ok evEnv_ok filmKnown_tab2 1000 60).1 _ _ _ filmKnown_c2) tabOk_nil
def filmKnownTab3 : Tab2 := [(82, filmKnownF82n2), (47, filmKnownF47n1)]
theorem filmKnown_tab3 : Tab2Ok Tryz.prog filmKnownTab3 := tab2Ok_cons filmKnown_f82n2 <| tab2Ok_cons filmKnown_f47n1 <| tab2Ok_nil
/-- meniscusref1.In: 45 operations. -/
theorem filmKnown_c3 : (exFT evEnv filmKnownTab3 1000 60).1 82 filmKnownA3 = some filmKnownR3 := by kernel_rfl
def filmKnownA4 : List PV := [.v (.int .i64 65536)]
def filmKnownR4 : PV := .v (.bool true)
def filmKnownF82n3 : Tab := (82, filmKnownA3, filmKnownR3) :: filmKnownF82n2
theorem filmKnown_f82n3 : TabOk Tryz.prog filmKnownF82n3 := tabOk_cons ((exFT_ok evEnv_ok filmKnown_tab3 1000 60).1 _ _ _ filmKnown_c3) filmKnown_f82n2
def filmKnownTab4 : Tab2 := [(82, filmKnownF82n3), (47, filmKnownF47n1)]
theorem filmKnown_tab4 : Tab2Ok Tryz.prog filmKnownTab4 := tab2Ok_cons filmKnown_f82n3 <| tab2Ok_cons filmKnown_f47n1 <| tab2Ok_nil
/-- meniscusref1.In: 45 operations. -/
theorem filmKnown_c4 : (exFT evEnv filmKnownTab4 1000 60).1 82 filmKnownA4 = some filmKnownR4 := by kernel_rfl
def filmKnownA5 : List PV := [.v (.int .i64 655360)]
def filmKnownR5 : PV := .v (.bool true)
def filmKnownF82n4 : Tab := (82, filmKnownA4, filmKnownR4) :: filmKnownF82n3
theorem filmKnown_f82n4 : TabOk Tryz.prog filmKnownF82n4 := tabOk_cons ((exFT_ok evEnv_ok filmKnown_tab4 1000 60).1 _ _ _ filmKnown_c4) filmKnown_f82n3
def filmKnownTab5 : Tab2 := [(82, filmKnownF82n4), (47, filmKnownF47n1)]
theorem filmKnown_tab5 : Tab2Ok Tryz.prog filmKnownTab5 := tab2Ok_cons filmKnown_f82n4 <| tab2Ok_cons filmKnown_f47n1 <| tab2Ok_nil
/-- meniscusref1.In: 45 operations. -/
theorem filmKnown_c5 : (exFT evEnv filmKnownTab5 1000 60).1 82 filmKnownA5 = some filmKnownR5 := by kernel_rfl
def filmKnownA6 : List PV := [.v (.int .i64 6553600)]
def filmKnownR6 : PV := .v (.bool true)
def filmKnownF82n5 : Tab := (82, filmKnownA5, filmKnownR5) :: filmKnownF82n4
theorem filmKnown_f82n5 : TabOk Tryz.prog filmKnownF82n5 := tabOk_cons ((exFT_ok evEnv_ok filmKnown_tab5 1000 60).1 _ _ _ filmKnown_c5) filmKnown_f82n4
def filmKnownTab6 : Tab2 := [(82, filmKnownF82n5), (47, filmKnownF47n1)]
theorem filmKnown_tab6 : Tab2Ok Tryz.prog filmKnownTab6 := tab2Ok_cons filmKnown_f82n5 <| tab2Ok_cons filmKnown_f47n1 <| tab2Ok_nil
/-- meniscusref1.In: 49 operations. -/
theorem filmKnown_c6 : (exFT evEnv filmKnownTab6 1000 60).1 82 filmKnownA6 = some filmKnownR6 := by kernel_rfl
def filmKnownA7 : List PV := [.lst [[.v (.int .i64 1)]]]
def filmKnownR7 : PV := .agg [.lst [[.v (.bool false), .v (.bool false), .v (.int .i64 0), .v (.int .i64 0), .v (.bool false), .v (.int .i64 65536), .v (.int .i64 65536), .v (.bool false), .v (.int .i64 0), .v (.int .i64 0), .v (.bool false), .v (.int .i64 0), .v (.int .i64 0), .v (.bool false), .v (.int .i64 655360), .v (.int .i64 655360), .v (.bool false), .v (.int .i64 6553600), .v (.int .i64 6553600), .v (.bool false), .v (.int .i64 65536), .v (.int .i64 65536), .v (.bool false)]], .v (.int .i64 524288), .v (.int .i64 524288), .v (.bool false)]
def filmKnownF82n6 : Tab := (82, filmKnownA6, filmKnownR6) :: filmKnownF82n5
theorem filmKnown_f82n6 : TabOk Tryz.prog filmKnownF82n6 := tabOk_cons ((exFT_ok evEnv_ok filmKnown_tab6 1000 60).1 _ _ _ filmKnown_c6) filmKnown_f82n5
def filmKnownTab7 : Tab2 := [(82, filmKnownF82n6), (47, filmKnownF47n1)]
theorem filmKnown_tab7 : Tab2Ok Tryz.prog filmKnownTab7 := tab2Ok_cons filmKnown_f82n6 <| tab2Ok_cons filmKnown_f47n1 <| tab2Ok_nil
/-- meniscushand.Straight: 60 operations. -/
theorem filmKnown_c7 : (exFT evEnv filmKnownTab7 1000 60).1 19 filmKnownA7 = some filmKnownR7 := by kernel_rfl
def filmKnownA8 : List PV := [.v (.int .i64 4)]
def filmKnownR8 : PV := .v (.bool true)
def filmKnownF19n1 : Tab := (19, filmKnownA7, filmKnownR7) :: []
theorem filmKnown_f19n1 : TabOk Tryz.prog filmKnownF19n1 := tabOk_cons ((exFT_ok evEnv_ok filmKnown_tab7 1000 60).1 _ _ _ filmKnown_c7) tabOk_nil
def filmKnownTab8 : Tab2 := [(82, filmKnownF82n6), (47, filmKnownF47n1), (19, filmKnownF19n1)]
theorem filmKnown_tab8 : Tab2Ok Tryz.prog filmKnownTab8 := tab2Ok_cons filmKnown_f82n6 <| tab2Ok_cons filmKnown_f47n1 <| tab2Ok_cons filmKnown_f19n1 <| tab2Ok_nil
/-- num.In: 15 operations. -/
theorem filmKnown_c8 : (exFT evEnv filmKnownTab8 1000 60).1 49 filmKnownA8 = some filmKnownR8 := by kernel_rfl
def filmKnownA9 : List PV := [.v (.int .i64 262144)]
def filmKnownR9 : PV := .v (.bool true)
def filmKnownF49n1 : Tab := (49, filmKnownA8, filmKnownR8) :: []
theorem filmKnown_f49n1 : TabOk Tryz.prog filmKnownF49n1 := tabOk_cons ((exFT_ok evEnv_ok filmKnown_tab8 1000 60).1 _ _ _ filmKnown_c8) tabOk_nil
def filmKnownTab9 : Tab2 := [(82, filmKnownF82n6), (47, filmKnownF47n1), (19, filmKnownF19n1), (49, filmKnownF49n1)]
theorem filmKnown_tab9 : Tab2Ok Tryz.prog filmKnownTab9 := tab2Ok_cons filmKnown_f82n6 <| tab2Ok_cons filmKnown_f47n1 <| tab2Ok_cons filmKnown_f19n1 <| tab2Ok_cons filmKnown_f49n1 <| tab2Ok_nil
/-- num.In: 49 operations. -/
theorem filmKnown_c9 : (exFT evEnv filmKnownTab9 1000 60).1 49 filmKnownA9 = some filmKnownR9 := by kernel_rfl
def filmKnownA10 : List PV := [.v (.int .i64 1)]
def filmKnownR10 : PV := .v (.bool true)
def filmKnownF49n2 : Tab := (49, filmKnownA9, filmKnownR9) :: filmKnownF49n1
theorem filmKnown_f49n2 : TabOk Tryz.prog filmKnownF49n2 := tabOk_cons ((exFT_ok evEnv_ok filmKnown_tab9 1000 60).1 _ _ _ filmKnown_c9) filmKnown_f49n1
def filmKnownTab10 : Tab2 := [(82, filmKnownF82n6), (47, filmKnownF47n1), (19, filmKnownF19n1), (49, filmKnownF49n2)]
theorem filmKnown_tab10 : Tab2Ok Tryz.prog filmKnownTab10 := tab2Ok_cons filmKnown_f82n6 <| tab2Ok_cons filmKnown_f47n1 <| tab2Ok_cons filmKnown_f19n1 <| tab2Ok_cons filmKnown_f49n2 <| tab2Ok_nil
/-- num.In: 60 operations. -/
theorem filmKnown_c10 : (exFT evEnv filmKnownTab10 1000 60).1 49 filmKnownA10 = some filmKnownR10 := by kernel_rfl
def filmKnownA11 : List PV := []
def filmKnownR11 : PV := .lst [[.v (.int .i64 2), .v (.int .i64 0), .v (.int .i64 0), .v (.int .i64 0), .v (.int .i64 0), .v (.int .i64 50), .v (.int .i64 0), .v (.int .i64 0), .v (.int .i64 0), .v (.int .i64 10), .v (.int .i64 20), .v (.int .i64 30)]]
def filmKnownF49n3 : Tab := (49, filmKnownA10, filmKnownR10) :: filmKnownF49n2
theorem filmKnown_f49n3 : TabOk Tryz.prog filmKnownF49n3 := tabOk_cons ((exFT_ok evEnv_ok filmKnown_tab10 1000 60).1 _ _ _ filmKnown_c10) filmKnown_f49n2
def filmKnownTab11 : Tab2 := [(82, filmKnownF82n6), (47, filmKnownF47n1), (19, filmKnownF19n1), (49, filmKnownF49n3)]
theorem filmKnown_tab11 : Tab2Ok Tryz.prog filmKnownTab11 := tab2Ok_cons filmKnown_f82n6 <| tab2Ok_cons filmKnown_f47n1 <| tab2Ok_cons filmKnown_f19n1 <| tab2Ok_cons filmKnown_f49n3 <| tab2Ok_nil
/-- meniscuslaw27.wall: 24 operations. -/
theorem filmKnown_c11 : (exFT evEnv filmKnownTab11 1000 60).1 8 filmKnownA11 = some filmKnownR11 := by kernel_rfl
def filmKnownA12 : List PV := [.v (.float .f64 0)]
def filmKnownR12 : PV := .v (.float .f64 0)
def filmKnownF8n1 : Tab := (8, filmKnownA11, filmKnownR11) :: []
theorem filmKnown_f8n1 : TabOk Tryz.prog filmKnownF8n1 := tabOk_cons ((exFT_ok evEnv_ok filmKnown_tab11 1000 60).1 _ _ _ filmKnown_c11) tabOk_nil
def filmKnownTab12 : Tab2 := [(82, filmKnownF82n6), (47, filmKnownF47n1), (19, filmKnownF19n1), (49, filmKnownF49n3), (8, filmKnownF8n1)]
theorem filmKnown_tab12 : Tab2Ok Tryz.prog filmKnownTab12 := tab2Ok_cons filmKnown_f82n6 <| tab2Ok_cons filmKnown_f47n1 <| tab2Ok_cons filmKnown_f19n1 <| tab2Ok_cons filmKnown_f49n3 <| tab2Ok_cons filmKnown_f8n1 <| tab2Ok_nil
/-- math.Trunc: 85 operations. -/
theorem filmKnown_c12 : (exFT evEnv filmKnownTab12 1000 60).1 135 filmKnownA12 = some filmKnownR12 := by kernel_rfl
def filmKnownA13 : List PV := [.v (.complex .f64 0 0), .v (.int .i64 4)]
def filmKnownR13 : PV := .v (.bool true)
def filmKnownF135n1 : Tab := (135, filmKnownA12, filmKnownR12) :: []
theorem filmKnown_f135n1 : TabOk Tryz.prog filmKnownF135n1 := tabOk_cons ((exFT_ok evEnv_ok filmKnown_tab12 1000 60).1 _ _ _ filmKnown_c12) tabOk_nil
def filmKnownTab13 : Tab2 := [(82, filmKnownF82n6), (47, filmKnownF47n1), (19, filmKnownF19n1), (49, filmKnownF49n3), (8, filmKnownF8n1), (135, filmKnownF135n1)]
theorem filmKnown_tab13 : Tab2Ok Tryz.prog filmKnownTab13 := tab2Ok_cons filmKnown_f82n6 <| tab2Ok_cons filmKnown_f47n1 <| tab2Ok_cons filmKnown_f19n1 <| tab2Ok_cons filmKnown_f49n3 <| tab2Ok_cons filmKnown_f8n1 <| tab2Ok_cons filmKnown_f135n1 <| tab2Ok_nil
/-- film.aimed: 20 operations. -/
theorem filmKnown_c13 : (exFT evEnv filmKnownTab13 1000 60).1 24 filmKnownA13 = some filmKnownR13 := by kernel_rfl
def filmKnownA14 : List PV := [.agg [.v (.int .i64 50), .v (.int .i64 0)]]
def filmKnownR14 : PV := .v (.bool true)
def filmKnownF24n1 : Tab := (24, filmKnownA13, filmKnownR13) :: []
theorem filmKnown_f24n1 : TabOk Tryz.prog filmKnownF24n1 := tabOk_cons ((exFT_ok evEnv_ok filmKnown_tab13 1000 60).1 _ _ _ filmKnown_c13) tabOk_nil
def filmKnownTab14 : Tab2 := [(82, filmKnownF82n6), (47, filmKnownF47n1), (19, filmKnownF19n1), (49, filmKnownF49n3), (8, filmKnownF8n1), (135, filmKnownF135n1), (24, filmKnownF24n1)]
theorem filmKnown_tab14 : Tab2Ok Tryz.prog filmKnownTab14 := tab2Ok_cons filmKnown_f82n6 <| tab2Ok_cons filmKnown_f47n1 <| tab2Ok_cons filmKnown_f19n1 <| tab2Ok_cons filmKnown_f49n3 <| tab2Ok_cons filmKnown_f8n1 <| tab2Ok_cons filmKnown_f135n1 <| tab2Ok_cons filmKnown_f24n1 <| tab2Ok_nil
/-- dec.Right: 64 operations. -/
theorem filmKnown_c14 : (exFT evEnv filmKnownTab14 1000 60).1 88 filmKnownA14 = some filmKnownR14 := by kernel_rfl
def filmKnownA15 : List PV := [.v (.int .i64 1), .v (.int .i64 1), .v (.int .i64 16)]
def filmKnownR15 : PV := .v (.bool true)
def filmKnownF88n1 : Tab := (88, filmKnownA14, filmKnownR14) :: []
theorem filmKnown_f88n1 : TabOk Tryz.prog filmKnownF88n1 := tabOk_cons ((exFT_ok evEnv_ok filmKnown_tab14 1000 60).1 _ _ _ filmKnown_c14) tabOk_nil
def filmKnownTab15 : Tab2 := [(82, filmKnownF82n6), (47, filmKnownF47n1), (19, filmKnownF19n1), (49, filmKnownF49n3), (8, filmKnownF8n1), (135, filmKnownF135n1), (24, filmKnownF24n1), (88, filmKnownF88n1)]
theorem filmKnown_tab15 : Tab2Ok Tryz.prog filmKnownTab15 := tab2Ok_cons filmKnown_f82n6 <| tab2Ok_cons filmKnown_f47n1 <| tab2Ok_cons filmKnown_f19n1 <| tab2Ok_cons filmKnown_f49n3 <| tab2Ok_cons filmKnown_f8n1 <| tab2Ok_cons filmKnown_f135n1 <| tab2Ok_cons filmKnown_f24n1 <| tab2Ok_cons filmKnown_f88n1 <| tab2Ok_nil
/-- film.within: 18 operations. -/
theorem filmKnown_c15 : (exFT evEnv filmKnownTab15 1000 60).1 29 filmKnownA15 = some filmKnownR15 := by kernel_rfl
def filmKnownA16 : List PV := [.v (.int .i64 1000)]
def filmKnownR16 : PV := .v (.bool true)
def filmKnownF29n1 : Tab := (29, filmKnownA15, filmKnownR15) :: []
theorem filmKnown_f29n1 : TabOk Tryz.prog filmKnownF29n1 := tabOk_cons ((exFT_ok evEnv_ok filmKnown_tab15 1000 60).1 _ _ _ filmKnown_c15) tabOk_nil
def filmKnownTab16 : Tab2 := [(82, filmKnownF82n6), (47, filmKnownF47n1), (19, filmKnownF19n1), (49, filmKnownF49n3), (8, filmKnownF8n1), (135, filmKnownF135n1), (24, filmKnownF24n1), (88, filmKnownF88n1), (29, filmKnownF29n1)]
theorem filmKnown_tab16 : Tab2Ok Tryz.prog filmKnownTab16 := tab2Ok_cons filmKnown_f82n6 <| tab2Ok_cons filmKnown_f47n1 <| tab2Ok_cons filmKnown_f19n1 <| tab2Ok_cons filmKnown_f49n3 <| tab2Ok_cons filmKnown_f8n1 <| tab2Ok_cons filmKnown_f135n1 <| tab2Ok_cons filmKnown_f24n1 <| tab2Ok_cons filmKnown_f88n1 <| tab2Ok_cons filmKnown_f29n1 <| tab2Ok_nil
/-- num.In: 76 operations. -/
theorem filmKnown_c16 : (exFT evEnv filmKnownTab16 1000 60).1 49 filmKnownA16 = some filmKnownR16 := by kernel_rfl
def filmKnownA17 : List PV := [.v (.int .i64 0)]
def filmKnownR17 : PV := .v (.bool true)
def filmKnownF49n4 : Tab := (49, filmKnownA16, filmKnownR16) :: filmKnownF49n3
theorem filmKnown_f49n4 : TabOk Tryz.prog filmKnownF49n4 := tabOk_cons ((exFT_ok evEnv_ok filmKnown_tab16 1000 60).1 _ _ _ filmKnown_c16) filmKnown_f49n3
def filmKnownTab17 : Tab2 := [(82, filmKnownF82n6), (47, filmKnownF47n1), (19, filmKnownF19n1), (49, filmKnownF49n4), (8, filmKnownF8n1), (135, filmKnownF135n1), (24, filmKnownF24n1), (88, filmKnownF88n1), (29, filmKnownF29n1)]
theorem filmKnown_tab17 : Tab2Ok Tryz.prog filmKnownTab17 := tab2Ok_cons filmKnown_f82n6 <| tab2Ok_cons filmKnown_f47n1 <| tab2Ok_cons filmKnown_f19n1 <| tab2Ok_cons filmKnown_f49n4 <| tab2Ok_cons filmKnown_f8n1 <| tab2Ok_cons filmKnown_f135n1 <| tab2Ok_cons filmKnown_f24n1 <| tab2Ok_cons filmKnown_f88n1 <| tab2Ok_cons filmKnown_f29n1 <| tab2Ok_nil
/-- num.In: 60 operations. -/
theorem filmKnown_c17 : (exFT evEnv filmKnownTab17 1000 60).1 49 filmKnownA17 = some filmKnownR17 := by kernel_rfl
def filmKnownA18 : List PV := [.v (.int .i64 0), .v (.int .i64 262144)]
def filmKnownR18 : PV := .v (.int .i64 0)
def filmKnownF49n5 : Tab := (49, filmKnownA17, filmKnownR17) :: filmKnownF49n4
theorem filmKnown_f49n5 : TabOk Tryz.prog filmKnownF49n5 := tabOk_cons ((exFT_ok evEnv_ok filmKnown_tab17 1000 60).1 _ _ _ filmKnown_c17) filmKnown_f49n4
def filmKnownTab18 : Tab2 := [(82, filmKnownF82n6), (47, filmKnownF47n1), (19, filmKnownF19n1), (49, filmKnownF49n5), (8, filmKnownF8n1), (135, filmKnownF135n1), (24, filmKnownF24n1), (88, filmKnownF88n1), (29, filmKnownF29n1)]
theorem filmKnown_tab18 : Tab2Ok Tryz.prog filmKnownTab18 := tab2Ok_cons filmKnown_f82n6 <| tab2Ok_cons filmKnown_f47n1 <| tab2Ok_cons filmKnown_f19n1 <| tab2Ok_cons filmKnown_f49n5 <| tab2Ok_cons filmKnown_f8n1 <| tab2Ok_cons filmKnown_f135n1 <| tab2Ok_cons filmKnown_f24n1 <| tab2Ok_cons filmKnown_f88n1 <| tab2Ok_cons filmKnown_f29n1 <| tab2Ok_nil
/-- num.Floor: 35 operations. -/
theorem filmKnown_c18 : (exFT evEnv filmKnownTab18 1000 60).1 34 filmKnownA18 = some filmKnownR18 := by kernel_rfl
def filmKnownA19 : List PV := [.v (.int .i64 17179869184), .v (.int .i64 262144)]
def filmKnownR19 : PV := .v (.int .i64 65536)
def filmKnownF34n1 : Tab := (34, filmKnownA18, filmKnownR18) :: []
theorem filmKnown_f34n1 : TabOk Tryz.prog filmKnownF34n1 := tabOk_cons ((exFT_ok evEnv_ok filmKnown_tab18 1000 60).1 _ _ _ filmKnown_c18) tabOk_nil
def filmKnownTab19 : Tab2 := [(82, filmKnownF82n6), (47, filmKnownF47n1), (19, filmKnownF19n1), (49, filmKnownF49n5), (8, filmKnownF8n1), (135, filmKnownF135n1), (24, filmKnownF24n1), (88, filmKnownF88n1), (29, filmKnownF29n1), (34, filmKnownF34n1)]
theorem filmKnown_tab19 : Tab2Ok Tryz.prog filmKnownTab19 := tab2Ok_cons filmKnown_f82n6 <| tab2Ok_cons filmKnown_f47n1 <| tab2Ok_cons filmKnown_f19n1 <| tab2Ok_cons filmKnown_f49n5 <| tab2Ok_cons filmKnown_f8n1 <| tab2Ok_cons filmKnown_f135n1 <| tab2Ok_cons filmKnown_f24n1 <| tab2Ok_cons filmKnown_f88n1 <| tab2Ok_cons filmKnown_f29n1 <| tab2Ok_cons filmKnown_f34n1 <| tab2Ok_nil
/-- num.Floor: 35 operations. -/
theorem filmKnown_c19 : (exFT evEnv filmKnownTab19 1000 60).1 34 filmKnownA19 = some filmKnownR19 := by kernel_rfl
def filmKnownA20 : List PV := [.v (.int .i64 65536)]
def filmKnownR20 : PV := .v (.bool true)
def filmKnownF34n2 : Tab := (34, filmKnownA19, filmKnownR19) :: filmKnownF34n1
theorem filmKnown_f34n2 : TabOk Tryz.prog filmKnownF34n2 := tabOk_cons ((exFT_ok evEnv_ok filmKnown_tab19 1000 60).1 _ _ _ filmKnown_c19) filmKnown_f34n1
def filmKnownTab20 : Tab2 := [(82, filmKnownF82n6), (47, filmKnownF47n1), (19, filmKnownF19n1), (49, filmKnownF49n5), (8, filmKnownF8n1), (135, filmKnownF135n1), (24, filmKnownF24n1), (88, filmKnownF88n1), (29, filmKnownF29n1), (34, filmKnownF34n2)]
theorem filmKnown_tab20 : Tab2Ok Tryz.prog filmKnownTab20 := tab2Ok_cons filmKnown_f82n6 <| tab2Ok_cons filmKnown_f47n1 <| tab2Ok_cons filmKnown_f19n1 <| tab2Ok_cons filmKnown_f49n5 <| tab2Ok_cons filmKnown_f8n1 <| tab2Ok_cons filmKnown_f135n1 <| tab2Ok_cons filmKnown_f24n1 <| tab2Ok_cons filmKnown_f88n1 <| tab2Ok_cons filmKnown_f29n1 <| tab2Ok_cons filmKnown_f34n2 <| tab2Ok_nil
/-- num.In: 18 operations. -/
theorem filmKnown_c20 : (exFT evEnv filmKnownTab20 1000 60).1 49 filmKnownA20 = some filmKnownR20 := by kernel_rfl
def filmKnownA21 : List PV := [.agg [.v (.int .i64 0), .v (.int .i64 262144), .v (.bool false)], .agg [.v (.int .i64 262144), .v (.int .i64 262144), .v (.bool false)]]
def filmKnownR21 : PV := .agg [.v (.int .i64 0), .v (.int .i64 65536), .v (.bool false)]
def filmKnownF49n6 : Tab := (49, filmKnownA20, filmKnownR20) :: filmKnownF49n5
theorem filmKnown_f49n6 : TabOk Tryz.prog filmKnownF49n6 := tabOk_cons ((exFT_ok evEnv_ok filmKnown_tab20 1000 60).1 _ _ _ filmKnown_c20) filmKnown_f49n5
def filmKnownTab21 : Tab2 := [(82, filmKnownF82n6), (47, filmKnownF47n1), (19, filmKnownF19n1), (49, filmKnownF49n6), (8, filmKnownF8n1), (135, filmKnownF135n1), (24, filmKnownF24n1), (88, filmKnownF88n1), (29, filmKnownF29n1), (34, filmKnownF34n2)]
theorem filmKnown_tab21 : Tab2Ok Tryz.prog filmKnownTab21 := tab2Ok_cons filmKnown_f82n6 <| tab2Ok_cons filmKnown_f47n1 <| tab2Ok_cons filmKnown_f19n1 <| tab2Ok_cons filmKnown_f49n6 <| tab2Ok_cons filmKnown_f8n1 <| tab2Ok_cons filmKnown_f135n1 <| tab2Ok_cons filmKnown_f24n1 <| tab2Ok_cons filmKnown_f88n1 <| tab2Ok_cons filmKnown_f29n1 <| tab2Ok_cons filmKnown_f34n2 <| tab2Ok_nil
/-- iv.Div: 42 operations. -/
theorem filmKnown_c21 : (exFT evEnv filmKnownTab21 1000 60).1 117 filmKnownA21 = some filmKnownR21 := by kernel_rfl
def filmKnownA22 : List PV := [.v (.int .i64 4294967296), .v (.int .i64 65536)]
def filmKnownR22 : PV := .v (.int .i64 65536)
def filmKnownF117n1 : Tab := (117, filmKnownA21, filmKnownR21) :: []
theorem filmKnown_f117n1 : TabOk Tryz.prog filmKnownF117n1 := tabOk_cons ((exFT_ok evEnv_ok filmKnown_tab21 1000 60).1 _ _ _ filmKnown_c21) tabOk_nil
def filmKnownTab22 : Tab2 := [(82, filmKnownF82n6), (47, filmKnownF47n1), (19, filmKnownF19n1), (49, filmKnownF49n6), (8, filmKnownF8n1), (135, filmKnownF135n1), (24, filmKnownF24n1), (88, filmKnownF88n1), (29, filmKnownF29n1), (34, filmKnownF34n2), (117, filmKnownF117n1)]
theorem filmKnown_tab22 : Tab2Ok Tryz.prog filmKnownTab22 := tab2Ok_cons filmKnown_f82n6 <| tab2Ok_cons filmKnown_f47n1 <| tab2Ok_cons filmKnown_f19n1 <| tab2Ok_cons filmKnown_f49n6 <| tab2Ok_cons filmKnown_f8n1 <| tab2Ok_cons filmKnown_f135n1 <| tab2Ok_cons filmKnown_f24n1 <| tab2Ok_cons filmKnown_f88n1 <| tab2Ok_cons filmKnown_f29n1 <| tab2Ok_cons filmKnown_f34n2 <| tab2Ok_cons filmKnown_f117n1 <| tab2Ok_nil
/-- num.Floor: 35 operations. -/
theorem filmKnown_c22 : (exFT evEnv filmKnownTab22 1000 60).1 34 filmKnownA22 = some filmKnownR22 := by kernel_rfl
def filmKnownA23 : List PV := [.v (.int .i64 0), .v (.int .i64 65536)]
def filmKnownR23 : PV := .v (.int .i64 0)
def filmKnownF34n3 : Tab := (34, filmKnownA22, filmKnownR22) :: filmKnownF34n2
theorem filmKnown_f34n3 : TabOk Tryz.prog filmKnownF34n3 := tabOk_cons ((exFT_ok evEnv_ok filmKnown_tab22 1000 60).1 _ _ _ filmKnown_c22) filmKnown_f34n2
def filmKnownTab23 : Tab2 := [(82, filmKnownF82n6), (47, filmKnownF47n1), (19, filmKnownF19n1), (49, filmKnownF49n6), (8, filmKnownF8n1), (135, filmKnownF135n1), (24, filmKnownF24n1), (88, filmKnownF88n1), (29, filmKnownF29n1), (34, filmKnownF34n3), (117, filmKnownF117n1)]
theorem filmKnown_tab23 : Tab2Ok Tryz.prog filmKnownTab23 := tab2Ok_cons filmKnown_f82n6 <| tab2Ok_cons filmKnown_f47n1 <| tab2Ok_cons filmKnown_f19n1 <| tab2Ok_cons filmKnown_f49n6 <| tab2Ok_cons filmKnown_f8n1 <| tab2Ok_cons filmKnown_f135n1 <| tab2Ok_cons filmKnown_f24n1 <| tab2Ok_cons filmKnown_f88n1 <| tab2Ok_cons filmKnown_f29n1 <| tab2Ok_cons filmKnown_f34n3 <| tab2Ok_cons filmKnown_f117n1 <| tab2Ok_nil
/-- num.Floor: 35 operations. -/
theorem filmKnown_c23 : (exFT evEnv filmKnownTab23 1000 60).1 34 filmKnownA23 = some filmKnownR23 := by kernel_rfl
def filmKnownA24 : List PV := [.v (.int .i64 655360)]
def filmKnownR24 : PV := .v (.bool true)
def filmKnownF34n4 : Tab := (34, filmKnownA23, filmKnownR23) :: filmKnownF34n3
theorem filmKnown_f34n4 : TabOk Tryz.prog filmKnownF34n4 := tabOk_cons ((exFT_ok evEnv_ok filmKnown_tab23 1000 60).1 _ _ _ filmKnown_c23) filmKnown_f34n3
def filmKnownTab24 : Tab2 := [(82, filmKnownF82n6), (47, filmKnownF47n1), (19, filmKnownF19n1), (49, filmKnownF49n6), (8, filmKnownF8n1), (135, filmKnownF135n1), (24, filmKnownF24n1), (88, filmKnownF88n1), (29, filmKnownF29n1), (34, filmKnownF34n4), (117, filmKnownF117n1)]
theorem filmKnown_tab24 : Tab2Ok Tryz.prog filmKnownTab24 := tab2Ok_cons filmKnown_f82n6 <| tab2Ok_cons filmKnown_f47n1 <| tab2Ok_cons filmKnown_f19n1 <| tab2Ok_cons filmKnown_f49n6 <| tab2Ok_cons filmKnown_f8n1 <| tab2Ok_cons filmKnown_f135n1 <| tab2Ok_cons filmKnown_f24n1 <| tab2Ok_cons filmKnown_f88n1 <| tab2Ok_cons filmKnown_f29n1 <| tab2Ok_cons filmKnown_f34n4 <| tab2Ok_cons filmKnown_f117n1 <| tab2Ok_nil
/-- num.In: 36 operations. -/
theorem filmKnown_c24 : (exFT evEnv filmKnownTab24 1000 60).1 49 filmKnownA24 = some filmKnownR24 := by kernel_rfl
def filmKnownA25 : List PV := [.v (.int .i64 429496729600), .v (.int .i64 65536)]
def filmKnownR25 : PV := .v (.int .i64 6553600)
def filmKnownF49n7 : Tab := (49, filmKnownA24, filmKnownR24) :: filmKnownF49n6
theorem filmKnown_f49n7 : TabOk Tryz.prog filmKnownF49n7 := tabOk_cons ((exFT_ok evEnv_ok filmKnown_tab24 1000 60).1 _ _ _ filmKnown_c24) filmKnown_f49n6
def filmKnownTab25 : Tab2 := [(82, filmKnownF82n6), (47, filmKnownF47n1), (19, filmKnownF19n1), (49, filmKnownF49n7), (8, filmKnownF8n1), (135, filmKnownF135n1), (24, filmKnownF24n1), (88, filmKnownF88n1), (29, filmKnownF29n1), (34, filmKnownF34n4), (117, filmKnownF117n1)]
theorem filmKnown_tab25 : Tab2Ok Tryz.prog filmKnownTab25 := tab2Ok_cons filmKnown_f82n6 <| tab2Ok_cons filmKnown_f47n1 <| tab2Ok_cons filmKnown_f19n1 <| tab2Ok_cons filmKnown_f49n7 <| tab2Ok_cons filmKnown_f8n1 <| tab2Ok_cons filmKnown_f135n1 <| tab2Ok_cons filmKnown_f24n1 <| tab2Ok_cons filmKnown_f88n1 <| tab2Ok_cons filmKnown_f29n1 <| tab2Ok_cons filmKnown_f34n4 <| tab2Ok_cons filmKnown_f117n1 <| tab2Ok_nil
/-- num.Floor: 35 operations. -/
theorem filmKnown_c25 : (exFT evEnv filmKnownTab25 1000 60).1 34 filmKnownA25 = some filmKnownR25 := by kernel_rfl
def filmKnownA26 : List PV := [.v (.int .i64 6553600)]
def filmKnownR26 : PV := .v (.bool true)
def filmKnownF34n5 : Tab := (34, filmKnownA25, filmKnownR25) :: filmKnownF34n4
theorem filmKnown_f34n5 : TabOk Tryz.prog filmKnownF34n5 := tabOk_cons ((exFT_ok evEnv_ok filmKnown_tab25 1000 60).1 _ _ _ filmKnown_c25) filmKnown_f34n4
def filmKnownTab26 : Tab2 := [(82, filmKnownF82n6), (47, filmKnownF47n1), (19, filmKnownF19n1), (49, filmKnownF49n7), (8, filmKnownF8n1), (135, filmKnownF135n1), (24, filmKnownF24n1), (88, filmKnownF88n1), (29, filmKnownF29n1), (34, filmKnownF34n5), (117, filmKnownF117n1)]
theorem filmKnown_tab26 : Tab2Ok Tryz.prog filmKnownTab26 := tab2Ok_cons filmKnown_f82n6 <| tab2Ok_cons filmKnown_f47n1 <| tab2Ok_cons filmKnown_f19n1 <| tab2Ok_cons filmKnown_f49n7 <| tab2Ok_cons filmKnown_f8n1 <| tab2Ok_cons filmKnown_f135n1 <| tab2Ok_cons filmKnown_f24n1 <| tab2Ok_cons filmKnown_f88n1 <| tab2Ok_cons filmKnown_f29n1 <| tab2Ok_cons filmKnown_f34n5 <| tab2Ok_cons filmKnown_f117n1 <| tab2Ok_nil
/-- num.In: 18 operations. -/
theorem filmKnown_c26 : (exFT evEnv filmKnownTab26 1000 60).1 49 filmKnownA26 = some filmKnownR26 := by kernel_rfl
def filmKnownA27 : List PV := [.v (.int .i64 6553600), .v (.bool false)]
def filmKnownR27 : PV := .tup [.v (.int .i64 655360), .v (.bool true)]
def filmKnownF49n8 : Tab := (49, filmKnownA26, filmKnownR26) :: filmKnownF49n7
theorem filmKnown_f49n8 : TabOk Tryz.prog filmKnownF49n8 := tabOk_cons ((exFT_ok evEnv_ok filmKnown_tab26 1000 60).1 _ _ _ filmKnown_c26) filmKnown_f49n7
def filmKnownTab27 : Tab2 := [(82, filmKnownF82n6), (47, filmKnownF47n1), (19, filmKnownF19n1), (49, filmKnownF49n8), (8, filmKnownF8n1), (135, filmKnownF135n1), (24, filmKnownF24n1), (88, filmKnownF88n1), (29, filmKnownF29n1), (34, filmKnownF34n5), (117, filmKnownF117n1)]
theorem filmKnown_tab27 : Tab2Ok Tryz.prog filmKnownTab27 := tab2Ok_cons filmKnown_f82n6 <| tab2Ok_cons filmKnown_f47n1 <| tab2Ok_cons filmKnown_f19n1 <| tab2Ok_cons filmKnown_f49n8 <| tab2Ok_cons filmKnown_f8n1 <| tab2Ok_cons filmKnown_f135n1 <| tab2Ok_cons filmKnown_f24n1 <| tab2Ok_cons filmKnown_f88n1 <| tab2Ok_cons filmKnown_f29n1 <| tab2Ok_cons filmKnown_f34n5 <| tab2Ok_cons filmKnown_f117n1 <| tab2Ok_nil
/-- num.Root: 397 operations. -/
theorem filmKnown_c27 : (exFT evEnv filmKnownTab27 1000 60).1 195 filmKnownA27 = some filmKnownR27 := by kernel_rfl
def filmKnownA28 : List PV := [.v (.int .i64 6684672)]
def filmKnownR28 : PV := .v (.bool true)
def filmKnownF195n1 : Tab := (195, filmKnownA27, filmKnownR27) :: []
theorem filmKnown_f195n1 : TabOk Tryz.prog filmKnownF195n1 := tabOk_cons ((exFT_ok evEnv_ok filmKnown_tab27 1000 60).1 _ _ _ filmKnown_c27) tabOk_nil
def filmKnownTab28 : Tab2 := [(82, filmKnownF82n6), (47, filmKnownF47n1), (19, filmKnownF19n1), (49, filmKnownF49n8), (8, filmKnownF8n1), (135, filmKnownF135n1), (24, filmKnownF24n1), (88, filmKnownF88n1), (29, filmKnownF29n1), (34, filmKnownF34n5), (117, filmKnownF117n1), (195, filmKnownF195n1)]
theorem filmKnown_tab28 : Tab2Ok Tryz.prog filmKnownTab28 := tab2Ok_cons filmKnown_f82n6 <| tab2Ok_cons filmKnown_f47n1 <| tab2Ok_cons filmKnown_f19n1 <| tab2Ok_cons filmKnown_f49n8 <| tab2Ok_cons filmKnown_f8n1 <| tab2Ok_cons filmKnown_f135n1 <| tab2Ok_cons filmKnown_f24n1 <| tab2Ok_cons filmKnown_f88n1 <| tab2Ok_cons filmKnown_f29n1 <| tab2Ok_cons filmKnown_f34n5 <| tab2Ok_cons filmKnown_f117n1 <| tab2Ok_cons filmKnown_f195n1 <| tab2Ok_nil
/-- num.In: 25 operations. -/
theorem filmKnown_c28 : (exFT evEnv filmKnownTab28 1000 60).1 49 filmKnownA28 = some filmKnownR28 := by kernel_rfl
def filmKnownA29 : List PV := [.v (.int .i64 6684672), .v (.bool true)]
def filmKnownR29 : PV := .tup [.v (.int .i64 661882), .v (.bool true)]
def filmKnownF49n9 : Tab := (49, filmKnownA28, filmKnownR28) :: filmKnownF49n8
theorem filmKnown_f49n9 : TabOk Tryz.prog filmKnownF49n9 := tabOk_cons ((exFT_ok evEnv_ok filmKnown_tab28 1000 60).1 _ _ _ filmKnown_c28) filmKnown_f49n8
def filmKnownTab29 : Tab2 := [(82, filmKnownF82n6), (47, filmKnownF47n1), (19, filmKnownF19n1), (49, filmKnownF49n9), (8, filmKnownF8n1), (135, filmKnownF135n1), (24, filmKnownF24n1), (88, filmKnownF88n1), (29, filmKnownF29n1), (34, filmKnownF34n5), (117, filmKnownF117n1), (195, filmKnownF195n1)]
theorem filmKnown_tab29 : Tab2Ok Tryz.prog filmKnownTab29 := tab2Ok_cons filmKnown_f82n6 <| tab2Ok_cons filmKnown_f47n1 <| tab2Ok_cons filmKnown_f19n1 <| tab2Ok_cons filmKnown_f49n9 <| tab2Ok_cons filmKnown_f8n1 <| tab2Ok_cons filmKnown_f135n1 <| tab2Ok_cons filmKnown_f24n1 <| tab2Ok_cons filmKnown_f88n1 <| tab2Ok_cons filmKnown_f29n1 <| tab2Ok_cons filmKnown_f34n5 <| tab2Ok_cons filmKnown_f117n1 <| tab2Ok_cons filmKnown_f195n1 <| tab2Ok_nil
/-- num.Root: 416 operations. -/
theorem filmKnown_c29 : (exFT evEnv filmKnownTab29 1000 60).1 195 filmKnownA29 = some filmKnownR29 := by kernel_rfl
def filmKnownA30 : List PV := [.v (.int .i64 0), .v (.int .i64 655360)]
def filmKnownR30 : PV := .v (.int .i64 0)
def filmKnownF195n2 : Tab := (195, filmKnownA29, filmKnownR29) :: filmKnownF195n1
theorem filmKnown_f195n2 : TabOk Tryz.prog filmKnownF195n2 := tabOk_cons ((exFT_ok evEnv_ok filmKnown_tab29 1000 60).1 _ _ _ filmKnown_c29) filmKnown_f195n1
def filmKnownTab30 : Tab2 := [(82, filmKnownF82n6), (47, filmKnownF47n1), (19, filmKnownF19n1), (49, filmKnownF49n9), (8, filmKnownF8n1), (135, filmKnownF135n1), (24, filmKnownF24n1), (88, filmKnownF88n1), (29, filmKnownF29n1), (34, filmKnownF34n5), (117, filmKnownF117n1), (195, filmKnownF195n2)]
theorem filmKnown_tab30 : Tab2Ok Tryz.prog filmKnownTab30 := tab2Ok_cons filmKnown_f82n6 <| tab2Ok_cons filmKnown_f47n1 <| tab2Ok_cons filmKnown_f19n1 <| tab2Ok_cons filmKnown_f49n9 <| tab2Ok_cons filmKnown_f8n1 <| tab2Ok_cons filmKnown_f135n1 <| tab2Ok_cons filmKnown_f24n1 <| tab2Ok_cons filmKnown_f88n1 <| tab2Ok_cons filmKnown_f29n1 <| tab2Ok_cons filmKnown_f34n5 <| tab2Ok_cons filmKnown_f117n1 <| tab2Ok_cons filmKnown_f195n2 <| tab2Ok_nil
/-- num.Floor: 35 operations. -/
theorem filmKnown_c30 : (exFT evEnv filmKnownTab30 1000 60).1 34 filmKnownA30 = some filmKnownR30 := by kernel_rfl
def filmKnownA31 : List PV := [.v (.int .i64 0), .v (.int .i64 661882)]
def filmKnownR31 : PV := .v (.int .i64 0)
def filmKnownF34n6 : Tab := (34, filmKnownA30, filmKnownR30) :: filmKnownF34n5
theorem filmKnown_f34n6 : TabOk Tryz.prog filmKnownF34n6 := tabOk_cons ((exFT_ok evEnv_ok filmKnown_tab30 1000 60).1 _ _ _ filmKnown_c30) filmKnown_f34n5
def filmKnownTab31 : Tab2 := [(82, filmKnownF82n6), (47, filmKnownF47n1), (19, filmKnownF19n1), (49, filmKnownF49n9), (8, filmKnownF8n1), (135, filmKnownF135n1), (24, filmKnownF24n1), (88, filmKnownF88n1), (29, filmKnownF29n1), (34, filmKnownF34n6), (117, filmKnownF117n1), (195, filmKnownF195n2)]
theorem filmKnown_tab31 : Tab2Ok Tryz.prog filmKnownTab31 := tab2Ok_cons filmKnown_f82n6 <| tab2Ok_cons filmKnown_f47n1 <| tab2Ok_cons filmKnown_f19n1 <| tab2Ok_cons filmKnown_f49n9 <| tab2Ok_cons filmKnown_f8n1 <| tab2Ok_cons filmKnown_f135n1 <| tab2Ok_cons filmKnown_f24n1 <| tab2Ok_cons filmKnown_f88n1 <| tab2Ok_cons filmKnown_f29n1 <| tab2Ok_cons filmKnown_f34n6 <| tab2Ok_cons filmKnown_f117n1 <| tab2Ok_cons filmKnown_f195n2 <| tab2Ok_nil
/-- num.Floor: 35 operations. -/
theorem filmKnown_c31 : (exFT evEnv filmKnownTab31 1000 60).1 34 filmKnownA31 = some filmKnownR31 := by kernel_rfl
def filmKnownA32 : List PV := [.v (.int .i64 4294967296), .v (.int .i64 655360)]
def filmKnownR32 : PV := .v (.int .i64 6553)
def filmKnownF34n7 : Tab := (34, filmKnownA31, filmKnownR31) :: filmKnownF34n6
theorem filmKnown_f34n7 : TabOk Tryz.prog filmKnownF34n7 := tabOk_cons ((exFT_ok evEnv_ok filmKnown_tab31 1000 60).1 _ _ _ filmKnown_c31) filmKnown_f34n6
def filmKnownTab32 : Tab2 := [(82, filmKnownF82n6), (47, filmKnownF47n1), (19, filmKnownF19n1), (49, filmKnownF49n9), (8, filmKnownF8n1), (135, filmKnownF135n1), (24, filmKnownF24n1), (88, filmKnownF88n1), (29, filmKnownF29n1), (34, filmKnownF34n7), (117, filmKnownF117n1), (195, filmKnownF195n2)]
theorem filmKnown_tab32 : Tab2Ok Tryz.prog filmKnownTab32 := tab2Ok_cons filmKnown_f82n6 <| tab2Ok_cons filmKnown_f47n1 <| tab2Ok_cons filmKnown_f19n1 <| tab2Ok_cons filmKnown_f49n9 <| tab2Ok_cons filmKnown_f8n1 <| tab2Ok_cons filmKnown_f135n1 <| tab2Ok_cons filmKnown_f24n1 <| tab2Ok_cons filmKnown_f88n1 <| tab2Ok_cons filmKnown_f29n1 <| tab2Ok_cons filmKnown_f34n7 <| tab2Ok_cons filmKnown_f117n1 <| tab2Ok_cons filmKnown_f195n2 <| tab2Ok_nil
/-- num.Floor: 35 operations. -/
theorem filmKnown_c32 : (exFT evEnv filmKnownTab32 1000 60).1 34 filmKnownA32 = some filmKnownR32 := by kernel_rfl
def filmKnownA33 : List PV := [.v (.int .i64 6554)]
def filmKnownR33 : PV := .v (.bool true)
def filmKnownF34n8 : Tab := (34, filmKnownA32, filmKnownR32) :: filmKnownF34n7
theorem filmKnown_f34n8 : TabOk Tryz.prog filmKnownF34n8 := tabOk_cons ((exFT_ok evEnv_ok filmKnown_tab32 1000 60).1 _ _ _ filmKnown_c32) filmKnown_f34n7
def filmKnownTab33 : Tab2 := [(82, filmKnownF82n6), (47, filmKnownF47n1), (19, filmKnownF19n1), (49, filmKnownF49n9), (8, filmKnownF8n1), (135, filmKnownF135n1), (24, filmKnownF24n1), (88, filmKnownF88n1), (29, filmKnownF29n1), (34, filmKnownF34n8), (117, filmKnownF117n1), (195, filmKnownF195n2)]
theorem filmKnown_tab33 : Tab2Ok Tryz.prog filmKnownTab33 := tab2Ok_cons filmKnown_f82n6 <| tab2Ok_cons filmKnown_f47n1 <| tab2Ok_cons filmKnown_f19n1 <| tab2Ok_cons filmKnown_f49n9 <| tab2Ok_cons filmKnown_f8n1 <| tab2Ok_cons filmKnown_f135n1 <| tab2Ok_cons filmKnown_f24n1 <| tab2Ok_cons filmKnown_f88n1 <| tab2Ok_cons filmKnown_f29n1 <| tab2Ok_cons filmKnown_f34n8 <| tab2Ok_cons filmKnown_f117n1 <| tab2Ok_cons filmKnown_f195n2 <| tab2Ok_nil
/-- num.In: 21 operations. -/
theorem filmKnown_c33 : (exFT evEnv filmKnownTab33 1000 60).1 49 filmKnownA33 = some filmKnownR33 := by kernel_rfl
def filmKnownA34 : List PV := [.v (.int .i64 4294967296), .v (.int .i64 661882)]
def filmKnownR34 : PV := .v (.int .i64 6489)
def filmKnownF49n10 : Tab := (49, filmKnownA33, filmKnownR33) :: filmKnownF49n9
theorem filmKnown_f49n10 : TabOk Tryz.prog filmKnownF49n10 := tabOk_cons ((exFT_ok evEnv_ok filmKnown_tab33 1000 60).1 _ _ _ filmKnown_c33) filmKnown_f49n9
def filmKnownTab34 : Tab2 := [(82, filmKnownF82n6), (47, filmKnownF47n1), (19, filmKnownF19n1), (49, filmKnownF49n10), (8, filmKnownF8n1), (135, filmKnownF135n1), (24, filmKnownF24n1), (88, filmKnownF88n1), (29, filmKnownF29n1), (34, filmKnownF34n8), (117, filmKnownF117n1), (195, filmKnownF195n2)]
theorem filmKnown_tab34 : Tab2Ok Tryz.prog filmKnownTab34 := tab2Ok_cons filmKnown_f82n6 <| tab2Ok_cons filmKnown_f47n1 <| tab2Ok_cons filmKnown_f19n1 <| tab2Ok_cons filmKnown_f49n10 <| tab2Ok_cons filmKnown_f8n1 <| tab2Ok_cons filmKnown_f135n1 <| tab2Ok_cons filmKnown_f24n1 <| tab2Ok_cons filmKnown_f88n1 <| tab2Ok_cons filmKnown_f29n1 <| tab2Ok_cons filmKnown_f34n8 <| tab2Ok_cons filmKnown_f117n1 <| tab2Ok_cons filmKnown_f195n2 <| tab2Ok_nil
/-- num.Floor: 35 operations. -/
theorem filmKnown_c34 : (exFT evEnv filmKnownTab34 1000 60).1 34 filmKnownA34 = some filmKnownR34 := by kernel_rfl
def filmKnownA35 : List PV := [.v (.int .i64 65536), .v (.int .i64 661882), .v (.bool false)]
def filmKnownR35 : PV := .tup [.v (.int .i64 6489), .v (.bool true)]
def filmKnownF34n9 : Tab := (34, filmKnownA34, filmKnownR34) :: filmKnownF34n8
theorem filmKnown_f34n9 : TabOk Tryz.prog filmKnownF34n9 := tabOk_cons ((exFT_ok evEnv_ok filmKnown_tab34 1000 60).1 _ _ _ filmKnown_c34) filmKnown_f34n8
def filmKnownTab35 : Tab2 := [(82, filmKnownF82n6), (47, filmKnownF47n1), (19, filmKnownF19n1), (49, filmKnownF49n10), (8, filmKnownF8n1), (135, filmKnownF135n1), (24, filmKnownF24n1), (88, filmKnownF88n1), (29, filmKnownF29n1), (34, filmKnownF34n9), (117, filmKnownF117n1), (195, filmKnownF195n2)]
theorem filmKnown_tab35 : Tab2Ok Tryz.prog filmKnownTab35 := tab2Ok_cons filmKnown_f82n6 <| tab2Ok_cons filmKnown_f47n1 <| tab2Ok_cons filmKnown_f19n1 <| tab2Ok_cons filmKnown_f49n10 <| tab2Ok_cons filmKnown_f8n1 <| tab2Ok_cons filmKnown_f135n1 <| tab2Ok_cons filmKnown_f24n1 <| tab2Ok_cons filmKnown_f88n1 <| tab2Ok_cons filmKnown_f29n1 <| tab2Ok_cons filmKnown_f34n9 <| tab2Ok_cons filmKnown_f117n1 <| tab2Ok_cons filmKnown_f195n2 <| tab2Ok_nil
/-- num.Div: 29 operations. -/
theorem filmKnown_c35 : (exFT evEnv filmKnownTab35 1000 60).1 174 filmKnownA35 = some filmKnownR35 := by kernel_rfl
def filmKnownA36 : List PV := [.v (.int .i64 65536), .v (.int .i64 661882), .v (.bool true)]
def filmKnownR36 : PV := .tup [.v (.int .i64 6490), .v (.bool true)]
def filmKnownF174n1 : Tab := (174, filmKnownA35, filmKnownR35) :: []
theorem filmKnown_f174n1 : TabOk Tryz.prog filmKnownF174n1 := tabOk_cons ((exFT_ok evEnv_ok filmKnown_tab35 1000 60).1 _ _ _ filmKnown_c35) tabOk_nil
def filmKnownTab36 : Tab2 := [(82, filmKnownF82n6), (47, filmKnownF47n1), (19, filmKnownF19n1), (49, filmKnownF49n10), (8, filmKnownF8n1), (135, filmKnownF135n1), (24, filmKnownF24n1), (88, filmKnownF88n1), (29, filmKnownF29n1), (34, filmKnownF34n9), (117, filmKnownF117n1), (195, filmKnownF195n2), (174, filmKnownF174n1)]
theorem filmKnown_tab36 : Tab2Ok Tryz.prog filmKnownTab36 := tab2Ok_cons filmKnown_f82n6 <| tab2Ok_cons filmKnown_f47n1 <| tab2Ok_cons filmKnown_f19n1 <| tab2Ok_cons filmKnown_f49n10 <| tab2Ok_cons filmKnown_f8n1 <| tab2Ok_cons filmKnown_f135n1 <| tab2Ok_cons filmKnown_f24n1 <| tab2Ok_cons filmKnown_f88n1 <| tab2Ok_cons filmKnown_f29n1 <| tab2Ok_cons filmKnown_f34n9 <| tab2Ok_cons filmKnown_f117n1 <| tab2Ok_cons filmKnown_f195n2 <| tab2Ok_cons filmKnown_f174n1 <| tab2Ok_nil
/-- num.Div: 32 operations. -/
theorem filmKnown_c36 : (exFT evEnv filmKnownTab36 1000 60).1 174 filmKnownA36 = some filmKnownR36 := by kernel_rfl
def filmKnownA37 : List PV := [.agg [.v (.int .i64 0), .v (.int .i64 65536), .v (.bool false)], .agg [.v (.int .i64 655360), .v (.int .i64 661882), .v (.bool false)]]
def filmKnownR37 : PV := .agg [.v (.int .i64 0), .v (.int .i64 6554), .v (.bool false)]
def filmKnownF174n2 : Tab := (174, filmKnownA36, filmKnownR36) :: filmKnownF174n1
theorem filmKnown_f174n2 : TabOk Tryz.prog filmKnownF174n2 := tabOk_cons ((exFT_ok evEnv_ok filmKnown_tab36 1000 60).1 _ _ _ filmKnown_c36) filmKnown_f174n1
def filmKnownTab37 : Tab2 := [(82, filmKnownF82n6), (47, filmKnownF47n1), (19, filmKnownF19n1), (49, filmKnownF49n10), (8, filmKnownF8n1), (135, filmKnownF135n1), (24, filmKnownF24n1), (88, filmKnownF88n1), (29, filmKnownF29n1), (34, filmKnownF34n9), (117, filmKnownF117n1), (195, filmKnownF195n2), (174, filmKnownF174n2)]
theorem filmKnown_tab37 : Tab2Ok Tryz.prog filmKnownTab37 := tab2Ok_cons filmKnown_f82n6 <| tab2Ok_cons filmKnown_f47n1 <| tab2Ok_cons filmKnown_f19n1 <| tab2Ok_cons filmKnown_f49n10 <| tab2Ok_cons filmKnown_f8n1 <| tab2Ok_cons filmKnown_f135n1 <| tab2Ok_cons filmKnown_f24n1 <| tab2Ok_cons filmKnown_f88n1 <| tab2Ok_cons filmKnown_f29n1 <| tab2Ok_cons filmKnown_f34n9 <| tab2Ok_cons filmKnown_f117n1 <| tab2Ok_cons filmKnown_f195n2 <| tab2Ok_cons filmKnown_f174n2 <| tab2Ok_nil
/-- iv.Div: 86 operations. -/
theorem filmKnown_c37 : (exFT evEnv filmKnownTab37 1000 60).1 117 filmKnownA37 = some filmKnownR37 := by kernel_rfl
def filmKnownA38 : List PV := [.v (.int .i64 42949672960), .v (.int .i64 655360)]
def filmKnownR38 : PV := .v (.int .i64 65536)
def filmKnownF117n2 : Tab := (117, filmKnownA37, filmKnownR37) :: filmKnownF117n1
theorem filmKnown_f117n2 : TabOk Tryz.prog filmKnownF117n2 := tabOk_cons ((exFT_ok evEnv_ok filmKnown_tab37 1000 60).1 _ _ _ filmKnown_c37) filmKnown_f117n1
def filmKnownTab38 : Tab2 := [(82, filmKnownF82n6), (47, filmKnownF47n1), (19, filmKnownF19n1), (49, filmKnownF49n10), (8, filmKnownF8n1), (135, filmKnownF135n1), (24, filmKnownF24n1), (88, filmKnownF88n1), (29, filmKnownF29n1), (34, filmKnownF34n9), (117, filmKnownF117n2), (195, filmKnownF195n2), (174, filmKnownF174n2)]
theorem filmKnown_tab38 : Tab2Ok Tryz.prog filmKnownTab38 := tab2Ok_cons filmKnown_f82n6 <| tab2Ok_cons filmKnown_f47n1 <| tab2Ok_cons filmKnown_f19n1 <| tab2Ok_cons filmKnown_f49n10 <| tab2Ok_cons filmKnown_f8n1 <| tab2Ok_cons filmKnown_f135n1 <| tab2Ok_cons filmKnown_f24n1 <| tab2Ok_cons filmKnown_f88n1 <| tab2Ok_cons filmKnown_f29n1 <| tab2Ok_cons filmKnown_f34n9 <| tab2Ok_cons filmKnown_f117n2 <| tab2Ok_cons filmKnown_f195n2 <| tab2Ok_cons filmKnown_f174n2 <| tab2Ok_nil
/-- num.Floor: 35 operations. -/
theorem filmKnown_c38 : (exFT evEnv filmKnownTab38 1000 60).1 34 filmKnownA38 = some filmKnownR38 := by kernel_rfl
def filmKnownA39 : List PV := [.v (.int .i64 42949672960), .v (.int .i64 661882)]
def filmKnownR39 : PV := .v (.int .i64 64890)
def filmKnownF34n10 : Tab := (34, filmKnownA38, filmKnownR38) :: filmKnownF34n9
theorem filmKnown_f34n10 : TabOk Tryz.prog filmKnownF34n10 := tabOk_cons ((exFT_ok evEnv_ok filmKnown_tab38 1000 60).1 _ _ _ filmKnown_c38) filmKnown_f34n9
def filmKnownTab39 : Tab2 := [(82, filmKnownF82n6), (47, filmKnownF47n1), (19, filmKnownF19n1), (49, filmKnownF49n10), (8, filmKnownF8n1), (135, filmKnownF135n1), (24, filmKnownF24n1), (88, filmKnownF88n1), (29, filmKnownF29n1), (34, filmKnownF34n10), (117, filmKnownF117n2), (195, filmKnownF195n2), (174, filmKnownF174n2)]
theorem filmKnown_tab39 : Tab2Ok Tryz.prog filmKnownTab39 := tab2Ok_cons filmKnown_f82n6 <| tab2Ok_cons filmKnown_f47n1 <| tab2Ok_cons filmKnown_f19n1 <| tab2Ok_cons filmKnown_f49n10 <| tab2Ok_cons filmKnown_f8n1 <| tab2Ok_cons filmKnown_f135n1 <| tab2Ok_cons filmKnown_f24n1 <| tab2Ok_cons filmKnown_f88n1 <| tab2Ok_cons filmKnown_f29n1 <| tab2Ok_cons filmKnown_f34n10 <| tab2Ok_cons filmKnown_f117n2 <| tab2Ok_cons filmKnown_f195n2 <| tab2Ok_cons filmKnown_f174n2 <| tab2Ok_nil
/-- num.Floor: 35 operations. -/
theorem filmKnown_c39 : (exFT evEnv filmKnownTab39 1000 60).1 34 filmKnownA39 = some filmKnownR39 := by kernel_rfl
def filmKnownA40 : List PV := [.v (.int .i64 64890)]
def filmKnownR40 : PV := .v (.bool true)
def filmKnownF34n11 : Tab := (34, filmKnownA39, filmKnownR39) :: filmKnownF34n10
theorem filmKnown_f34n11 : TabOk Tryz.prog filmKnownF34n11 := tabOk_cons ((exFT_ok evEnv_ok filmKnown_tab39 1000 60).1 _ _ _ filmKnown_c39) filmKnown_f34n10
def filmKnownTab40 : Tab2 := [(82, filmKnownF82n6), (47, filmKnownF47n1), (19, filmKnownF19n1), (49, filmKnownF49n10), (8, filmKnownF8n1), (135, filmKnownF135n1), (24, filmKnownF24n1), (88, filmKnownF88n1), (29, filmKnownF29n1), (34, filmKnownF34n11), (117, filmKnownF117n2), (195, filmKnownF195n2), (174, filmKnownF174n2)]
theorem filmKnown_tab40 : Tab2Ok Tryz.prog filmKnownTab40 := tab2Ok_cons filmKnown_f82n6 <| tab2Ok_cons filmKnown_f47n1 <| tab2Ok_cons filmKnown_f19n1 <| tab2Ok_cons filmKnown_f49n10 <| tab2Ok_cons filmKnown_f8n1 <| tab2Ok_cons filmKnown_f135n1 <| tab2Ok_cons filmKnown_f24n1 <| tab2Ok_cons filmKnown_f88n1 <| tab2Ok_cons filmKnown_f29n1 <| tab2Ok_cons filmKnown_f34n11 <| tab2Ok_cons filmKnown_f117n2 <| tab2Ok_cons filmKnown_f195n2 <| tab2Ok_cons filmKnown_f174n2 <| tab2Ok_nil
/-- num.In: 18 operations. -/
theorem filmKnown_c40 : (exFT evEnv filmKnownTab40 1000 60).1 49 filmKnownA40 = some filmKnownR40 := by kernel_rfl
def filmKnownA41 : List PV := [.v (.int .i64 655360), .v (.int .i64 661882), .v (.bool true)]
def filmKnownR41 : PV := .tup [.v (.int .i64 64891), .v (.bool true)]
def filmKnownF49n11 : Tab := (49, filmKnownA40, filmKnownR40) :: filmKnownF49n10
theorem filmKnown_f49n11 : TabOk Tryz.prog filmKnownF49n11 := tabOk_cons ((exFT_ok evEnv_ok filmKnown_tab40 1000 60).1 _ _ _ filmKnown_c40) filmKnown_f49n10
def filmKnownTab41 : Tab2 := [(82, filmKnownF82n6), (47, filmKnownF47n1), (19, filmKnownF19n1), (49, filmKnownF49n11), (8, filmKnownF8n1), (135, filmKnownF135n1), (24, filmKnownF24n1), (88, filmKnownF88n1), (29, filmKnownF29n1), (34, filmKnownF34n11), (117, filmKnownF117n2), (195, filmKnownF195n2), (174, filmKnownF174n2)]
theorem filmKnown_tab41 : Tab2Ok Tryz.prog filmKnownTab41 := tab2Ok_cons filmKnown_f82n6 <| tab2Ok_cons filmKnown_f47n1 <| tab2Ok_cons filmKnown_f19n1 <| tab2Ok_cons filmKnown_f49n11 <| tab2Ok_cons filmKnown_f8n1 <| tab2Ok_cons filmKnown_f135n1 <| tab2Ok_cons filmKnown_f24n1 <| tab2Ok_cons filmKnown_f88n1 <| tab2Ok_cons filmKnown_f29n1 <| tab2Ok_cons filmKnown_f34n11 <| tab2Ok_cons filmKnown_f117n2 <| tab2Ok_cons filmKnown_f195n2 <| tab2Ok_cons filmKnown_f174n2 <| tab2Ok_nil
/-- num.Div: 32 operations. -/
theorem filmKnown_c41 : (exFT evEnv filmKnownTab41 1000 60).1 174 filmKnownA41 = some filmKnownR41 := by kernel_rfl
def filmKnownA42 : List PV := [.agg [.v (.int .i64 655360), .v (.int .i64 655360), .v (.bool false)], .agg [.v (.int .i64 655360), .v (.int .i64 661882), .v (.bool false)]]
def filmKnownR42 : PV := .agg [.v (.int .i64 64890), .v (.int .i64 65536), .v (.bool false)]
def filmKnownF174n3 : Tab := (174, filmKnownA41, filmKnownR41) :: filmKnownF174n2
theorem filmKnown_f174n3 : TabOk Tryz.prog filmKnownF174n3 := tabOk_cons ((exFT_ok evEnv_ok filmKnown_tab41 1000 60).1 _ _ _ filmKnown_c41) filmKnown_f174n2
def filmKnownTab42 : Tab2 := [(82, filmKnownF82n6), (47, filmKnownF47n1), (19, filmKnownF19n1), (49, filmKnownF49n11), (8, filmKnownF8n1), (135, filmKnownF135n1), (24, filmKnownF24n1), (88, filmKnownF88n1), (29, filmKnownF29n1), (34, filmKnownF34n11), (117, filmKnownF117n2), (195, filmKnownF195n2), (174, filmKnownF174n3)]
theorem filmKnown_tab42 : Tab2Ok Tryz.prog filmKnownTab42 := tab2Ok_cons filmKnown_f82n6 <| tab2Ok_cons filmKnown_f47n1 <| tab2Ok_cons filmKnown_f19n1 <| tab2Ok_cons filmKnown_f49n11 <| tab2Ok_cons filmKnown_f8n1 <| tab2Ok_cons filmKnown_f135n1 <| tab2Ok_cons filmKnown_f24n1 <| tab2Ok_cons filmKnown_f88n1 <| tab2Ok_cons filmKnown_f29n1 <| tab2Ok_cons filmKnown_f34n11 <| tab2Ok_cons filmKnown_f117n2 <| tab2Ok_cons filmKnown_f195n2 <| tab2Ok_cons filmKnown_f174n3 <| tab2Ok_nil
/-- iv.Div: 68 operations. -/
theorem filmKnown_c42 : (exFT evEnv filmKnownTab42 1000 60).1 117 filmKnownA42 = some filmKnownR42 := by kernel_rfl
def filmKnownA43 : List PV := [.agg [.v (.int .i64 0), .v (.int .i64 65536), .v (.bool false), .v (.int .i64 0), .v (.int .i64 65536), .v (.bool false), .v (.int .i64 655360), .v (.int .i64 655360), .v (.bool false)]]
def filmKnownR43 : PV := .agg [.v (.int .i64 0), .v (.int .i64 6554), .v (.bool false), .v (.int .i64 0), .v (.int .i64 6554), .v (.bool false), .v (.int .i64 64890), .v (.int .i64 65536), .v (.bool false)]
def filmKnownF117n3 : Tab := (117, filmKnownA42, filmKnownR42) :: filmKnownF117n2
theorem filmKnown_f117n3 : TabOk Tryz.prog filmKnownF117n3 := tabOk_cons ((exFT_ok evEnv_ok filmKnown_tab42 1000 60).1 _ _ _ filmKnown_c42) filmKnown_f117n2
def filmKnownTab43 : Tab2 := [(82, filmKnownF82n6), (47, filmKnownF47n1), (19, filmKnownF19n1), (49, filmKnownF49n11), (8, filmKnownF8n1), (135, filmKnownF135n1), (24, filmKnownF24n1), (88, filmKnownF88n1), (29, filmKnownF29n1), (34, filmKnownF34n11), (117, filmKnownF117n3), (195, filmKnownF195n2), (174, filmKnownF174n3)]
theorem filmKnown_tab43 : Tab2Ok Tryz.prog filmKnownTab43 := tab2Ok_cons filmKnown_f82n6 <| tab2Ok_cons filmKnown_f47n1 <| tab2Ok_cons filmKnown_f19n1 <| tab2Ok_cons filmKnown_f49n11 <| tab2Ok_cons filmKnown_f8n1 <| tab2Ok_cons filmKnown_f135n1 <| tab2Ok_cons filmKnown_f24n1 <| tab2Ok_cons filmKnown_f88n1 <| tab2Ok_cons filmKnown_f29n1 <| tab2Ok_cons filmKnown_f34n11 <| tab2Ok_cons filmKnown_f117n3 <| tab2Ok_cons filmKnown_f195n2 <| tab2Ok_cons filmKnown_f174n3 <| tab2Ok_nil
/-- vec.Unit: 79 operations. -/
theorem filmKnown_c43 : (exFT evEnv filmKnownTab43 1000 60).1 93 filmKnownA43 = some filmKnownR43 := by kernel_rfl
def filmKnownA44 : List PV := [.v (.int .i64 (-655360))]
def filmKnownR44 : PV := .v (.bool true)
def filmKnownF93n1 : Tab := (93, filmKnownA43, filmKnownR43) :: []
theorem filmKnown_f93n1 : TabOk Tryz.prog filmKnownF93n1 := tabOk_cons ((exFT_ok evEnv_ok filmKnown_tab43 1000 60).1 _ _ _ filmKnown_c43) tabOk_nil
def filmKnownTab44 : Tab2 := [(82, filmKnownF82n6), (47, filmKnownF47n1), (19, filmKnownF19n1), (49, filmKnownF49n11), (8, filmKnownF8n1), (135, filmKnownF135n1), (24, filmKnownF24n1), (88, filmKnownF88n1), (29, filmKnownF29n1), (34, filmKnownF34n11), (117, filmKnownF117n3), (195, filmKnownF195n2), (174, filmKnownF174n3), (93, filmKnownF93n1)]
theorem filmKnown_tab44 : Tab2Ok Tryz.prog filmKnownTab44 := tab2Ok_cons filmKnown_f82n6 <| tab2Ok_cons filmKnown_f47n1 <| tab2Ok_cons filmKnown_f19n1 <| tab2Ok_cons filmKnown_f49n11 <| tab2Ok_cons filmKnown_f8n1 <| tab2Ok_cons filmKnown_f135n1 <| tab2Ok_cons filmKnown_f24n1 <| tab2Ok_cons filmKnown_f88n1 <| tab2Ok_cons filmKnown_f29n1 <| tab2Ok_cons filmKnown_f34n11 <| tab2Ok_cons filmKnown_f117n3 <| tab2Ok_cons filmKnown_f195n2 <| tab2Ok_cons filmKnown_f174n3 <| tab2Ok_cons filmKnown_f93n1 <| tab2Ok_nil
/-- num.In: 48 operations. -/
theorem filmKnown_c44 : (exFT evEnv filmKnownTab44 1000 60).1 49 filmKnownA44 = some filmKnownR44 := by kernel_rfl
def filmKnownA45 : List PV := [.v (.int .i64 42954916), .v (.int .i64 65536)]
def filmKnownR45 : PV := .v (.int .i64 655)
def filmKnownF49n12 : Tab := (49, filmKnownA44, filmKnownR44) :: filmKnownF49n11
theorem filmKnown_f49n12 : TabOk Tryz.prog filmKnownF49n12 := tabOk_cons ((exFT_ok evEnv_ok filmKnown_tab44 1000 60).1 _ _ _ filmKnown_c44) filmKnown_f49n11
def filmKnownTab45 : Tab2 := [(82, filmKnownF82n6), (47, filmKnownF47n1), (19, filmKnownF19n1), (49, filmKnownF49n12), (8, filmKnownF8n1), (135, filmKnownF135n1), (24, filmKnownF24n1), (88, filmKnownF88n1), (29, filmKnownF29n1), (34, filmKnownF34n11), (117, filmKnownF117n3), (195, filmKnownF195n2), (174, filmKnownF174n3), (93, filmKnownF93n1)]
theorem filmKnown_tab45 : Tab2Ok Tryz.prog filmKnownTab45 := tab2Ok_cons filmKnown_f82n6 <| tab2Ok_cons filmKnown_f47n1 <| tab2Ok_cons filmKnown_f19n1 <| tab2Ok_cons filmKnown_f49n12 <| tab2Ok_cons filmKnown_f8n1 <| tab2Ok_cons filmKnown_f135n1 <| tab2Ok_cons filmKnown_f24n1 <| tab2Ok_cons filmKnown_f88n1 <| tab2Ok_cons filmKnown_f29n1 <| tab2Ok_cons filmKnown_f34n11 <| tab2Ok_cons filmKnown_f117n3 <| tab2Ok_cons filmKnown_f195n2 <| tab2Ok_cons filmKnown_f174n3 <| tab2Ok_cons filmKnown_f93n1 <| tab2Ok_nil
/-- num.Floor: 35 operations. -/
theorem filmKnown_c45 : (exFT evEnv filmKnownTab45 1000 60).1 34 filmKnownA45 = some filmKnownR45 := by kernel_rfl
def filmKnownA46 : List PV := [.v (.int .i64 656)]
def filmKnownR46 : PV := .v (.bool true)
def filmKnownF34n12 : Tab := (34, filmKnownA45, filmKnownR45) :: filmKnownF34n11
theorem filmKnown_f34n12 : TabOk Tryz.prog filmKnownF34n12 := tabOk_cons ((exFT_ok evEnv_ok filmKnown_tab45 1000 60).1 _ _ _ filmKnown_c45) filmKnown_f34n11
def filmKnownTab46 : Tab2 := [(82, filmKnownF82n6), (47, filmKnownF47n1), (19, filmKnownF19n1), (49, filmKnownF49n12), (8, filmKnownF8n1), (135, filmKnownF135n1), (24, filmKnownF24n1), (88, filmKnownF88n1), (29, filmKnownF29n1), (34, filmKnownF34n12), (117, filmKnownF117n3), (195, filmKnownF195n2), (174, filmKnownF174n3), (93, filmKnownF93n1)]
theorem filmKnown_tab46 : Tab2Ok Tryz.prog filmKnownTab46 := tab2Ok_cons filmKnown_f82n6 <| tab2Ok_cons filmKnown_f47n1 <| tab2Ok_cons filmKnown_f19n1 <| tab2Ok_cons filmKnown_f49n12 <| tab2Ok_cons filmKnown_f8n1 <| tab2Ok_cons filmKnown_f135n1 <| tab2Ok_cons filmKnown_f24n1 <| tab2Ok_cons filmKnown_f88n1 <| tab2Ok_cons filmKnown_f29n1 <| tab2Ok_cons filmKnown_f34n12 <| tab2Ok_cons filmKnown_f117n3 <| tab2Ok_cons filmKnown_f195n2 <| tab2Ok_cons filmKnown_f174n3 <| tab2Ok_cons filmKnown_f93n1 <| tab2Ok_nil
/-- num.In: 21 operations. -/
theorem filmKnown_c46 : (exFT evEnv filmKnownTab46 1000 60).1 49 filmKnownA46 = some filmKnownR46 := by kernel_rfl
def filmKnownA47 : List PV := [.v (.int .i64 4210712100), .v (.int .i64 65536)]
def filmKnownR47 : PV := .v (.int .i64 64250)
def filmKnownF49n13 : Tab := (49, filmKnownA46, filmKnownR46) :: filmKnownF49n12
theorem filmKnown_f49n13 : TabOk Tryz.prog filmKnownF49n13 := tabOk_cons ((exFT_ok evEnv_ok filmKnown_tab46 1000 60).1 _ _ _ filmKnown_c46) filmKnown_f49n12
def filmKnownTab47 : Tab2 := [(82, filmKnownF82n6), (47, filmKnownF47n1), (19, filmKnownF19n1), (49, filmKnownF49n13), (8, filmKnownF8n1), (135, filmKnownF135n1), (24, filmKnownF24n1), (88, filmKnownF88n1), (29, filmKnownF29n1), (34, filmKnownF34n12), (117, filmKnownF117n3), (195, filmKnownF195n2), (174, filmKnownF174n3), (93, filmKnownF93n1)]
theorem filmKnown_tab47 : Tab2Ok Tryz.prog filmKnownTab47 := tab2Ok_cons filmKnown_f82n6 <| tab2Ok_cons filmKnown_f47n1 <| tab2Ok_cons filmKnown_f19n1 <| tab2Ok_cons filmKnown_f49n13 <| tab2Ok_cons filmKnown_f8n1 <| tab2Ok_cons filmKnown_f135n1 <| tab2Ok_cons filmKnown_f24n1 <| tab2Ok_cons filmKnown_f88n1 <| tab2Ok_cons filmKnown_f29n1 <| tab2Ok_cons filmKnown_f34n12 <| tab2Ok_cons filmKnown_f117n3 <| tab2Ok_cons filmKnown_f195n2 <| tab2Ok_cons filmKnown_f174n3 <| tab2Ok_cons filmKnown_f93n1 <| tab2Ok_nil
/-- num.Floor: 35 operations. -/
theorem filmKnown_c47 : (exFT evEnv filmKnownTab47 1000 60).1 34 filmKnownA47 = some filmKnownR47 := by kernel_rfl
def filmKnownA48 : List PV := [.v (.int .i64 64250)]
def filmKnownR48 : PV := .v (.bool true)
def filmKnownF34n13 : Tab := (34, filmKnownA47, filmKnownR47) :: filmKnownF34n12
theorem filmKnown_f34n13 : TabOk Tryz.prog filmKnownF34n13 := tabOk_cons ((exFT_ok evEnv_ok filmKnown_tab47 1000 60).1 _ _ _ filmKnown_c47) filmKnown_f34n12
def filmKnownTab48 : Tab2 := [(82, filmKnownF82n6), (47, filmKnownF47n1), (19, filmKnownF19n1), (49, filmKnownF49n13), (8, filmKnownF8n1), (135, filmKnownF135n1), (24, filmKnownF24n1), (88, filmKnownF88n1), (29, filmKnownF29n1), (34, filmKnownF34n13), (117, filmKnownF117n3), (195, filmKnownF195n2), (174, filmKnownF174n3), (93, filmKnownF93n1)]
theorem filmKnown_tab48 : Tab2Ok Tryz.prog filmKnownTab48 := tab2Ok_cons filmKnown_f82n6 <| tab2Ok_cons filmKnown_f47n1 <| tab2Ok_cons filmKnown_f19n1 <| tab2Ok_cons filmKnown_f49n13 <| tab2Ok_cons filmKnown_f8n1 <| tab2Ok_cons filmKnown_f135n1 <| tab2Ok_cons filmKnown_f24n1 <| tab2Ok_cons filmKnown_f88n1 <| tab2Ok_cons filmKnown_f29n1 <| tab2Ok_cons filmKnown_f34n13 <| tab2Ok_cons filmKnown_f117n3 <| tab2Ok_cons filmKnown_f195n2 <| tab2Ok_cons filmKnown_f174n3 <| tab2Ok_cons filmKnown_f93n1 <| tab2Ok_nil
/-- num.In: 18 operations. -/
theorem filmKnown_c48 : (exFT evEnv filmKnownTab48 1000 60).1 49 filmKnownA48 = some filmKnownR48 := by kernel_rfl
def filmKnownA49 : List PV := [.v (.int .i64 4210688000), .v (.int .i64 65536)]
def filmKnownR49 : PV := .v (.int .i64 64250)
def filmKnownF49n14 : Tab := (49, filmKnownA48, filmKnownR48) :: filmKnownF49n13
theorem filmKnown_f49n14 : TabOk Tryz.prog filmKnownF49n14 := tabOk_cons ((exFT_ok evEnv_ok filmKnown_tab48 1000 60).1 _ _ _ filmKnown_c48) filmKnown_f49n13
def filmKnownTab49 : Tab2 := [(82, filmKnownF82n6), (47, filmKnownF47n1), (19, filmKnownF19n1), (49, filmKnownF49n14), (8, filmKnownF8n1), (135, filmKnownF135n1), (24, filmKnownF24n1), (88, filmKnownF88n1), (29, filmKnownF29n1), (34, filmKnownF34n13), (117, filmKnownF117n3), (195, filmKnownF195n2), (174, filmKnownF174n3), (93, filmKnownF93n1)]
theorem filmKnown_tab49 : Tab2Ok Tryz.prog filmKnownTab49 := tab2Ok_cons filmKnown_f82n6 <| tab2Ok_cons filmKnown_f47n1 <| tab2Ok_cons filmKnown_f19n1 <| tab2Ok_cons filmKnown_f49n14 <| tab2Ok_cons filmKnown_f8n1 <| tab2Ok_cons filmKnown_f135n1 <| tab2Ok_cons filmKnown_f24n1 <| tab2Ok_cons filmKnown_f88n1 <| tab2Ok_cons filmKnown_f29n1 <| tab2Ok_cons filmKnown_f34n13 <| tab2Ok_cons filmKnown_f117n3 <| tab2Ok_cons filmKnown_f195n2 <| tab2Ok_cons filmKnown_f174n3 <| tab2Ok_cons filmKnown_f93n1 <| tab2Ok_nil
/-- num.Floor: 35 operations. -/
theorem filmKnown_c49 : (exFT evEnv filmKnownTab49 1000 60).1 34 filmKnownA49 = some filmKnownR49 := by kernel_rfl
def filmKnownA50 : List PV := [.agg [.v (.int .i64 0), .v (.int .i64 0), .v (.bool false)], .agg [.v (.int .i64 64250), .v (.int .i64 66848), .v (.bool false)]]
def filmKnownR50 : PV := .agg [.v (.int .i64 0), .v (.int .i64 0), .v (.bool false)]
def filmKnownF34n14 : Tab := (34, filmKnownA49, filmKnownR49) :: filmKnownF34n13
theorem filmKnown_f34n14 : TabOk Tryz.prog filmKnownF34n14 := tabOk_cons ((exFT_ok evEnv_ok filmKnown_tab49 1000 60).1 _ _ _ filmKnown_c49) filmKnown_f34n13
def filmKnownTab50 : Tab2 := [(82, filmKnownF82n6), (47, filmKnownF47n1), (19, filmKnownF19n1), (49, filmKnownF49n14), (8, filmKnownF8n1), (135, filmKnownF135n1), (24, filmKnownF24n1), (88, filmKnownF88n1), (29, filmKnownF29n1), (34, filmKnownF34n14), (117, filmKnownF117n3), (195, filmKnownF195n2), (174, filmKnownF174n3), (93, filmKnownF93n1)]
theorem filmKnown_tab50 : Tab2Ok Tryz.prog filmKnownTab50 := tab2Ok_cons filmKnown_f82n6 <| tab2Ok_cons filmKnown_f47n1 <| tab2Ok_cons filmKnown_f19n1 <| tab2Ok_cons filmKnown_f49n14 <| tab2Ok_cons filmKnown_f8n1 <| tab2Ok_cons filmKnown_f135n1 <| tab2Ok_cons filmKnown_f24n1 <| tab2Ok_cons filmKnown_f88n1 <| tab2Ok_cons filmKnown_f29n1 <| tab2Ok_cons filmKnown_f34n14 <| tab2Ok_cons filmKnown_f117n3 <| tab2Ok_cons filmKnown_f195n2 <| tab2Ok_cons filmKnown_f174n3 <| tab2Ok_cons filmKnown_f93n1 <| tab2Ok_nil
/-- iv.Mul: 82 operations. -/
theorem filmKnown_c50 : (exFT evEnv filmKnownTab50 1000 60).1 177 filmKnownA50 = some filmKnownR50 := by kernel_rfl
def filmKnownA51 : List PV := [.agg [.v (.int .i64 0), .v (.int .i64 0), .v (.bool false)], .agg [.v (.int .i64 0), .v (.int .i64 6554), .v (.bool false)]]
def filmKnownR51 : PV := .agg [.v (.int .i64 0), .v (.int .i64 0), .v (.bool false)]
def filmKnownF177n1 : Tab := (177, filmKnownA50, filmKnownR50) :: []
theorem filmKnown_f177n1 : TabOk Tryz.prog filmKnownF177n1 := tabOk_cons ((exFT_ok evEnv_ok filmKnown_tab50 1000 60).1 _ _ _ filmKnown_c50) tabOk_nil
def filmKnownTab51 : Tab2 := [(82, filmKnownF82n6), (47, filmKnownF47n1), (19, filmKnownF19n1), (49, filmKnownF49n14), (8, filmKnownF8n1), (135, filmKnownF135n1), (24, filmKnownF24n1), (88, filmKnownF88n1), (29, filmKnownF29n1), (34, filmKnownF34n14), (117, filmKnownF117n3), (195, filmKnownF195n2), (174, filmKnownF174n3), (93, filmKnownF93n1), (177, filmKnownF177n1)]
theorem filmKnown_tab51 : Tab2Ok Tryz.prog filmKnownTab51 := tab2Ok_cons filmKnown_f82n6 <| tab2Ok_cons filmKnown_f47n1 <| tab2Ok_cons filmKnown_f19n1 <| tab2Ok_cons filmKnown_f49n14 <| tab2Ok_cons filmKnown_f8n1 <| tab2Ok_cons filmKnown_f135n1 <| tab2Ok_cons filmKnown_f24n1 <| tab2Ok_cons filmKnown_f88n1 <| tab2Ok_cons filmKnown_f29n1 <| tab2Ok_cons filmKnown_f34n14 <| tab2Ok_cons filmKnown_f117n3 <| tab2Ok_cons filmKnown_f195n2 <| tab2Ok_cons filmKnown_f174n3 <| tab2Ok_cons filmKnown_f93n1 <| tab2Ok_cons filmKnown_f177n1 <| tab2Ok_nil
/-- iv.Mul: 42 operations. -/
theorem filmKnown_c51 : (exFT evEnv filmKnownTab51 1000 60).1 177 filmKnownA51 = some filmKnownR51 := by kernel_rfl
def filmKnownA52 : List PV := [.v (.int .i64 (-42526310400)), .v (.int .i64 65536)]
def filmKnownR52 : PV := .v (.int .i64 (-648900))
def filmKnownF177n2 : Tab := (177, filmKnownA51, filmKnownR51) :: filmKnownF177n1
theorem filmKnown_f177n2 : TabOk Tryz.prog filmKnownF177n2 := tabOk_cons ((exFT_ok evEnv_ok filmKnown_tab51 1000 60).1 _ _ _ filmKnown_c51) filmKnown_f177n1
def filmKnownTab52 : Tab2 := [(82, filmKnownF82n6), (47, filmKnownF47n1), (19, filmKnownF19n1), (49, filmKnownF49n14), (8, filmKnownF8n1), (135, filmKnownF135n1), (24, filmKnownF24n1), (88, filmKnownF88n1), (29, filmKnownF29n1), (34, filmKnownF34n14), (117, filmKnownF117n3), (195, filmKnownF195n2), (174, filmKnownF174n3), (93, filmKnownF93n1), (177, filmKnownF177n2)]
theorem filmKnown_tab52 : Tab2Ok Tryz.prog filmKnownTab52 := tab2Ok_cons filmKnown_f82n6 <| tab2Ok_cons filmKnown_f47n1 <| tab2Ok_cons filmKnown_f19n1 <| tab2Ok_cons filmKnown_f49n14 <| tab2Ok_cons filmKnown_f8n1 <| tab2Ok_cons filmKnown_f135n1 <| tab2Ok_cons filmKnown_f24n1 <| tab2Ok_cons filmKnown_f88n1 <| tab2Ok_cons filmKnown_f29n1 <| tab2Ok_cons filmKnown_f34n14 <| tab2Ok_cons filmKnown_f117n3 <| tab2Ok_cons filmKnown_f195n2 <| tab2Ok_cons filmKnown_f174n3 <| tab2Ok_cons filmKnown_f93n1 <| tab2Ok_cons filmKnown_f177n2 <| tab2Ok_nil
/-- num.Floor: 35 operations. -/
theorem filmKnown_c52 : (exFT evEnv filmKnownTab52 1000 60).1 34 filmKnownA52 = some filmKnownR52 := by kernel_rfl
def filmKnownA53 : List PV := [.v (.int .i64 (-648900))]
def filmKnownR53 : PV := .v (.bool true)
def filmKnownF34n15 : Tab := (34, filmKnownA52, filmKnownR52) :: filmKnownF34n14
theorem filmKnown_f34n15 : TabOk Tryz.prog filmKnownF34n15 := tabOk_cons ((exFT_ok evEnv_ok filmKnown_tab52 1000 60).1 _ _ _ filmKnown_c52) filmKnown_f34n14
def filmKnownTab53 : Tab2 := [(82, filmKnownF82n6), (47, filmKnownF47n1), (19, filmKnownF19n1), (49, filmKnownF49n14), (8, filmKnownF8n1), (135, filmKnownF135n1), (24, filmKnownF24n1), (88, filmKnownF88n1), (29, filmKnownF29n1), (34, filmKnownF34n15), (117, filmKnownF117n3), (195, filmKnownF195n2), (174, filmKnownF174n3), (93, filmKnownF93n1), (177, filmKnownF177n2)]
theorem filmKnown_tab53 : Tab2Ok Tryz.prog filmKnownTab53 := tab2Ok_cons filmKnown_f82n6 <| tab2Ok_cons filmKnown_f47n1 <| tab2Ok_cons filmKnown_f19n1 <| tab2Ok_cons filmKnown_f49n14 <| tab2Ok_cons filmKnown_f8n1 <| tab2Ok_cons filmKnown_f135n1 <| tab2Ok_cons filmKnown_f24n1 <| tab2Ok_cons filmKnown_f88n1 <| tab2Ok_cons filmKnown_f29n1 <| tab2Ok_cons filmKnown_f34n15 <| tab2Ok_cons filmKnown_f117n3 <| tab2Ok_cons filmKnown_f195n2 <| tab2Ok_cons filmKnown_f174n3 <| tab2Ok_cons filmKnown_f93n1 <| tab2Ok_cons filmKnown_f177n2 <| tab2Ok_nil
/-- num.In: 18 operations. -/
theorem filmKnown_c53 : (exFT evEnv filmKnownTab53 1000 60).1 49 filmKnownA53 = some filmKnownR53 := by kernel_rfl
def filmKnownA54 : List PV := [.v (.int .i64 (-42949672960)), .v (.int .i64 65536)]
def filmKnownR54 : PV := .v (.int .i64 (-655360))
def filmKnownF49n15 : Tab := (49, filmKnownA53, filmKnownR53) :: filmKnownF49n14
theorem filmKnown_f49n15 : TabOk Tryz.prog filmKnownF49n15 := tabOk_cons ((exFT_ok evEnv_ok filmKnown_tab53 1000 60).1 _ _ _ filmKnown_c53) filmKnown_f49n14
def filmKnownTab54 : Tab2 := [(82, filmKnownF82n6), (47, filmKnownF47n1), (19, filmKnownF19n1), (49, filmKnownF49n15), (8, filmKnownF8n1), (135, filmKnownF135n1), (24, filmKnownF24n1), (88, filmKnownF88n1), (29, filmKnownF29n1), (34, filmKnownF34n15), (117, filmKnownF117n3), (195, filmKnownF195n2), (174, filmKnownF174n3), (93, filmKnownF93n1), (177, filmKnownF177n2)]
theorem filmKnown_tab54 : Tab2Ok Tryz.prog filmKnownTab54 := tab2Ok_cons filmKnown_f82n6 <| tab2Ok_cons filmKnown_f47n1 <| tab2Ok_cons filmKnown_f19n1 <| tab2Ok_cons filmKnown_f49n15 <| tab2Ok_cons filmKnown_f8n1 <| tab2Ok_cons filmKnown_f135n1 <| tab2Ok_cons filmKnown_f24n1 <| tab2Ok_cons filmKnown_f88n1 <| tab2Ok_cons filmKnown_f29n1 <| tab2Ok_cons filmKnown_f34n15 <| tab2Ok_cons filmKnown_f117n3 <| tab2Ok_cons filmKnown_f195n2 <| tab2Ok_cons filmKnown_f174n3 <| tab2Ok_cons filmKnown_f93n1 <| tab2Ok_cons filmKnown_f177n2 <| tab2Ok_nil
/-- num.Floor: 35 operations. -/
theorem filmKnown_c54 : (exFT evEnv filmKnownTab54 1000 60).1 34 filmKnownA54 = some filmKnownR54 := by kernel_rfl
def filmKnownA55 : List PV := [.v (.int .i64 (-65536))]
def filmKnownR55 : PV := .v (.bool true)
def filmKnownF34n16 : Tab := (34, filmKnownA54, filmKnownR54) :: filmKnownF34n15
theorem filmKnown_f34n16 : TabOk Tryz.prog filmKnownF34n16 := tabOk_cons ((exFT_ok evEnv_ok filmKnown_tab54 1000 60).1 _ _ _ filmKnown_c54) filmKnown_f34n15
def filmKnownTab55 : Tab2 := [(82, filmKnownF82n6), (47, filmKnownF47n1), (19, filmKnownF19n1), (49, filmKnownF49n15), (8, filmKnownF8n1), (135, filmKnownF135n1), (24, filmKnownF24n1), (88, filmKnownF88n1), (29, filmKnownF29n1), (34, filmKnownF34n16), (117, filmKnownF117n3), (195, filmKnownF195n2), (174, filmKnownF174n3), (93, filmKnownF93n1), (177, filmKnownF177n2)]
theorem filmKnown_tab55 : Tab2Ok Tryz.prog filmKnownTab55 := tab2Ok_cons filmKnown_f82n6 <| tab2Ok_cons filmKnown_f47n1 <| tab2Ok_cons filmKnown_f19n1 <| tab2Ok_cons filmKnown_f49n15 <| tab2Ok_cons filmKnown_f8n1 <| tab2Ok_cons filmKnown_f135n1 <| tab2Ok_cons filmKnown_f24n1 <| tab2Ok_cons filmKnown_f88n1 <| tab2Ok_cons filmKnown_f29n1 <| tab2Ok_cons filmKnown_f34n16 <| tab2Ok_cons filmKnown_f117n3 <| tab2Ok_cons filmKnown_f195n2 <| tab2Ok_cons filmKnown_f174n3 <| tab2Ok_cons filmKnown_f93n1 <| tab2Ok_cons filmKnown_f177n2 <| tab2Ok_nil
/-- num.In: 48 operations. -/
theorem filmKnown_c55 : (exFT evEnv filmKnownTab55 1000 60).1 49 filmKnownA55 = some filmKnownR55 := by kernel_rfl
def filmKnownA56 : List PV := [.agg [.v (.int .i64 65536), .v (.int .i64 65536), .v (.bool false)], .agg [.v (.int .i64 6553600), .v (.int .i64 6553600), .v (.bool false)]]
def filmKnownR56 : PV := .agg [.v (.int .i64 6553600), .v (.int .i64 6553600), .v (.bool false)]
def filmKnownF49n16 : Tab := (49, filmKnownA55, filmKnownR55) :: filmKnownF49n15
theorem filmKnown_f49n16 : TabOk Tryz.prog filmKnownF49n16 := tabOk_cons ((exFT_ok evEnv_ok filmKnown_tab55 1000 60).1 _ _ _ filmKnown_c55) filmKnown_f49n15
def filmKnownTab56 : Tab2 := [(82, filmKnownF82n6), (47, filmKnownF47n1), (19, filmKnownF19n1), (49, filmKnownF49n16), (8, filmKnownF8n1), (135, filmKnownF135n1), (24, filmKnownF24n1), (88, filmKnownF88n1), (29, filmKnownF29n1), (34, filmKnownF34n16), (117, filmKnownF117n3), (195, filmKnownF195n2), (174, filmKnownF174n3), (93, filmKnownF93n1), (177, filmKnownF177n2)]
theorem filmKnown_tab56 : Tab2Ok Tryz.prog filmKnownTab56 := tab2Ok_cons filmKnown_f82n6 <| tab2Ok_cons filmKnown_f47n1 <| tab2Ok_cons filmKnown_f19n1 <| tab2Ok_cons filmKnown_f49n16 <| tab2Ok_cons filmKnown_f8n1 <| tab2Ok_cons filmKnown_f135n1 <| tab2Ok_cons filmKnown_f24n1 <| tab2Ok_cons filmKnown_f88n1 <| tab2Ok_cons filmKnown_f29n1 <| tab2Ok_cons filmKnown_f34n16 <| tab2Ok_cons filmKnown_f117n3 <| tab2Ok_cons filmKnown_f195n2 <| tab2Ok_cons filmKnown_f174n3 <| tab2Ok_cons filmKnown_f93n1 <| tab2Ok_cons filmKnown_f177n2 <| tab2Ok_nil
/-- iv.Mul: 42 operations. -/
theorem filmKnown_c56 : (exFT evEnv filmKnownTab56 1000 60).1 177 filmKnownA56 = some filmKnownR56 := by kernel_rfl
def filmKnownA57 : List PV := [.agg [.v (.int .i64 0), .v (.int .i64 0), .v (.bool false)], .agg [.v (.int .i64 6553600), .v (.int .i64 6553600), .v (.bool false)]]
def filmKnownR57 : PV := .agg [.v (.int .i64 0), .v (.int .i64 0), .v (.bool false)]
def filmKnownF177n3 : Tab := (177, filmKnownA56, filmKnownR56) :: filmKnownF177n2
theorem filmKnown_f177n3 : TabOk Tryz.prog filmKnownF177n3 := tabOk_cons ((exFT_ok evEnv_ok filmKnown_tab56 1000 60).1 _ _ _ filmKnown_c56) filmKnown_f177n2
def filmKnownTab57 : Tab2 := [(82, filmKnownF82n6), (47, filmKnownF47n1), (19, filmKnownF19n1), (49, filmKnownF49n16), (8, filmKnownF8n1), (135, filmKnownF135n1), (24, filmKnownF24n1), (88, filmKnownF88n1), (29, filmKnownF29n1), (34, filmKnownF34n16), (117, filmKnownF117n3), (195, filmKnownF195n2), (174, filmKnownF174n3), (93, filmKnownF93n1), (177, filmKnownF177n3)]
theorem filmKnown_tab57 : Tab2Ok Tryz.prog filmKnownTab57 := tab2Ok_cons filmKnown_f82n6 <| tab2Ok_cons filmKnown_f47n1 <| tab2Ok_cons filmKnown_f19n1 <| tab2Ok_cons filmKnown_f49n16 <| tab2Ok_cons filmKnown_f8n1 <| tab2Ok_cons filmKnown_f135n1 <| tab2Ok_cons filmKnown_f24n1 <| tab2Ok_cons filmKnown_f88n1 <| tab2Ok_cons filmKnown_f29n1 <| tab2Ok_cons filmKnown_f34n16 <| tab2Ok_cons filmKnown_f117n3 <| tab2Ok_cons filmKnown_f195n2 <| tab2Ok_cons filmKnown_f174n3 <| tab2Ok_cons filmKnown_f93n1 <| tab2Ok_cons filmKnown_f177n3 <| tab2Ok_nil
/-- iv.Mul: 42 operations. -/
theorem filmKnown_c57 : (exFT evEnv filmKnownTab57 1000 60).1 177 filmKnownA57 = some filmKnownR57 := by kernel_rfl
def filmKnownA58 : List PV := [.v (.int .i64 (-1310720))]
def filmKnownR58 : PV := .v (.bool true)
def filmKnownF177n4 : Tab := (177, filmKnownA57, filmKnownR57) :: filmKnownF177n3
theorem filmKnown_f177n4 : TabOk Tryz.prog filmKnownF177n4 := tabOk_cons ((exFT_ok evEnv_ok filmKnown_tab57 1000 60).1 _ _ _ filmKnown_c57) filmKnown_f177n3
def filmKnownTab58 : Tab2 := [(82, filmKnownF82n6), (47, filmKnownF47n1), (19, filmKnownF19n1), (49, filmKnownF49n16), (8, filmKnownF8n1), (135, filmKnownF135n1), (24, filmKnownF24n1), (88, filmKnownF88n1), (29, filmKnownF29n1), (34, filmKnownF34n16), (117, filmKnownF117n3), (195, filmKnownF195n2), (174, filmKnownF174n3), (93, filmKnownF93n1), (177, filmKnownF177n4)]
theorem filmKnown_tab58 : Tab2Ok Tryz.prog filmKnownTab58 := tab2Ok_cons filmKnown_f82n6 <| tab2Ok_cons filmKnown_f47n1 <| tab2Ok_cons filmKnown_f19n1 <| tab2Ok_cons filmKnown_f49n16 <| tab2Ok_cons filmKnown_f8n1 <| tab2Ok_cons filmKnown_f135n1 <| tab2Ok_cons filmKnown_f24n1 <| tab2Ok_cons filmKnown_f88n1 <| tab2Ok_cons filmKnown_f29n1 <| tab2Ok_cons filmKnown_f34n16 <| tab2Ok_cons filmKnown_f117n3 <| tab2Ok_cons filmKnown_f195n2 <| tab2Ok_cons filmKnown_f174n3 <| tab2Ok_cons filmKnown_f93n1 <| tab2Ok_cons filmKnown_f177n4 <| tab2Ok_nil
/-- num.In: 60 operations. -/
theorem filmKnown_c58 : (exFT evEnv filmKnownTab58 1000 60).1 49 filmKnownA58 = some filmKnownR58 := by kernel_rfl
def filmKnownA59 : List PV := [.v (.int .i64 1310720)]
def filmKnownR59 : PV := .v (.bool true)
def filmKnownF49n17 : Tab := (49, filmKnownA58, filmKnownR58) :: filmKnownF49n16
theorem filmKnown_f49n17 : TabOk Tryz.prog filmKnownF49n17 := tabOk_cons ((exFT_ok evEnv_ok filmKnown_tab58 1000 60).1 _ _ _ filmKnown_c58) filmKnown_f49n16
def filmKnownTab59 : Tab2 := [(82, filmKnownF82n6), (47, filmKnownF47n1), (19, filmKnownF19n1), (49, filmKnownF49n17), (8, filmKnownF8n1), (135, filmKnownF135n1), (24, filmKnownF24n1), (88, filmKnownF88n1), (29, filmKnownF29n1), (34, filmKnownF34n16), (117, filmKnownF117n3), (195, filmKnownF195n2), (174, filmKnownF174n3), (93, filmKnownF93n1), (177, filmKnownF177n4)]
theorem filmKnown_tab59 : Tab2Ok Tryz.prog filmKnownTab59 := tab2Ok_cons filmKnown_f82n6 <| tab2Ok_cons filmKnown_f47n1 <| tab2Ok_cons filmKnown_f19n1 <| tab2Ok_cons filmKnown_f49n17 <| tab2Ok_cons filmKnown_f8n1 <| tab2Ok_cons filmKnown_f135n1 <| tab2Ok_cons filmKnown_f24n1 <| tab2Ok_cons filmKnown_f88n1 <| tab2Ok_cons filmKnown_f29n1 <| tab2Ok_cons filmKnown_f34n16 <| tab2Ok_cons filmKnown_f117n3 <| tab2Ok_cons filmKnown_f195n2 <| tab2Ok_cons filmKnown_f174n3 <| tab2Ok_cons filmKnown_f93n1 <| tab2Ok_cons filmKnown_f177n4 <| tab2Ok_nil
/-- num.In: 48 operations. -/
theorem filmKnown_c59 : (exFT evEnv filmKnownTab59 1000 60).1 49 filmKnownA59 = some filmKnownR59 := by kernel_rfl
def filmKnownA60 : List PV := [.agg [.v (.int .i64 0), .v (.int .i64 0), .v (.bool false)], .agg [.v (.int .i64 1310720), .v (.int .i64 1310720), .v (.bool false)]]
def filmKnownR60 : PV := .agg [.v (.int .i64 0), .v (.int .i64 0), .v (.bool false)]
def filmKnownF49n18 : Tab := (49, filmKnownA59, filmKnownR59) :: filmKnownF49n17
theorem filmKnown_f49n18 : TabOk Tryz.prog filmKnownF49n18 := tabOk_cons ((exFT_ok evEnv_ok filmKnown_tab59 1000 60).1 _ _ _ filmKnown_c59) filmKnown_f49n17
def filmKnownTab60 : Tab2 := [(82, filmKnownF82n6), (47, filmKnownF47n1), (19, filmKnownF19n1), (49, filmKnownF49n18), (8, filmKnownF8n1), (135, filmKnownF135n1), (24, filmKnownF24n1), (88, filmKnownF88n1), (29, filmKnownF29n1), (34, filmKnownF34n16), (117, filmKnownF117n3), (195, filmKnownF195n2), (174, filmKnownF174n3), (93, filmKnownF93n1), (177, filmKnownF177n4)]
theorem filmKnown_tab60 : Tab2Ok Tryz.prog filmKnownTab60 := tab2Ok_cons filmKnown_f82n6 <| tab2Ok_cons filmKnown_f47n1 <| tab2Ok_cons filmKnown_f19n1 <| tab2Ok_cons filmKnown_f49n18 <| tab2Ok_cons filmKnown_f8n1 <| tab2Ok_cons filmKnown_f135n1 <| tab2Ok_cons filmKnown_f24n1 <| tab2Ok_cons filmKnown_f88n1 <| tab2Ok_cons filmKnown_f29n1 <| tab2Ok_cons filmKnown_f34n16 <| tab2Ok_cons filmKnown_f117n3 <| tab2Ok_cons filmKnown_f195n2 <| tab2Ok_cons filmKnown_f174n3 <| tab2Ok_cons filmKnown_f93n1 <| tab2Ok_cons filmKnown_f177n4 <| tab2Ok_nil
/-- iv.Mul: 42 operations. -/
theorem filmKnown_c60 : (exFT evEnv filmKnownTab60 1000 60).1 177 filmKnownA60 = some filmKnownR60 := by kernel_rfl
def filmKnownA61 : List PV := [.v (.int .i64 64250), .v (.bool false)]
def filmKnownR61 : PV := .tup [.v (.int .i64 64889), .v (.bool true)]
def filmKnownF177n5 : Tab := (177, filmKnownA60, filmKnownR60) :: filmKnownF177n4
theorem filmKnown_f177n5 : TabOk Tryz.prog filmKnownF177n5 := tabOk_cons ((exFT_ok evEnv_ok filmKnown_tab60 1000 60).1 _ _ _ filmKnown_c60) filmKnown_f177n4
def filmKnownTab61 : Tab2 := [(82, filmKnownF82n6), (47, filmKnownF47n1), (19, filmKnownF19n1), (49, filmKnownF49n18), (8, filmKnownF8n1), (135, filmKnownF135n1), (24, filmKnownF24n1), (88, filmKnownF88n1), (29, filmKnownF29n1), (34, filmKnownF34n16), (117, filmKnownF117n3), (195, filmKnownF195n2), (174, filmKnownF174n3), (93, filmKnownF93n1), (177, filmKnownF177n5)]
theorem filmKnown_tab61 : Tab2Ok Tryz.prog filmKnownTab61 := tab2Ok_cons filmKnown_f82n6 <| tab2Ok_cons filmKnown_f47n1 <| tab2Ok_cons filmKnown_f19n1 <| tab2Ok_cons filmKnown_f49n18 <| tab2Ok_cons filmKnown_f8n1 <| tab2Ok_cons filmKnown_f135n1 <| tab2Ok_cons filmKnown_f24n1 <| tab2Ok_cons filmKnown_f88n1 <| tab2Ok_cons filmKnown_f29n1 <| tab2Ok_cons filmKnown_f34n16 <| tab2Ok_cons filmKnown_f117n3 <| tab2Ok_cons filmKnown_f195n2 <| tab2Ok_cons filmKnown_f174n3 <| tab2Ok_cons filmKnown_f93n1 <| tab2Ok_cons filmKnown_f177n5 <| tab2Ok_nil
/-- num.Root: 417 operations. -/
theorem filmKnown_c61 : (exFT evEnv filmKnownTab61 1000 60).1 195 filmKnownA61 = some filmKnownR61 := by kernel_rfl
def filmKnownA62 : List PV := [.v (.int .i64 65536), .v (.bool true)]
def filmKnownR62 : PV := .tup [.v (.int .i64 65536), .v (.bool true)]
def filmKnownF195n3 : Tab := (195, filmKnownA61, filmKnownR61) :: filmKnownF195n2
theorem filmKnown_f195n3 : TabOk Tryz.prog filmKnownF195n3 := tabOk_cons ((exFT_ok evEnv_ok filmKnown_tab61 1000 60).1 _ _ _ filmKnown_c61) filmKnown_f195n2
def filmKnownTab62 : Tab2 := [(82, filmKnownF82n6), (47, filmKnownF47n1), (19, filmKnownF19n1), (49, filmKnownF49n18), (8, filmKnownF8n1), (135, filmKnownF135n1), (24, filmKnownF24n1), (88, filmKnownF88n1), (29, filmKnownF29n1), (34, filmKnownF34n16), (117, filmKnownF117n3), (195, filmKnownF195n3), (174, filmKnownF174n3), (93, filmKnownF93n1), (177, filmKnownF177n5)]
theorem filmKnown_tab62 : Tab2Ok Tryz.prog filmKnownTab62 := tab2Ok_cons filmKnown_f82n6 <| tab2Ok_cons filmKnown_f47n1 <| tab2Ok_cons filmKnown_f19n1 <| tab2Ok_cons filmKnown_f49n18 <| tab2Ok_cons filmKnown_f8n1 <| tab2Ok_cons filmKnown_f135n1 <| tab2Ok_cons filmKnown_f24n1 <| tab2Ok_cons filmKnown_f88n1 <| tab2Ok_cons filmKnown_f29n1 <| tab2Ok_cons filmKnown_f34n16 <| tab2Ok_cons filmKnown_f117n3 <| tab2Ok_cons filmKnown_f195n3 <| tab2Ok_cons filmKnown_f174n3 <| tab2Ok_cons filmKnown_f93n1 <| tab2Ok_cons filmKnown_f177n5 <| tab2Ok_nil
/-- num.Root: 395 operations. -/
theorem filmKnown_c62 : (exFT evEnv filmKnownTab62 1000 60).1 195 filmKnownA62 = some filmKnownR62 := by kernel_rfl
def filmKnownA63 : List PV := [.v (.int .i64 64889)]
def filmKnownR63 : PV := .v (.bool true)
def filmKnownF195n4 : Tab := (195, filmKnownA62, filmKnownR62) :: filmKnownF195n3
theorem filmKnown_f195n4 : TabOk Tryz.prog filmKnownF195n4 := tabOk_cons ((exFT_ok evEnv_ok filmKnown_tab62 1000 60).1 _ _ _ filmKnown_c62) filmKnown_f195n3
def filmKnownTab63 : Tab2 := [(82, filmKnownF82n6), (47, filmKnownF47n1), (19, filmKnownF19n1), (49, filmKnownF49n18), (8, filmKnownF8n1), (135, filmKnownF135n1), (24, filmKnownF24n1), (88, filmKnownF88n1), (29, filmKnownF29n1), (34, filmKnownF34n16), (117, filmKnownF117n3), (195, filmKnownF195n4), (174, filmKnownF174n3), (93, filmKnownF93n1), (177, filmKnownF177n5)]
theorem filmKnown_tab63 : Tab2Ok Tryz.prog filmKnownTab63 := tab2Ok_cons filmKnown_f82n6 <| tab2Ok_cons filmKnown_f47n1 <| tab2Ok_cons filmKnown_f19n1 <| tab2Ok_cons filmKnown_f49n18 <| tab2Ok_cons filmKnown_f8n1 <| tab2Ok_cons filmKnown_f135n1 <| tab2Ok_cons filmKnown_f24n1 <| tab2Ok_cons filmKnown_f88n1 <| tab2Ok_cons filmKnown_f29n1 <| tab2Ok_cons filmKnown_f34n16 <| tab2Ok_cons filmKnown_f117n3 <| tab2Ok_cons filmKnown_f195n4 <| tab2Ok_cons filmKnown_f174n3 <| tab2Ok_cons filmKnown_f93n1 <| tab2Ok_cons filmKnown_f177n5 <| tab2Ok_nil
/-- num.In: 44 operations. -/
theorem filmKnown_c63 : (exFT evEnv filmKnownTab63 1000 60).1 49 filmKnownA63 = some filmKnownR63 := by kernel_rfl
def filmKnownA64 : List PV := [.v (.int .i64 129779)]
def filmKnownR64 : PV := .v (.bool true)
def filmKnownF49n19 : Tab := (49, filmKnownA63, filmKnownR63) :: filmKnownF49n18
theorem filmKnown_f49n19 : TabOk Tryz.prog filmKnownF49n19 := tabOk_cons ((exFT_ok evEnv_ok filmKnown_tab63 1000 60).1 _ _ _ filmKnown_c63) filmKnown_f49n18
def filmKnownTab64 : Tab2 := [(82, filmKnownF82n6), (47, filmKnownF47n1), (19, filmKnownF19n1), (49, filmKnownF49n19), (8, filmKnownF8n1), (135, filmKnownF135n1), (24, filmKnownF24n1), (88, filmKnownF88n1), (29, filmKnownF29n1), (34, filmKnownF34n16), (117, filmKnownF117n3), (195, filmKnownF195n4), (174, filmKnownF174n3), (93, filmKnownF93n1), (177, filmKnownF177n5)]
theorem filmKnown_tab64 : Tab2Ok Tryz.prog filmKnownTab64 := tab2Ok_cons filmKnown_f82n6 <| tab2Ok_cons filmKnown_f47n1 <| tab2Ok_cons filmKnown_f19n1 <| tab2Ok_cons filmKnown_f49n19 <| tab2Ok_cons filmKnown_f8n1 <| tab2Ok_cons filmKnown_f135n1 <| tab2Ok_cons filmKnown_f24n1 <| tab2Ok_cons filmKnown_f88n1 <| tab2Ok_cons filmKnown_f29n1 <| tab2Ok_cons filmKnown_f34n16 <| tab2Ok_cons filmKnown_f117n3 <| tab2Ok_cons filmKnown_f195n4 <| tab2Ok_cons filmKnown_f174n3 <| tab2Ok_cons filmKnown_f93n1 <| tab2Ok_cons filmKnown_f177n5 <| tab2Ok_nil
/-- num.In: 52 operations. -/
theorem filmKnown_c64 : (exFT evEnv filmKnownTab64 1000 60).1 49 filmKnownA64 = some filmKnownR64 := by kernel_rfl
def filmKnownA65 : List PV := [.v (.int .i64 85899345920), .v (.int .i64 129779)]
def filmKnownR65 : PV := .v (.int .i64 661889)
def filmKnownF49n20 : Tab := (49, filmKnownA64, filmKnownR64) :: filmKnownF49n19
theorem filmKnown_f49n20 : TabOk Tryz.prog filmKnownF49n20 := tabOk_cons ((exFT_ok evEnv_ok filmKnown_tab64 1000 60).1 _ _ _ filmKnown_c64) filmKnown_f49n19
def filmKnownTab65 : Tab2 := [(82, filmKnownF82n6), (47, filmKnownF47n1), (19, filmKnownF19n1), (49, filmKnownF49n20), (8, filmKnownF8n1), (135, filmKnownF135n1), (24, filmKnownF24n1), (88, filmKnownF88n1), (29, filmKnownF29n1), (34, filmKnownF34n16), (117, filmKnownF117n3), (195, filmKnownF195n4), (174, filmKnownF174n3), (93, filmKnownF93n1), (177, filmKnownF177n5)]
theorem filmKnown_tab65 : Tab2Ok Tryz.prog filmKnownTab65 := tab2Ok_cons filmKnown_f82n6 <| tab2Ok_cons filmKnown_f47n1 <| tab2Ok_cons filmKnown_f19n1 <| tab2Ok_cons filmKnown_f49n20 <| tab2Ok_cons filmKnown_f8n1 <| tab2Ok_cons filmKnown_f135n1 <| tab2Ok_cons filmKnown_f24n1 <| tab2Ok_cons filmKnown_f88n1 <| tab2Ok_cons filmKnown_f29n1 <| tab2Ok_cons filmKnown_f34n16 <| tab2Ok_cons filmKnown_f117n3 <| tab2Ok_cons filmKnown_f195n4 <| tab2Ok_cons filmKnown_f174n3 <| tab2Ok_cons filmKnown_f93n1 <| tab2Ok_cons filmKnown_f177n5 <| tab2Ok_nil
/-- num.Floor: 35 operations. -/
theorem filmKnown_c65 : (exFT evEnv filmKnownTab65 1000 60).1 34 filmKnownA65 = some filmKnownR65 := by kernel_rfl
def filmKnownA66 : List PV := [.v (.int .i64 661889)]
def filmKnownR66 : PV := .v (.bool true)
def filmKnownF34n17 : Tab := (34, filmKnownA65, filmKnownR65) :: filmKnownF34n16
theorem filmKnown_f34n17 : TabOk Tryz.prog filmKnownF34n17 := tabOk_cons ((exFT_ok evEnv_ok filmKnown_tab65 1000 60).1 _ _ _ filmKnown_c65) filmKnown_f34n16
def filmKnownTab66 : Tab2 := [(82, filmKnownF82n6), (47, filmKnownF47n1), (19, filmKnownF19n1), (49, filmKnownF49n20), (8, filmKnownF8n1), (135, filmKnownF135n1), (24, filmKnownF24n1), (88, filmKnownF88n1), (29, filmKnownF29n1), (34, filmKnownF34n17), (117, filmKnownF117n3), (195, filmKnownF195n4), (174, filmKnownF174n3), (93, filmKnownF93n1), (177, filmKnownF177n5)]
theorem filmKnown_tab66 : Tab2Ok Tryz.prog filmKnownTab66 := tab2Ok_cons filmKnown_f82n6 <| tab2Ok_cons filmKnown_f47n1 <| tab2Ok_cons filmKnown_f19n1 <| tab2Ok_cons filmKnown_f49n20 <| tab2Ok_cons filmKnown_f8n1 <| tab2Ok_cons filmKnown_f135n1 <| tab2Ok_cons filmKnown_f24n1 <| tab2Ok_cons filmKnown_f88n1 <| tab2Ok_cons filmKnown_f29n1 <| tab2Ok_cons filmKnown_f34n17 <| tab2Ok_cons filmKnown_f117n3 <| tab2Ok_cons filmKnown_f195n4 <| tab2Ok_cons filmKnown_f174n3 <| tab2Ok_cons filmKnown_f93n1 <| tab2Ok_cons filmKnown_f177n5 <| tab2Ok_nil
/-- num.In: 18 operations. -/
theorem filmKnown_c66 : (exFT evEnv filmKnownTab66 1000 60).1 49 filmKnownA66 = some filmKnownR66 := by kernel_rfl
def filmKnownA67 : List PV := [.v (.int .i64 661890)]
def filmKnownR67 : PV := .v (.bool true)
def filmKnownF49n21 : Tab := (49, filmKnownA66, filmKnownR66) :: filmKnownF49n20
theorem filmKnown_f49n21 : TabOk Tryz.prog filmKnownF49n21 := tabOk_cons ((exFT_ok evEnv_ok filmKnown_tab66 1000 60).1 _ _ _ filmKnown_c66) filmKnown_f49n20
def filmKnownTab67 : Tab2 := [(82, filmKnownF82n6), (47, filmKnownF47n1), (19, filmKnownF19n1), (49, filmKnownF49n21), (8, filmKnownF8n1), (135, filmKnownF135n1), (24, filmKnownF24n1), (88, filmKnownF88n1), (29, filmKnownF29n1), (34, filmKnownF34n17), (117, filmKnownF117n3), (195, filmKnownF195n4), (174, filmKnownF174n3), (93, filmKnownF93n1), (177, filmKnownF177n5)]
theorem filmKnown_tab67 : Tab2Ok Tryz.prog filmKnownTab67 := tab2Ok_cons filmKnown_f82n6 <| tab2Ok_cons filmKnown_f47n1 <| tab2Ok_cons filmKnown_f19n1 <| tab2Ok_cons filmKnown_f49n21 <| tab2Ok_cons filmKnown_f8n1 <| tab2Ok_cons filmKnown_f135n1 <| tab2Ok_cons filmKnown_f24n1 <| tab2Ok_cons filmKnown_f88n1 <| tab2Ok_cons filmKnown_f29n1 <| tab2Ok_cons filmKnown_f34n17 <| tab2Ok_cons filmKnown_f117n3 <| tab2Ok_cons filmKnown_f195n4 <| tab2Ok_cons filmKnown_f174n3 <| tab2Ok_cons filmKnown_f93n1 <| tab2Ok_cons filmKnown_f177n5 <| tab2Ok_nil
/-- num.In: 21 operations. -/
theorem filmKnown_c67 : (exFT evEnv filmKnownTab67 1000 60).1 49 filmKnownA67 = some filmKnownR67 := by kernel_rfl
def filmKnownA68 : List PV := [.v (.int .i64 85899345920), .v (.int .i64 131072)]
def filmKnownR68 : PV := .v (.int .i64 655360)
def filmKnownF49n22 : Tab := (49, filmKnownA67, filmKnownR67) :: filmKnownF49n21
theorem filmKnown_f49n22 : TabOk Tryz.prog filmKnownF49n22 := tabOk_cons ((exFT_ok evEnv_ok filmKnown_tab67 1000 60).1 _ _ _ filmKnown_c67) filmKnown_f49n21
def filmKnownTab68 : Tab2 := [(82, filmKnownF82n6), (47, filmKnownF47n1), (19, filmKnownF19n1), (49, filmKnownF49n22), (8, filmKnownF8n1), (135, filmKnownF135n1), (24, filmKnownF24n1), (88, filmKnownF88n1), (29, filmKnownF29n1), (34, filmKnownF34n17), (117, filmKnownF117n3), (195, filmKnownF195n4), (174, filmKnownF174n3), (93, filmKnownF93n1), (177, filmKnownF177n5)]
theorem filmKnown_tab68 : Tab2Ok Tryz.prog filmKnownTab68 := tab2Ok_cons filmKnown_f82n6 <| tab2Ok_cons filmKnown_f47n1 <| tab2Ok_cons filmKnown_f19n1 <| tab2Ok_cons filmKnown_f49n22 <| tab2Ok_cons filmKnown_f8n1 <| tab2Ok_cons filmKnown_f135n1 <| tab2Ok_cons filmKnown_f24n1 <| tab2Ok_cons filmKnown_f88n1 <| tab2Ok_cons filmKnown_f29n1 <| tab2Ok_cons filmKnown_f34n17 <| tab2Ok_cons filmKnown_f117n3 <| tab2Ok_cons filmKnown_f195n4 <| tab2Ok_cons filmKnown_f174n3 <| tab2Ok_cons filmKnown_f93n1 <| tab2Ok_cons filmKnown_f177n5 <| tab2Ok_nil
/-- num.Floor: 35 operations. -/
theorem filmKnown_c68 : (exFT evEnv filmKnownTab68 1000 60).1 34 filmKnownA68 = some filmKnownR68 := by kernel_rfl
def filmKnownA69 : List PV := [.agg [.v (.int .i64 1310720), .v (.int .i64 1310720), .v (.bool false)], .agg [.v (.int .i64 129779), .v (.int .i64 131072), .v (.bool false)]]
def filmKnownR69 : PV := .agg [.v (.int .i64 655360), .v (.int .i64 661890), .v (.bool false)]
def filmKnownF34n18 : Tab := (34, filmKnownA68, filmKnownR68) :: filmKnownF34n17
theorem filmKnown_f34n18 : TabOk Tryz.prog filmKnownF34n18 := tabOk_cons ((exFT_ok evEnv_ok filmKnown_tab68 1000 60).1 _ _ _ filmKnown_c68) filmKnown_f34n17
def filmKnownTab69 : Tab2 := [(82, filmKnownF82n6), (47, filmKnownF47n1), (19, filmKnownF19n1), (49, filmKnownF49n22), (8, filmKnownF8n1), (135, filmKnownF135n1), (24, filmKnownF24n1), (88, filmKnownF88n1), (29, filmKnownF29n1), (34, filmKnownF34n18), (117, filmKnownF117n3), (195, filmKnownF195n4), (174, filmKnownF174n3), (93, filmKnownF93n1), (177, filmKnownF177n5)]
theorem filmKnown_tab69 : Tab2Ok Tryz.prog filmKnownTab69 := tab2Ok_cons filmKnown_f82n6 <| tab2Ok_cons filmKnown_f47n1 <| tab2Ok_cons filmKnown_f19n1 <| tab2Ok_cons filmKnown_f49n22 <| tab2Ok_cons filmKnown_f8n1 <| tab2Ok_cons filmKnown_f135n1 <| tab2Ok_cons filmKnown_f24n1 <| tab2Ok_cons filmKnown_f88n1 <| tab2Ok_cons filmKnown_f29n1 <| tab2Ok_cons filmKnown_f34n18 <| tab2Ok_cons filmKnown_f117n3 <| tab2Ok_cons filmKnown_f195n4 <| tab2Ok_cons filmKnown_f174n3 <| tab2Ok_cons filmKnown_f93n1 <| tab2Ok_cons filmKnown_f177n5 <| tab2Ok_nil
/-- iv.Div: 90 operations. -/
theorem filmKnown_c69 : (exFT evEnv filmKnownTab69 1000 60).1 117 filmKnownA69 = some filmKnownR69 := by kernel_rfl
def filmKnownA70 : List PV := [.v (.int .i64 4295229440), .v (.int .i64 65536)]
def filmKnownR70 : PV := .v (.int .i64 65540)
def filmKnownF117n4 : Tab := (117, filmKnownA69, filmKnownR69) :: filmKnownF117n3
theorem filmKnown_f117n4 : TabOk Tryz.prog filmKnownF117n4 := tabOk_cons ((exFT_ok evEnv_ok filmKnown_tab69 1000 60).1 _ _ _ filmKnown_c69) filmKnown_f117n3
def filmKnownTab70 : Tab2 := [(82, filmKnownF82n6), (47, filmKnownF47n1), (19, filmKnownF19n1), (49, filmKnownF49n22), (8, filmKnownF8n1), (135, filmKnownF135n1), (24, filmKnownF24n1), (88, filmKnownF88n1), (29, filmKnownF29n1), (34, filmKnownF34n18), (117, filmKnownF117n4), (195, filmKnownF195n4), (174, filmKnownF174n3), (93, filmKnownF93n1), (177, filmKnownF177n5)]
theorem filmKnown_tab70 : Tab2Ok Tryz.prog filmKnownTab70 := tab2Ok_cons filmKnown_f82n6 <| tab2Ok_cons filmKnown_f47n1 <| tab2Ok_cons filmKnown_f19n1 <| tab2Ok_cons filmKnown_f49n22 <| tab2Ok_cons filmKnown_f8n1 <| tab2Ok_cons filmKnown_f135n1 <| tab2Ok_cons filmKnown_f24n1 <| tab2Ok_cons filmKnown_f88n1 <| tab2Ok_cons filmKnown_f29n1 <| tab2Ok_cons filmKnown_f34n18 <| tab2Ok_cons filmKnown_f117n4 <| tab2Ok_cons filmKnown_f195n4 <| tab2Ok_cons filmKnown_f174n3 <| tab2Ok_cons filmKnown_f93n1 <| tab2Ok_cons filmKnown_f177n5 <| tab2Ok_nil
/-- num.Floor: 35 operations. -/
theorem filmKnown_c70 : (exFT evEnv filmKnownTab70 1000 60).1 34 filmKnownA70 = some filmKnownR70 := by kernel_rfl
def filmKnownA71 : List PV := [.v (.int .i64 65540)]
def filmKnownR71 : PV := .v (.bool true)
def filmKnownF34n19 : Tab := (34, filmKnownA70, filmKnownR70) :: filmKnownF34n18
theorem filmKnown_f34n19 : TabOk Tryz.prog filmKnownF34n19 := tabOk_cons ((exFT_ok evEnv_ok filmKnown_tab70 1000 60).1 _ _ _ filmKnown_c70) filmKnown_f34n18
def filmKnownTab71 : Tab2 := [(82, filmKnownF82n6), (47, filmKnownF47n1), (19, filmKnownF19n1), (49, filmKnownF49n22), (8, filmKnownF8n1), (135, filmKnownF135n1), (24, filmKnownF24n1), (88, filmKnownF88n1), (29, filmKnownF29n1), (34, filmKnownF34n19), (117, filmKnownF117n4), (195, filmKnownF195n4), (174, filmKnownF174n3), (93, filmKnownF93n1), (177, filmKnownF177n5)]
theorem filmKnown_tab71 : Tab2Ok Tryz.prog filmKnownTab71 := tab2Ok_cons filmKnown_f82n6 <| tab2Ok_cons filmKnown_f47n1 <| tab2Ok_cons filmKnown_f19n1 <| tab2Ok_cons filmKnown_f49n22 <| tab2Ok_cons filmKnown_f8n1 <| tab2Ok_cons filmKnown_f135n1 <| tab2Ok_cons filmKnown_f24n1 <| tab2Ok_cons filmKnown_f88n1 <| tab2Ok_cons filmKnown_f29n1 <| tab2Ok_cons filmKnown_f34n19 <| tab2Ok_cons filmKnown_f117n4 <| tab2Ok_cons filmKnown_f195n4 <| tab2Ok_cons filmKnown_f174n3 <| tab2Ok_cons filmKnown_f93n1 <| tab2Ok_cons filmKnown_f177n5 <| tab2Ok_nil
/-- num.In: 18 operations. -/
theorem filmKnown_c71 : (exFT evEnv filmKnownTab71 1000 60).1 49 filmKnownA71 = some filmKnownR71 := by kernel_rfl
def filmKnownA72 : List PV := [.v (.int .i64 4338027060), .v (.int .i64 65536)]
def filmKnownR72 : PV := .v (.int .i64 66193)
def filmKnownF49n23 : Tab := (49, filmKnownA71, filmKnownR71) :: filmKnownF49n22
theorem filmKnown_f49n23 : TabOk Tryz.prog filmKnownF49n23 := tabOk_cons ((exFT_ok evEnv_ok filmKnown_tab71 1000 60).1 _ _ _ filmKnown_c71) filmKnown_f49n22
def filmKnownTab72 : Tab2 := [(82, filmKnownF82n6), (47, filmKnownF47n1), (19, filmKnownF19n1), (49, filmKnownF49n23), (8, filmKnownF8n1), (135, filmKnownF135n1), (24, filmKnownF24n1), (88, filmKnownF88n1), (29, filmKnownF29n1), (34, filmKnownF34n19), (117, filmKnownF117n4), (195, filmKnownF195n4), (174, filmKnownF174n3), (93, filmKnownF93n1), (177, filmKnownF177n5)]
theorem filmKnown_tab72 : Tab2Ok Tryz.prog filmKnownTab72 := tab2Ok_cons filmKnown_f82n6 <| tab2Ok_cons filmKnown_f47n1 <| tab2Ok_cons filmKnown_f19n1 <| tab2Ok_cons filmKnown_f49n23 <| tab2Ok_cons filmKnown_f8n1 <| tab2Ok_cons filmKnown_f135n1 <| tab2Ok_cons filmKnown_f24n1 <| tab2Ok_cons filmKnown_f88n1 <| tab2Ok_cons filmKnown_f29n1 <| tab2Ok_cons filmKnown_f34n19 <| tab2Ok_cons filmKnown_f117n4 <| tab2Ok_cons filmKnown_f195n4 <| tab2Ok_cons filmKnown_f174n3 <| tab2Ok_cons filmKnown_f93n1 <| tab2Ok_cons filmKnown_f177n5 <| tab2Ok_nil
/-- num.Floor: 35 operations. -/
theorem filmKnown_c72 : (exFT evEnv filmKnownTab72 1000 60).1 34 filmKnownA72 = some filmKnownR72 := by kernel_rfl
def filmKnownA73 : List PV := [.v (.int .i64 66194)]
def filmKnownR73 : PV := .v (.bool true)
def filmKnownF34n20 : Tab := (34, filmKnownA72, filmKnownR72) :: filmKnownF34n19
theorem filmKnown_f34n20 : TabOk Tryz.prog filmKnownF34n20 := tabOk_cons ((exFT_ok evEnv_ok filmKnown_tab72 1000 60).1 _ _ _ filmKnown_c72) filmKnown_f34n19
def filmKnownTab73 : Tab2 := [(82, filmKnownF82n6), (47, filmKnownF47n1), (19, filmKnownF19n1), (49, filmKnownF49n23), (8, filmKnownF8n1), (135, filmKnownF135n1), (24, filmKnownF24n1), (88, filmKnownF88n1), (29, filmKnownF29n1), (34, filmKnownF34n20), (117, filmKnownF117n4), (195, filmKnownF195n4), (174, filmKnownF174n3), (93, filmKnownF93n1), (177, filmKnownF177n5)]
theorem filmKnown_tab73 : Tab2Ok Tryz.prog filmKnownTab73 := tab2Ok_cons filmKnown_f82n6 <| tab2Ok_cons filmKnown_f47n1 <| tab2Ok_cons filmKnown_f19n1 <| tab2Ok_cons filmKnown_f49n23 <| tab2Ok_cons filmKnown_f8n1 <| tab2Ok_cons filmKnown_f135n1 <| tab2Ok_cons filmKnown_f24n1 <| tab2Ok_cons filmKnown_f88n1 <| tab2Ok_cons filmKnown_f29n1 <| tab2Ok_cons filmKnown_f34n20 <| tab2Ok_cons filmKnown_f117n4 <| tab2Ok_cons filmKnown_f195n4 <| tab2Ok_cons filmKnown_f174n3 <| tab2Ok_cons filmKnown_f93n1 <| tab2Ok_cons filmKnown_f177n5 <| tab2Ok_nil
/-- num.In: 21 operations. -/
theorem filmKnown_c73 : (exFT evEnv filmKnownTab73 1000 60).1 49 filmKnownA73 = some filmKnownR73 := by kernel_rfl
def filmKnownA74 : List PV := [.agg [.v (.int .i64 0), .v (.int .i64 6554), .v (.bool false)], .agg [.v (.int .i64 655360), .v (.int .i64 661890), .v (.bool false)]]
def filmKnownR74 : PV := .agg [.v (.int .i64 0), .v (.int .i64 66194), .v (.bool false)]
def filmKnownF49n24 : Tab := (49, filmKnownA73, filmKnownR73) :: filmKnownF49n23
theorem filmKnown_f49n24 : TabOk Tryz.prog filmKnownF49n24 := tabOk_cons ((exFT_ok evEnv_ok filmKnown_tab73 1000 60).1 _ _ _ filmKnown_c73) filmKnown_f49n23
def filmKnownTab74 : Tab2 := [(82, filmKnownF82n6), (47, filmKnownF47n1), (19, filmKnownF19n1), (49, filmKnownF49n24), (8, filmKnownF8n1), (135, filmKnownF135n1), (24, filmKnownF24n1), (88, filmKnownF88n1), (29, filmKnownF29n1), (34, filmKnownF34n20), (117, filmKnownF117n4), (195, filmKnownF195n4), (174, filmKnownF174n3), (93, filmKnownF93n1), (177, filmKnownF177n5)]
theorem filmKnown_tab74 : Tab2Ok Tryz.prog filmKnownTab74 := tab2Ok_cons filmKnown_f82n6 <| tab2Ok_cons filmKnown_f47n1 <| tab2Ok_cons filmKnown_f19n1 <| tab2Ok_cons filmKnown_f49n24 <| tab2Ok_cons filmKnown_f8n1 <| tab2Ok_cons filmKnown_f135n1 <| tab2Ok_cons filmKnown_f24n1 <| tab2Ok_cons filmKnown_f88n1 <| tab2Ok_cons filmKnown_f29n1 <| tab2Ok_cons filmKnown_f34n20 <| tab2Ok_cons filmKnown_f117n4 <| tab2Ok_cons filmKnown_f195n4 <| tab2Ok_cons filmKnown_f174n3 <| tab2Ok_cons filmKnown_f93n1 <| tab2Ok_cons filmKnown_f177n5 <| tab2Ok_nil
/-- iv.Mul: 60 operations. -/
theorem filmKnown_c74 : (exFT evEnv filmKnownTab74 1000 60).1 177 filmKnownA74 = some filmKnownR74 := by kernel_rfl
def filmKnownA75 : List PV := [.v (.int .i64 42526310400), .v (.int .i64 65536)]
def filmKnownR75 : PV := .v (.int .i64 648900)
def filmKnownF177n6 : Tab := (177, filmKnownA74, filmKnownR74) :: filmKnownF177n5
theorem filmKnown_f177n6 : TabOk Tryz.prog filmKnownF177n6 := tabOk_cons ((exFT_ok evEnv_ok filmKnown_tab74 1000 60).1 _ _ _ filmKnown_c74) filmKnown_f177n5
def filmKnownTab75 : Tab2 := [(82, filmKnownF82n6), (47, filmKnownF47n1), (19, filmKnownF19n1), (49, filmKnownF49n24), (8, filmKnownF8n1), (135, filmKnownF135n1), (24, filmKnownF24n1), (88, filmKnownF88n1), (29, filmKnownF29n1), (34, filmKnownF34n20), (117, filmKnownF117n4), (195, filmKnownF195n4), (174, filmKnownF174n3), (93, filmKnownF93n1), (177, filmKnownF177n6)]
theorem filmKnown_tab75 : Tab2Ok Tryz.prog filmKnownTab75 := tab2Ok_cons filmKnown_f82n6 <| tab2Ok_cons filmKnown_f47n1 <| tab2Ok_cons filmKnown_f19n1 <| tab2Ok_cons filmKnown_f49n24 <| tab2Ok_cons filmKnown_f8n1 <| tab2Ok_cons filmKnown_f135n1 <| tab2Ok_cons filmKnown_f24n1 <| tab2Ok_cons filmKnown_f88n1 <| tab2Ok_cons filmKnown_f29n1 <| tab2Ok_cons filmKnown_f34n20 <| tab2Ok_cons filmKnown_f117n4 <| tab2Ok_cons filmKnown_f195n4 <| tab2Ok_cons filmKnown_f174n3 <| tab2Ok_cons filmKnown_f93n1 <| tab2Ok_cons filmKnown_f177n6 <| tab2Ok_nil
/-- num.Floor: 35 operations. -/
theorem filmKnown_c75 : (exFT evEnv filmKnownTab75 1000 60).1 34 filmKnownA75 = some filmKnownR75 := by kernel_rfl
def filmKnownA76 : List PV := [.v (.int .i64 648900)]
def filmKnownR76 : PV := .v (.bool true)
def filmKnownF34n21 : Tab := (34, filmKnownA75, filmKnownR75) :: filmKnownF34n20
theorem filmKnown_f34n21 : TabOk Tryz.prog filmKnownF34n21 := tabOk_cons ((exFT_ok evEnv_ok filmKnown_tab75 1000 60).1 _ _ _ filmKnown_c75) filmKnown_f34n20
def filmKnownTab76 : Tab2 := [(82, filmKnownF82n6), (47, filmKnownF47n1), (19, filmKnownF19n1), (49, filmKnownF49n24), (8, filmKnownF8n1), (135, filmKnownF135n1), (24, filmKnownF24n1), (88, filmKnownF88n1), (29, filmKnownF29n1), (34, filmKnownF34n21), (117, filmKnownF117n4), (195, filmKnownF195n4), (174, filmKnownF174n3), (93, filmKnownF93n1), (177, filmKnownF177n6)]
theorem filmKnown_tab76 : Tab2Ok Tryz.prog filmKnownTab76 := tab2Ok_cons filmKnown_f82n6 <| tab2Ok_cons filmKnown_f47n1 <| tab2Ok_cons filmKnown_f19n1 <| tab2Ok_cons filmKnown_f49n24 <| tab2Ok_cons filmKnown_f8n1 <| tab2Ok_cons filmKnown_f135n1 <| tab2Ok_cons filmKnown_f24n1 <| tab2Ok_cons filmKnown_f88n1 <| tab2Ok_cons filmKnown_f29n1 <| tab2Ok_cons filmKnown_f34n21 <| tab2Ok_cons filmKnown_f117n4 <| tab2Ok_cons filmKnown_f195n4 <| tab2Ok_cons filmKnown_f174n3 <| tab2Ok_cons filmKnown_f93n1 <| tab2Ok_cons filmKnown_f177n6 <| tab2Ok_nil
/-- num.In: 18 operations. -/
theorem filmKnown_c76 : (exFT evEnv filmKnownTab76 1000 60).1 49 filmKnownA76 = some filmKnownR76 := by kernel_rfl
def filmKnownA77 : List PV := [.v (.int .i64 42950042100), .v (.int .i64 65536)]
def filmKnownR77 : PV := .v (.int .i64 655365)
def filmKnownF49n25 : Tab := (49, filmKnownA76, filmKnownR76) :: filmKnownF49n24
theorem filmKnown_f49n25 : TabOk Tryz.prog filmKnownF49n25 := tabOk_cons ((exFT_ok evEnv_ok filmKnown_tab76 1000 60).1 _ _ _ filmKnown_c76) filmKnown_f49n24
def filmKnownTab77 : Tab2 := [(82, filmKnownF82n6), (47, filmKnownF47n1), (19, filmKnownF19n1), (49, filmKnownF49n25), (8, filmKnownF8n1), (135, filmKnownF135n1), (24, filmKnownF24n1), (88, filmKnownF88n1), (29, filmKnownF29n1), (34, filmKnownF34n21), (117, filmKnownF117n4), (195, filmKnownF195n4), (174, filmKnownF174n3), (93, filmKnownF93n1), (177, filmKnownF177n6)]
theorem filmKnown_tab77 : Tab2Ok Tryz.prog filmKnownTab77 := tab2Ok_cons filmKnown_f82n6 <| tab2Ok_cons filmKnown_f47n1 <| tab2Ok_cons filmKnown_f19n1 <| tab2Ok_cons filmKnown_f49n25 <| tab2Ok_cons filmKnown_f8n1 <| tab2Ok_cons filmKnown_f135n1 <| tab2Ok_cons filmKnown_f24n1 <| tab2Ok_cons filmKnown_f88n1 <| tab2Ok_cons filmKnown_f29n1 <| tab2Ok_cons filmKnown_f34n21 <| tab2Ok_cons filmKnown_f117n4 <| tab2Ok_cons filmKnown_f195n4 <| tab2Ok_cons filmKnown_f174n3 <| tab2Ok_cons filmKnown_f93n1 <| tab2Ok_cons filmKnown_f177n6 <| tab2Ok_nil
/-- num.Floor: 35 operations. -/
theorem filmKnown_c77 : (exFT evEnv filmKnownTab77 1000 60).1 34 filmKnownA77 = some filmKnownR77 := by kernel_rfl
def filmKnownA78 : List PV := [.v (.int .i64 655366)]
def filmKnownR78 : PV := .v (.bool true)
def filmKnownF34n22 : Tab := (34, filmKnownA77, filmKnownR77) :: filmKnownF34n21
theorem filmKnown_f34n22 : TabOk Tryz.prog filmKnownF34n22 := tabOk_cons ((exFT_ok evEnv_ok filmKnown_tab77 1000 60).1 _ _ _ filmKnown_c77) filmKnown_f34n21
def filmKnownTab78 : Tab2 := [(82, filmKnownF82n6), (47, filmKnownF47n1), (19, filmKnownF19n1), (49, filmKnownF49n25), (8, filmKnownF8n1), (135, filmKnownF135n1), (24, filmKnownF24n1), (88, filmKnownF88n1), (29, filmKnownF29n1), (34, filmKnownF34n22), (117, filmKnownF117n4), (195, filmKnownF195n4), (174, filmKnownF174n3), (93, filmKnownF93n1), (177, filmKnownF177n6)]
theorem filmKnown_tab78 : Tab2Ok Tryz.prog filmKnownTab78 := tab2Ok_cons filmKnown_f82n6 <| tab2Ok_cons filmKnown_f47n1 <| tab2Ok_cons filmKnown_f19n1 <| tab2Ok_cons filmKnown_f49n25 <| tab2Ok_cons filmKnown_f8n1 <| tab2Ok_cons filmKnown_f135n1 <| tab2Ok_cons filmKnown_f24n1 <| tab2Ok_cons filmKnown_f88n1 <| tab2Ok_cons filmKnown_f29n1 <| tab2Ok_cons filmKnown_f34n22 <| tab2Ok_cons filmKnown_f117n4 <| tab2Ok_cons filmKnown_f195n4 <| tab2Ok_cons filmKnown_f174n3 <| tab2Ok_cons filmKnown_f93n1 <| tab2Ok_cons filmKnown_f177n6 <| tab2Ok_nil
/-- num.In: 21 operations. -/
theorem filmKnown_c78 : (exFT evEnv filmKnownTab78 1000 60).1 49 filmKnownA78 = some filmKnownR78 := by kernel_rfl
def filmKnownA79 : List PV := [.v (.int .i64 42949672960), .v (.int .i64 65536)]
def filmKnownR79 : PV := .v (.int .i64 655360)
def filmKnownF49n26 : Tab := (49, filmKnownA78, filmKnownR78) :: filmKnownF49n25
theorem filmKnown_f49n26 : TabOk Tryz.prog filmKnownF49n26 := tabOk_cons ((exFT_ok evEnv_ok filmKnown_tab78 1000 60).1 _ _ _ filmKnown_c78) filmKnown_f49n25
def filmKnownTab79 : Tab2 := [(82, filmKnownF82n6), (47, filmKnownF47n1), (19, filmKnownF19n1), (49, filmKnownF49n26), (8, filmKnownF8n1), (135, filmKnownF135n1), (24, filmKnownF24n1), (88, filmKnownF88n1), (29, filmKnownF29n1), (34, filmKnownF34n22), (117, filmKnownF117n4), (195, filmKnownF195n4), (174, filmKnownF174n3), (93, filmKnownF93n1), (177, filmKnownF177n6)]
theorem filmKnown_tab79 : Tab2Ok Tryz.prog filmKnownTab79 := tab2Ok_cons filmKnown_f82n6 <| tab2Ok_cons filmKnown_f47n1 <| tab2Ok_cons filmKnown_f19n1 <| tab2Ok_cons filmKnown_f49n26 <| tab2Ok_cons filmKnown_f8n1 <| tab2Ok_cons filmKnown_f135n1 <| tab2Ok_cons filmKnown_f24n1 <| tab2Ok_cons filmKnown_f88n1 <| tab2Ok_cons filmKnown_f29n1 <| tab2Ok_cons filmKnown_f34n22 <| tab2Ok_cons filmKnown_f117n4 <| tab2Ok_cons filmKnown_f195n4 <| tab2Ok_cons filmKnown_f174n3 <| tab2Ok_cons filmKnown_f93n1 <| tab2Ok_cons filmKnown_f177n6 <| tab2Ok_nil
/-- num.Floor: 35 operations. -/
theorem filmKnown_c79 : (exFT evEnv filmKnownTab79 1000 60).1 34 filmKnownA79 = some filmKnownR79 := by kernel_rfl
def filmKnownA80 : List PV := [.v (.int .i64 43377623040), .v (.int .i64 65536)]
def filmKnownR80 : PV := .v (.int .i64 661890)
def filmKnownF34n23 : Tab := (34, filmKnownA79, filmKnownR79) :: filmKnownF34n22
theorem filmKnown_f34n23 : TabOk Tryz.prog filmKnownF34n23 := tabOk_cons ((exFT_ok evEnv_ok filmKnown_tab79 1000 60).1 _ _ _ filmKnown_c79) filmKnown_f34n22
def filmKnownTab80 : Tab2 := [(82, filmKnownF82n6), (47, filmKnownF47n1), (19, filmKnownF19n1), (49, filmKnownF49n26), (8, filmKnownF8n1), (135, filmKnownF135n1), (24, filmKnownF24n1), (88, filmKnownF88n1), (29, filmKnownF29n1), (34, filmKnownF34n23), (117, filmKnownF117n4), (195, filmKnownF195n4), (174, filmKnownF174n3), (93, filmKnownF93n1), (177, filmKnownF177n6)]
theorem filmKnown_tab80 : Tab2Ok Tryz.prog filmKnownTab80 := tab2Ok_cons filmKnown_f82n6 <| tab2Ok_cons filmKnown_f47n1 <| tab2Ok_cons filmKnown_f19n1 <| tab2Ok_cons filmKnown_f49n26 <| tab2Ok_cons filmKnown_f8n1 <| tab2Ok_cons filmKnown_f135n1 <| tab2Ok_cons filmKnown_f24n1 <| tab2Ok_cons filmKnown_f88n1 <| tab2Ok_cons filmKnown_f29n1 <| tab2Ok_cons filmKnown_f34n23 <| tab2Ok_cons filmKnown_f117n4 <| tab2Ok_cons filmKnown_f195n4 <| tab2Ok_cons filmKnown_f174n3 <| tab2Ok_cons filmKnown_f93n1 <| tab2Ok_cons filmKnown_f177n6 <| tab2Ok_nil
/-- num.Floor: 35 operations. -/
theorem filmKnown_c80 : (exFT evEnv filmKnownTab80 1000 60).1 34 filmKnownA80 = some filmKnownR80 := by kernel_rfl
def filmKnownA81 : List PV := [.agg [.v (.int .i64 64890), .v (.int .i64 65536), .v (.bool false)], .agg [.v (.int .i64 655360), .v (.int .i64 661890), .v (.bool false)]]
def filmKnownR81 : PV := .agg [.v (.int .i64 648900), .v (.int .i64 661890), .v (.bool false)]
def filmKnownF34n24 : Tab := (34, filmKnownA80, filmKnownR80) :: filmKnownF34n23
theorem filmKnown_f34n24 : TabOk Tryz.prog filmKnownF34n24 := tabOk_cons ((exFT_ok evEnv_ok filmKnown_tab80 1000 60).1 _ _ _ filmKnown_c80) filmKnown_f34n23
def filmKnownTab81 : Tab2 := [(82, filmKnownF82n6), (47, filmKnownF47n1), (19, filmKnownF19n1), (49, filmKnownF49n26), (8, filmKnownF8n1), (135, filmKnownF135n1), (24, filmKnownF24n1), (88, filmKnownF88n1), (29, filmKnownF29n1), (34, filmKnownF34n24), (117, filmKnownF117n4), (195, filmKnownF195n4), (174, filmKnownF174n3), (93, filmKnownF93n1), (177, filmKnownF177n6)]
theorem filmKnown_tab81 : Tab2Ok Tryz.prog filmKnownTab81 := tab2Ok_cons filmKnown_f82n6 <| tab2Ok_cons filmKnown_f47n1 <| tab2Ok_cons filmKnown_f19n1 <| tab2Ok_cons filmKnown_f49n26 <| tab2Ok_cons filmKnown_f8n1 <| tab2Ok_cons filmKnown_f135n1 <| tab2Ok_cons filmKnown_f24n1 <| tab2Ok_cons filmKnown_f88n1 <| tab2Ok_cons filmKnown_f29n1 <| tab2Ok_cons filmKnown_f34n24 <| tab2Ok_cons filmKnown_f117n4 <| tab2Ok_cons filmKnown_f195n4 <| tab2Ok_cons filmKnown_f174n3 <| tab2Ok_cons filmKnown_f93n1 <| tab2Ok_cons filmKnown_f177n6 <| tab2Ok_nil
/-- iv.Mul: 60 operations. -/
theorem filmKnown_c81 : (exFT evEnv filmKnownTab81 1000 60).1 177 filmKnownA81 = some filmKnownR81 := by kernel_rfl
def filmKnownA82 : List PV := [.v (.int .i64 (-6460))]
def filmKnownR82 : PV := .v (.bool true)
def filmKnownF177n7 : Tab := (177, filmKnownA81, filmKnownR81) :: filmKnownF177n6
theorem filmKnown_f177n7 : TabOk Tryz.prog filmKnownF177n7 := tabOk_cons ((exFT_ok evEnv_ok filmKnown_tab81 1000 60).1 _ _ _ filmKnown_c81) filmKnown_f177n6
def filmKnownTab82 : Tab2 := [(82, filmKnownF82n6), (47, filmKnownF47n1), (19, filmKnownF19n1), (49, filmKnownF49n26), (8, filmKnownF8n1), (135, filmKnownF135n1), (24, filmKnownF24n1), (88, filmKnownF88n1), (29, filmKnownF29n1), (34, filmKnownF34n24), (117, filmKnownF117n4), (195, filmKnownF195n4), (174, filmKnownF174n3), (93, filmKnownF93n1), (177, filmKnownF177n7)]
theorem filmKnown_tab82 : Tab2Ok Tryz.prog filmKnownTab82 := tab2Ok_cons filmKnown_f82n6 <| tab2Ok_cons filmKnown_f47n1 <| tab2Ok_cons filmKnown_f19n1 <| tab2Ok_cons filmKnown_f49n26 <| tab2Ok_cons filmKnown_f8n1 <| tab2Ok_cons filmKnown_f135n1 <| tab2Ok_cons filmKnown_f24n1 <| tab2Ok_cons filmKnown_f88n1 <| tab2Ok_cons filmKnown_f29n1 <| tab2Ok_cons filmKnown_f34n24 <| tab2Ok_cons filmKnown_f117n4 <| tab2Ok_cons filmKnown_f195n4 <| tab2Ok_cons filmKnown_f174n3 <| tab2Ok_cons filmKnown_f93n1 <| tab2Ok_cons filmKnown_f177n7 <| tab2Ok_nil
/-- num.In: 52 operations. -/
theorem filmKnown_c82 : (exFT evEnv filmKnownTab82 1000 60).1 49 filmKnownA82 = some filmKnownR82 := by kernel_rfl
def filmKnownA83 : List PV := [.v (.int .i64 4381645636), .v (.int .i64 65536)]
def filmKnownR83 : PV := .v (.int .i64 66858)
def filmKnownF49n27 : Tab := (49, filmKnownA82, filmKnownR82) :: filmKnownF49n26
theorem filmKnown_f49n27 : TabOk Tryz.prog filmKnownF49n27 := tabOk_cons ((exFT_ok evEnv_ok filmKnown_tab82 1000 60).1 _ _ _ filmKnown_c82) filmKnown_f49n26
def filmKnownTab83 : Tab2 := [(82, filmKnownF82n6), (47, filmKnownF47n1), (19, filmKnownF19n1), (49, filmKnownF49n27), (8, filmKnownF8n1), (135, filmKnownF135n1), (24, filmKnownF24n1), (88, filmKnownF88n1), (29, filmKnownF29n1), (34, filmKnownF34n24), (117, filmKnownF117n4), (195, filmKnownF195n4), (174, filmKnownF174n3), (93, filmKnownF93n1), (177, filmKnownF177n7)]
theorem filmKnown_tab83 : Tab2Ok Tryz.prog filmKnownTab83 := tab2Ok_cons filmKnown_f82n6 <| tab2Ok_cons filmKnown_f47n1 <| tab2Ok_cons filmKnown_f19n1 <| tab2Ok_cons filmKnown_f49n27 <| tab2Ok_cons filmKnown_f8n1 <| tab2Ok_cons filmKnown_f135n1 <| tab2Ok_cons filmKnown_f24n1 <| tab2Ok_cons filmKnown_f88n1 <| tab2Ok_cons filmKnown_f29n1 <| tab2Ok_cons filmKnown_f34n24 <| tab2Ok_cons filmKnown_f117n4 <| tab2Ok_cons filmKnown_f195n4 <| tab2Ok_cons filmKnown_f174n3 <| tab2Ok_cons filmKnown_f93n1 <| tab2Ok_cons filmKnown_f177n7 <| tab2Ok_nil
/-- num.Floor: 35 operations. -/
theorem filmKnown_c83 : (exFT evEnv filmKnownTab83 1000 60).1 34 filmKnownA83 = some filmKnownR83 := by kernel_rfl
def filmKnownA84 : List PV := [.v (.int .i64 66859)]
def filmKnownR84 : PV := .v (.bool true)
def filmKnownF34n25 : Tab := (34, filmKnownA83, filmKnownR83) :: filmKnownF34n24
theorem filmKnown_f34n25 : TabOk Tryz.prog filmKnownF34n25 := tabOk_cons ((exFT_ok evEnv_ok filmKnown_tab83 1000 60).1 _ _ _ filmKnown_c83) filmKnown_f34n24
def filmKnownTab84 : Tab2 := [(82, filmKnownF82n6), (47, filmKnownF47n1), (19, filmKnownF19n1), (49, filmKnownF49n27), (8, filmKnownF8n1), (135, filmKnownF135n1), (24, filmKnownF24n1), (88, filmKnownF88n1), (29, filmKnownF29n1), (34, filmKnownF34n25), (117, filmKnownF117n4), (195, filmKnownF195n4), (174, filmKnownF174n3), (93, filmKnownF93n1), (177, filmKnownF177n7)]
theorem filmKnown_tab84 : Tab2Ok Tryz.prog filmKnownTab84 := tab2Ok_cons filmKnown_f82n6 <| tab2Ok_cons filmKnown_f47n1 <| tab2Ok_cons filmKnown_f19n1 <| tab2Ok_cons filmKnown_f49n27 <| tab2Ok_cons filmKnown_f8n1 <| tab2Ok_cons filmKnown_f135n1 <| tab2Ok_cons filmKnown_f24n1 <| tab2Ok_cons filmKnown_f88n1 <| tab2Ok_cons filmKnown_f29n1 <| tab2Ok_cons filmKnown_f34n25 <| tab2Ok_cons filmKnown_f117n4 <| tab2Ok_cons filmKnown_f195n4 <| tab2Ok_cons filmKnown_f174n3 <| tab2Ok_cons filmKnown_f93n1 <| tab2Ok_cons filmKnown_f177n7 <| tab2Ok_nil
/-- num.In: 21 operations. -/
theorem filmKnown_c84 : (exFT evEnv filmKnownTab84 1000 60).1 49 filmKnownA84 = some filmKnownR84 := by kernel_rfl
def filmKnownA85 : List PV := [.agg [.v (.int .i64 0), .v (.int .i64 0), .v (.bool false)], .agg [.v (.int .i64 0), .v (.int .i64 66194), .v (.bool false)]]
def filmKnownR85 : PV := .agg [.v (.int .i64 0), .v (.int .i64 0), .v (.bool false)]
def filmKnownF49n28 : Tab := (49, filmKnownA84, filmKnownR84) :: filmKnownF49n27
theorem filmKnown_f49n28 : TabOk Tryz.prog filmKnownF49n28 := tabOk_cons ((exFT_ok evEnv_ok filmKnown_tab84 1000 60).1 _ _ _ filmKnown_c84) filmKnown_f49n27
def filmKnownTab85 : Tab2 := [(82, filmKnownF82n6), (47, filmKnownF47n1), (19, filmKnownF19n1), (49, filmKnownF49n28), (8, filmKnownF8n1), (135, filmKnownF135n1), (24, filmKnownF24n1), (88, filmKnownF88n1), (29, filmKnownF29n1), (34, filmKnownF34n25), (117, filmKnownF117n4), (195, filmKnownF195n4), (174, filmKnownF174n3), (93, filmKnownF93n1), (177, filmKnownF177n7)]
theorem filmKnown_tab85 : Tab2Ok Tryz.prog filmKnownTab85 := tab2Ok_cons filmKnown_f82n6 <| tab2Ok_cons filmKnown_f47n1 <| tab2Ok_cons filmKnown_f19n1 <| tab2Ok_cons filmKnown_f49n28 <| tab2Ok_cons filmKnown_f8n1 <| tab2Ok_cons filmKnown_f135n1 <| tab2Ok_cons filmKnown_f24n1 <| tab2Ok_cons filmKnown_f88n1 <| tab2Ok_cons filmKnown_f29n1 <| tab2Ok_cons filmKnown_f34n25 <| tab2Ok_cons filmKnown_f117n4 <| tab2Ok_cons filmKnown_f195n4 <| tab2Ok_cons filmKnown_f174n3 <| tab2Ok_cons filmKnown_f93n1 <| tab2Ok_cons filmKnown_f177n7 <| tab2Ok_nil
/-- iv.Mul: 42 operations. -/
theorem filmKnown_c85 : (exFT evEnv filmKnownTab85 1000 60).1 177 filmKnownA85 = some filmKnownR85 := by kernel_rfl
def filmKnownA86 : List PV := [.v (.int .i64 (-423362560)), .v (.int .i64 65536)]
def filmKnownR86 : PV := .v (.int .i64 (-6460))
def filmKnownF177n8 : Tab := (177, filmKnownA85, filmKnownR85) :: filmKnownF177n7
theorem filmKnown_f177n8 : TabOk Tryz.prog filmKnownF177n8 := tabOk_cons ((exFT_ok evEnv_ok filmKnown_tab85 1000 60).1 _ _ _ filmKnown_c85) filmKnown_f177n7
def filmKnownTab86 : Tab2 := [(82, filmKnownF82n6), (47, filmKnownF47n1), (19, filmKnownF19n1), (49, filmKnownF49n28), (8, filmKnownF8n1), (135, filmKnownF135n1), (24, filmKnownF24n1), (88, filmKnownF88n1), (29, filmKnownF29n1), (34, filmKnownF34n25), (117, filmKnownF117n4), (195, filmKnownF195n4), (174, filmKnownF174n3), (93, filmKnownF93n1), (177, filmKnownF177n8)]
theorem filmKnown_tab86 : Tab2Ok Tryz.prog filmKnownTab86 := tab2Ok_cons filmKnown_f82n6 <| tab2Ok_cons filmKnown_f47n1 <| tab2Ok_cons filmKnown_f19n1 <| tab2Ok_cons filmKnown_f49n28 <| tab2Ok_cons filmKnown_f8n1 <| tab2Ok_cons filmKnown_f135n1 <| tab2Ok_cons filmKnown_f24n1 <| tab2Ok_cons filmKnown_f88n1 <| tab2Ok_cons filmKnown_f29n1 <| tab2Ok_cons filmKnown_f34n25 <| tab2Ok_cons filmKnown_f117n4 <| tab2Ok_cons filmKnown_f195n4 <| tab2Ok_cons filmKnown_f174n3 <| tab2Ok_cons filmKnown_f93n1 <| tab2Ok_cons filmKnown_f177n8 <| tab2Ok_nil
/-- num.Floor: 35 operations. -/
theorem filmKnown_c86 : (exFT evEnv filmKnownTab86 1000 60).1 34 filmKnownA86 = some filmKnownR86 := by kernel_rfl
def filmKnownA87 : List PV := [.v (.int .i64 427950080), .v (.int .i64 65536)]
def filmKnownR87 : PV := .v (.int .i64 6530)
def filmKnownF34n26 : Tab := (34, filmKnownA86, filmKnownR86) :: filmKnownF34n25
theorem filmKnown_f34n26 : TabOk Tryz.prog filmKnownF34n26 := tabOk_cons ((exFT_ok evEnv_ok filmKnown_tab86 1000 60).1 _ _ _ filmKnown_c86) filmKnown_f34n25
def filmKnownTab87 : Tab2 := [(82, filmKnownF82n6), (47, filmKnownF47n1), (19, filmKnownF19n1), (49, filmKnownF49n28), (8, filmKnownF8n1), (135, filmKnownF135n1), (24, filmKnownF24n1), (88, filmKnownF88n1), (29, filmKnownF29n1), (34, filmKnownF34n26), (117, filmKnownF117n4), (195, filmKnownF195n4), (174, filmKnownF174n3), (93, filmKnownF93n1), (177, filmKnownF177n8)]
theorem filmKnown_tab87 : Tab2Ok Tryz.prog filmKnownTab87 := tab2Ok_cons filmKnown_f82n6 <| tab2Ok_cons filmKnown_f47n1 <| tab2Ok_cons filmKnown_f19n1 <| tab2Ok_cons filmKnown_f49n28 <| tab2Ok_cons filmKnown_f8n1 <| tab2Ok_cons filmKnown_f135n1 <| tab2Ok_cons filmKnown_f24n1 <| tab2Ok_cons filmKnown_f88n1 <| tab2Ok_cons filmKnown_f29n1 <| tab2Ok_cons filmKnown_f34n26 <| tab2Ok_cons filmKnown_f117n4 <| tab2Ok_cons filmKnown_f195n4 <| tab2Ok_cons filmKnown_f174n3 <| tab2Ok_cons filmKnown_f93n1 <| tab2Ok_cons filmKnown_f177n8 <| tab2Ok_nil
/-- num.Floor: 35 operations. -/
theorem filmKnown_c87 : (exFT evEnv filmKnownTab87 1000 60).1 34 filmKnownA87 = some filmKnownR87 := by kernel_rfl
def filmKnownA88 : List PV := [.v (.int .i64 6530)]
def filmKnownR88 : PV := .v (.bool true)
def filmKnownF34n27 : Tab := (34, filmKnownA87, filmKnownR87) :: filmKnownF34n26
theorem filmKnown_f34n27 : TabOk Tryz.prog filmKnownF34n27 := tabOk_cons ((exFT_ok evEnv_ok filmKnown_tab87 1000 60).1 _ _ _ filmKnown_c87) filmKnown_f34n26
def filmKnownTab88 : Tab2 := [(82, filmKnownF82n6), (47, filmKnownF47n1), (19, filmKnownF19n1), (49, filmKnownF49n28), (8, filmKnownF8n1), (135, filmKnownF135n1), (24, filmKnownF24n1), (88, filmKnownF88n1), (29, filmKnownF29n1), (34, filmKnownF34n27), (117, filmKnownF117n4), (195, filmKnownF195n4), (174, filmKnownF174n3), (93, filmKnownF93n1), (177, filmKnownF177n8)]
theorem filmKnown_tab88 : Tab2Ok Tryz.prog filmKnownTab88 := tab2Ok_cons filmKnown_f82n6 <| tab2Ok_cons filmKnown_f47n1 <| tab2Ok_cons filmKnown_f19n1 <| tab2Ok_cons filmKnown_f49n28 <| tab2Ok_cons filmKnown_f8n1 <| tab2Ok_cons filmKnown_f135n1 <| tab2Ok_cons filmKnown_f24n1 <| tab2Ok_cons filmKnown_f88n1 <| tab2Ok_cons filmKnown_f29n1 <| tab2Ok_cons filmKnown_f34n27 <| tab2Ok_cons filmKnown_f117n4 <| tab2Ok_cons filmKnown_f195n4 <| tab2Ok_cons filmKnown_f174n3 <| tab2Ok_cons filmKnown_f93n1 <| tab2Ok_cons filmKnown_f177n8 <| tab2Ok_nil
/-- num.In: 18 operations. -/
theorem filmKnown_c88 : (exFT evEnv filmKnownTab88 1000 60).1 49 filmKnownA88 = some filmKnownR88 := by kernel_rfl
def filmKnownA89 : List PV := [.v (.int .i64 65536), .v (.bool false)]
def filmKnownR89 : PV := .tup [.v (.int .i64 65536), .v (.bool true)]
def filmKnownF49n29 : Tab := (49, filmKnownA88, filmKnownR88) :: filmKnownF49n28
theorem filmKnown_f49n29 : TabOk Tryz.prog filmKnownF49n29 := tabOk_cons ((exFT_ok evEnv_ok filmKnown_tab88 1000 60).1 _ _ _ filmKnown_c88) filmKnown_f49n28
def filmKnownTab89 : Tab2 := [(82, filmKnownF82n6), (47, filmKnownF47n1), (19, filmKnownF19n1), (49, filmKnownF49n29), (8, filmKnownF8n1), (135, filmKnownF135n1), (24, filmKnownF24n1), (88, filmKnownF88n1), (29, filmKnownF29n1), (34, filmKnownF34n27), (117, filmKnownF117n4), (195, filmKnownF195n4), (174, filmKnownF174n3), (93, filmKnownF93n1), (177, filmKnownF177n8)]
theorem filmKnown_tab89 : Tab2Ok Tryz.prog filmKnownTab89 := tab2Ok_cons filmKnown_f82n6 <| tab2Ok_cons filmKnown_f47n1 <| tab2Ok_cons filmKnown_f19n1 <| tab2Ok_cons filmKnown_f49n29 <| tab2Ok_cons filmKnown_f8n1 <| tab2Ok_cons filmKnown_f135n1 <| tab2Ok_cons filmKnown_f24n1 <| tab2Ok_cons filmKnown_f88n1 <| tab2Ok_cons filmKnown_f29n1 <| tab2Ok_cons filmKnown_f34n27 <| tab2Ok_cons filmKnown_f117n4 <| tab2Ok_cons filmKnown_f195n4 <| tab2Ok_cons filmKnown_f174n3 <| tab2Ok_cons filmKnown_f93n1 <| tab2Ok_cons filmKnown_f177n8 <| tab2Ok_nil
/-- num.Root: 395 operations. -/
theorem filmKnown_c89 : (exFT evEnv filmKnownTab89 1000 60).1 195 filmKnownA89 = some filmKnownR89 := by kernel_rfl
def filmKnownA90 : List PV := [.agg [.v (.int .i64 0), .v (.int .i64 0), .v (.bool false)], .agg [.v (.int .i64 65536), .v (.int .i64 65536), .v (.bool false)]]
def filmKnownR90 : PV := .agg [.v (.int .i64 0), .v (.int .i64 0), .v (.bool false)]
def filmKnownF195n5 : Tab := (195, filmKnownA89, filmKnownR89) :: filmKnownF195n4
theorem filmKnown_f195n5 : TabOk Tryz.prog filmKnownF195n5 := tabOk_cons ((exFT_ok evEnv_ok filmKnown_tab89 1000 60).1 _ _ _ filmKnown_c89) filmKnown_f195n4
def filmKnownTab90 : Tab2 := [(82, filmKnownF82n6), (47, filmKnownF47n1), (19, filmKnownF19n1), (49, filmKnownF49n29), (8, filmKnownF8n1), (135, filmKnownF135n1), (24, filmKnownF24n1), (88, filmKnownF88n1), (29, filmKnownF29n1), (34, filmKnownF34n27), (117, filmKnownF117n4), (195, filmKnownF195n5), (174, filmKnownF174n3), (93, filmKnownF93n1), (177, filmKnownF177n8)]
theorem filmKnown_tab90 : Tab2Ok Tryz.prog filmKnownTab90 := tab2Ok_cons filmKnown_f82n6 <| tab2Ok_cons filmKnown_f47n1 <| tab2Ok_cons filmKnown_f19n1 <| tab2Ok_cons filmKnown_f49n29 <| tab2Ok_cons filmKnown_f8n1 <| tab2Ok_cons filmKnown_f135n1 <| tab2Ok_cons filmKnown_f24n1 <| tab2Ok_cons filmKnown_f88n1 <| tab2Ok_cons filmKnown_f29n1 <| tab2Ok_cons filmKnown_f34n27 <| tab2Ok_cons filmKnown_f117n4 <| tab2Ok_cons filmKnown_f195n5 <| tab2Ok_cons filmKnown_f174n3 <| tab2Ok_cons filmKnown_f93n1 <| tab2Ok_cons filmKnown_f177n8 <| tab2Ok_nil
/-- iv.Div: 42 operations. -/
theorem filmKnown_c90 : (exFT evEnv filmKnownTab90 1000 60).1 117 filmKnownA90 = some filmKnownR90 := by kernel_rfl
def filmKnownA91 : List PV := [.agg [.v (.int .i64 65536), .v (.int .i64 65536), .v (.bool false)], .agg [.v (.int .i64 65536), .v (.int .i64 65536), .v (.bool false)]]
def filmKnownR91 : PV := .agg [.v (.int .i64 65536), .v (.int .i64 65536), .v (.bool false)]
def filmKnownF117n5 : Tab := (117, filmKnownA90, filmKnownR90) :: filmKnownF117n4
theorem filmKnown_f117n5 : TabOk Tryz.prog filmKnownF117n5 := tabOk_cons ((exFT_ok evEnv_ok filmKnown_tab90 1000 60).1 _ _ _ filmKnown_c90) filmKnown_f117n4
def filmKnownTab91 : Tab2 := [(82, filmKnownF82n6), (47, filmKnownF47n1), (19, filmKnownF19n1), (49, filmKnownF49n29), (8, filmKnownF8n1), (135, filmKnownF135n1), (24, filmKnownF24n1), (88, filmKnownF88n1), (29, filmKnownF29n1), (34, filmKnownF34n27), (117, filmKnownF117n5), (195, filmKnownF195n5), (174, filmKnownF174n3), (93, filmKnownF93n1), (177, filmKnownF177n8)]
theorem filmKnown_tab91 : Tab2Ok Tryz.prog filmKnownTab91 := tab2Ok_cons filmKnown_f82n6 <| tab2Ok_cons filmKnown_f47n1 <| tab2Ok_cons filmKnown_f19n1 <| tab2Ok_cons filmKnown_f49n29 <| tab2Ok_cons filmKnown_f8n1 <| tab2Ok_cons filmKnown_f135n1 <| tab2Ok_cons filmKnown_f24n1 <| tab2Ok_cons filmKnown_f88n1 <| tab2Ok_cons filmKnown_f29n1 <| tab2Ok_cons filmKnown_f34n27 <| tab2Ok_cons filmKnown_f117n5 <| tab2Ok_cons filmKnown_f195n5 <| tab2Ok_cons filmKnown_f174n3 <| tab2Ok_cons filmKnown_f93n1 <| tab2Ok_cons filmKnown_f177n8 <| tab2Ok_nil
/-- iv.Div: 42 operations. -/
theorem filmKnown_c91 : (exFT evEnv filmKnownTab91 1000 60).1 117 filmKnownA91 = some filmKnownR91 := by kernel_rfl
def filmKnownA92 : List PV := [.agg [.v (.int .i64 0), .v (.int .i64 0), .v (.bool false), .v (.int .i64 0), .v (.int .i64 0), .v (.bool false), .v (.int .i64 65536), .v (.int .i64 65536), .v (.bool false)]]
def filmKnownR92 : PV := .agg [.v (.int .i64 0), .v (.int .i64 0), .v (.bool false), .v (.int .i64 0), .v (.int .i64 0), .v (.bool false), .v (.int .i64 65536), .v (.int .i64 65536), .v (.bool false)]
def filmKnownF117n6 : Tab := (117, filmKnownA91, filmKnownR91) :: filmKnownF117n5
theorem filmKnown_f117n6 : TabOk Tryz.prog filmKnownF117n6 := tabOk_cons ((exFT_ok evEnv_ok filmKnown_tab91 1000 60).1 _ _ _ filmKnown_c91) filmKnown_f117n5
def filmKnownTab92 : Tab2 := [(82, filmKnownF82n6), (47, filmKnownF47n1), (19, filmKnownF19n1), (49, filmKnownF49n29), (8, filmKnownF8n1), (135, filmKnownF135n1), (24, filmKnownF24n1), (88, filmKnownF88n1), (29, filmKnownF29n1), (34, filmKnownF34n27), (117, filmKnownF117n6), (195, filmKnownF195n5), (174, filmKnownF174n3), (93, filmKnownF93n1), (177, filmKnownF177n8)]
theorem filmKnown_tab92 : Tab2Ok Tryz.prog filmKnownTab92 := tab2Ok_cons filmKnown_f82n6 <| tab2Ok_cons filmKnown_f47n1 <| tab2Ok_cons filmKnown_f19n1 <| tab2Ok_cons filmKnown_f49n29 <| tab2Ok_cons filmKnown_f8n1 <| tab2Ok_cons filmKnown_f135n1 <| tab2Ok_cons filmKnown_f24n1 <| tab2Ok_cons filmKnown_f88n1 <| tab2Ok_cons filmKnown_f29n1 <| tab2Ok_cons filmKnown_f34n27 <| tab2Ok_cons filmKnown_f117n6 <| tab2Ok_cons filmKnown_f195n5 <| tab2Ok_cons filmKnown_f174n3 <| tab2Ok_cons filmKnown_f93n1 <| tab2Ok_cons filmKnown_f177n8 <| tab2Ok_nil
/-- vec.Unit: 39 operations. -/
theorem filmKnown_c92 : (exFT evEnv filmKnownTab92 1000 60).1 93 filmKnownA92 = some filmKnownR92 := by kernel_rfl
def filmKnownA93 : List PV := [.agg [.v (.int .i64 0), .v (.int .i64 6554), .v (.bool false)], .agg [.v (.int .i64 0), .v (.int .i64 0), .v (.bool false)]]
def filmKnownR93 : PV := .agg [.v (.int .i64 0), .v (.int .i64 0), .v (.bool false)]
def filmKnownF93n2 : Tab := (93, filmKnownA92, filmKnownR92) :: filmKnownF93n1
theorem filmKnown_f93n2 : TabOk Tryz.prog filmKnownF93n2 := tabOk_cons ((exFT_ok evEnv_ok filmKnown_tab92 1000 60).1 _ _ _ filmKnown_c92) filmKnown_f93n1
def filmKnownTab93 : Tab2 := [(82, filmKnownF82n6), (47, filmKnownF47n1), (19, filmKnownF19n1), (49, filmKnownF49n29), (8, filmKnownF8n1), (135, filmKnownF135n1), (24, filmKnownF24n1), (88, filmKnownF88n1), (29, filmKnownF29n1), (34, filmKnownF34n27), (117, filmKnownF117n6), (195, filmKnownF195n5), (174, filmKnownF174n3), (93, filmKnownF93n2), (177, filmKnownF177n8)]
theorem filmKnown_tab93 : Tab2Ok Tryz.prog filmKnownTab93 := tab2Ok_cons filmKnown_f82n6 <| tab2Ok_cons filmKnown_f47n1 <| tab2Ok_cons filmKnown_f19n1 <| tab2Ok_cons filmKnown_f49n29 <| tab2Ok_cons filmKnown_f8n1 <| tab2Ok_cons filmKnown_f135n1 <| tab2Ok_cons filmKnown_f24n1 <| tab2Ok_cons filmKnown_f88n1 <| tab2Ok_cons filmKnown_f29n1 <| tab2Ok_cons filmKnown_f34n27 <| tab2Ok_cons filmKnown_f117n6 <| tab2Ok_cons filmKnown_f195n5 <| tab2Ok_cons filmKnown_f174n3 <| tab2Ok_cons filmKnown_f93n2 <| tab2Ok_cons filmKnown_f177n8 <| tab2Ok_nil
/-- iv.Mul: 42 operations. -/
theorem filmKnown_c93 : (exFT evEnv filmKnownTab93 1000 60).1 177 filmKnownA93 = some filmKnownR93 := by kernel_rfl
def filmKnownA94 : List PV := [.v (.int .i64 4252631040), .v (.int .i64 65536)]
def filmKnownR94 : PV := .v (.int .i64 64890)
def filmKnownF177n9 : Tab := (177, filmKnownA93, filmKnownR93) :: filmKnownF177n8
theorem filmKnown_f177n9 : TabOk Tryz.prog filmKnownF177n9 := tabOk_cons ((exFT_ok evEnv_ok filmKnown_tab93 1000 60).1 _ _ _ filmKnown_c93) filmKnown_f177n8
def filmKnownTab94 : Tab2 := [(82, filmKnownF82n6), (47, filmKnownF47n1), (19, filmKnownF19n1), (49, filmKnownF49n29), (8, filmKnownF8n1), (135, filmKnownF135n1), (24, filmKnownF24n1), (88, filmKnownF88n1), (29, filmKnownF29n1), (34, filmKnownF34n27), (117, filmKnownF117n6), (195, filmKnownF195n5), (174, filmKnownF174n3), (93, filmKnownF93n2), (177, filmKnownF177n9)]
theorem filmKnown_tab94 : Tab2Ok Tryz.prog filmKnownTab94 := tab2Ok_cons filmKnown_f82n6 <| tab2Ok_cons filmKnown_f47n1 <| tab2Ok_cons filmKnown_f19n1 <| tab2Ok_cons filmKnown_f49n29 <| tab2Ok_cons filmKnown_f8n1 <| tab2Ok_cons filmKnown_f135n1 <| tab2Ok_cons filmKnown_f24n1 <| tab2Ok_cons filmKnown_f88n1 <| tab2Ok_cons filmKnown_f29n1 <| tab2Ok_cons filmKnown_f34n27 <| tab2Ok_cons filmKnown_f117n6 <| tab2Ok_cons filmKnown_f195n5 <| tab2Ok_cons filmKnown_f174n3 <| tab2Ok_cons filmKnown_f93n2 <| tab2Ok_cons filmKnown_f177n9 <| tab2Ok_nil
/-- num.Floor: 35 operations. -/
theorem filmKnown_c94 : (exFT evEnv filmKnownTab94 1000 60).1 34 filmKnownA94 = some filmKnownR94 := by kernel_rfl
def filmKnownA95 : List PV := [.agg [.v (.int .i64 64890), .v (.int .i64 65536), .v (.bool false)], .agg [.v (.int .i64 65536), .v (.int .i64 65536), .v (.bool false)]]
def filmKnownR95 : PV := .agg [.v (.int .i64 64890), .v (.int .i64 65536), .v (.bool false)]
def filmKnownF34n28 : Tab := (34, filmKnownA94, filmKnownR94) :: filmKnownF34n27
theorem filmKnown_f34n28 : TabOk Tryz.prog filmKnownF34n28 := tabOk_cons ((exFT_ok evEnv_ok filmKnown_tab94 1000 60).1 _ _ _ filmKnown_c94) filmKnown_f34n27
def filmKnownTab95 : Tab2 := [(82, filmKnownF82n6), (47, filmKnownF47n1), (19, filmKnownF19n1), (49, filmKnownF49n29), (8, filmKnownF8n1), (135, filmKnownF135n1), (24, filmKnownF24n1), (88, filmKnownF88n1), (29, filmKnownF29n1), (34, filmKnownF34n28), (117, filmKnownF117n6), (195, filmKnownF195n5), (174, filmKnownF174n3), (93, filmKnownF93n2), (177, filmKnownF177n9)]
theorem filmKnown_tab95 : Tab2Ok Tryz.prog filmKnownTab95 := tab2Ok_cons filmKnown_f82n6 <| tab2Ok_cons filmKnown_f47n1 <| tab2Ok_cons filmKnown_f19n1 <| tab2Ok_cons filmKnown_f49n29 <| tab2Ok_cons filmKnown_f8n1 <| tab2Ok_cons filmKnown_f135n1 <| tab2Ok_cons filmKnown_f24n1 <| tab2Ok_cons filmKnown_f88n1 <| tab2Ok_cons filmKnown_f29n1 <| tab2Ok_cons filmKnown_f34n28 <| tab2Ok_cons filmKnown_f117n6 <| tab2Ok_cons filmKnown_f195n5 <| tab2Ok_cons filmKnown_f174n3 <| tab2Ok_cons filmKnown_f93n2 <| tab2Ok_cons filmKnown_f177n9 <| tab2Ok_nil
/-- iv.Mul: 42 operations. -/
theorem filmKnown_c95 : (exFT evEnv filmKnownTab95 1000 60).1 177 filmKnownA95 = some filmKnownR95 := by kernel_rfl
def filmKnownA96 : List PV := [.v (.int .i64 84279296), .v (.int .i64 65536)]
def filmKnownR96 : PV := .v (.int .i64 1286)
def filmKnownF177n10 : Tab := (177, filmKnownA95, filmKnownR95) :: filmKnownF177n9
theorem filmKnown_f177n10 : TabOk Tryz.prog filmKnownF177n10 := tabOk_cons ((exFT_ok evEnv_ok filmKnown_tab95 1000 60).1 _ _ _ filmKnown_c95) filmKnown_f177n9
def filmKnownTab96 : Tab2 := [(82, filmKnownF82n6), (47, filmKnownF47n1), (19, filmKnownF19n1), (49, filmKnownF49n29), (8, filmKnownF8n1), (135, filmKnownF135n1), (24, filmKnownF24n1), (88, filmKnownF88n1), (29, filmKnownF29n1), (34, filmKnownF34n28), (117, filmKnownF117n6), (195, filmKnownF195n5), (174, filmKnownF174n3), (93, filmKnownF93n2), (177, filmKnownF177n10)]
theorem filmKnown_tab96 : Tab2Ok Tryz.prog filmKnownTab96 := tab2Ok_cons filmKnown_f82n6 <| tab2Ok_cons filmKnown_f47n1 <| tab2Ok_cons filmKnown_f19n1 <| tab2Ok_cons filmKnown_f49n29 <| tab2Ok_cons filmKnown_f8n1 <| tab2Ok_cons filmKnown_f135n1 <| tab2Ok_cons filmKnown_f24n1 <| tab2Ok_cons filmKnown_f88n1 <| tab2Ok_cons filmKnown_f29n1 <| tab2Ok_cons filmKnown_f34n28 <| tab2Ok_cons filmKnown_f117n6 <| tab2Ok_cons filmKnown_f195n5 <| tab2Ok_cons filmKnown_f174n3 <| tab2Ok_cons filmKnown_f93n2 <| tab2Ok_cons filmKnown_f177n10 <| tab2Ok_nil
/-- num.Floor: 35 operations. -/
theorem filmKnown_c96 : (exFT evEnv filmKnownTab96 1000 60).1 34 filmKnownA96 = some filmKnownR96 := by kernel_rfl
def filmKnownA97 : List PV := [.v (.int .i64 1286)]
def filmKnownR97 : PV := .v (.bool true)
def filmKnownF34n29 : Tab := (34, filmKnownA96, filmKnownR96) :: filmKnownF34n28
theorem filmKnown_f34n29 : TabOk Tryz.prog filmKnownF34n29 := tabOk_cons ((exFT_ok evEnv_ok filmKnown_tab96 1000 60).1 _ _ _ filmKnown_c96) filmKnown_f34n28
def filmKnownTab97 : Tab2 := [(82, filmKnownF82n6), (47, filmKnownF47n1), (19, filmKnownF19n1), (49, filmKnownF49n29), (8, filmKnownF8n1), (135, filmKnownF135n1), (24, filmKnownF24n1), (88, filmKnownF88n1), (29, filmKnownF29n1), (34, filmKnownF34n29), (117, filmKnownF117n6), (195, filmKnownF195n5), (174, filmKnownF174n3), (93, filmKnownF93n2), (177, filmKnownF177n10)]
theorem filmKnown_tab97 : Tab2Ok Tryz.prog filmKnownTab97 := tab2Ok_cons filmKnown_f82n6 <| tab2Ok_cons filmKnown_f47n1 <| tab2Ok_cons filmKnown_f19n1 <| tab2Ok_cons filmKnown_f49n29 <| tab2Ok_cons filmKnown_f8n1 <| tab2Ok_cons filmKnown_f135n1 <| tab2Ok_cons filmKnown_f24n1 <| tab2Ok_cons filmKnown_f88n1 <| tab2Ok_cons filmKnown_f29n1 <| tab2Ok_cons filmKnown_f34n29 <| tab2Ok_cons filmKnown_f117n6 <| tab2Ok_cons filmKnown_f195n5 <| tab2Ok_cons filmKnown_f174n3 <| tab2Ok_cons filmKnown_f93n2 <| tab2Ok_cons filmKnown_f177n10 <| tab2Ok_nil
/-- num.In: 18 operations. -/
theorem filmKnown_c97 : (exFT evEnv filmKnownTab97 1000 60).1 49 filmKnownA97 = some filmKnownR97 := by kernel_rfl
def filmKnownA98 : List PV := [.v (.int .i64 (-1286))]
def filmKnownR98 : PV := .v (.bool true)
def filmKnownF49n30 : Tab := (49, filmKnownA97, filmKnownR97) :: filmKnownF49n29
theorem filmKnown_f49n30 : TabOk Tryz.prog filmKnownF49n30 := tabOk_cons ((exFT_ok evEnv_ok filmKnown_tab97 1000 60).1 _ _ _ filmKnown_c97) filmKnown_f49n29
def filmKnownTab98 : Tab2 := [(82, filmKnownF82n6), (47, filmKnownF47n1), (19, filmKnownF19n1), (49, filmKnownF49n30), (8, filmKnownF8n1), (135, filmKnownF135n1), (24, filmKnownF24n1), (88, filmKnownF88n1), (29, filmKnownF29n1), (34, filmKnownF34n29), (117, filmKnownF117n6), (195, filmKnownF195n5), (174, filmKnownF174n3), (93, filmKnownF93n2), (177, filmKnownF177n10)]
theorem filmKnown_tab98 : Tab2Ok Tryz.prog filmKnownTab98 := tab2Ok_cons filmKnown_f82n6 <| tab2Ok_cons filmKnown_f47n1 <| tab2Ok_cons filmKnown_f19n1 <| tab2Ok_cons filmKnown_f49n30 <| tab2Ok_cons filmKnown_f8n1 <| tab2Ok_cons filmKnown_f135n1 <| tab2Ok_cons filmKnown_f24n1 <| tab2Ok_cons filmKnown_f88n1 <| tab2Ok_cons filmKnown_f29n1 <| tab2Ok_cons filmKnown_f34n29 <| tab2Ok_cons filmKnown_f117n6 <| tab2Ok_cons filmKnown_f195n5 <| tab2Ok_cons filmKnown_f174n3 <| tab2Ok_cons filmKnown_f93n2 <| tab2Ok_cons filmKnown_f177n10 <| tab2Ok_nil
/-- num.In: 48 operations. -/
theorem filmKnown_c98 : (exFT evEnv filmKnownTab98 1000 60).1 49 filmKnownA98 = some filmKnownR98 := by kernel_rfl
def filmKnownA99 : List PV := [.v (.int .i64 429522944), .v (.int .i64 65536)]
def filmKnownR99 : PV := .v (.int .i64 6554)
def filmKnownF49n31 : Tab := (49, filmKnownA98, filmKnownR98) :: filmKnownF49n30
theorem filmKnown_f49n31 : TabOk Tryz.prog filmKnownF49n31 := tabOk_cons ((exFT_ok evEnv_ok filmKnown_tab98 1000 60).1 _ _ _ filmKnown_c98) filmKnown_f49n30
def filmKnownTab99 : Tab2 := [(82, filmKnownF82n6), (47, filmKnownF47n1), (19, filmKnownF19n1), (49, filmKnownF49n31), (8, filmKnownF8n1), (135, filmKnownF135n1), (24, filmKnownF24n1), (88, filmKnownF88n1), (29, filmKnownF29n1), (34, filmKnownF34n29), (117, filmKnownF117n6), (195, filmKnownF195n5), (174, filmKnownF174n3), (93, filmKnownF93n2), (177, filmKnownF177n10)]
theorem filmKnown_tab99 : Tab2Ok Tryz.prog filmKnownTab99 := tab2Ok_cons filmKnown_f82n6 <| tab2Ok_cons filmKnown_f47n1 <| tab2Ok_cons filmKnown_f19n1 <| tab2Ok_cons filmKnown_f49n31 <| tab2Ok_cons filmKnown_f8n1 <| tab2Ok_cons filmKnown_f135n1 <| tab2Ok_cons filmKnown_f24n1 <| tab2Ok_cons filmKnown_f88n1 <| tab2Ok_cons filmKnown_f29n1 <| tab2Ok_cons filmKnown_f34n29 <| tab2Ok_cons filmKnown_f117n6 <| tab2Ok_cons filmKnown_f195n5 <| tab2Ok_cons filmKnown_f174n3 <| tab2Ok_cons filmKnown_f93n2 <| tab2Ok_cons filmKnown_f177n10 <| tab2Ok_nil
/-- num.Floor: 35 operations. -/
theorem filmKnown_c99 : (exFT evEnv filmKnownTab99 1000 60).1 34 filmKnownA99 = some filmKnownR99 := by kernel_rfl
def filmKnownA100 : List PV := [.agg [.v (.int .i64 0), .v (.int .i64 6554), .v (.bool false)], .agg [.v (.int .i64 65536), .v (.int .i64 65536), .v (.bool false)]]
def filmKnownR100 : PV := .agg [.v (.int .i64 0), .v (.int .i64 6554), .v (.bool false)]
def filmKnownF34n30 : Tab := (34, filmKnownA99, filmKnownR99) :: filmKnownF34n29
theorem filmKnown_f34n30 : TabOk Tryz.prog filmKnownF34n30 := tabOk_cons ((exFT_ok evEnv_ok filmKnown_tab99 1000 60).1 _ _ _ filmKnown_c99) filmKnown_f34n29
def filmKnownTab100 : Tab2 := [(82, filmKnownF82n6), (47, filmKnownF47n1), (19, filmKnownF19n1), (49, filmKnownF49n31), (8, filmKnownF8n1), (135, filmKnownF135n1), (24, filmKnownF24n1), (88, filmKnownF88n1), (29, filmKnownF29n1), (34, filmKnownF34n30), (117, filmKnownF117n6), (195, filmKnownF195n5), (174, filmKnownF174n3), (93, filmKnownF93n2), (177, filmKnownF177n10)]
theorem filmKnown_tab100 : Tab2Ok Tryz.prog filmKnownTab100 := tab2Ok_cons filmKnown_f82n6 <| tab2Ok_cons filmKnown_f47n1 <| tab2Ok_cons filmKnown_f19n1 <| tab2Ok_cons filmKnown_f49n31 <| tab2Ok_cons filmKnown_f8n1 <| tab2Ok_cons filmKnown_f135n1 <| tab2Ok_cons filmKnown_f24n1 <| tab2Ok_cons filmKnown_f88n1 <| tab2Ok_cons filmKnown_f29n1 <| tab2Ok_cons filmKnown_f34n30 <| tab2Ok_cons filmKnown_f117n6 <| tab2Ok_cons filmKnown_f195n5 <| tab2Ok_cons filmKnown_f174n3 <| tab2Ok_cons filmKnown_f93n2 <| tab2Ok_cons filmKnown_f177n10 <| tab2Ok_nil
/-- iv.Mul: 42 operations. -/
theorem filmKnown_c100 : (exFT evEnv filmKnownTab100 1000 60).1 177 filmKnownA100 = some filmKnownR100 := by kernel_rfl
def filmKnownA101 : List PV := [.v (.int .i64 (-647))]
def filmKnownR101 : PV := .v (.bool true)
def filmKnownF177n11 : Tab := (177, filmKnownA100, filmKnownR100) :: filmKnownF177n10
theorem filmKnown_f177n11 : TabOk Tryz.prog filmKnownF177n11 := tabOk_cons ((exFT_ok evEnv_ok filmKnown_tab100 1000 60).1 _ _ _ filmKnown_c100) filmKnown_f177n10
def filmKnownTab101 : Tab2 := [(82, filmKnownF82n6), (47, filmKnownF47n1), (19, filmKnownF19n1), (49, filmKnownF49n31), (8, filmKnownF8n1), (135, filmKnownF135n1), (24, filmKnownF24n1), (88, filmKnownF88n1), (29, filmKnownF29n1), (34, filmKnownF34n30), (117, filmKnownF117n6), (195, filmKnownF195n5), (174, filmKnownF174n3), (93, filmKnownF93n2), (177, filmKnownF177n11)]
theorem filmKnown_tab101 : Tab2Ok Tryz.prog filmKnownTab101 := tab2Ok_cons filmKnown_f82n6 <| tab2Ok_cons filmKnown_f47n1 <| tab2Ok_cons filmKnown_f19n1 <| tab2Ok_cons filmKnown_f49n31 <| tab2Ok_cons filmKnown_f8n1 <| tab2Ok_cons filmKnown_f135n1 <| tab2Ok_cons filmKnown_f24n1 <| tab2Ok_cons filmKnown_f88n1 <| tab2Ok_cons filmKnown_f29n1 <| tab2Ok_cons filmKnown_f34n30 <| tab2Ok_cons filmKnown_f117n6 <| tab2Ok_cons filmKnown_f195n5 <| tab2Ok_cons filmKnown_f174n3 <| tab2Ok_cons filmKnown_f93n2 <| tab2Ok_cons filmKnown_f177n11 <| tab2Ok_nil
/-- num.In: 52 operations. -/
theorem filmKnown_c101 : (exFT evEnv filmKnownTab101 1000 60).1 49 filmKnownA101 = some filmKnownR101 := by kernel_rfl
def filmKnownA102 : List PV := [.agg [.v (.int .i64 0), .v (.int .i64 0), .v (.bool false)], .agg [.v (.int .i64 (-647)), .v (.int .i64 646), .v (.bool false)]]
def filmKnownR102 : PV := .agg [.v (.int .i64 0), .v (.int .i64 0), .v (.bool false)]
def filmKnownF49n32 : Tab := (49, filmKnownA101, filmKnownR101) :: filmKnownF49n31
theorem filmKnown_f49n32 : TabOk Tryz.prog filmKnownF49n32 := tabOk_cons ((exFT_ok evEnv_ok filmKnown_tab101 1000 60).1 _ _ _ filmKnown_c101) filmKnown_f49n31
def filmKnownTab102 : Tab2 := [(82, filmKnownF82n6), (47, filmKnownF47n1), (19, filmKnownF19n1), (49, filmKnownF49n32), (8, filmKnownF8n1), (135, filmKnownF135n1), (24, filmKnownF24n1), (88, filmKnownF88n1), (29, filmKnownF29n1), (34, filmKnownF34n30), (117, filmKnownF117n6), (195, filmKnownF195n5), (174, filmKnownF174n3), (93, filmKnownF93n2), (177, filmKnownF177n11)]
theorem filmKnown_tab102 : Tab2Ok Tryz.prog filmKnownTab102 := tab2Ok_cons filmKnown_f82n6 <| tab2Ok_cons filmKnown_f47n1 <| tab2Ok_cons filmKnown_f19n1 <| tab2Ok_cons filmKnown_f49n32 <| tab2Ok_cons filmKnown_f8n1 <| tab2Ok_cons filmKnown_f135n1 <| tab2Ok_cons filmKnown_f24n1 <| tab2Ok_cons filmKnown_f88n1 <| tab2Ok_cons filmKnown_f29n1 <| tab2Ok_cons filmKnown_f34n30 <| tab2Ok_cons filmKnown_f117n6 <| tab2Ok_cons filmKnown_f195n5 <| tab2Ok_cons filmKnown_f174n3 <| tab2Ok_cons filmKnown_f93n2 <| tab2Ok_cons filmKnown_f177n11 <| tab2Ok_nil
/-- iv.Mul: 82 operations. -/
theorem filmKnown_c102 : (exFT evEnv filmKnownTab102 1000 60).1 177 filmKnownA102 = some filmKnownR102 := by kernel_rfl
def filmKnownA103 : List PV := [.v (.int .i64 (-42401792)), .v (.int .i64 65536)]
def filmKnownR103 : PV := .v (.int .i64 (-647))
def filmKnownF177n12 : Tab := (177, filmKnownA102, filmKnownR102) :: filmKnownF177n11
theorem filmKnown_f177n12 : TabOk Tryz.prog filmKnownF177n12 := tabOk_cons ((exFT_ok evEnv_ok filmKnown_tab102 1000 60).1 _ _ _ filmKnown_c102) filmKnown_f177n11
def filmKnownTab103 : Tab2 := [(82, filmKnownF82n6), (47, filmKnownF47n1), (19, filmKnownF19n1), (49, filmKnownF49n32), (8, filmKnownF8n1), (135, filmKnownF135n1), (24, filmKnownF24n1), (88, filmKnownF88n1), (29, filmKnownF29n1), (34, filmKnownF34n30), (117, filmKnownF117n6), (195, filmKnownF195n5), (174, filmKnownF174n3), (93, filmKnownF93n2), (177, filmKnownF177n12)]
theorem filmKnown_tab103 : Tab2Ok Tryz.prog filmKnownTab103 := tab2Ok_cons filmKnown_f82n6 <| tab2Ok_cons filmKnown_f47n1 <| tab2Ok_cons filmKnown_f19n1 <| tab2Ok_cons filmKnown_f49n32 <| tab2Ok_cons filmKnown_f8n1 <| tab2Ok_cons filmKnown_f135n1 <| tab2Ok_cons filmKnown_f24n1 <| tab2Ok_cons filmKnown_f88n1 <| tab2Ok_cons filmKnown_f29n1 <| tab2Ok_cons filmKnown_f34n30 <| tab2Ok_cons filmKnown_f117n6 <| tab2Ok_cons filmKnown_f195n5 <| tab2Ok_cons filmKnown_f174n3 <| tab2Ok_cons filmKnown_f93n2 <| tab2Ok_cons filmKnown_f177n12 <| tab2Ok_nil
/-- num.Floor: 35 operations. -/
theorem filmKnown_c103 : (exFT evEnv filmKnownTab103 1000 60).1 34 filmKnownA103 = some filmKnownR103 := by kernel_rfl
def filmKnownA104 : List PV := [.v (.int .i64 42336256), .v (.int .i64 65536)]
def filmKnownR104 : PV := .v (.int .i64 646)
def filmKnownF34n31 : Tab := (34, filmKnownA103, filmKnownR103) :: filmKnownF34n30
theorem filmKnown_f34n31 : TabOk Tryz.prog filmKnownF34n31 := tabOk_cons ((exFT_ok evEnv_ok filmKnown_tab103 1000 60).1 _ _ _ filmKnown_c103) filmKnown_f34n30
def filmKnownTab104 : Tab2 := [(82, filmKnownF82n6), (47, filmKnownF47n1), (19, filmKnownF19n1), (49, filmKnownF49n32), (8, filmKnownF8n1), (135, filmKnownF135n1), (24, filmKnownF24n1), (88, filmKnownF88n1), (29, filmKnownF29n1), (34, filmKnownF34n31), (117, filmKnownF117n6), (195, filmKnownF195n5), (174, filmKnownF174n3), (93, filmKnownF93n2), (177, filmKnownF177n12)]
theorem filmKnown_tab104 : Tab2Ok Tryz.prog filmKnownTab104 := tab2Ok_cons filmKnown_f82n6 <| tab2Ok_cons filmKnown_f47n1 <| tab2Ok_cons filmKnown_f19n1 <| tab2Ok_cons filmKnown_f49n32 <| tab2Ok_cons filmKnown_f8n1 <| tab2Ok_cons filmKnown_f135n1 <| tab2Ok_cons filmKnown_f24n1 <| tab2Ok_cons filmKnown_f88n1 <| tab2Ok_cons filmKnown_f29n1 <| tab2Ok_cons filmKnown_f34n31 <| tab2Ok_cons filmKnown_f117n6 <| tab2Ok_cons filmKnown_f195n5 <| tab2Ok_cons filmKnown_f174n3 <| tab2Ok_cons filmKnown_f93n2 <| tab2Ok_cons filmKnown_f177n12 <| tab2Ok_nil
/-- num.Floor: 35 operations. -/
theorem filmKnown_c104 : (exFT evEnv filmKnownTab104 1000 60).1 34 filmKnownA104 = some filmKnownR104 := by kernel_rfl
def filmKnownA105 : List PV := [.v (.int .i64 646)]
def filmKnownR105 : PV := .v (.bool true)
def filmKnownF34n32 : Tab := (34, filmKnownA104, filmKnownR104) :: filmKnownF34n31
theorem filmKnown_f34n32 : TabOk Tryz.prog filmKnownF34n32 := tabOk_cons ((exFT_ok evEnv_ok filmKnown_tab104 1000 60).1 _ _ _ filmKnown_c104) filmKnown_f34n31
def filmKnownTab105 : Tab2 := [(82, filmKnownF82n6), (47, filmKnownF47n1), (19, filmKnownF19n1), (49, filmKnownF49n32), (8, filmKnownF8n1), (135, filmKnownF135n1), (24, filmKnownF24n1), (88, filmKnownF88n1), (29, filmKnownF29n1), (34, filmKnownF34n32), (117, filmKnownF117n6), (195, filmKnownF195n5), (174, filmKnownF174n3), (93, filmKnownF93n2), (177, filmKnownF177n12)]
theorem filmKnown_tab105 : Tab2Ok Tryz.prog filmKnownTab105 := tab2Ok_cons filmKnown_f82n6 <| tab2Ok_cons filmKnown_f47n1 <| tab2Ok_cons filmKnown_f19n1 <| tab2Ok_cons filmKnown_f49n32 <| tab2Ok_cons filmKnown_f8n1 <| tab2Ok_cons filmKnown_f135n1 <| tab2Ok_cons filmKnown_f24n1 <| tab2Ok_cons filmKnown_f88n1 <| tab2Ok_cons filmKnown_f29n1 <| tab2Ok_cons filmKnown_f34n32 <| tab2Ok_cons filmKnown_f117n6 <| tab2Ok_cons filmKnown_f195n5 <| tab2Ok_cons filmKnown_f174n3 <| tab2Ok_cons filmKnown_f93n2 <| tab2Ok_cons filmKnown_f177n12 <| tab2Ok_nil
/-- num.In: 18 operations. -/
theorem filmKnown_c105 : (exFT evEnv filmKnownTab105 1000 60).1 49 filmKnownA105 = some filmKnownR105 := by kernel_rfl
def filmKnownA106 : List PV := [.v (.int .i64 64243)]
def filmKnownR106 : PV := .v (.bool true)
def filmKnownF49n33 : Tab := (49, filmKnownA105, filmKnownR105) :: filmKnownF49n32
theorem filmKnown_f49n33 : TabOk Tryz.prog filmKnownF49n33 := tabOk_cons ((exFT_ok evEnv_ok filmKnown_tab105 1000 60).1 _ _ _ filmKnown_c105) filmKnown_f49n32
def filmKnownTab106 : Tab2 := [(82, filmKnownF82n6), (47, filmKnownF47n1), (19, filmKnownF19n1), (49, filmKnownF49n33), (8, filmKnownF8n1), (135, filmKnownF135n1), (24, filmKnownF24n1), (88, filmKnownF88n1), (29, filmKnownF29n1), (34, filmKnownF34n32), (117, filmKnownF117n6), (195, filmKnownF195n5), (174, filmKnownF174n3), (93, filmKnownF93n2), (177, filmKnownF177n12)]
theorem filmKnown_tab106 : Tab2Ok Tryz.prog filmKnownTab106 := tab2Ok_cons filmKnown_f82n6 <| tab2Ok_cons filmKnown_f47n1 <| tab2Ok_cons filmKnown_f19n1 <| tab2Ok_cons filmKnown_f49n33 <| tab2Ok_cons filmKnown_f8n1 <| tab2Ok_cons filmKnown_f135n1 <| tab2Ok_cons filmKnown_f24n1 <| tab2Ok_cons filmKnown_f88n1 <| tab2Ok_cons filmKnown_f29n1 <| tab2Ok_cons filmKnown_f34n32 <| tab2Ok_cons filmKnown_f117n6 <| tab2Ok_cons filmKnown_f195n5 <| tab2Ok_cons filmKnown_f174n3 <| tab2Ok_cons filmKnown_f93n2 <| tab2Ok_cons filmKnown_f177n12 <| tab2Ok_nil
/-- num.In: 52 operations. -/
theorem filmKnown_c106 : (exFT evEnv filmKnownTab106 1000 60).1 49 filmKnownA106 = some filmKnownR106 := by kernel_rfl
def filmKnownA107 : List PV := [.agg [.v (.bool false), .v (.bool false), .v (.int .i64 0), .v (.int .i64 0), .v (.bool false), .v (.int .i64 65536), .v (.int .i64 65536), .v (.bool false), .v (.int .i64 0), .v (.int .i64 0), .v (.bool false), .v (.int .i64 0), .v (.int .i64 0), .v (.bool false), .v (.int .i64 655360), .v (.int .i64 655360), .v (.bool false), .v (.int .i64 6553600), .v (.int .i64 6553600), .v (.bool false), .v (.int .i64 65536), .v (.int .i64 65536), .v (.bool false)], .agg [.v (.int .i64 0), .v (.int .i64 0), .v (.bool false), .v (.int .i64 0), .v (.int .i64 0), .v (.bool false), .v (.int .i64 0), .v (.int .i64 0), .v (.bool false), .v (.int .i64 0), .v (.int .i64 6554), .v (.bool false), .v (.int .i64 0), .v (.int .i64 6554), .v (.bool false), .v (.int .i64 64890), .v (.int .i64 65536), .v (.bool false)]]
def filmKnownR107 : PV := .tup [.agg [.v (.int .i64 0), .v (.int .i64 66194), .v (.bool false), .v (.int .i64 0), .v (.int .i64 66194), .v (.bool false), .v (.int .i64 648900), .v (.int .i64 661890), .v (.bool false), .v (.int .i64 0), .v (.int .i64 6554), .v (.bool false), .v (.int .i64 0), .v (.int .i64 6554), .v (.bool false), .v (.int .i64 64243), .v (.int .i64 66182), .v (.bool false)], .v (.int .i64 1)]
def filmKnownF49n34 : Tab := (49, filmKnownA106, filmKnownR106) :: filmKnownF49n33
theorem filmKnown_f49n34 : TabOk Tryz.prog filmKnownF49n34 := tabOk_cons ((exFT_ok evEnv_ok filmKnown_tab106 1000 60).1 _ _ _ filmKnown_c106) filmKnown_f49n33
def filmKnownTab107 : Tab2 := [(82, filmKnownF82n6), (47, filmKnownF47n1), (19, filmKnownF19n1), (49, filmKnownF49n34), (8, filmKnownF8n1), (135, filmKnownF135n1), (24, filmKnownF24n1), (88, filmKnownF88n1), (29, filmKnownF29n1), (34, filmKnownF34n32), (117, filmKnownF117n6), (195, filmKnownF195n5), (174, filmKnownF174n3), (93, filmKnownF93n2), (177, filmKnownF177n12)]
theorem filmKnown_tab107 : Tab2Ok Tryz.prog filmKnownTab107 := tab2Ok_cons filmKnown_f82n6 <| tab2Ok_cons filmKnown_f47n1 <| tab2Ok_cons filmKnown_f19n1 <| tab2Ok_cons filmKnown_f49n34 <| tab2Ok_cons filmKnown_f8n1 <| tab2Ok_cons filmKnown_f135n1 <| tab2Ok_cons filmKnown_f24n1 <| tab2Ok_cons filmKnown_f88n1 <| tab2Ok_cons filmKnown_f29n1 <| tab2Ok_cons filmKnown_f34n32 <| tab2Ok_cons filmKnown_f117n6 <| tab2Ok_cons filmKnown_f195n5 <| tab2Ok_cons filmKnown_f174n3 <| tab2Ok_cons filmKnown_f93n2 <| tab2Ok_cons filmKnown_f177n12 <| tab2Ok_nil
/-- step.Go: 868 operations. -/
theorem filmKnown_c107 : (exFT evEnv filmKnownTab107 1000 60).1 140 filmKnownA107 = some filmKnownR107 := by kernel_rfl
def filmKnownA108 : List PV := []
def filmKnownR108 : PV := .agg [.v (.int .i64 0), .v (.int .i64 0), .v (.bool true)]
def filmKnownF140n1 : Tab := (140, filmKnownA107, filmKnownR107) :: []
theorem filmKnown_f140n1 : TabOk Tryz.prog filmKnownF140n1 := tabOk_cons ((exFT_ok evEnv_ok filmKnown_tab107 1000 60).1 _ _ _ filmKnown_c107) tabOk_nil
def filmKnownTab108 : Tab2 := [(82, filmKnownF82n6), (47, filmKnownF47n1), (19, filmKnownF19n1), (49, filmKnownF49n34), (8, filmKnownF8n1), (135, filmKnownF135n1), (24, filmKnownF24n1), (88, filmKnownF88n1), (29, filmKnownF29n1), (34, filmKnownF34n32), (117, filmKnownF117n6), (195, filmKnownF195n5), (174, filmKnownF174n3), (93, filmKnownF93n2), (177, filmKnownF177n12), (140, filmKnownF140n1)]
theorem filmKnown_tab108 : Tab2Ok Tryz.prog filmKnownTab108 := tab2Ok_cons filmKnown_f82n6 <| tab2Ok_cons filmKnown_f47n1 <| tab2Ok_cons filmKnown_f19n1 <| tab2Ok_cons filmKnown_f49n34 <| tab2Ok_cons filmKnown_f8n1 <| tab2Ok_cons filmKnown_f135n1 <| tab2Ok_cons filmKnown_f24n1 <| tab2Ok_cons filmKnown_f88n1 <| tab2Ok_cons filmKnown_f29n1 <| tab2Ok_cons filmKnown_f34n32 <| tab2Ok_cons filmKnown_f117n6 <| tab2Ok_cons filmKnown_f195n5 <| tab2Ok_cons filmKnown_f174n3 <| tab2Ok_cons filmKnown_f93n2 <| tab2Ok_cons filmKnown_f177n12 <| tab2Ok_cons filmKnown_f140n1 <| tab2Ok_nil
/-- iv.None: 29 operations. -/
theorem filmKnown_c108 : (exFT evEnv filmKnownTab108 1000 60).1 50 filmKnownA108 = some filmKnownR108 := by kernel_rfl
def filmKnownA109 : List PV := [.v (.int .i64 3276800), .v (.int .i64 1)]
def filmKnownR109 : PV := .v (.int .i64 3276800)
def filmKnownF50n1 : Tab := (50, filmKnownA108, filmKnownR108) :: []
theorem filmKnown_f50n1 : TabOk Tryz.prog filmKnownF50n1 := tabOk_cons ((exFT_ok evEnv_ok filmKnown_tab108 1000 60).1 _ _ _ filmKnown_c108) tabOk_nil
def filmKnownTab109 : Tab2 := [(82, filmKnownF82n6), (47, filmKnownF47n1), (19, filmKnownF19n1), (49, filmKnownF49n34), (8, filmKnownF8n1), (135, filmKnownF135n1), (24, filmKnownF24n1), (88, filmKnownF88n1), (29, filmKnownF29n1), (34, filmKnownF34n32), (117, filmKnownF117n6), (195, filmKnownF195n5), (174, filmKnownF174n3), (93, filmKnownF93n2), (177, filmKnownF177n12), (140, filmKnownF140n1), (50, filmKnownF50n1)]
theorem filmKnown_tab109 : Tab2Ok Tryz.prog filmKnownTab109 := tab2Ok_cons filmKnown_f82n6 <| tab2Ok_cons filmKnown_f47n1 <| tab2Ok_cons filmKnown_f19n1 <| tab2Ok_cons filmKnown_f49n34 <| tab2Ok_cons filmKnown_f8n1 <| tab2Ok_cons filmKnown_f135n1 <| tab2Ok_cons filmKnown_f24n1 <| tab2Ok_cons filmKnown_f88n1 <| tab2Ok_cons filmKnown_f29n1 <| tab2Ok_cons filmKnown_f34n32 <| tab2Ok_cons filmKnown_f117n6 <| tab2Ok_cons filmKnown_f195n5 <| tab2Ok_cons filmKnown_f174n3 <| tab2Ok_cons filmKnown_f93n2 <| tab2Ok_cons filmKnown_f177n12 <| tab2Ok_cons filmKnown_f140n1 <| tab2Ok_cons filmKnown_f50n1 <| tab2Ok_nil
/-- num.Floor: 30 operations. -/
theorem filmKnown_c109 : (exFT evEnv filmKnownTab109 1000 60).1 34 filmKnownA109 = some filmKnownR109 := by kernel_rfl
def filmKnownA110 : List PV := [.v (.int .i64 3276800)]
def filmKnownR110 : PV := .v (.bool true)
def filmKnownF34n33 : Tab := (34, filmKnownA109, filmKnownR109) :: filmKnownF34n32
theorem filmKnown_f34n33 : TabOk Tryz.prog filmKnownF34n33 := tabOk_cons ((exFT_ok evEnv_ok filmKnown_tab109 1000 60).1 _ _ _ filmKnown_c109) filmKnown_f34n32
def filmKnownTab110 : Tab2 := [(82, filmKnownF82n6), (47, filmKnownF47n1), (19, filmKnownF19n1), (49, filmKnownF49n34), (8, filmKnownF8n1), (135, filmKnownF135n1), (24, filmKnownF24n1), (88, filmKnownF88n1), (29, filmKnownF29n1), (34, filmKnownF34n33), (117, filmKnownF117n6), (195, filmKnownF195n5), (174, filmKnownF174n3), (93, filmKnownF93n2), (177, filmKnownF177n12), (140, filmKnownF140n1), (50, filmKnownF50n1)]
theorem filmKnown_tab110 : Tab2Ok Tryz.prog filmKnownTab110 := tab2Ok_cons filmKnown_f82n6 <| tab2Ok_cons filmKnown_f47n1 <| tab2Ok_cons filmKnown_f19n1 <| tab2Ok_cons filmKnown_f49n34 <| tab2Ok_cons filmKnown_f8n1 <| tab2Ok_cons filmKnown_f135n1 <| tab2Ok_cons filmKnown_f24n1 <| tab2Ok_cons filmKnown_f88n1 <| tab2Ok_cons filmKnown_f29n1 <| tab2Ok_cons filmKnown_f34n33 <| tab2Ok_cons filmKnown_f117n6 <| tab2Ok_cons filmKnown_f195n5 <| tab2Ok_cons filmKnown_f174n3 <| tab2Ok_cons filmKnown_f93n2 <| tab2Ok_cons filmKnown_f177n12 <| tab2Ok_cons filmKnown_f140n1 <| tab2Ok_cons filmKnown_f50n1 <| tab2Ok_nil
/-- num.In: 40 operations. -/
theorem filmKnown_c110 : (exFT evEnv filmKnownTab110 1000 60).1 49 filmKnownA110 = some filmKnownR110 := by kernel_rfl
def filmKnownA111 : List PV := [.agg [.v (.int .i64 50), .v (.int .i64 0)]]
def filmKnownR111 : PV := .agg [.v (.int .i64 3276800), .v (.int .i64 3276800), .v (.bool false)]
def filmKnownF49n35 : Tab := (49, filmKnownA110, filmKnownR110) :: filmKnownF49n34
theorem filmKnown_f49n35 : TabOk Tryz.prog filmKnownF49n35 := tabOk_cons ((exFT_ok evEnv_ok filmKnown_tab110 1000 60).1 _ _ _ filmKnown_c110) filmKnown_f49n34
def filmKnownTab111 : Tab2 := [(82, filmKnownF82n6), (47, filmKnownF47n1), (19, filmKnownF19n1), (49, filmKnownF49n35), (8, filmKnownF8n1), (135, filmKnownF135n1), (24, filmKnownF24n1), (88, filmKnownF88n1), (29, filmKnownF29n1), (34, filmKnownF34n33), (117, filmKnownF117n6), (195, filmKnownF195n5), (174, filmKnownF174n3), (93, filmKnownF93n2), (177, filmKnownF177n12), (140, filmKnownF140n1), (50, filmKnownF50n1)]
theorem filmKnown_tab111 : Tab2Ok Tryz.prog filmKnownTab111 := tab2Ok_cons filmKnown_f82n6 <| tab2Ok_cons filmKnown_f47n1 <| tab2Ok_cons filmKnown_f19n1 <| tab2Ok_cons filmKnown_f49n35 <| tab2Ok_cons filmKnown_f8n1 <| tab2Ok_cons filmKnown_f135n1 <| tab2Ok_cons filmKnown_f24n1 <| tab2Ok_cons filmKnown_f88n1 <| tab2Ok_cons filmKnown_f29n1 <| tab2Ok_cons filmKnown_f34n33 <| tab2Ok_cons filmKnown_f117n6 <| tab2Ok_cons filmKnown_f195n5 <| tab2Ok_cons filmKnown_f174n3 <| tab2Ok_cons filmKnown_f93n2 <| tab2Ok_cons filmKnown_f177n12 <| tab2Ok_cons filmKnown_f140n1 <| tab2Ok_cons filmKnown_f50n1 <| tab2Ok_nil
/-- dec.Of: 37 operations. -/
theorem filmKnown_c111 : (exFT evEnv filmKnownTab111 1000 60).1 114 filmKnownA111 = some filmKnownR111 := by kernel_rfl
def filmKnownA112 : List PV := [.v (.int .i64 (-661890))]
def filmKnownR112 : PV := .v (.bool true)
def filmKnownF114n1 : Tab := (114, filmKnownA111, filmKnownR111) :: []
theorem filmKnown_f114n1 : TabOk Tryz.prog filmKnownF114n1 := tabOk_cons ((exFT_ok evEnv_ok filmKnown_tab111 1000 60).1 _ _ _ filmKnown_c111) tabOk_nil
def filmKnownTab112 : Tab2 := [(82, filmKnownF82n6), (47, filmKnownF47n1), (19, filmKnownF19n1), (49, filmKnownF49n35), (8, filmKnownF8n1), (135, filmKnownF135n1), (24, filmKnownF24n1), (88, filmKnownF88n1), (29, filmKnownF29n1), (34, filmKnownF34n33), (117, filmKnownF117n6), (195, filmKnownF195n5), (174, filmKnownF174n3), (93, filmKnownF93n2), (177, filmKnownF177n12), (140, filmKnownF140n1), (50, filmKnownF50n1), (114, filmKnownF114n1)]
theorem filmKnown_tab112 : Tab2Ok Tryz.prog filmKnownTab112 := tab2Ok_cons filmKnown_f82n6 <| tab2Ok_cons filmKnown_f47n1 <| tab2Ok_cons filmKnown_f19n1 <| tab2Ok_cons filmKnown_f49n35 <| tab2Ok_cons filmKnown_f8n1 <| tab2Ok_cons filmKnown_f135n1 <| tab2Ok_cons filmKnown_f24n1 <| tab2Ok_cons filmKnown_f88n1 <| tab2Ok_cons filmKnown_f29n1 <| tab2Ok_cons filmKnown_f34n33 <| tab2Ok_cons filmKnown_f117n6 <| tab2Ok_cons filmKnown_f195n5 <| tab2Ok_cons filmKnown_f174n3 <| tab2Ok_cons filmKnown_f93n2 <| tab2Ok_cons filmKnown_f177n12 <| tab2Ok_cons filmKnown_f140n1 <| tab2Ok_cons filmKnown_f50n1 <| tab2Ok_cons filmKnown_f114n1 <| tab2Ok_nil
/-- num.In: 48 operations. -/
theorem filmKnown_c112 : (exFT evEnv filmKnownTab112 1000 60).1 49 filmKnownA112 = some filmKnownR112 := by kernel_rfl
def filmKnownA113 : List PV := [.v (.int .i64 2614910)]
def filmKnownR113 : PV := .v (.bool true)
def filmKnownF49n36 : Tab := (49, filmKnownA112, filmKnownR112) :: filmKnownF49n35
theorem filmKnown_f49n36 : TabOk Tryz.prog filmKnownF49n36 := tabOk_cons ((exFT_ok evEnv_ok filmKnown_tab112 1000 60).1 _ _ _ filmKnown_c112) filmKnown_f49n35
def filmKnownTab113 : Tab2 := [(82, filmKnownF82n6), (47, filmKnownF47n1), (19, filmKnownF19n1), (49, filmKnownF49n36), (8, filmKnownF8n1), (135, filmKnownF135n1), (24, filmKnownF24n1), (88, filmKnownF88n1), (29, filmKnownF29n1), (34, filmKnownF34n33), (117, filmKnownF117n6), (195, filmKnownF195n5), (174, filmKnownF174n3), (93, filmKnownF93n2), (177, filmKnownF177n12), (140, filmKnownF140n1), (50, filmKnownF50n1), (114, filmKnownF114n1)]
theorem filmKnown_tab113 : Tab2Ok Tryz.prog filmKnownTab113 := tab2Ok_cons filmKnown_f82n6 <| tab2Ok_cons filmKnown_f47n1 <| tab2Ok_cons filmKnown_f19n1 <| tab2Ok_cons filmKnown_f49n36 <| tab2Ok_cons filmKnown_f8n1 <| tab2Ok_cons filmKnown_f135n1 <| tab2Ok_cons filmKnown_f24n1 <| tab2Ok_cons filmKnown_f88n1 <| tab2Ok_cons filmKnown_f29n1 <| tab2Ok_cons filmKnown_f34n33 <| tab2Ok_cons filmKnown_f117n6 <| tab2Ok_cons filmKnown_f195n5 <| tab2Ok_cons filmKnown_f174n3 <| tab2Ok_cons filmKnown_f93n2 <| tab2Ok_cons filmKnown_f177n12 <| tab2Ok_cons filmKnown_f140n1 <| tab2Ok_cons filmKnown_f50n1 <| tab2Ok_cons filmKnown_f114n1 <| tab2Ok_nil
/-- num.In: 52 operations. -/
theorem filmKnown_c113 : (exFT evEnv filmKnownTab113 1000 60).1 49 filmKnownA113 = some filmKnownR113 := by kernel_rfl
def filmKnownA114 : List PV := [.v (.int .i64 171370741760), .v (.int .i64 64243)]
def filmKnownR114 : PV := .v (.int .i64 2667539)
def filmKnownF49n37 : Tab := (49, filmKnownA113, filmKnownR113) :: filmKnownF49n36
theorem filmKnown_f49n37 : TabOk Tryz.prog filmKnownF49n37 := tabOk_cons ((exFT_ok evEnv_ok filmKnown_tab113 1000 60).1 _ _ _ filmKnown_c113) filmKnown_f49n36
def filmKnownTab114 : Tab2 := [(82, filmKnownF82n6), (47, filmKnownF47n1), (19, filmKnownF19n1), (49, filmKnownF49n37), (8, filmKnownF8n1), (135, filmKnownF135n1), (24, filmKnownF24n1), (88, filmKnownF88n1), (29, filmKnownF29n1), (34, filmKnownF34n33), (117, filmKnownF117n6), (195, filmKnownF195n5), (174, filmKnownF174n3), (93, filmKnownF93n2), (177, filmKnownF177n12), (140, filmKnownF140n1), (50, filmKnownF50n1), (114, filmKnownF114n1)]
theorem filmKnown_tab114 : Tab2Ok Tryz.prog filmKnownTab114 := tab2Ok_cons filmKnown_f82n6 <| tab2Ok_cons filmKnown_f47n1 <| tab2Ok_cons filmKnown_f19n1 <| tab2Ok_cons filmKnown_f49n37 <| tab2Ok_cons filmKnown_f8n1 <| tab2Ok_cons filmKnown_f135n1 <| tab2Ok_cons filmKnown_f24n1 <| tab2Ok_cons filmKnown_f88n1 <| tab2Ok_cons filmKnown_f29n1 <| tab2Ok_cons filmKnown_f34n33 <| tab2Ok_cons filmKnown_f117n6 <| tab2Ok_cons filmKnown_f195n5 <| tab2Ok_cons filmKnown_f174n3 <| tab2Ok_cons filmKnown_f93n2 <| tab2Ok_cons filmKnown_f177n12 <| tab2Ok_cons filmKnown_f140n1 <| tab2Ok_cons filmKnown_f50n1 <| tab2Ok_cons filmKnown_f114n1 <| tab2Ok_nil
/-- num.Floor: 35 operations. -/
theorem filmKnown_c114 : (exFT evEnv filmKnownTab114 1000 60).1 34 filmKnownA114 = some filmKnownR114 := by kernel_rfl
def filmKnownA115 : List PV := [.v (.int .i64 2667540)]
def filmKnownR115 : PV := .v (.bool true)
def filmKnownF34n34 : Tab := (34, filmKnownA114, filmKnownR114) :: filmKnownF34n33
theorem filmKnown_f34n34 : TabOk Tryz.prog filmKnownF34n34 := tabOk_cons ((exFT_ok evEnv_ok filmKnown_tab114 1000 60).1 _ _ _ filmKnown_c114) filmKnown_f34n33
def filmKnownTab115 : Tab2 := [(82, filmKnownF82n6), (47, filmKnownF47n1), (19, filmKnownF19n1), (49, filmKnownF49n37), (8, filmKnownF8n1), (135, filmKnownF135n1), (24, filmKnownF24n1), (88, filmKnownF88n1), (29, filmKnownF29n1), (34, filmKnownF34n34), (117, filmKnownF117n6), (195, filmKnownF195n5), (174, filmKnownF174n3), (93, filmKnownF93n2), (177, filmKnownF177n12), (140, filmKnownF140n1), (50, filmKnownF50n1), (114, filmKnownF114n1)]
theorem filmKnown_tab115 : Tab2Ok Tryz.prog filmKnownTab115 := tab2Ok_cons filmKnown_f82n6 <| tab2Ok_cons filmKnown_f47n1 <| tab2Ok_cons filmKnown_f19n1 <| tab2Ok_cons filmKnown_f49n37 <| tab2Ok_cons filmKnown_f8n1 <| tab2Ok_cons filmKnown_f135n1 <| tab2Ok_cons filmKnown_f24n1 <| tab2Ok_cons filmKnown_f88n1 <| tab2Ok_cons filmKnown_f29n1 <| tab2Ok_cons filmKnown_f34n34 <| tab2Ok_cons filmKnown_f117n6 <| tab2Ok_cons filmKnown_f195n5 <| tab2Ok_cons filmKnown_f174n3 <| tab2Ok_cons filmKnown_f93n2 <| tab2Ok_cons filmKnown_f177n12 <| tab2Ok_cons filmKnown_f140n1 <| tab2Ok_cons filmKnown_f50n1 <| tab2Ok_cons filmKnown_f114n1 <| tab2Ok_nil
/-- num.In: 21 operations. -/
theorem filmKnown_c115 : (exFT evEnv filmKnownTab115 1000 60).1 49 filmKnownA115 = some filmKnownR115 := by kernel_rfl
def filmKnownA116 : List PV := [.v (.int .i64 2667539)]
def filmKnownR116 : PV := .v (.bool true)
def filmKnownF49n38 : Tab := (49, filmKnownA115, filmKnownR115) :: filmKnownF49n37
theorem filmKnown_f49n38 : TabOk Tryz.prog filmKnownF49n38 := tabOk_cons ((exFT_ok evEnv_ok filmKnown_tab115 1000 60).1 _ _ _ filmKnown_c115) filmKnown_f49n37
def filmKnownTab116 : Tab2 := [(82, filmKnownF82n6), (47, filmKnownF47n1), (19, filmKnownF19n1), (49, filmKnownF49n38), (8, filmKnownF8n1), (135, filmKnownF135n1), (24, filmKnownF24n1), (88, filmKnownF88n1), (29, filmKnownF29n1), (34, filmKnownF34n34), (117, filmKnownF117n6), (195, filmKnownF195n5), (174, filmKnownF174n3), (93, filmKnownF93n2), (177, filmKnownF177n12), (140, filmKnownF140n1), (50, filmKnownF50n1), (114, filmKnownF114n1)]
theorem filmKnown_tab116 : Tab2Ok Tryz.prog filmKnownTab116 := tab2Ok_cons filmKnown_f82n6 <| tab2Ok_cons filmKnown_f47n1 <| tab2Ok_cons filmKnown_f19n1 <| tab2Ok_cons filmKnown_f49n38 <| tab2Ok_cons filmKnown_f8n1 <| tab2Ok_cons filmKnown_f135n1 <| tab2Ok_cons filmKnown_f24n1 <| tab2Ok_cons filmKnown_f88n1 <| tab2Ok_cons filmKnown_f29n1 <| tab2Ok_cons filmKnown_f34n34 <| tab2Ok_cons filmKnown_f117n6 <| tab2Ok_cons filmKnown_f195n5 <| tab2Ok_cons filmKnown_f174n3 <| tab2Ok_cons filmKnown_f93n2 <| tab2Ok_cons filmKnown_f177n12 <| tab2Ok_cons filmKnown_f140n1 <| tab2Ok_cons filmKnown_f50n1 <| tab2Ok_cons filmKnown_f114n1 <| tab2Ok_nil
/-- num.In: 52 operations. -/
theorem filmKnown_c116 : (exFT evEnv filmKnownTab116 1000 60).1 49 filmKnownA116 = some filmKnownR116 := by kernel_rfl
def filmKnownA117 : List PV := [.v (.int .i64 171370741760), .v (.int .i64 66182)]
def filmKnownR117 : PV := .v (.int .i64 2589385)
def filmKnownF49n39 : Tab := (49, filmKnownA116, filmKnownR116) :: filmKnownF49n38
theorem filmKnown_f49n39 : TabOk Tryz.prog filmKnownF49n39 := tabOk_cons ((exFT_ok evEnv_ok filmKnown_tab116 1000 60).1 _ _ _ filmKnown_c116) filmKnown_f49n38
def filmKnownTab117 : Tab2 := [(82, filmKnownF82n6), (47, filmKnownF47n1), (19, filmKnownF19n1), (49, filmKnownF49n39), (8, filmKnownF8n1), (135, filmKnownF135n1), (24, filmKnownF24n1), (88, filmKnownF88n1), (29, filmKnownF29n1), (34, filmKnownF34n34), (117, filmKnownF117n6), (195, filmKnownF195n5), (174, filmKnownF174n3), (93, filmKnownF93n2), (177, filmKnownF177n12), (140, filmKnownF140n1), (50, filmKnownF50n1), (114, filmKnownF114n1)]
theorem filmKnown_tab117 : Tab2Ok Tryz.prog filmKnownTab117 := tab2Ok_cons filmKnown_f82n6 <| tab2Ok_cons filmKnown_f47n1 <| tab2Ok_cons filmKnown_f19n1 <| tab2Ok_cons filmKnown_f49n39 <| tab2Ok_cons filmKnown_f8n1 <| tab2Ok_cons filmKnown_f135n1 <| tab2Ok_cons filmKnown_f24n1 <| tab2Ok_cons filmKnown_f88n1 <| tab2Ok_cons filmKnown_f29n1 <| tab2Ok_cons filmKnown_f34n34 <| tab2Ok_cons filmKnown_f117n6 <| tab2Ok_cons filmKnown_f195n5 <| tab2Ok_cons filmKnown_f174n3 <| tab2Ok_cons filmKnown_f93n2 <| tab2Ok_cons filmKnown_f177n12 <| tab2Ok_cons filmKnown_f140n1 <| tab2Ok_cons filmKnown_f50n1 <| tab2Ok_cons filmKnown_f114n1 <| tab2Ok_nil
/-- num.Floor: 35 operations. -/
theorem filmKnown_c117 : (exFT evEnv filmKnownTab117 1000 60).1 34 filmKnownA117 = some filmKnownR117 := by kernel_rfl
def filmKnownA118 : List PV := [.v (.int .i64 2589385)]
def filmKnownR118 : PV := .v (.bool true)
def filmKnownF34n35 : Tab := (34, filmKnownA117, filmKnownR117) :: filmKnownF34n34
theorem filmKnown_f34n35 : TabOk Tryz.prog filmKnownF34n35 := tabOk_cons ((exFT_ok evEnv_ok filmKnown_tab117 1000 60).1 _ _ _ filmKnown_c117) filmKnown_f34n34
def filmKnownTab118 : Tab2 := [(82, filmKnownF82n6), (47, filmKnownF47n1), (19, filmKnownF19n1), (49, filmKnownF49n39), (8, filmKnownF8n1), (135, filmKnownF135n1), (24, filmKnownF24n1), (88, filmKnownF88n1), (29, filmKnownF29n1), (34, filmKnownF34n35), (117, filmKnownF117n6), (195, filmKnownF195n5), (174, filmKnownF174n3), (93, filmKnownF93n2), (177, filmKnownF177n12), (140, filmKnownF140n1), (50, filmKnownF50n1), (114, filmKnownF114n1)]
theorem filmKnown_tab118 : Tab2Ok Tryz.prog filmKnownTab118 := tab2Ok_cons filmKnown_f82n6 <| tab2Ok_cons filmKnown_f47n1 <| tab2Ok_cons filmKnown_f19n1 <| tab2Ok_cons filmKnown_f49n39 <| tab2Ok_cons filmKnown_f8n1 <| tab2Ok_cons filmKnown_f135n1 <| tab2Ok_cons filmKnown_f24n1 <| tab2Ok_cons filmKnown_f88n1 <| tab2Ok_cons filmKnown_f29n1 <| tab2Ok_cons filmKnown_f34n35 <| tab2Ok_cons filmKnown_f117n6 <| tab2Ok_cons filmKnown_f195n5 <| tab2Ok_cons filmKnown_f174n3 <| tab2Ok_cons filmKnown_f93n2 <| tab2Ok_cons filmKnown_f177n12 <| tab2Ok_cons filmKnown_f140n1 <| tab2Ok_cons filmKnown_f50n1 <| tab2Ok_cons filmKnown_f114n1 <| tab2Ok_nil
/-- num.In: 18 operations. -/
theorem filmKnown_c118 : (exFT evEnv filmKnownTab118 1000 60).1 49 filmKnownA118 = some filmKnownR118 := by kernel_rfl
def filmKnownA119 : List PV := [.v (.int .i64 2627900)]
def filmKnownR119 : PV := .v (.bool true)
def filmKnownF49n40 : Tab := (49, filmKnownA118, filmKnownR118) :: filmKnownF49n39
theorem filmKnown_f49n40 : TabOk Tryz.prog filmKnownF49n40 := tabOk_cons ((exFT_ok evEnv_ok filmKnown_tab118 1000 60).1 _ _ _ filmKnown_c118) filmKnown_f49n39
def filmKnownTab119 : Tab2 := [(82, filmKnownF82n6), (47, filmKnownF47n1), (19, filmKnownF19n1), (49, filmKnownF49n40), (8, filmKnownF8n1), (135, filmKnownF135n1), (24, filmKnownF24n1), (88, filmKnownF88n1), (29, filmKnownF29n1), (34, filmKnownF34n35), (117, filmKnownF117n6), (195, filmKnownF195n5), (174, filmKnownF174n3), (93, filmKnownF93n2), (177, filmKnownF177n12), (140, filmKnownF140n1), (50, filmKnownF50n1), (114, filmKnownF114n1)]
theorem filmKnown_tab119 : Tab2Ok Tryz.prog filmKnownTab119 := tab2Ok_cons filmKnown_f82n6 <| tab2Ok_cons filmKnown_f47n1 <| tab2Ok_cons filmKnown_f19n1 <| tab2Ok_cons filmKnown_f49n40 <| tab2Ok_cons filmKnown_f8n1 <| tab2Ok_cons filmKnown_f135n1 <| tab2Ok_cons filmKnown_f24n1 <| tab2Ok_cons filmKnown_f88n1 <| tab2Ok_cons filmKnown_f29n1 <| tab2Ok_cons filmKnown_f34n35 <| tab2Ok_cons filmKnown_f117n6 <| tab2Ok_cons filmKnown_f195n5 <| tab2Ok_cons filmKnown_f174n3 <| tab2Ok_cons filmKnown_f93n2 <| tab2Ok_cons filmKnown_f177n12 <| tab2Ok_cons filmKnown_f140n1 <| tab2Ok_cons filmKnown_f50n1 <| tab2Ok_cons filmKnown_f114n1 <| tab2Ok_nil
/-- num.In: 48 operations. -/
theorem filmKnown_c119 : (exFT evEnv filmKnownTab119 1000 60).1 49 filmKnownA119 = some filmKnownR119 := by kernel_rfl
def filmKnownA120 : List PV := [.v (.int .i64 172222054400), .v (.int .i64 64243)]
def filmKnownR120 : PV := .v (.int .i64 2680790)
def filmKnownF49n41 : Tab := (49, filmKnownA119, filmKnownR119) :: filmKnownF49n40
theorem filmKnown_f49n41 : TabOk Tryz.prog filmKnownF49n41 := tabOk_cons ((exFT_ok evEnv_ok filmKnown_tab119 1000 60).1 _ _ _ filmKnown_c119) filmKnown_f49n40
def filmKnownTab120 : Tab2 := [(82, filmKnownF82n6), (47, filmKnownF47n1), (19, filmKnownF19n1), (49, filmKnownF49n41), (8, filmKnownF8n1), (135, filmKnownF135n1), (24, filmKnownF24n1), (88, filmKnownF88n1), (29, filmKnownF29n1), (34, filmKnownF34n35), (117, filmKnownF117n6), (195, filmKnownF195n5), (174, filmKnownF174n3), (93, filmKnownF93n2), (177, filmKnownF177n12), (140, filmKnownF140n1), (50, filmKnownF50n1), (114, filmKnownF114n1)]
theorem filmKnown_tab120 : Tab2Ok Tryz.prog filmKnownTab120 := tab2Ok_cons filmKnown_f82n6 <| tab2Ok_cons filmKnown_f47n1 <| tab2Ok_cons filmKnown_f19n1 <| tab2Ok_cons filmKnown_f49n41 <| tab2Ok_cons filmKnown_f8n1 <| tab2Ok_cons filmKnown_f135n1 <| tab2Ok_cons filmKnown_f24n1 <| tab2Ok_cons filmKnown_f88n1 <| tab2Ok_cons filmKnown_f29n1 <| tab2Ok_cons filmKnown_f34n35 <| tab2Ok_cons filmKnown_f117n6 <| tab2Ok_cons filmKnown_f195n5 <| tab2Ok_cons filmKnown_f174n3 <| tab2Ok_cons filmKnown_f93n2 <| tab2Ok_cons filmKnown_f177n12 <| tab2Ok_cons filmKnown_f140n1 <| tab2Ok_cons filmKnown_f50n1 <| tab2Ok_cons filmKnown_f114n1 <| tab2Ok_nil
/-- num.Floor: 35 operations. -/
theorem filmKnown_c120 : (exFT evEnv filmKnownTab120 1000 60).1 34 filmKnownA120 = some filmKnownR120 := by kernel_rfl
def filmKnownA121 : List PV := [.v (.int .i64 2680791)]
def filmKnownR121 : PV := .v (.bool true)
def filmKnownF34n36 : Tab := (34, filmKnownA120, filmKnownR120) :: filmKnownF34n35
theorem filmKnown_f34n36 : TabOk Tryz.prog filmKnownF34n36 := tabOk_cons ((exFT_ok evEnv_ok filmKnown_tab120 1000 60).1 _ _ _ filmKnown_c120) filmKnown_f34n35
def filmKnownTab121 : Tab2 := [(82, filmKnownF82n6), (47, filmKnownF47n1), (19, filmKnownF19n1), (49, filmKnownF49n41), (8, filmKnownF8n1), (135, filmKnownF135n1), (24, filmKnownF24n1), (88, filmKnownF88n1), (29, filmKnownF29n1), (34, filmKnownF34n36), (117, filmKnownF117n6), (195, filmKnownF195n5), (174, filmKnownF174n3), (93, filmKnownF93n2), (177, filmKnownF177n12), (140, filmKnownF140n1), (50, filmKnownF50n1), (114, filmKnownF114n1)]
theorem filmKnown_tab121 : Tab2Ok Tryz.prog filmKnownTab121 := tab2Ok_cons filmKnown_f82n6 <| tab2Ok_cons filmKnown_f47n1 <| tab2Ok_cons filmKnown_f19n1 <| tab2Ok_cons filmKnown_f49n41 <| tab2Ok_cons filmKnown_f8n1 <| tab2Ok_cons filmKnown_f135n1 <| tab2Ok_cons filmKnown_f24n1 <| tab2Ok_cons filmKnown_f88n1 <| tab2Ok_cons filmKnown_f29n1 <| tab2Ok_cons filmKnown_f34n36 <| tab2Ok_cons filmKnown_f117n6 <| tab2Ok_cons filmKnown_f195n5 <| tab2Ok_cons filmKnown_f174n3 <| tab2Ok_cons filmKnown_f93n2 <| tab2Ok_cons filmKnown_f177n12 <| tab2Ok_cons filmKnown_f140n1 <| tab2Ok_cons filmKnown_f50n1 <| tab2Ok_cons filmKnown_f114n1 <| tab2Ok_nil
/-- num.In: 21 operations. -/
theorem filmKnown_c121 : (exFT evEnv filmKnownTab121 1000 60).1 49 filmKnownA121 = some filmKnownR121 := by kernel_rfl
def filmKnownA122 : List PV := [.v (.int .i64 172222054400), .v (.int .i64 66182)]
def filmKnownR122 : PV := .v (.int .i64 2602249)
def filmKnownF49n42 : Tab := (49, filmKnownA121, filmKnownR121) :: filmKnownF49n41
theorem filmKnown_f49n42 : TabOk Tryz.prog filmKnownF49n42 := tabOk_cons ((exFT_ok evEnv_ok filmKnown_tab121 1000 60).1 _ _ _ filmKnown_c121) filmKnown_f49n41
def filmKnownTab122 : Tab2 := [(82, filmKnownF82n6), (47, filmKnownF47n1), (19, filmKnownF19n1), (49, filmKnownF49n42), (8, filmKnownF8n1), (135, filmKnownF135n1), (24, filmKnownF24n1), (88, filmKnownF88n1), (29, filmKnownF29n1), (34, filmKnownF34n36), (117, filmKnownF117n6), (195, filmKnownF195n5), (174, filmKnownF174n3), (93, filmKnownF93n2), (177, filmKnownF177n12), (140, filmKnownF140n1), (50, filmKnownF50n1), (114, filmKnownF114n1)]
theorem filmKnown_tab122 : Tab2Ok Tryz.prog filmKnownTab122 := tab2Ok_cons filmKnown_f82n6 <| tab2Ok_cons filmKnown_f47n1 <| tab2Ok_cons filmKnown_f19n1 <| tab2Ok_cons filmKnown_f49n42 <| tab2Ok_cons filmKnown_f8n1 <| tab2Ok_cons filmKnown_f135n1 <| tab2Ok_cons filmKnown_f24n1 <| tab2Ok_cons filmKnown_f88n1 <| tab2Ok_cons filmKnown_f29n1 <| tab2Ok_cons filmKnown_f34n36 <| tab2Ok_cons filmKnown_f117n6 <| tab2Ok_cons filmKnown_f195n5 <| tab2Ok_cons filmKnown_f174n3 <| tab2Ok_cons filmKnown_f93n2 <| tab2Ok_cons filmKnown_f177n12 <| tab2Ok_cons filmKnown_f140n1 <| tab2Ok_cons filmKnown_f50n1 <| tab2Ok_cons filmKnown_f114n1 <| tab2Ok_nil
/-- num.Floor: 35 operations. -/
theorem filmKnown_c122 : (exFT evEnv filmKnownTab122 1000 60).1 34 filmKnownA122 = some filmKnownR122 := by kernel_rfl
def filmKnownA123 : List PV := [.agg [.v (.int .i64 2614910), .v (.int .i64 2627900), .v (.bool false)], .agg [.v (.int .i64 64243), .v (.int .i64 66182), .v (.bool false)]]
def filmKnownR123 : PV := .agg [.v (.int .i64 2589385), .v (.int .i64 2680791), .v (.bool false)]
def filmKnownF34n37 : Tab := (34, filmKnownA122, filmKnownR122) :: filmKnownF34n36
theorem filmKnown_f34n37 : TabOk Tryz.prog filmKnownF34n37 := tabOk_cons ((exFT_ok evEnv_ok filmKnown_tab122 1000 60).1 _ _ _ filmKnown_c122) filmKnown_f34n36
def filmKnownTab123 : Tab2 := [(82, filmKnownF82n6), (47, filmKnownF47n1), (19, filmKnownF19n1), (49, filmKnownF49n42), (8, filmKnownF8n1), (135, filmKnownF135n1), (24, filmKnownF24n1), (88, filmKnownF88n1), (29, filmKnownF29n1), (34, filmKnownF34n37), (117, filmKnownF117n6), (195, filmKnownF195n5), (174, filmKnownF174n3), (93, filmKnownF93n2), (177, filmKnownF177n12), (140, filmKnownF140n1), (50, filmKnownF50n1), (114, filmKnownF114n1)]
theorem filmKnown_tab123 : Tab2Ok Tryz.prog filmKnownTab123 := tab2Ok_cons filmKnown_f82n6 <| tab2Ok_cons filmKnown_f47n1 <| tab2Ok_cons filmKnown_f19n1 <| tab2Ok_cons filmKnown_f49n42 <| tab2Ok_cons filmKnown_f8n1 <| tab2Ok_cons filmKnown_f135n1 <| tab2Ok_cons filmKnown_f24n1 <| tab2Ok_cons filmKnown_f88n1 <| tab2Ok_cons filmKnown_f29n1 <| tab2Ok_cons filmKnown_f34n37 <| tab2Ok_cons filmKnown_f117n6 <| tab2Ok_cons filmKnown_f195n5 <| tab2Ok_cons filmKnown_f174n3 <| tab2Ok_cons filmKnown_f93n2 <| tab2Ok_cons filmKnown_f177n12 <| tab2Ok_cons filmKnown_f140n1 <| tab2Ok_cons filmKnown_f50n1 <| tab2Ok_cons filmKnown_f114n1 <| tab2Ok_nil
/-- iv.Div: 194 operations. -/
theorem filmKnown_c123 : (exFT evEnv filmKnownTab123 1000 60).1 117 filmKnownA123 = some filmKnownR123 := by kernel_rfl
def filmKnownA124 : List PV := [.v (.int .i64 524288)]
def filmKnownR124 : PV := .v (.bool true)
def filmKnownF117n7 : Tab := (117, filmKnownA123, filmKnownR123) :: filmKnownF117n6
theorem filmKnown_f117n7 : TabOk Tryz.prog filmKnownF117n7 := tabOk_cons ((exFT_ok evEnv_ok filmKnown_tab123 1000 60).1 _ _ _ filmKnown_c123) filmKnown_f117n6
def filmKnownTab124 : Tab2 := [(82, filmKnownF82n6), (47, filmKnownF47n1), (19, filmKnownF19n1), (49, filmKnownF49n42), (8, filmKnownF8n1), (135, filmKnownF135n1), (24, filmKnownF24n1), (88, filmKnownF88n1), (29, filmKnownF29n1), (34, filmKnownF34n37), (117, filmKnownF117n7), (195, filmKnownF195n5), (174, filmKnownF174n3), (93, filmKnownF93n2), (177, filmKnownF177n12), (140, filmKnownF140n1), (50, filmKnownF50n1), (114, filmKnownF114n1)]
theorem filmKnown_tab124 : Tab2Ok Tryz.prog filmKnownTab124 := tab2Ok_cons filmKnown_f82n6 <| tab2Ok_cons filmKnown_f47n1 <| tab2Ok_cons filmKnown_f19n1 <| tab2Ok_cons filmKnown_f49n42 <| tab2Ok_cons filmKnown_f8n1 <| tab2Ok_cons filmKnown_f135n1 <| tab2Ok_cons filmKnown_f24n1 <| tab2Ok_cons filmKnown_f88n1 <| tab2Ok_cons filmKnown_f29n1 <| tab2Ok_cons filmKnown_f34n37 <| tab2Ok_cons filmKnown_f117n7 <| tab2Ok_cons filmKnown_f195n5 <| tab2Ok_cons filmKnown_f174n3 <| tab2Ok_cons filmKnown_f93n2 <| tab2Ok_cons filmKnown_f177n12 <| tab2Ok_cons filmKnown_f140n1 <| tab2Ok_cons filmKnown_f50n1 <| tab2Ok_cons filmKnown_f114n1 <| tab2Ok_nil
/-- num.In: 60 operations. -/
theorem filmKnown_c124 : (exFT evEnv filmKnownTab124 1000 60).1 49 filmKnownA124 = some filmKnownR124 := by kernel_rfl
def filmKnownA125 : List PV := [.v (.int .i64 786432)]
def filmKnownR125 : PV := .v (.bool true)
def filmKnownF49n43 : Tab := (49, filmKnownA124, filmKnownR124) :: filmKnownF49n42
theorem filmKnown_f49n43 : TabOk Tryz.prog filmKnownF49n43 := tabOk_cons ((exFT_ok evEnv_ok filmKnown_tab124 1000 60).1 _ _ _ filmKnown_c124) filmKnown_f49n42
def filmKnownTab125 : Tab2 := [(82, filmKnownF82n6), (47, filmKnownF47n1), (19, filmKnownF19n1), (49, filmKnownF49n43), (8, filmKnownF8n1), (135, filmKnownF135n1), (24, filmKnownF24n1), (88, filmKnownF88n1), (29, filmKnownF29n1), (34, filmKnownF34n37), (117, filmKnownF117n7), (195, filmKnownF195n5), (174, filmKnownF174n3), (93, filmKnownF93n2), (177, filmKnownF177n12), (140, filmKnownF140n1), (50, filmKnownF50n1), (114, filmKnownF114n1)]
theorem filmKnown_tab125 : Tab2Ok Tryz.prog filmKnownTab125 := tab2Ok_cons filmKnown_f82n6 <| tab2Ok_cons filmKnown_f47n1 <| tab2Ok_cons filmKnown_f19n1 <| tab2Ok_cons filmKnown_f49n43 <| tab2Ok_cons filmKnown_f8n1 <| tab2Ok_cons filmKnown_f135n1 <| tab2Ok_cons filmKnown_f24n1 <| tab2Ok_cons filmKnown_f88n1 <| tab2Ok_cons filmKnown_f29n1 <| tab2Ok_cons filmKnown_f34n37 <| tab2Ok_cons filmKnown_f117n7 <| tab2Ok_cons filmKnown_f195n5 <| tab2Ok_cons filmKnown_f174n3 <| tab2Ok_cons filmKnown_f93n2 <| tab2Ok_cons filmKnown_f177n12 <| tab2Ok_cons filmKnown_f140n1 <| tab2Ok_cons filmKnown_f50n1 <| tab2Ok_cons filmKnown_f114n1 <| tab2Ok_nil
/-- num.In: 60 operations. -/
theorem filmKnown_c125 : (exFT evEnv filmKnownTab125 1000 60).1 49 filmKnownA125 = some filmKnownR125 := by kernel_rfl
def filmKnownA126 : List PV := [.v (.int .i64 34359738368), .v (.int .i64 262144)]
def filmKnownR126 : PV := .v (.int .i64 131072)
def filmKnownF49n44 : Tab := (49, filmKnownA125, filmKnownR125) :: filmKnownF49n43
theorem filmKnown_f49n44 : TabOk Tryz.prog filmKnownF49n44 := tabOk_cons ((exFT_ok evEnv_ok filmKnown_tab125 1000 60).1 _ _ _ filmKnown_c125) filmKnown_f49n43
def filmKnownTab126 : Tab2 := [(82, filmKnownF82n6), (47, filmKnownF47n1), (19, filmKnownF19n1), (49, filmKnownF49n44), (8, filmKnownF8n1), (135, filmKnownF135n1), (24, filmKnownF24n1), (88, filmKnownF88n1), (29, filmKnownF29n1), (34, filmKnownF34n37), (117, filmKnownF117n7), (195, filmKnownF195n5), (174, filmKnownF174n3), (93, filmKnownF93n2), (177, filmKnownF177n12), (140, filmKnownF140n1), (50, filmKnownF50n1), (114, filmKnownF114n1)]
theorem filmKnown_tab126 : Tab2Ok Tryz.prog filmKnownTab126 := tab2Ok_cons filmKnown_f82n6 <| tab2Ok_cons filmKnown_f47n1 <| tab2Ok_cons filmKnown_f19n1 <| tab2Ok_cons filmKnown_f49n44 <| tab2Ok_cons filmKnown_f8n1 <| tab2Ok_cons filmKnown_f135n1 <| tab2Ok_cons filmKnown_f24n1 <| tab2Ok_cons filmKnown_f88n1 <| tab2Ok_cons filmKnown_f29n1 <| tab2Ok_cons filmKnown_f34n37 <| tab2Ok_cons filmKnown_f117n7 <| tab2Ok_cons filmKnown_f195n5 <| tab2Ok_cons filmKnown_f174n3 <| tab2Ok_cons filmKnown_f93n2 <| tab2Ok_cons filmKnown_f177n12 <| tab2Ok_cons filmKnown_f140n1 <| tab2Ok_cons filmKnown_f50n1 <| tab2Ok_cons filmKnown_f114n1 <| tab2Ok_nil
/-- num.Floor: 35 operations. -/
theorem filmKnown_c126 : (exFT evEnv filmKnownTab126 1000 60).1 34 filmKnownA126 = some filmKnownR126 := by kernel_rfl
def filmKnownA127 : List PV := [.v (.int .i64 131072)]
def filmKnownR127 : PV := .v (.bool true)
def filmKnownF34n38 : Tab := (34, filmKnownA126, filmKnownR126) :: filmKnownF34n37
theorem filmKnown_f34n38 : TabOk Tryz.prog filmKnownF34n38 := tabOk_cons ((exFT_ok evEnv_ok filmKnown_tab126 1000 60).1 _ _ _ filmKnown_c126) filmKnown_f34n37
def filmKnownTab127 : Tab2 := [(82, filmKnownF82n6), (47, filmKnownF47n1), (19, filmKnownF19n1), (49, filmKnownF49n44), (8, filmKnownF8n1), (135, filmKnownF135n1), (24, filmKnownF24n1), (88, filmKnownF88n1), (29, filmKnownF29n1), (34, filmKnownF34n38), (117, filmKnownF117n7), (195, filmKnownF195n5), (174, filmKnownF174n3), (93, filmKnownF93n2), (177, filmKnownF177n12), (140, filmKnownF140n1), (50, filmKnownF50n1), (114, filmKnownF114n1)]
theorem filmKnown_tab127 : Tab2Ok Tryz.prog filmKnownTab127 := tab2Ok_cons filmKnown_f82n6 <| tab2Ok_cons filmKnown_f47n1 <| tab2Ok_cons filmKnown_f19n1 <| tab2Ok_cons filmKnown_f49n44 <| tab2Ok_cons filmKnown_f8n1 <| tab2Ok_cons filmKnown_f135n1 <| tab2Ok_cons filmKnown_f24n1 <| tab2Ok_cons filmKnown_f88n1 <| tab2Ok_cons filmKnown_f29n1 <| tab2Ok_cons filmKnown_f34n38 <| tab2Ok_cons filmKnown_f117n7 <| tab2Ok_cons filmKnown_f195n5 <| tab2Ok_cons filmKnown_f174n3 <| tab2Ok_cons filmKnown_f93n2 <| tab2Ok_cons filmKnown_f177n12 <| tab2Ok_cons filmKnown_f140n1 <| tab2Ok_cons filmKnown_f50n1 <| tab2Ok_cons filmKnown_f114n1 <| tab2Ok_nil
/-- num.In: 18 operations. -/
theorem filmKnown_c127 : (exFT evEnv filmKnownTab127 1000 60).1 49 filmKnownA127 = some filmKnownR127 := by kernel_rfl
def filmKnownA128 : List PV := [.v (.int .i64 51539607552), .v (.int .i64 262144)]
def filmKnownR128 : PV := .v (.int .i64 196608)
def filmKnownF49n45 : Tab := (49, filmKnownA127, filmKnownR127) :: filmKnownF49n44
theorem filmKnown_f49n45 : TabOk Tryz.prog filmKnownF49n45 := tabOk_cons ((exFT_ok evEnv_ok filmKnown_tab127 1000 60).1 _ _ _ filmKnown_c127) filmKnown_f49n44
def filmKnownTab128 : Tab2 := [(82, filmKnownF82n6), (47, filmKnownF47n1), (19, filmKnownF19n1), (49, filmKnownF49n45), (8, filmKnownF8n1), (135, filmKnownF135n1), (24, filmKnownF24n1), (88, filmKnownF88n1), (29, filmKnownF29n1), (34, filmKnownF34n38), (117, filmKnownF117n7), (195, filmKnownF195n5), (174, filmKnownF174n3), (93, filmKnownF93n2), (177, filmKnownF177n12), (140, filmKnownF140n1), (50, filmKnownF50n1), (114, filmKnownF114n1)]
theorem filmKnown_tab128 : Tab2Ok Tryz.prog filmKnownTab128 := tab2Ok_cons filmKnown_f82n6 <| tab2Ok_cons filmKnown_f47n1 <| tab2Ok_cons filmKnown_f19n1 <| tab2Ok_cons filmKnown_f49n45 <| tab2Ok_cons filmKnown_f8n1 <| tab2Ok_cons filmKnown_f135n1 <| tab2Ok_cons filmKnown_f24n1 <| tab2Ok_cons filmKnown_f88n1 <| tab2Ok_cons filmKnown_f29n1 <| tab2Ok_cons filmKnown_f34n38 <| tab2Ok_cons filmKnown_f117n7 <| tab2Ok_cons filmKnown_f195n5 <| tab2Ok_cons filmKnown_f174n3 <| tab2Ok_cons filmKnown_f93n2 <| tab2Ok_cons filmKnown_f177n12 <| tab2Ok_cons filmKnown_f140n1 <| tab2Ok_cons filmKnown_f50n1 <| tab2Ok_cons filmKnown_f114n1 <| tab2Ok_nil
/-- num.Floor: 35 operations. -/
theorem filmKnown_c128 : (exFT evEnv filmKnownTab128 1000 60).1 34 filmKnownA128 = some filmKnownR128 := by kernel_rfl
def filmKnownA129 : List PV := [.v (.int .i64 196608)]
def filmKnownR129 : PV := .v (.bool true)
def filmKnownF34n39 : Tab := (34, filmKnownA128, filmKnownR128) :: filmKnownF34n38
theorem filmKnown_f34n39 : TabOk Tryz.prog filmKnownF34n39 := tabOk_cons ((exFT_ok evEnv_ok filmKnown_tab128 1000 60).1 _ _ _ filmKnown_c128) filmKnown_f34n38
def filmKnownTab129 : Tab2 := [(82, filmKnownF82n6), (47, filmKnownF47n1), (19, filmKnownF19n1), (49, filmKnownF49n45), (8, filmKnownF8n1), (135, filmKnownF135n1), (24, filmKnownF24n1), (88, filmKnownF88n1), (29, filmKnownF29n1), (34, filmKnownF34n39), (117, filmKnownF117n7), (195, filmKnownF195n5), (174, filmKnownF174n3), (93, filmKnownF93n2), (177, filmKnownF177n12), (140, filmKnownF140n1), (50, filmKnownF50n1), (114, filmKnownF114n1)]
theorem filmKnown_tab129 : Tab2Ok Tryz.prog filmKnownTab129 := tab2Ok_cons filmKnown_f82n6 <| tab2Ok_cons filmKnown_f47n1 <| tab2Ok_cons filmKnown_f19n1 <| tab2Ok_cons filmKnown_f49n45 <| tab2Ok_cons filmKnown_f8n1 <| tab2Ok_cons filmKnown_f135n1 <| tab2Ok_cons filmKnown_f24n1 <| tab2Ok_cons filmKnown_f88n1 <| tab2Ok_cons filmKnown_f29n1 <| tab2Ok_cons filmKnown_f34n39 <| tab2Ok_cons filmKnown_f117n7 <| tab2Ok_cons filmKnown_f195n5 <| tab2Ok_cons filmKnown_f174n3 <| tab2Ok_cons filmKnown_f93n2 <| tab2Ok_cons filmKnown_f177n12 <| tab2Ok_cons filmKnown_f140n1 <| tab2Ok_cons filmKnown_f50n1 <| tab2Ok_cons filmKnown_f114n1 <| tab2Ok_nil
/-- num.In: 18 operations. -/
theorem filmKnown_c129 : (exFT evEnv filmKnownTab129 1000 60).1 49 filmKnownA129 = some filmKnownR129 := by kernel_rfl
def filmKnownA130 : List PV := [.v (.int .i64 6815744)]
def filmKnownR130 : PV := .v (.bool true)
def filmKnownF49n46 : Tab := (49, filmKnownA129, filmKnownR129) :: filmKnownF49n45
theorem filmKnown_f49n46 : TabOk Tryz.prog filmKnownF49n46 := tabOk_cons ((exFT_ok evEnv_ok filmKnown_tab129 1000 60).1 _ _ _ filmKnown_c129) filmKnown_f49n45
def filmKnownTab130 : Tab2 := [(82, filmKnownF82n6), (47, filmKnownF47n1), (19, filmKnownF19n1), (49, filmKnownF49n46), (8, filmKnownF8n1), (135, filmKnownF135n1), (24, filmKnownF24n1), (88, filmKnownF88n1), (29, filmKnownF29n1), (34, filmKnownF34n39), (117, filmKnownF117n7), (195, filmKnownF195n5), (174, filmKnownF174n3), (93, filmKnownF93n2), (177, filmKnownF177n12), (140, filmKnownF140n1), (50, filmKnownF50n1), (114, filmKnownF114n1)]
theorem filmKnown_tab130 : Tab2Ok Tryz.prog filmKnownTab130 := tab2Ok_cons filmKnown_f82n6 <| tab2Ok_cons filmKnown_f47n1 <| tab2Ok_cons filmKnown_f19n1 <| tab2Ok_cons filmKnown_f49n46 <| tab2Ok_cons filmKnown_f8n1 <| tab2Ok_cons filmKnown_f135n1 <| tab2Ok_cons filmKnown_f24n1 <| tab2Ok_cons filmKnown_f88n1 <| tab2Ok_cons filmKnown_f29n1 <| tab2Ok_cons filmKnown_f34n39 <| tab2Ok_cons filmKnown_f117n7 <| tab2Ok_cons filmKnown_f195n5 <| tab2Ok_cons filmKnown_f174n3 <| tab2Ok_cons filmKnown_f93n2 <| tab2Ok_cons filmKnown_f177n12 <| tab2Ok_cons filmKnown_f140n1 <| tab2Ok_cons filmKnown_f50n1 <| tab2Ok_cons filmKnown_f114n1 <| tab2Ok_nil
/-- num.In: 52 operations. -/
theorem filmKnown_c130 : (exFT evEnv filmKnownTab130 1000 60).1 49 filmKnownA130 = some filmKnownR130 := by kernel_rfl
def filmKnownA131 : List PV := [.agg [.v (.int .i64 131072), .v (.int .i64 196608), .v (.bool false), .v (.int .i64 0), .v (.int .i64 65536), .v (.bool false), .v (.int .i64 655360), .v (.int .i64 655360), .v (.bool false)]]
def filmKnownR131 : PV := .agg [.v (.int .i64 6815744), .v (.int .i64 7208960), .v (.bool false)]
def filmKnownF49n47 : Tab := (49, filmKnownA130, filmKnownR130) :: filmKnownF49n46
theorem filmKnown_f49n47 : TabOk Tryz.prog filmKnownF49n47 := tabOk_cons ((exFT_ok evEnv_ok filmKnown_tab130 1000 60).1 _ _ _ filmKnown_c130) filmKnown_f49n46
def filmKnownTab131 : Tab2 := [(82, filmKnownF82n6), (47, filmKnownF47n1), (19, filmKnownF19n1), (49, filmKnownF49n47), (8, filmKnownF8n1), (135, filmKnownF135n1), (24, filmKnownF24n1), (88, filmKnownF88n1), (29, filmKnownF29n1), (34, filmKnownF34n39), (117, filmKnownF117n7), (195, filmKnownF195n5), (174, filmKnownF174n3), (93, filmKnownF93n2), (177, filmKnownF177n12), (140, filmKnownF140n1), (50, filmKnownF50n1), (114, filmKnownF114n1)]
theorem filmKnown_tab131 : Tab2Ok Tryz.prog filmKnownTab131 := tab2Ok_cons filmKnown_f82n6 <| tab2Ok_cons filmKnown_f47n1 <| tab2Ok_cons filmKnown_f19n1 <| tab2Ok_cons filmKnown_f49n47 <| tab2Ok_cons filmKnown_f8n1 <| tab2Ok_cons filmKnown_f135n1 <| tab2Ok_cons filmKnown_f24n1 <| tab2Ok_cons filmKnown_f88n1 <| tab2Ok_cons filmKnown_f29n1 <| tab2Ok_cons filmKnown_f34n39 <| tab2Ok_cons filmKnown_f117n7 <| tab2Ok_cons filmKnown_f195n5 <| tab2Ok_cons filmKnown_f174n3 <| tab2Ok_cons filmKnown_f93n2 <| tab2Ok_cons filmKnown_f177n12 <| tab2Ok_cons filmKnown_f140n1 <| tab2Ok_cons filmKnown_f50n1 <| tab2Ok_cons filmKnown_f114n1 <| tab2Ok_nil
/-- vec.Len2: 140 operations. -/
theorem filmKnown_c131 : (exFT evEnv filmKnownTab131 1000 60).1 138 filmKnownA131 = some filmKnownR131 := by kernel_rfl
def filmKnownA132 : List PV := [.v (.int .i64 6815744), .v (.bool false)]
def filmKnownR132 : PV := .tup [.v (.int .i64 668338), .v (.bool true)]
def filmKnownF138n1 : Tab := (138, filmKnownA131, filmKnownR131) :: []
theorem filmKnown_f138n1 : TabOk Tryz.prog filmKnownF138n1 := tabOk_cons ((exFT_ok evEnv_ok filmKnown_tab131 1000 60).1 _ _ _ filmKnown_c131) tabOk_nil
def filmKnownTab132 : Tab2 := [(82, filmKnownF82n6), (47, filmKnownF47n1), (19, filmKnownF19n1), (49, filmKnownF49n47), (8, filmKnownF8n1), (135, filmKnownF135n1), (24, filmKnownF24n1), (88, filmKnownF88n1), (29, filmKnownF29n1), (34, filmKnownF34n39), (117, filmKnownF117n7), (195, filmKnownF195n5), (174, filmKnownF174n3), (93, filmKnownF93n2), (177, filmKnownF177n12), (140, filmKnownF140n1), (50, filmKnownF50n1), (114, filmKnownF114n1), (138, filmKnownF138n1)]
theorem filmKnown_tab132 : Tab2Ok Tryz.prog filmKnownTab132 := tab2Ok_cons filmKnown_f82n6 <| tab2Ok_cons filmKnown_f47n1 <| tab2Ok_cons filmKnown_f19n1 <| tab2Ok_cons filmKnown_f49n47 <| tab2Ok_cons filmKnown_f8n1 <| tab2Ok_cons filmKnown_f135n1 <| tab2Ok_cons filmKnown_f24n1 <| tab2Ok_cons filmKnown_f88n1 <| tab2Ok_cons filmKnown_f29n1 <| tab2Ok_cons filmKnown_f34n39 <| tab2Ok_cons filmKnown_f117n7 <| tab2Ok_cons filmKnown_f195n5 <| tab2Ok_cons filmKnown_f174n3 <| tab2Ok_cons filmKnown_f93n2 <| tab2Ok_cons filmKnown_f177n12 <| tab2Ok_cons filmKnown_f140n1 <| tab2Ok_cons filmKnown_f50n1 <| tab2Ok_cons filmKnown_f114n1 <| tab2Ok_cons filmKnown_f138n1 <| tab2Ok_nil
/-- num.Root: 411 operations. -/
theorem filmKnown_c132 : (exFT evEnv filmKnownTab132 1000 60).1 195 filmKnownA132 = some filmKnownR132 := by kernel_rfl
def filmKnownA133 : List PV := [.v (.int .i64 7208960), .v (.bool true)]
def filmKnownR133 : PV := .tup [.v (.int .i64 687348), .v (.bool true)]
def filmKnownF195n6 : Tab := (195, filmKnownA132, filmKnownR132) :: filmKnownF195n5
theorem filmKnown_f195n6 : TabOk Tryz.prog filmKnownF195n6 := tabOk_cons ((exFT_ok evEnv_ok filmKnown_tab132 1000 60).1 _ _ _ filmKnown_c132) filmKnown_f195n5
def filmKnownTab133 : Tab2 := [(82, filmKnownF82n6), (47, filmKnownF47n1), (19, filmKnownF19n1), (49, filmKnownF49n47), (8, filmKnownF8n1), (135, filmKnownF135n1), (24, filmKnownF24n1), (88, filmKnownF88n1), (29, filmKnownF29n1), (34, filmKnownF34n39), (117, filmKnownF117n7), (195, filmKnownF195n6), (174, filmKnownF174n3), (93, filmKnownF93n2), (177, filmKnownF177n12), (140, filmKnownF140n1), (50, filmKnownF50n1), (114, filmKnownF114n1), (138, filmKnownF138n1)]
theorem filmKnown_tab133 : Tab2Ok Tryz.prog filmKnownTab133 := tab2Ok_cons filmKnown_f82n6 <| tab2Ok_cons filmKnown_f47n1 <| tab2Ok_cons filmKnown_f19n1 <| tab2Ok_cons filmKnown_f49n47 <| tab2Ok_cons filmKnown_f8n1 <| tab2Ok_cons filmKnown_f135n1 <| tab2Ok_cons filmKnown_f24n1 <| tab2Ok_cons filmKnown_f88n1 <| tab2Ok_cons filmKnown_f29n1 <| tab2Ok_cons filmKnown_f34n39 <| tab2Ok_cons filmKnown_f117n7 <| tab2Ok_cons filmKnown_f195n6 <| tab2Ok_cons filmKnown_f174n3 <| tab2Ok_cons filmKnown_f93n2 <| tab2Ok_cons filmKnown_f177n12 <| tab2Ok_cons filmKnown_f140n1 <| tab2Ok_cons filmKnown_f50n1 <| tab2Ok_cons filmKnown_f114n1 <| tab2Ok_cons filmKnown_f138n1 <| tab2Ok_nil
/-- num.Root: 447 operations. -/
theorem filmKnown_c133 : (exFT evEnv filmKnownTab133 1000 60).1 195 filmKnownA133 = some filmKnownR133 := by kernel_rfl
def filmKnownA134 : List PV := [.v (.int .i64 668338)]
def filmKnownR134 : PV := .v (.bool true)
def filmKnownF195n7 : Tab := (195, filmKnownA133, filmKnownR133) :: filmKnownF195n6
theorem filmKnown_f195n7 : TabOk Tryz.prog filmKnownF195n7 := tabOk_cons ((exFT_ok evEnv_ok filmKnown_tab133 1000 60).1 _ _ _ filmKnown_c133) filmKnown_f195n6
def filmKnownTab134 : Tab2 := [(82, filmKnownF82n6), (47, filmKnownF47n1), (19, filmKnownF19n1), (49, filmKnownF49n47), (8, filmKnownF8n1), (135, filmKnownF135n1), (24, filmKnownF24n1), (88, filmKnownF88n1), (29, filmKnownF29n1), (34, filmKnownF34n39), (117, filmKnownF117n7), (195, filmKnownF195n7), (174, filmKnownF174n3), (93, filmKnownF93n2), (177, filmKnownF177n12), (140, filmKnownF140n1), (50, filmKnownF50n1), (114, filmKnownF114n1), (138, filmKnownF138n1)]
theorem filmKnown_tab134 : Tab2Ok Tryz.prog filmKnownTab134 := tab2Ok_cons filmKnown_f82n6 <| tab2Ok_cons filmKnown_f47n1 <| tab2Ok_cons filmKnown_f19n1 <| tab2Ok_cons filmKnown_f49n47 <| tab2Ok_cons filmKnown_f8n1 <| tab2Ok_cons filmKnown_f135n1 <| tab2Ok_cons filmKnown_f24n1 <| tab2Ok_cons filmKnown_f88n1 <| tab2Ok_cons filmKnown_f29n1 <| tab2Ok_cons filmKnown_f34n39 <| tab2Ok_cons filmKnown_f117n7 <| tab2Ok_cons filmKnown_f195n7 <| tab2Ok_cons filmKnown_f174n3 <| tab2Ok_cons filmKnown_f93n2 <| tab2Ok_cons filmKnown_f177n12 <| tab2Ok_cons filmKnown_f140n1 <| tab2Ok_cons filmKnown_f50n1 <| tab2Ok_cons filmKnown_f114n1 <| tab2Ok_cons filmKnown_f138n1 <| tab2Ok_nil
/-- num.In: 44 operations. -/
theorem filmKnown_c134 : (exFT evEnv filmKnownTab134 1000 60).1 49 filmKnownA134 = some filmKnownR134 := by kernel_rfl
def filmKnownA135 : List PV := [.v (.int .i64 12852)]
def filmKnownR135 : PV := .v (.bool true)
def filmKnownF49n48 : Tab := (49, filmKnownA134, filmKnownR134) :: filmKnownF49n47
theorem filmKnown_f49n48 : TabOk Tryz.prog filmKnownF49n48 := tabOk_cons ((exFT_ok evEnv_ok filmKnown_tab134 1000 60).1 _ _ _ filmKnown_c134) filmKnown_f49n47
def filmKnownTab135 : Tab2 := [(82, filmKnownF82n6), (47, filmKnownF47n1), (19, filmKnownF19n1), (49, filmKnownF49n48), (8, filmKnownF8n1), (135, filmKnownF135n1), (24, filmKnownF24n1), (88, filmKnownF88n1), (29, filmKnownF29n1), (34, filmKnownF34n39), (117, filmKnownF117n7), (195, filmKnownF195n7), (174, filmKnownF174n3), (93, filmKnownF93n2), (177, filmKnownF177n12), (140, filmKnownF140n1), (50, filmKnownF50n1), (114, filmKnownF114n1), (138, filmKnownF138n1)]
theorem filmKnown_tab135 : Tab2Ok Tryz.prog filmKnownTab135 := tab2Ok_cons filmKnown_f82n6 <| tab2Ok_cons filmKnown_f47n1 <| tab2Ok_cons filmKnown_f19n1 <| tab2Ok_cons filmKnown_f49n48 <| tab2Ok_cons filmKnown_f8n1 <| tab2Ok_cons filmKnown_f135n1 <| tab2Ok_cons filmKnown_f24n1 <| tab2Ok_cons filmKnown_f88n1 <| tab2Ok_cons filmKnown_f29n1 <| tab2Ok_cons filmKnown_f34n39 <| tab2Ok_cons filmKnown_f117n7 <| tab2Ok_cons filmKnown_f195n7 <| tab2Ok_cons filmKnown_f174n3 <| tab2Ok_cons filmKnown_f93n2 <| tab2Ok_cons filmKnown_f177n12 <| tab2Ok_cons filmKnown_f140n1 <| tab2Ok_cons filmKnown_f50n1 <| tab2Ok_cons filmKnown_f114n1 <| tab2Ok_cons filmKnown_f138n1 <| tab2Ok_nil
/-- num.In: 52 operations. -/
theorem filmKnown_c135 : (exFT evEnv filmKnownTab135 1000 60).1 49 filmKnownA135 = some filmKnownR135 := by kernel_rfl
def filmKnownA136 : List PV := [.v (.int .i64 12497)]
def filmKnownR136 : PV := .v (.bool true)
def filmKnownF49n49 : Tab := (49, filmKnownA135, filmKnownR135) :: filmKnownF49n48
theorem filmKnown_f49n49 : TabOk Tryz.prog filmKnownF49n49 := tabOk_cons ((exFT_ok evEnv_ok filmKnown_tab135 1000 60).1 _ _ _ filmKnown_c135) filmKnown_f49n48
def filmKnownTab136 : Tab2 := [(82, filmKnownF82n6), (47, filmKnownF47n1), (19, filmKnownF19n1), (49, filmKnownF49n49), (8, filmKnownF8n1), (135, filmKnownF135n1), (24, filmKnownF24n1), (88, filmKnownF88n1), (29, filmKnownF29n1), (34, filmKnownF34n39), (117, filmKnownF117n7), (195, filmKnownF195n7), (174, filmKnownF174n3), (93, filmKnownF93n2), (177, filmKnownF177n12), (140, filmKnownF140n1), (50, filmKnownF50n1), (114, filmKnownF114n1), (138, filmKnownF138n1)]
theorem filmKnown_tab136 : Tab2Ok Tryz.prog filmKnownTab136 := tab2Ok_cons filmKnown_f82n6 <| tab2Ok_cons filmKnown_f47n1 <| tab2Ok_cons filmKnown_f19n1 <| tab2Ok_cons filmKnown_f49n49 <| tab2Ok_cons filmKnown_f8n1 <| tab2Ok_cons filmKnown_f135n1 <| tab2Ok_cons filmKnown_f24n1 <| tab2Ok_cons filmKnown_f88n1 <| tab2Ok_cons filmKnown_f29n1 <| tab2Ok_cons filmKnown_f34n39 <| tab2Ok_cons filmKnown_f117n7 <| tab2Ok_cons filmKnown_f195n7 <| tab2Ok_cons filmKnown_f174n3 <| tab2Ok_cons filmKnown_f93n2 <| tab2Ok_cons filmKnown_f177n12 <| tab2Ok_cons filmKnown_f140n1 <| tab2Ok_cons filmKnown_f50n1 <| tab2Ok_cons filmKnown_f114n1 <| tab2Ok_cons filmKnown_f138n1 <| tab2Ok_nil
/-- num.In: 18 operations. -/
theorem filmKnown_c136 : (exFT evEnv filmKnownTab136 1000 60).1 49 filmKnownA136 = some filmKnownR136 := by kernel_rfl
def filmKnownA137 : List PV := [.v (.int .i64 19280)]
def filmKnownR137 : PV := .v (.bool true)
def filmKnownF49n50 : Tab := (49, filmKnownA136, filmKnownR136) :: filmKnownF49n49
theorem filmKnown_f49n50 : TabOk Tryz.prog filmKnownF49n50 := tabOk_cons ((exFT_ok evEnv_ok filmKnown_tab136 1000 60).1 _ _ _ filmKnown_c136) filmKnown_f49n49
def filmKnownTab137 : Tab2 := [(82, filmKnownF82n6), (47, filmKnownF47n1), (19, filmKnownF19n1), (49, filmKnownF49n50), (8, filmKnownF8n1), (135, filmKnownF135n1), (24, filmKnownF24n1), (88, filmKnownF88n1), (29, filmKnownF29n1), (34, filmKnownF34n39), (117, filmKnownF117n7), (195, filmKnownF195n7), (174, filmKnownF174n3), (93, filmKnownF93n2), (177, filmKnownF177n12), (140, filmKnownF140n1), (50, filmKnownF50n1), (114, filmKnownF114n1), (138, filmKnownF138n1)]
theorem filmKnown_tab137 : Tab2Ok Tryz.prog filmKnownTab137 := tab2Ok_cons filmKnown_f82n6 <| tab2Ok_cons filmKnown_f47n1 <| tab2Ok_cons filmKnown_f19n1 <| tab2Ok_cons filmKnown_f49n50 <| tab2Ok_cons filmKnown_f8n1 <| tab2Ok_cons filmKnown_f135n1 <| tab2Ok_cons filmKnown_f24n1 <| tab2Ok_cons filmKnown_f88n1 <| tab2Ok_cons filmKnown_f29n1 <| tab2Ok_cons filmKnown_f34n39 <| tab2Ok_cons filmKnown_f117n7 <| tab2Ok_cons filmKnown_f195n7 <| tab2Ok_cons filmKnown_f174n3 <| tab2Ok_cons filmKnown_f93n2 <| tab2Ok_cons filmKnown_f177n12 <| tab2Ok_cons filmKnown_f140n1 <| tab2Ok_cons filmKnown_f50n1 <| tab2Ok_cons filmKnown_f114n1 <| tab2Ok_cons filmKnown_f138n1 <| tab2Ok_nil
/-- num.In: 21 operations. -/
theorem filmKnown_c137 : (exFT evEnv filmKnownTab137 1000 60).1 49 filmKnownA137 = some filmKnownR137 := by kernel_rfl
def filmKnownA138 : List PV := [.agg [.v (.int .i64 131072), .v (.int .i64 196608), .v (.bool false)], .agg [.v (.int .i64 668338), .v (.int .i64 687348), .v (.bool false)]]
def filmKnownR138 : PV := .agg [.v (.int .i64 12497), .v (.int .i64 19280), .v (.bool false)]
def filmKnownF49n51 : Tab := (49, filmKnownA137, filmKnownR137) :: filmKnownF49n50
theorem filmKnown_f49n51 : TabOk Tryz.prog filmKnownF49n51 := tabOk_cons ((exFT_ok evEnv_ok filmKnown_tab137 1000 60).1 _ _ _ filmKnown_c137) filmKnown_f49n50
def filmKnownTab138 : Tab2 := [(82, filmKnownF82n6), (47, filmKnownF47n1), (19, filmKnownF19n1), (49, filmKnownF49n51), (8, filmKnownF8n1), (135, filmKnownF135n1), (24, filmKnownF24n1), (88, filmKnownF88n1), (29, filmKnownF29n1), (34, filmKnownF34n39), (117, filmKnownF117n7), (195, filmKnownF195n7), (174, filmKnownF174n3), (93, filmKnownF93n2), (177, filmKnownF177n12), (140, filmKnownF140n1), (50, filmKnownF50n1), (114, filmKnownF114n1), (138, filmKnownF138n1)]
theorem filmKnown_tab138 : Tab2Ok Tryz.prog filmKnownTab138 := tab2Ok_cons filmKnown_f82n6 <| tab2Ok_cons filmKnown_f47n1 <| tab2Ok_cons filmKnown_f19n1 <| tab2Ok_cons filmKnown_f49n51 <| tab2Ok_cons filmKnown_f8n1 <| tab2Ok_cons filmKnown_f135n1 <| tab2Ok_cons filmKnown_f24n1 <| tab2Ok_cons filmKnown_f88n1 <| tab2Ok_cons filmKnown_f29n1 <| tab2Ok_cons filmKnown_f34n39 <| tab2Ok_cons filmKnown_f117n7 <| tab2Ok_cons filmKnown_f195n7 <| tab2Ok_cons filmKnown_f174n3 <| tab2Ok_cons filmKnown_f93n2 <| tab2Ok_cons filmKnown_f177n12 <| tab2Ok_cons filmKnown_f140n1 <| tab2Ok_cons filmKnown_f50n1 <| tab2Ok_cons filmKnown_f114n1 <| tab2Ok_cons filmKnown_f138n1 <| tab2Ok_nil
/-- iv.Div: 511 operations. -/
theorem filmKnown_c138 : (exFT evEnv filmKnownTab138 1000 60).1 117 filmKnownA138 = some filmKnownR138 := by kernel_rfl
def filmKnownA139 : List PV := [.v (.int .i64 6427)]
def filmKnownR139 : PV := .v (.bool true)
def filmKnownF117n8 : Tab := (117, filmKnownA138, filmKnownR138) :: filmKnownF117n7
theorem filmKnown_f117n8 : TabOk Tryz.prog filmKnownF117n8 := tabOk_cons ((exFT_ok evEnv_ok filmKnown_tab138 1000 60).1 _ _ _ filmKnown_c138) filmKnown_f117n7
def filmKnownTab139 : Tab2 := [(82, filmKnownF82n6), (47, filmKnownF47n1), (19, filmKnownF19n1), (49, filmKnownF49n51), (8, filmKnownF8n1), (135, filmKnownF135n1), (24, filmKnownF24n1), (88, filmKnownF88n1), (29, filmKnownF29n1), (34, filmKnownF34n39), (117, filmKnownF117n8), (195, filmKnownF195n7), (174, filmKnownF174n3), (93, filmKnownF93n2), (177, filmKnownF177n12), (140, filmKnownF140n1), (50, filmKnownF50n1), (114, filmKnownF114n1), (138, filmKnownF138n1)]
theorem filmKnown_tab139 : Tab2Ok Tryz.prog filmKnownTab139 := tab2Ok_cons filmKnown_f82n6 <| tab2Ok_cons filmKnown_f47n1 <| tab2Ok_cons filmKnown_f19n1 <| tab2Ok_cons filmKnown_f49n51 <| tab2Ok_cons filmKnown_f8n1 <| tab2Ok_cons filmKnown_f135n1 <| tab2Ok_cons filmKnown_f24n1 <| tab2Ok_cons filmKnown_f88n1 <| tab2Ok_cons filmKnown_f29n1 <| tab2Ok_cons filmKnown_f34n39 <| tab2Ok_cons filmKnown_f117n8 <| tab2Ok_cons filmKnown_f195n7 <| tab2Ok_cons filmKnown_f174n3 <| tab2Ok_cons filmKnown_f93n2 <| tab2Ok_cons filmKnown_f177n12 <| tab2Ok_cons filmKnown_f140n1 <| tab2Ok_cons filmKnown_f50n1 <| tab2Ok_cons filmKnown_f114n1 <| tab2Ok_cons filmKnown_f138n1 <| tab2Ok_nil
/-- num.In: 21 operations. -/
theorem filmKnown_c139 : (exFT evEnv filmKnownTab139 1000 60).1 49 filmKnownA139 = some filmKnownR139 := by kernel_rfl
def filmKnownA140 : List PV := [.agg [.v (.int .i64 0), .v (.int .i64 65536), .v (.bool false)], .agg [.v (.int .i64 668338), .v (.int .i64 687348), .v (.bool false)]]
def filmKnownR140 : PV := .agg [.v (.int .i64 0), .v (.int .i64 6427), .v (.bool false)]
def filmKnownF49n52 : Tab := (49, filmKnownA139, filmKnownR139) :: filmKnownF49n51
theorem filmKnown_f49n52 : TabOk Tryz.prog filmKnownF49n52 := tabOk_cons ((exFT_ok evEnv_ok filmKnown_tab139 1000 60).1 _ _ _ filmKnown_c139) filmKnown_f49n51
def filmKnownTab140 : Tab2 := [(82, filmKnownF82n6), (47, filmKnownF47n1), (19, filmKnownF19n1), (49, filmKnownF49n52), (8, filmKnownF8n1), (135, filmKnownF135n1), (24, filmKnownF24n1), (88, filmKnownF88n1), (29, filmKnownF29n1), (34, filmKnownF34n39), (117, filmKnownF117n8), (195, filmKnownF195n7), (174, filmKnownF174n3), (93, filmKnownF93n2), (177, filmKnownF177n12), (140, filmKnownF140n1), (50, filmKnownF50n1), (114, filmKnownF114n1), (138, filmKnownF138n1)]
theorem filmKnown_tab140 : Tab2Ok Tryz.prog filmKnownTab140 := tab2Ok_cons filmKnown_f82n6 <| tab2Ok_cons filmKnown_f47n1 <| tab2Ok_cons filmKnown_f19n1 <| tab2Ok_cons filmKnown_f49n52 <| tab2Ok_cons filmKnown_f8n1 <| tab2Ok_cons filmKnown_f135n1 <| tab2Ok_cons filmKnown_f24n1 <| tab2Ok_cons filmKnown_f88n1 <| tab2Ok_cons filmKnown_f29n1 <| tab2Ok_cons filmKnown_f34n39 <| tab2Ok_cons filmKnown_f117n8 <| tab2Ok_cons filmKnown_f195n7 <| tab2Ok_cons filmKnown_f174n3 <| tab2Ok_cons filmKnown_f93n2 <| tab2Ok_cons filmKnown_f177n12 <| tab2Ok_cons filmKnown_f140n1 <| tab2Ok_cons filmKnown_f50n1 <| tab2Ok_cons filmKnown_f114n1 <| tab2Ok_cons filmKnown_f138n1 <| tab2Ok_nil
/-- iv.Div: 427 operations. -/
theorem filmKnown_c140 : (exFT evEnv filmKnownTab140 1000 60).1 117 filmKnownA140 = some filmKnownR140 := by kernel_rfl
def filmKnownA141 : List PV := [.v (.int .i64 42949672960), .v (.int .i64 668338)]
def filmKnownR141 : PV := .v (.int .i64 64263)
def filmKnownF117n9 : Tab := (117, filmKnownA140, filmKnownR140) :: filmKnownF117n8
theorem filmKnown_f117n9 : TabOk Tryz.prog filmKnownF117n9 := tabOk_cons ((exFT_ok evEnv_ok filmKnown_tab140 1000 60).1 _ _ _ filmKnown_c140) filmKnown_f117n8
def filmKnownTab141 : Tab2 := [(82, filmKnownF82n6), (47, filmKnownF47n1), (19, filmKnownF19n1), (49, filmKnownF49n52), (8, filmKnownF8n1), (135, filmKnownF135n1), (24, filmKnownF24n1), (88, filmKnownF88n1), (29, filmKnownF29n1), (34, filmKnownF34n39), (117, filmKnownF117n9), (195, filmKnownF195n7), (174, filmKnownF174n3), (93, filmKnownF93n2), (177, filmKnownF177n12), (140, filmKnownF140n1), (50, filmKnownF50n1), (114, filmKnownF114n1), (138, filmKnownF138n1)]
theorem filmKnown_tab141 : Tab2Ok Tryz.prog filmKnownTab141 := tab2Ok_cons filmKnown_f82n6 <| tab2Ok_cons filmKnown_f47n1 <| tab2Ok_cons filmKnown_f19n1 <| tab2Ok_cons filmKnown_f49n52 <| tab2Ok_cons filmKnown_f8n1 <| tab2Ok_cons filmKnown_f135n1 <| tab2Ok_cons filmKnown_f24n1 <| tab2Ok_cons filmKnown_f88n1 <| tab2Ok_cons filmKnown_f29n1 <| tab2Ok_cons filmKnown_f34n39 <| tab2Ok_cons filmKnown_f117n9 <| tab2Ok_cons filmKnown_f195n7 <| tab2Ok_cons filmKnown_f174n3 <| tab2Ok_cons filmKnown_f93n2 <| tab2Ok_cons filmKnown_f177n12 <| tab2Ok_cons filmKnown_f140n1 <| tab2Ok_cons filmKnown_f50n1 <| tab2Ok_cons filmKnown_f114n1 <| tab2Ok_cons filmKnown_f138n1 <| tab2Ok_nil
/-- num.Floor: 35 operations. -/
theorem filmKnown_c141 : (exFT evEnv filmKnownTab141 1000 60).1 34 filmKnownA141 = some filmKnownR141 := by kernel_rfl
def filmKnownA142 : List PV := [.v (.int .i64 64264)]
def filmKnownR142 : PV := .v (.bool true)
def filmKnownF34n40 : Tab := (34, filmKnownA141, filmKnownR141) :: filmKnownF34n39
theorem filmKnown_f34n40 : TabOk Tryz.prog filmKnownF34n40 := tabOk_cons ((exFT_ok evEnv_ok filmKnown_tab141 1000 60).1 _ _ _ filmKnown_c141) filmKnown_f34n39
def filmKnownTab142 : Tab2 := [(82, filmKnownF82n6), (47, filmKnownF47n1), (19, filmKnownF19n1), (49, filmKnownF49n52), (8, filmKnownF8n1), (135, filmKnownF135n1), (24, filmKnownF24n1), (88, filmKnownF88n1), (29, filmKnownF29n1), (34, filmKnownF34n40), (117, filmKnownF117n9), (195, filmKnownF195n7), (174, filmKnownF174n3), (93, filmKnownF93n2), (177, filmKnownF177n12), (140, filmKnownF140n1), (50, filmKnownF50n1), (114, filmKnownF114n1), (138, filmKnownF138n1)]
theorem filmKnown_tab142 : Tab2Ok Tryz.prog filmKnownTab142 := tab2Ok_cons filmKnown_f82n6 <| tab2Ok_cons filmKnown_f47n1 <| tab2Ok_cons filmKnown_f19n1 <| tab2Ok_cons filmKnown_f49n52 <| tab2Ok_cons filmKnown_f8n1 <| tab2Ok_cons filmKnown_f135n1 <| tab2Ok_cons filmKnown_f24n1 <| tab2Ok_cons filmKnown_f88n1 <| tab2Ok_cons filmKnown_f29n1 <| tab2Ok_cons filmKnown_f34n40 <| tab2Ok_cons filmKnown_f117n9 <| tab2Ok_cons filmKnown_f195n7 <| tab2Ok_cons filmKnown_f174n3 <| tab2Ok_cons filmKnown_f93n2 <| tab2Ok_cons filmKnown_f177n12 <| tab2Ok_cons filmKnown_f140n1 <| tab2Ok_cons filmKnown_f50n1 <| tab2Ok_cons filmKnown_f114n1 <| tab2Ok_cons filmKnown_f138n1 <| tab2Ok_nil
/-- num.In: 21 operations. -/
theorem filmKnown_c142 : (exFT evEnv filmKnownTab142 1000 60).1 49 filmKnownA142 = some filmKnownR142 := by kernel_rfl
def filmKnownA143 : List PV := [.v (.int .i64 64263)]
def filmKnownR143 : PV := .v (.bool true)
def filmKnownF49n53 : Tab := (49, filmKnownA142, filmKnownR142) :: filmKnownF49n52
theorem filmKnown_f49n53 : TabOk Tryz.prog filmKnownF49n53 := tabOk_cons ((exFT_ok evEnv_ok filmKnown_tab142 1000 60).1 _ _ _ filmKnown_c142) filmKnown_f49n52
def filmKnownTab143 : Tab2 := [(82, filmKnownF82n6), (47, filmKnownF47n1), (19, filmKnownF19n1), (49, filmKnownF49n53), (8, filmKnownF8n1), (135, filmKnownF135n1), (24, filmKnownF24n1), (88, filmKnownF88n1), (29, filmKnownF29n1), (34, filmKnownF34n40), (117, filmKnownF117n9), (195, filmKnownF195n7), (174, filmKnownF174n3), (93, filmKnownF93n2), (177, filmKnownF177n12), (140, filmKnownF140n1), (50, filmKnownF50n1), (114, filmKnownF114n1), (138, filmKnownF138n1)]
theorem filmKnown_tab143 : Tab2Ok Tryz.prog filmKnownTab143 := tab2Ok_cons filmKnown_f82n6 <| tab2Ok_cons filmKnown_f47n1 <| tab2Ok_cons filmKnown_f19n1 <| tab2Ok_cons filmKnown_f49n53 <| tab2Ok_cons filmKnown_f8n1 <| tab2Ok_cons filmKnown_f135n1 <| tab2Ok_cons filmKnown_f24n1 <| tab2Ok_cons filmKnown_f88n1 <| tab2Ok_cons filmKnown_f29n1 <| tab2Ok_cons filmKnown_f34n40 <| tab2Ok_cons filmKnown_f117n9 <| tab2Ok_cons filmKnown_f195n7 <| tab2Ok_cons filmKnown_f174n3 <| tab2Ok_cons filmKnown_f93n2 <| tab2Ok_cons filmKnown_f177n12 <| tab2Ok_cons filmKnown_f140n1 <| tab2Ok_cons filmKnown_f50n1 <| tab2Ok_cons filmKnown_f114n1 <| tab2Ok_cons filmKnown_f138n1 <| tab2Ok_nil
/-- num.In: 52 operations. -/
theorem filmKnown_c143 : (exFT evEnv filmKnownTab143 1000 60).1 49 filmKnownA143 = some filmKnownR143 := by kernel_rfl
def filmKnownA144 : List PV := [.v (.int .i64 42949672960), .v (.int .i64 687348)]
def filmKnownR144 : PV := .v (.int .i64 62486)
def filmKnownF49n54 : Tab := (49, filmKnownA143, filmKnownR143) :: filmKnownF49n53
theorem filmKnown_f49n54 : TabOk Tryz.prog filmKnownF49n54 := tabOk_cons ((exFT_ok evEnv_ok filmKnown_tab143 1000 60).1 _ _ _ filmKnown_c143) filmKnown_f49n53
def filmKnownTab144 : Tab2 := [(82, filmKnownF82n6), (47, filmKnownF47n1), (19, filmKnownF19n1), (49, filmKnownF49n54), (8, filmKnownF8n1), (135, filmKnownF135n1), (24, filmKnownF24n1), (88, filmKnownF88n1), (29, filmKnownF29n1), (34, filmKnownF34n40), (117, filmKnownF117n9), (195, filmKnownF195n7), (174, filmKnownF174n3), (93, filmKnownF93n2), (177, filmKnownF177n12), (140, filmKnownF140n1), (50, filmKnownF50n1), (114, filmKnownF114n1), (138, filmKnownF138n1)]
theorem filmKnown_tab144 : Tab2Ok Tryz.prog filmKnownTab144 := tab2Ok_cons filmKnown_f82n6 <| tab2Ok_cons filmKnown_f47n1 <| tab2Ok_cons filmKnown_f19n1 <| tab2Ok_cons filmKnown_f49n54 <| tab2Ok_cons filmKnown_f8n1 <| tab2Ok_cons filmKnown_f135n1 <| tab2Ok_cons filmKnown_f24n1 <| tab2Ok_cons filmKnown_f88n1 <| tab2Ok_cons filmKnown_f29n1 <| tab2Ok_cons filmKnown_f34n40 <| tab2Ok_cons filmKnown_f117n9 <| tab2Ok_cons filmKnown_f195n7 <| tab2Ok_cons filmKnown_f174n3 <| tab2Ok_cons filmKnown_f93n2 <| tab2Ok_cons filmKnown_f177n12 <| tab2Ok_cons filmKnown_f140n1 <| tab2Ok_cons filmKnown_f50n1 <| tab2Ok_cons filmKnown_f114n1 <| tab2Ok_cons filmKnown_f138n1 <| tab2Ok_nil
/-- num.Floor: 35 operations. -/
theorem filmKnown_c144 : (exFT evEnv filmKnownTab144 1000 60).1 34 filmKnownA144 = some filmKnownR144 := by kernel_rfl
def filmKnownA145 : List PV := [.v (.int .i64 62486)]
def filmKnownR145 : PV := .v (.bool true)
def filmKnownF34n41 : Tab := (34, filmKnownA144, filmKnownR144) :: filmKnownF34n40
theorem filmKnown_f34n41 : TabOk Tryz.prog filmKnownF34n41 := tabOk_cons ((exFT_ok evEnv_ok filmKnown_tab144 1000 60).1 _ _ _ filmKnown_c144) filmKnown_f34n40
def filmKnownTab145 : Tab2 := [(82, filmKnownF82n6), (47, filmKnownF47n1), (19, filmKnownF19n1), (49, filmKnownF49n54), (8, filmKnownF8n1), (135, filmKnownF135n1), (24, filmKnownF24n1), (88, filmKnownF88n1), (29, filmKnownF29n1), (34, filmKnownF34n41), (117, filmKnownF117n9), (195, filmKnownF195n7), (174, filmKnownF174n3), (93, filmKnownF93n2), (177, filmKnownF177n12), (140, filmKnownF140n1), (50, filmKnownF50n1), (114, filmKnownF114n1), (138, filmKnownF138n1)]
theorem filmKnown_tab145 : Tab2Ok Tryz.prog filmKnownTab145 := tab2Ok_cons filmKnown_f82n6 <| tab2Ok_cons filmKnown_f47n1 <| tab2Ok_cons filmKnown_f19n1 <| tab2Ok_cons filmKnown_f49n54 <| tab2Ok_cons filmKnown_f8n1 <| tab2Ok_cons filmKnown_f135n1 <| tab2Ok_cons filmKnown_f24n1 <| tab2Ok_cons filmKnown_f88n1 <| tab2Ok_cons filmKnown_f29n1 <| tab2Ok_cons filmKnown_f34n41 <| tab2Ok_cons filmKnown_f117n9 <| tab2Ok_cons filmKnown_f195n7 <| tab2Ok_cons filmKnown_f174n3 <| tab2Ok_cons filmKnown_f93n2 <| tab2Ok_cons filmKnown_f177n12 <| tab2Ok_cons filmKnown_f140n1 <| tab2Ok_cons filmKnown_f50n1 <| tab2Ok_cons filmKnown_f114n1 <| tab2Ok_cons filmKnown_f138n1 <| tab2Ok_nil
/-- num.In: 18 operations. -/
theorem filmKnown_c145 : (exFT evEnv filmKnownTab145 1000 60).1 49 filmKnownA145 = some filmKnownR145 := by kernel_rfl
def filmKnownA146 : List PV := [.agg [.v (.int .i64 655360), .v (.int .i64 655360), .v (.bool false)], .agg [.v (.int .i64 668338), .v (.int .i64 687348), .v (.bool false)]]
def filmKnownR146 : PV := .agg [.v (.int .i64 62486), .v (.int .i64 64264), .v (.bool false)]
def filmKnownF49n55 : Tab := (49, filmKnownA145, filmKnownR145) :: filmKnownF49n54
theorem filmKnown_f49n55 : TabOk Tryz.prog filmKnownF49n55 := tabOk_cons ((exFT_ok evEnv_ok filmKnown_tab145 1000 60).1 _ _ _ filmKnown_c145) filmKnown_f49n54
def filmKnownTab146 : Tab2 := [(82, filmKnownF82n6), (47, filmKnownF47n1), (19, filmKnownF19n1), (49, filmKnownF49n55), (8, filmKnownF8n1), (135, filmKnownF135n1), (24, filmKnownF24n1), (88, filmKnownF88n1), (29, filmKnownF29n1), (34, filmKnownF34n41), (117, filmKnownF117n9), (195, filmKnownF195n7), (174, filmKnownF174n3), (93, filmKnownF93n2), (177, filmKnownF177n12), (140, filmKnownF140n1), (50, filmKnownF50n1), (114, filmKnownF114n1), (138, filmKnownF138n1)]
theorem filmKnown_tab146 : Tab2Ok Tryz.prog filmKnownTab146 := tab2Ok_cons filmKnown_f82n6 <| tab2Ok_cons filmKnown_f47n1 <| tab2Ok_cons filmKnown_f19n1 <| tab2Ok_cons filmKnown_f49n55 <| tab2Ok_cons filmKnown_f8n1 <| tab2Ok_cons filmKnown_f135n1 <| tab2Ok_cons filmKnown_f24n1 <| tab2Ok_cons filmKnown_f88n1 <| tab2Ok_cons filmKnown_f29n1 <| tab2Ok_cons filmKnown_f34n41 <| tab2Ok_cons filmKnown_f117n9 <| tab2Ok_cons filmKnown_f195n7 <| tab2Ok_cons filmKnown_f174n3 <| tab2Ok_cons filmKnown_f93n2 <| tab2Ok_cons filmKnown_f177n12 <| tab2Ok_cons filmKnown_f140n1 <| tab2Ok_cons filmKnown_f50n1 <| tab2Ok_cons filmKnown_f114n1 <| tab2Ok_cons filmKnown_f138n1 <| tab2Ok_nil
/-- iv.Div: 150 operations. -/
theorem filmKnown_c146 : (exFT evEnv filmKnownTab146 1000 60).1 117 filmKnownA146 = some filmKnownR146 := by kernel_rfl
def filmKnownA147 : List PV := [.v (.int .i64 2383)]
def filmKnownR147 : PV := .v (.bool true)
def filmKnownF117n10 : Tab := (117, filmKnownA146, filmKnownR146) :: filmKnownF117n9
theorem filmKnown_f117n10 : TabOk Tryz.prog filmKnownF117n10 := tabOk_cons ((exFT_ok evEnv_ok filmKnown_tab146 1000 60).1 _ _ _ filmKnown_c146) filmKnown_f117n9
def filmKnownTab147 : Tab2 := [(82, filmKnownF82n6), (47, filmKnownF47n1), (19, filmKnownF19n1), (49, filmKnownF49n55), (8, filmKnownF8n1), (135, filmKnownF135n1), (24, filmKnownF24n1), (88, filmKnownF88n1), (29, filmKnownF29n1), (34, filmKnownF34n41), (117, filmKnownF117n10), (195, filmKnownF195n7), (174, filmKnownF174n3), (93, filmKnownF93n2), (177, filmKnownF177n12), (140, filmKnownF140n1), (50, filmKnownF50n1), (114, filmKnownF114n1), (138, filmKnownF138n1)]
theorem filmKnown_tab147 : Tab2Ok Tryz.prog filmKnownTab147 := tab2Ok_cons filmKnown_f82n6 <| tab2Ok_cons filmKnown_f47n1 <| tab2Ok_cons filmKnown_f19n1 <| tab2Ok_cons filmKnown_f49n55 <| tab2Ok_cons filmKnown_f8n1 <| tab2Ok_cons filmKnown_f135n1 <| tab2Ok_cons filmKnown_f24n1 <| tab2Ok_cons filmKnown_f88n1 <| tab2Ok_cons filmKnown_f29n1 <| tab2Ok_cons filmKnown_f34n41 <| tab2Ok_cons filmKnown_f117n10 <| tab2Ok_cons filmKnown_f195n7 <| tab2Ok_cons filmKnown_f174n3 <| tab2Ok_cons filmKnown_f93n2 <| tab2Ok_cons filmKnown_f177n12 <| tab2Ok_cons filmKnown_f140n1 <| tab2Ok_cons filmKnown_f50n1 <| tab2Ok_cons filmKnown_f114n1 <| tab2Ok_cons filmKnown_f138n1 <| tab2Ok_nil
/-- num.In: 46 operations. -/
theorem filmKnown_c147 : (exFT evEnv filmKnownTab147 1000 60).1 49 filmKnownA147 = some filmKnownR147 := by kernel_rfl
def filmKnownA148 : List PV := [.v (.int .i64 63017)]
def filmKnownR148 : PV := .v (.bool true)
def filmKnownF49n56 : Tab := (49, filmKnownA147, filmKnownR147) :: filmKnownF49n55
theorem filmKnown_f49n56 : TabOk Tryz.prog filmKnownF49n56 := tabOk_cons ((exFT_ok evEnv_ok filmKnown_tab147 1000 60).1 _ _ _ filmKnown_c147) filmKnown_f49n55
def filmKnownTab148 : Tab2 := [(82, filmKnownF82n6), (47, filmKnownF47n1), (19, filmKnownF19n1), (49, filmKnownF49n56), (8, filmKnownF8n1), (135, filmKnownF135n1), (24, filmKnownF24n1), (88, filmKnownF88n1), (29, filmKnownF29n1), (34, filmKnownF34n41), (117, filmKnownF117n10), (195, filmKnownF195n7), (174, filmKnownF174n3), (93, filmKnownF93n2), (177, filmKnownF177n12), (140, filmKnownF140n1), (50, filmKnownF50n1), (114, filmKnownF114n1), (138, filmKnownF138n1)]
theorem filmKnown_tab148 : Tab2Ok Tryz.prog filmKnownTab148 := tab2Ok_cons filmKnown_f82n6 <| tab2Ok_cons filmKnown_f47n1 <| tab2Ok_cons filmKnown_f19n1 <| tab2Ok_cons filmKnown_f49n56 <| tab2Ok_cons filmKnown_f8n1 <| tab2Ok_cons filmKnown_f135n1 <| tab2Ok_cons filmKnown_f24n1 <| tab2Ok_cons filmKnown_f88n1 <| tab2Ok_cons filmKnown_f29n1 <| tab2Ok_cons filmKnown_f34n41 <| tab2Ok_cons filmKnown_f117n10 <| tab2Ok_cons filmKnown_f195n7 <| tab2Ok_cons filmKnown_f174n3 <| tab2Ok_cons filmKnown_f93n2 <| tab2Ok_cons filmKnown_f177n12 <| tab2Ok_cons filmKnown_f140n1 <| tab2Ok_cons filmKnown_f50n1 <| tab2Ok_cons filmKnown_f114n1 <| tab2Ok_cons filmKnown_f138n1 <| tab2Ok_nil
/-- num.In: 21 operations. -/
theorem filmKnown_c148 : (exFT evEnv filmKnownTab148 1000 60).1 49 filmKnownA148 = some filmKnownR148 := by kernel_rfl
def filmKnownA149 : List PV := [.v (.int .i64 59577)]
def filmKnownR149 : PV := .v (.bool true)
def filmKnownF49n57 : Tab := (49, filmKnownA148, filmKnownR148) :: filmKnownF49n56
theorem filmKnown_f49n57 : TabOk Tryz.prog filmKnownF49n57 := tabOk_cons ((exFT_ok evEnv_ok filmKnown_tab148 1000 60).1 _ _ _ filmKnown_c148) filmKnown_f49n56
def filmKnownTab149 : Tab2 := [(82, filmKnownF82n6), (47, filmKnownF47n1), (19, filmKnownF19n1), (49, filmKnownF49n57), (8, filmKnownF8n1), (135, filmKnownF135n1), (24, filmKnownF24n1), (88, filmKnownF88n1), (29, filmKnownF29n1), (34, filmKnownF34n41), (117, filmKnownF117n10), (195, filmKnownF195n7), (174, filmKnownF174n3), (93, filmKnownF93n2), (177, filmKnownF177n12), (140, filmKnownF140n1), (50, filmKnownF50n1), (114, filmKnownF114n1), (138, filmKnownF138n1)]
theorem filmKnown_tab149 : Tab2Ok Tryz.prog filmKnownTab149 := tab2Ok_cons filmKnown_f82n6 <| tab2Ok_cons filmKnown_f47n1 <| tab2Ok_cons filmKnown_f19n1 <| tab2Ok_cons filmKnown_f49n57 <| tab2Ok_cons filmKnown_f8n1 <| tab2Ok_cons filmKnown_f135n1 <| tab2Ok_cons filmKnown_f24n1 <| tab2Ok_cons filmKnown_f88n1 <| tab2Ok_cons filmKnown_f29n1 <| tab2Ok_cons filmKnown_f34n41 <| tab2Ok_cons filmKnown_f117n10 <| tab2Ok_cons filmKnown_f195n7 <| tab2Ok_cons filmKnown_f174n3 <| tab2Ok_cons filmKnown_f93n2 <| tab2Ok_cons filmKnown_f177n12 <| tab2Ok_cons filmKnown_f140n1 <| tab2Ok_cons filmKnown_f50n1 <| tab2Ok_cons filmKnown_f114n1 <| tab2Ok_cons filmKnown_f138n1 <| tab2Ok_nil
/-- num.In: 18 operations. -/
theorem filmKnown_c149 : (exFT evEnv filmKnownTab149 1000 60).1 49 filmKnownA149 = some filmKnownR149 := by kernel_rfl
def filmKnownA150 : List PV := [.agg [.v (.int .i64 62486), .v (.int .i64 64264), .v (.bool false)]]
def filmKnownR150 : PV := .agg [.v (.int .i64 59577), .v (.int .i64 63017), .v (.bool false)]
def filmKnownF49n58 : Tab := (49, filmKnownA149, filmKnownR149) :: filmKnownF49n57
theorem filmKnown_f49n58 : TabOk Tryz.prog filmKnownF49n58 := tabOk_cons ((exFT_ok evEnv_ok filmKnown_tab149 1000 60).1 _ _ _ filmKnown_c149) filmKnown_f49n57
def filmKnownTab150 : Tab2 := [(82, filmKnownF82n6), (47, filmKnownF47n1), (19, filmKnownF19n1), (49, filmKnownF49n58), (8, filmKnownF8n1), (135, filmKnownF135n1), (24, filmKnownF24n1), (88, filmKnownF88n1), (29, filmKnownF29n1), (34, filmKnownF34n41), (117, filmKnownF117n10), (195, filmKnownF195n7), (174, filmKnownF174n3), (93, filmKnownF93n2), (177, filmKnownF177n12), (140, filmKnownF140n1), (50, filmKnownF50n1), (114, filmKnownF114n1), (138, filmKnownF138n1)]
theorem filmKnown_tab150 : Tab2Ok Tryz.prog filmKnownTab150 := tab2Ok_cons filmKnown_f82n6 <| tab2Ok_cons filmKnown_f47n1 <| tab2Ok_cons filmKnown_f19n1 <| tab2Ok_cons filmKnown_f49n58 <| tab2Ok_cons filmKnown_f8n1 <| tab2Ok_cons filmKnown_f135n1 <| tab2Ok_cons filmKnown_f24n1 <| tab2Ok_cons filmKnown_f88n1 <| tab2Ok_cons filmKnown_f29n1 <| tab2Ok_cons filmKnown_f34n41 <| tab2Ok_cons filmKnown_f117n10 <| tab2Ok_cons filmKnown_f195n7 <| tab2Ok_cons filmKnown_f174n3 <| tab2Ok_cons filmKnown_f93n2 <| tab2Ok_cons filmKnown_f177n12 <| tab2Ok_cons filmKnown_f140n1 <| tab2Ok_cons filmKnown_f50n1 <| tab2Ok_cons filmKnown_f114n1 <| tab2Ok_cons filmKnown_f138n1 <| tab2Ok_nil
/-- iv.Sqr: 78 operations. -/
theorem filmKnown_c150 : (exFT evEnv filmKnownTab150 1000 60).1 168 filmKnownA150 = some filmKnownR150 := by kernel_rfl
def filmKnownA151 : List PV := [.v (.int .i64 3904438272), .v (.int .i64 65536)]
def filmKnownR151 : PV := .v (.int .i64 59577)
def filmKnownF168n1 : Tab := (168, filmKnownA150, filmKnownR150) :: []
theorem filmKnown_f168n1 : TabOk Tryz.prog filmKnownF168n1 := tabOk_cons ((exFT_ok evEnv_ok filmKnown_tab150 1000 60).1 _ _ _ filmKnown_c150) tabOk_nil
def filmKnownTab151 : Tab2 := [(82, filmKnownF82n6), (47, filmKnownF47n1), (19, filmKnownF19n1), (49, filmKnownF49n58), (8, filmKnownF8n1), (135, filmKnownF135n1), (24, filmKnownF24n1), (88, filmKnownF88n1), (29, filmKnownF29n1), (34, filmKnownF34n41), (117, filmKnownF117n10), (195, filmKnownF195n7), (174, filmKnownF174n3), (93, filmKnownF93n2), (177, filmKnownF177n12), (140, filmKnownF140n1), (50, filmKnownF50n1), (114, filmKnownF114n1), (138, filmKnownF138n1), (168, filmKnownF168n1)]
theorem filmKnown_tab151 : Tab2Ok Tryz.prog filmKnownTab151 := tab2Ok_cons filmKnown_f82n6 <| tab2Ok_cons filmKnown_f47n1 <| tab2Ok_cons filmKnown_f19n1 <| tab2Ok_cons filmKnown_f49n58 <| tab2Ok_cons filmKnown_f8n1 <| tab2Ok_cons filmKnown_f135n1 <| tab2Ok_cons filmKnown_f24n1 <| tab2Ok_cons filmKnown_f88n1 <| tab2Ok_cons filmKnown_f29n1 <| tab2Ok_cons filmKnown_f34n41 <| tab2Ok_cons filmKnown_f117n10 <| tab2Ok_cons filmKnown_f195n7 <| tab2Ok_cons filmKnown_f174n3 <| tab2Ok_cons filmKnown_f93n2 <| tab2Ok_cons filmKnown_f177n12 <| tab2Ok_cons filmKnown_f140n1 <| tab2Ok_cons filmKnown_f50n1 <| tab2Ok_cons filmKnown_f114n1 <| tab2Ok_cons filmKnown_f138n1 <| tab2Ok_cons filmKnown_f168n1 <| tab2Ok_nil
/-- num.Floor: 35 operations. -/
theorem filmKnown_c151 : (exFT evEnv filmKnownTab151 1000 60).1 34 filmKnownA151 = some filmKnownR151 := by kernel_rfl
def filmKnownA152 : List PV := [.v (.int .i64 4129882112), .v (.int .i64 65536)]
def filmKnownR152 : PV := .v (.int .i64 63017)
def filmKnownF34n42 : Tab := (34, filmKnownA151, filmKnownR151) :: filmKnownF34n41
theorem filmKnown_f34n42 : TabOk Tryz.prog filmKnownF34n42 := tabOk_cons ((exFT_ok evEnv_ok filmKnown_tab151 1000 60).1 _ _ _ filmKnown_c151) filmKnown_f34n41
def filmKnownTab152 : Tab2 := [(82, filmKnownF82n6), (47, filmKnownF47n1), (19, filmKnownF19n1), (49, filmKnownF49n58), (8, filmKnownF8n1), (135, filmKnownF135n1), (24, filmKnownF24n1), (88, filmKnownF88n1), (29, filmKnownF29n1), (34, filmKnownF34n42), (117, filmKnownF117n10), (195, filmKnownF195n7), (174, filmKnownF174n3), (93, filmKnownF93n2), (177, filmKnownF177n12), (140, filmKnownF140n1), (50, filmKnownF50n1), (114, filmKnownF114n1), (138, filmKnownF138n1), (168, filmKnownF168n1)]
theorem filmKnown_tab152 : Tab2Ok Tryz.prog filmKnownTab152 := tab2Ok_cons filmKnown_f82n6 <| tab2Ok_cons filmKnown_f47n1 <| tab2Ok_cons filmKnown_f19n1 <| tab2Ok_cons filmKnown_f49n58 <| tab2Ok_cons filmKnown_f8n1 <| tab2Ok_cons filmKnown_f135n1 <| tab2Ok_cons filmKnown_f24n1 <| tab2Ok_cons filmKnown_f88n1 <| tab2Ok_cons filmKnown_f29n1 <| tab2Ok_cons filmKnown_f34n42 <| tab2Ok_cons filmKnown_f117n10 <| tab2Ok_cons filmKnown_f195n7 <| tab2Ok_cons filmKnown_f174n3 <| tab2Ok_cons filmKnown_f93n2 <| tab2Ok_cons filmKnown_f177n12 <| tab2Ok_cons filmKnown_f140n1 <| tab2Ok_cons filmKnown_f50n1 <| tab2Ok_cons filmKnown_f114n1 <| tab2Ok_cons filmKnown_f138n1 <| tab2Ok_cons filmKnown_f168n1 <| tab2Ok_nil
/-- num.Floor: 35 operations. -/
theorem filmKnown_c152 : (exFT evEnv filmKnownTab152 1000 60).1 34 filmKnownA152 = some filmKnownR152 := by kernel_rfl
def filmKnownA153 : List PV := [.v (.int .i64 61960)]
def filmKnownR153 : PV := .v (.bool true)
def filmKnownF34n43 : Tab := (34, filmKnownA152, filmKnownR152) :: filmKnownF34n42
theorem filmKnown_f34n43 : TabOk Tryz.prog filmKnownF34n43 := tabOk_cons ((exFT_ok evEnv_ok filmKnown_tab152 1000 60).1 _ _ _ filmKnown_c152) filmKnown_f34n42
def filmKnownTab153 : Tab2 := [(82, filmKnownF82n6), (47, filmKnownF47n1), (19, filmKnownF19n1), (49, filmKnownF49n58), (8, filmKnownF8n1), (135, filmKnownF135n1), (24, filmKnownF24n1), (88, filmKnownF88n1), (29, filmKnownF29n1), (34, filmKnownF34n43), (117, filmKnownF117n10), (195, filmKnownF195n7), (174, filmKnownF174n3), (93, filmKnownF93n2), (177, filmKnownF177n12), (140, filmKnownF140n1), (50, filmKnownF50n1), (114, filmKnownF114n1), (138, filmKnownF138n1), (168, filmKnownF168n1)]
theorem filmKnown_tab153 : Tab2Ok Tryz.prog filmKnownTab153 := tab2Ok_cons filmKnown_f82n6 <| tab2Ok_cons filmKnown_f47n1 <| tab2Ok_cons filmKnown_f19n1 <| tab2Ok_cons filmKnown_f49n58 <| tab2Ok_cons filmKnown_f8n1 <| tab2Ok_cons filmKnown_f135n1 <| tab2Ok_cons filmKnown_f24n1 <| tab2Ok_cons filmKnown_f88n1 <| tab2Ok_cons filmKnown_f29n1 <| tab2Ok_cons filmKnown_f34n43 <| tab2Ok_cons filmKnown_f117n10 <| tab2Ok_cons filmKnown_f195n7 <| tab2Ok_cons filmKnown_f174n3 <| tab2Ok_cons filmKnown_f93n2 <| tab2Ok_cons filmKnown_f177n12 <| tab2Ok_cons filmKnown_f140n1 <| tab2Ok_cons filmKnown_f50n1 <| tab2Ok_cons filmKnown_f114n1 <| tab2Ok_cons filmKnown_f138n1 <| tab2Ok_cons filmKnown_f168n1 <| tab2Ok_nil
/-- num.In: 52 operations. -/
theorem filmKnown_c153 : (exFT evEnv filmKnownTab153 1000 60).1 49 filmKnownA153 = some filmKnownR153 := by kernel_rfl
def filmKnownA154 : List PV := [.v (.int .i64 (-40950824960)), .v (.int .i64 65536)]
def filmKnownR154 : PV := .v (.int .i64 (-624860))
def filmKnownF49n59 : Tab := (49, filmKnownA153, filmKnownR153) :: filmKnownF49n58
theorem filmKnown_f49n59 : TabOk Tryz.prog filmKnownF49n59 := tabOk_cons ((exFT_ok evEnv_ok filmKnown_tab153 1000 60).1 _ _ _ filmKnown_c153) filmKnown_f49n58
def filmKnownTab154 : Tab2 := [(82, filmKnownF82n6), (47, filmKnownF47n1), (19, filmKnownF19n1), (49, filmKnownF49n59), (8, filmKnownF8n1), (135, filmKnownF135n1), (24, filmKnownF24n1), (88, filmKnownF88n1), (29, filmKnownF29n1), (34, filmKnownF34n43), (117, filmKnownF117n10), (195, filmKnownF195n7), (174, filmKnownF174n3), (93, filmKnownF93n2), (177, filmKnownF177n12), (140, filmKnownF140n1), (50, filmKnownF50n1), (114, filmKnownF114n1), (138, filmKnownF138n1), (168, filmKnownF168n1)]
theorem filmKnown_tab154 : Tab2Ok Tryz.prog filmKnownTab154 := tab2Ok_cons filmKnown_f82n6 <| tab2Ok_cons filmKnown_f47n1 <| tab2Ok_cons filmKnown_f19n1 <| tab2Ok_cons filmKnown_f49n59 <| tab2Ok_cons filmKnown_f8n1 <| tab2Ok_cons filmKnown_f135n1 <| tab2Ok_cons filmKnown_f24n1 <| tab2Ok_cons filmKnown_f88n1 <| tab2Ok_cons filmKnown_f29n1 <| tab2Ok_cons filmKnown_f34n43 <| tab2Ok_cons filmKnown_f117n10 <| tab2Ok_cons filmKnown_f195n7 <| tab2Ok_cons filmKnown_f174n3 <| tab2Ok_cons filmKnown_f93n2 <| tab2Ok_cons filmKnown_f177n12 <| tab2Ok_cons filmKnown_f140n1 <| tab2Ok_cons filmKnown_f50n1 <| tab2Ok_cons filmKnown_f114n1 <| tab2Ok_cons filmKnown_f138n1 <| tab2Ok_cons filmKnown_f168n1 <| tab2Ok_nil
/-- num.Floor: 35 operations. -/
theorem filmKnown_c154 : (exFT evEnv filmKnownTab154 1000 60).1 34 filmKnownA154 = some filmKnownR154 := by kernel_rfl
def filmKnownA155 : List PV := [.v (.int .i64 (-624860))]
def filmKnownR155 : PV := .v (.bool true)
def filmKnownF34n44 : Tab := (34, filmKnownA154, filmKnownR154) :: filmKnownF34n43
theorem filmKnown_f34n44 : TabOk Tryz.prog filmKnownF34n44 := tabOk_cons ((exFT_ok evEnv_ok filmKnown_tab154 1000 60).1 _ _ _ filmKnown_c154) filmKnown_f34n43
def filmKnownTab155 : Tab2 := [(82, filmKnownF82n6), (47, filmKnownF47n1), (19, filmKnownF19n1), (49, filmKnownF49n59), (8, filmKnownF8n1), (135, filmKnownF135n1), (24, filmKnownF24n1), (88, filmKnownF88n1), (29, filmKnownF29n1), (34, filmKnownF34n44), (117, filmKnownF117n10), (195, filmKnownF195n7), (174, filmKnownF174n3), (93, filmKnownF93n2), (177, filmKnownF177n12), (140, filmKnownF140n1), (50, filmKnownF50n1), (114, filmKnownF114n1), (138, filmKnownF138n1), (168, filmKnownF168n1)]
theorem filmKnown_tab155 : Tab2Ok Tryz.prog filmKnownTab155 := tab2Ok_cons filmKnown_f82n6 <| tab2Ok_cons filmKnown_f47n1 <| tab2Ok_cons filmKnown_f19n1 <| tab2Ok_cons filmKnown_f49n59 <| tab2Ok_cons filmKnown_f8n1 <| tab2Ok_cons filmKnown_f135n1 <| tab2Ok_cons filmKnown_f24n1 <| tab2Ok_cons filmKnown_f88n1 <| tab2Ok_cons filmKnown_f29n1 <| tab2Ok_cons filmKnown_f34n44 <| tab2Ok_cons filmKnown_f117n10 <| tab2Ok_cons filmKnown_f195n7 <| tab2Ok_cons filmKnown_f174n3 <| tab2Ok_cons filmKnown_f93n2 <| tab2Ok_cons filmKnown_f177n12 <| tab2Ok_cons filmKnown_f140n1 <| tab2Ok_cons filmKnown_f50n1 <| tab2Ok_cons filmKnown_f114n1 <| tab2Ok_cons filmKnown_f138n1 <| tab2Ok_cons filmKnown_f168n1 <| tab2Ok_nil
/-- num.In: 18 operations. -/
theorem filmKnown_c155 : (exFT evEnv filmKnownTab155 1000 60).1 49 filmKnownA155 = some filmKnownR155 := by kernel_rfl
def filmKnownA156 : List PV := [.v (.int .i64 (-42116055040)), .v (.int .i64 65536)]
def filmKnownR156 : PV := .v (.int .i64 (-642640))
def filmKnownF49n60 : Tab := (49, filmKnownA155, filmKnownR155) :: filmKnownF49n59
theorem filmKnown_f49n60 : TabOk Tryz.prog filmKnownF49n60 := tabOk_cons ((exFT_ok evEnv_ok filmKnown_tab155 1000 60).1 _ _ _ filmKnown_c155) filmKnown_f49n59
def filmKnownTab156 : Tab2 := [(82, filmKnownF82n6), (47, filmKnownF47n1), (19, filmKnownF19n1), (49, filmKnownF49n60), (8, filmKnownF8n1), (135, filmKnownF135n1), (24, filmKnownF24n1), (88, filmKnownF88n1), (29, filmKnownF29n1), (34, filmKnownF34n44), (117, filmKnownF117n10), (195, filmKnownF195n7), (174, filmKnownF174n3), (93, filmKnownF93n2), (177, filmKnownF177n12), (140, filmKnownF140n1), (50, filmKnownF50n1), (114, filmKnownF114n1), (138, filmKnownF138n1), (168, filmKnownF168n1)]
theorem filmKnown_tab156 : Tab2Ok Tryz.prog filmKnownTab156 := tab2Ok_cons filmKnown_f82n6 <| tab2Ok_cons filmKnown_f47n1 <| tab2Ok_cons filmKnown_f19n1 <| tab2Ok_cons filmKnown_f49n60 <| tab2Ok_cons filmKnown_f8n1 <| tab2Ok_cons filmKnown_f135n1 <| tab2Ok_cons filmKnown_f24n1 <| tab2Ok_cons filmKnown_f88n1 <| tab2Ok_cons filmKnown_f29n1 <| tab2Ok_cons filmKnown_f34n44 <| tab2Ok_cons filmKnown_f117n10 <| tab2Ok_cons filmKnown_f195n7 <| tab2Ok_cons filmKnown_f174n3 <| tab2Ok_cons filmKnown_f93n2 <| tab2Ok_cons filmKnown_f177n12 <| tab2Ok_cons filmKnown_f140n1 <| tab2Ok_cons filmKnown_f50n1 <| tab2Ok_cons filmKnown_f114n1 <| tab2Ok_cons filmKnown_f138n1 <| tab2Ok_cons filmKnown_f168n1 <| tab2Ok_nil
/-- num.Floor: 35 operations. -/
theorem filmKnown_c156 : (exFT evEnv filmKnownTab156 1000 60).1 34 filmKnownA156 = some filmKnownR156 := by kernel_rfl
def filmKnownA157 : List PV := [.v (.int .i64 (-642640))]
def filmKnownR157 : PV := .v (.bool true)
def filmKnownF34n45 : Tab := (34, filmKnownA156, filmKnownR156) :: filmKnownF34n44
theorem filmKnown_f34n45 : TabOk Tryz.prog filmKnownF34n45 := tabOk_cons ((exFT_ok evEnv_ok filmKnown_tab156 1000 60).1 _ _ _ filmKnown_c156) filmKnown_f34n44
def filmKnownTab157 : Tab2 := [(82, filmKnownF82n6), (47, filmKnownF47n1), (19, filmKnownF19n1), (49, filmKnownF49n60), (8, filmKnownF8n1), (135, filmKnownF135n1), (24, filmKnownF24n1), (88, filmKnownF88n1), (29, filmKnownF29n1), (34, filmKnownF34n45), (117, filmKnownF117n10), (195, filmKnownF195n7), (174, filmKnownF174n3), (93, filmKnownF93n2), (177, filmKnownF177n12), (140, filmKnownF140n1), (50, filmKnownF50n1), (114, filmKnownF114n1), (138, filmKnownF138n1), (168, filmKnownF168n1)]
theorem filmKnown_tab157 : Tab2Ok Tryz.prog filmKnownTab157 := tab2Ok_cons filmKnown_f82n6 <| tab2Ok_cons filmKnown_f47n1 <| tab2Ok_cons filmKnown_f19n1 <| tab2Ok_cons filmKnown_f49n60 <| tab2Ok_cons filmKnown_f8n1 <| tab2Ok_cons filmKnown_f135n1 <| tab2Ok_cons filmKnown_f24n1 <| tab2Ok_cons filmKnown_f88n1 <| tab2Ok_cons filmKnown_f29n1 <| tab2Ok_cons filmKnown_f34n45 <| tab2Ok_cons filmKnown_f117n10 <| tab2Ok_cons filmKnown_f195n7 <| tab2Ok_cons filmKnown_f174n3 <| tab2Ok_cons filmKnown_f93n2 <| tab2Ok_cons filmKnown_f177n12 <| tab2Ok_cons filmKnown_f140n1 <| tab2Ok_cons filmKnown_f50n1 <| tab2Ok_cons filmKnown_f114n1 <| tab2Ok_cons filmKnown_f138n1 <| tab2Ok_cons filmKnown_f168n1 <| tab2Ok_nil
/-- num.In: 18 operations. -/
theorem filmKnown_c157 : (exFT evEnv filmKnownTab157 1000 60).1 49 filmKnownA157 = some filmKnownR157 := by kernel_rfl
def filmKnownA158 : List PV := [.v (.int .i64 (-64264))]
def filmKnownR158 : PV := .v (.bool true)
def filmKnownF49n61 : Tab := (49, filmKnownA157, filmKnownR157) :: filmKnownF49n60
theorem filmKnown_f49n61 : TabOk Tryz.prog filmKnownF49n61 := tabOk_cons ((exFT_ok evEnv_ok filmKnown_tab157 1000 60).1 _ _ _ filmKnown_c157) filmKnown_f49n60
def filmKnownTab158 : Tab2 := [(82, filmKnownF82n6), (47, filmKnownF47n1), (19, filmKnownF19n1), (49, filmKnownF49n61), (8, filmKnownF8n1), (135, filmKnownF135n1), (24, filmKnownF24n1), (88, filmKnownF88n1), (29, filmKnownF29n1), (34, filmKnownF34n45), (117, filmKnownF117n10), (195, filmKnownF195n7), (174, filmKnownF174n3), (93, filmKnownF93n2), (177, filmKnownF177n12), (140, filmKnownF140n1), (50, filmKnownF50n1), (114, filmKnownF114n1), (138, filmKnownF138n1), (168, filmKnownF168n1)]
theorem filmKnown_tab158 : Tab2Ok Tryz.prog filmKnownTab158 := tab2Ok_cons filmKnown_f82n6 <| tab2Ok_cons filmKnown_f47n1 <| tab2Ok_cons filmKnown_f19n1 <| tab2Ok_cons filmKnown_f49n61 <| tab2Ok_cons filmKnown_f8n1 <| tab2Ok_cons filmKnown_f135n1 <| tab2Ok_cons filmKnown_f24n1 <| tab2Ok_cons filmKnown_f88n1 <| tab2Ok_cons filmKnown_f29n1 <| tab2Ok_cons filmKnown_f34n45 <| tab2Ok_cons filmKnown_f117n10 <| tab2Ok_cons filmKnown_f195n7 <| tab2Ok_cons filmKnown_f174n3 <| tab2Ok_cons filmKnown_f93n2 <| tab2Ok_cons filmKnown_f177n12 <| tab2Ok_cons filmKnown_f140n1 <| tab2Ok_cons filmKnown_f50n1 <| tab2Ok_cons filmKnown_f114n1 <| tab2Ok_cons filmKnown_f138n1 <| tab2Ok_cons filmKnown_f168n1 <| tab2Ok_nil
/-- num.In: 48 operations. -/
theorem filmKnown_c158 : (exFT evEnv filmKnownTab158 1000 60).1 49 filmKnownA158 = some filmKnownR158 := by kernel_rfl
def filmKnownA159 : List PV := [.v (.int .i64 59577), .v (.bool false)]
def filmKnownR159 : PV := .tup [.v (.int .i64 62485), .v (.bool true)]
def filmKnownF49n62 : Tab := (49, filmKnownA158, filmKnownR158) :: filmKnownF49n61
theorem filmKnown_f49n62 : TabOk Tryz.prog filmKnownF49n62 := tabOk_cons ((exFT_ok evEnv_ok filmKnown_tab158 1000 60).1 _ _ _ filmKnown_c158) filmKnown_f49n61
def filmKnownTab159 : Tab2 := [(82, filmKnownF82n6), (47, filmKnownF47n1), (19, filmKnownF19n1), (49, filmKnownF49n62), (8, filmKnownF8n1), (135, filmKnownF135n1), (24, filmKnownF24n1), (88, filmKnownF88n1), (29, filmKnownF29n1), (34, filmKnownF34n45), (117, filmKnownF117n10), (195, filmKnownF195n7), (174, filmKnownF174n3), (93, filmKnownF93n2), (177, filmKnownF177n12), (140, filmKnownF140n1), (50, filmKnownF50n1), (114, filmKnownF114n1), (138, filmKnownF138n1), (168, filmKnownF168n1)]
theorem filmKnown_tab159 : Tab2Ok Tryz.prog filmKnownTab159 := tab2Ok_cons filmKnown_f82n6 <| tab2Ok_cons filmKnown_f47n1 <| tab2Ok_cons filmKnown_f19n1 <| tab2Ok_cons filmKnown_f49n62 <| tab2Ok_cons filmKnown_f8n1 <| tab2Ok_cons filmKnown_f135n1 <| tab2Ok_cons filmKnown_f24n1 <| tab2Ok_cons filmKnown_f88n1 <| tab2Ok_cons filmKnown_f29n1 <| tab2Ok_cons filmKnown_f34n45 <| tab2Ok_cons filmKnown_f117n10 <| tab2Ok_cons filmKnown_f195n7 <| tab2Ok_cons filmKnown_f174n3 <| tab2Ok_cons filmKnown_f93n2 <| tab2Ok_cons filmKnown_f177n12 <| tab2Ok_cons filmKnown_f140n1 <| tab2Ok_cons filmKnown_f50n1 <| tab2Ok_cons filmKnown_f114n1 <| tab2Ok_cons filmKnown_f138n1 <| tab2Ok_cons filmKnown_f168n1 <| tab2Ok_nil
/-- num.Root: 409 operations. -/
theorem filmKnown_c159 : (exFT evEnv filmKnownTab159 1000 60).1 195 filmKnownA159 = some filmKnownR159 := by kernel_rfl
def filmKnownA160 : List PV := [.v (.int .i64 63017), .v (.bool true)]
def filmKnownR160 : PV := .tup [.v (.int .i64 64265), .v (.bool true)]
def filmKnownF195n8 : Tab := (195, filmKnownA159, filmKnownR159) :: filmKnownF195n7
theorem filmKnown_f195n8 : TabOk Tryz.prog filmKnownF195n8 := tabOk_cons ((exFT_ok evEnv_ok filmKnown_tab159 1000 60).1 _ _ _ filmKnown_c159) filmKnown_f195n7
def filmKnownTab160 : Tab2 := [(82, filmKnownF82n6), (47, filmKnownF47n1), (19, filmKnownF19n1), (49, filmKnownF49n62), (8, filmKnownF8n1), (135, filmKnownF135n1), (24, filmKnownF24n1), (88, filmKnownF88n1), (29, filmKnownF29n1), (34, filmKnownF34n45), (117, filmKnownF117n10), (195, filmKnownF195n8), (174, filmKnownF174n3), (93, filmKnownF93n2), (177, filmKnownF177n12), (140, filmKnownF140n1), (50, filmKnownF50n1), (114, filmKnownF114n1), (138, filmKnownF138n1), (168, filmKnownF168n1)]
theorem filmKnown_tab160 : Tab2Ok Tryz.prog filmKnownTab160 := tab2Ok_cons filmKnown_f82n6 <| tab2Ok_cons filmKnown_f47n1 <| tab2Ok_cons filmKnown_f19n1 <| tab2Ok_cons filmKnown_f49n62 <| tab2Ok_cons filmKnown_f8n1 <| tab2Ok_cons filmKnown_f135n1 <| tab2Ok_cons filmKnown_f24n1 <| tab2Ok_cons filmKnown_f88n1 <| tab2Ok_cons filmKnown_f29n1 <| tab2Ok_cons filmKnown_f34n45 <| tab2Ok_cons filmKnown_f117n10 <| tab2Ok_cons filmKnown_f195n8 <| tab2Ok_cons filmKnown_f174n3 <| tab2Ok_cons filmKnown_f93n2 <| tab2Ok_cons filmKnown_f177n12 <| tab2Ok_cons filmKnown_f140n1 <| tab2Ok_cons filmKnown_f50n1 <| tab2Ok_cons filmKnown_f114n1 <| tab2Ok_cons filmKnown_f138n1 <| tab2Ok_cons filmKnown_f168n1 <| tab2Ok_nil
/-- num.Root: 412 operations. -/
theorem filmKnown_c160 : (exFT evEnv filmKnownTab160 1000 60).1 195 filmKnownA160 = some filmKnownR160 := by kernel_rfl
def filmKnownA161 : List PV := [.v (.int .i64 62485)]
def filmKnownR161 : PV := .v (.bool true)
def filmKnownF195n9 : Tab := (195, filmKnownA160, filmKnownR160) :: filmKnownF195n8
theorem filmKnown_f195n9 : TabOk Tryz.prog filmKnownF195n9 := tabOk_cons ((exFT_ok evEnv_ok filmKnown_tab160 1000 60).1 _ _ _ filmKnown_c160) filmKnown_f195n8
def filmKnownTab161 : Tab2 := [(82, filmKnownF82n6), (47, filmKnownF47n1), (19, filmKnownF19n1), (49, filmKnownF49n62), (8, filmKnownF8n1), (135, filmKnownF135n1), (24, filmKnownF24n1), (88, filmKnownF88n1), (29, filmKnownF29n1), (34, filmKnownF34n45), (117, filmKnownF117n10), (195, filmKnownF195n9), (174, filmKnownF174n3), (93, filmKnownF93n2), (177, filmKnownF177n12), (140, filmKnownF140n1), (50, filmKnownF50n1), (114, filmKnownF114n1), (138, filmKnownF138n1), (168, filmKnownF168n1)]
theorem filmKnown_tab161 : Tab2Ok Tryz.prog filmKnownTab161 := tab2Ok_cons filmKnown_f82n6 <| tab2Ok_cons filmKnown_f47n1 <| tab2Ok_cons filmKnown_f19n1 <| tab2Ok_cons filmKnown_f49n62 <| tab2Ok_cons filmKnown_f8n1 <| tab2Ok_cons filmKnown_f135n1 <| tab2Ok_cons filmKnown_f24n1 <| tab2Ok_cons filmKnown_f88n1 <| tab2Ok_cons filmKnown_f29n1 <| tab2Ok_cons filmKnown_f34n45 <| tab2Ok_cons filmKnown_f117n10 <| tab2Ok_cons filmKnown_f195n9 <| tab2Ok_cons filmKnown_f174n3 <| tab2Ok_cons filmKnown_f93n2 <| tab2Ok_cons filmKnown_f177n12 <| tab2Ok_cons filmKnown_f140n1 <| tab2Ok_cons filmKnown_f50n1 <| tab2Ok_cons filmKnown_f114n1 <| tab2Ok_cons filmKnown_f138n1 <| tab2Ok_cons filmKnown_f168n1 <| tab2Ok_nil
/-- num.In: 44 operations. -/
theorem filmKnown_c161 : (exFT evEnv filmKnownTab161 1000 60).1 49 filmKnownA161 = some filmKnownR161 := by kernel_rfl
def filmKnownA162 : List PV := [.v (.int .i64 124971)]
def filmKnownR162 : PV := .v (.bool true)
def filmKnownF49n63 : Tab := (49, filmKnownA161, filmKnownR161) :: filmKnownF49n62
theorem filmKnown_f49n63 : TabOk Tryz.prog filmKnownF49n63 := tabOk_cons ((exFT_ok evEnv_ok filmKnown_tab161 1000 60).1 _ _ _ filmKnown_c161) filmKnown_f49n62
def filmKnownTab162 : Tab2 := [(82, filmKnownF82n6), (47, filmKnownF47n1), (19, filmKnownF19n1), (49, filmKnownF49n63), (8, filmKnownF8n1), (135, filmKnownF135n1), (24, filmKnownF24n1), (88, filmKnownF88n1), (29, filmKnownF29n1), (34, filmKnownF34n45), (117, filmKnownF117n10), (195, filmKnownF195n9), (174, filmKnownF174n3), (93, filmKnownF93n2), (177, filmKnownF177n12), (140, filmKnownF140n1), (50, filmKnownF50n1), (114, filmKnownF114n1), (138, filmKnownF138n1), (168, filmKnownF168n1)]
theorem filmKnown_tab162 : Tab2Ok Tryz.prog filmKnownTab162 := tab2Ok_cons filmKnown_f82n6 <| tab2Ok_cons filmKnown_f47n1 <| tab2Ok_cons filmKnown_f19n1 <| tab2Ok_cons filmKnown_f49n63 <| tab2Ok_cons filmKnown_f8n1 <| tab2Ok_cons filmKnown_f135n1 <| tab2Ok_cons filmKnown_f24n1 <| tab2Ok_cons filmKnown_f88n1 <| tab2Ok_cons filmKnown_f29n1 <| tab2Ok_cons filmKnown_f34n45 <| tab2Ok_cons filmKnown_f117n10 <| tab2Ok_cons filmKnown_f195n9 <| tab2Ok_cons filmKnown_f174n3 <| tab2Ok_cons filmKnown_f93n2 <| tab2Ok_cons filmKnown_f177n12 <| tab2Ok_cons filmKnown_f140n1 <| tab2Ok_cons filmKnown_f50n1 <| tab2Ok_cons filmKnown_f114n1 <| tab2Ok_cons filmKnown_f138n1 <| tab2Ok_cons filmKnown_f168n1 <| tab2Ok_nil
/-- num.In: 52 operations. -/
theorem filmKnown_c162 : (exFT evEnv filmKnownTab162 1000 60).1 49 filmKnownA162 = some filmKnownR162 := by kernel_rfl
def filmKnownA163 : List PV := [.v (.int .i64 85899345920), .v (.int .i64 124971)]
def filmKnownR163 : PV := .v (.int .i64 687354)
def filmKnownF49n64 : Tab := (49, filmKnownA162, filmKnownR162) :: filmKnownF49n63
theorem filmKnown_f49n64 : TabOk Tryz.prog filmKnownF49n64 := tabOk_cons ((exFT_ok evEnv_ok filmKnown_tab162 1000 60).1 _ _ _ filmKnown_c162) filmKnown_f49n63
def filmKnownTab163 : Tab2 := [(82, filmKnownF82n6), (47, filmKnownF47n1), (19, filmKnownF19n1), (49, filmKnownF49n64), (8, filmKnownF8n1), (135, filmKnownF135n1), (24, filmKnownF24n1), (88, filmKnownF88n1), (29, filmKnownF29n1), (34, filmKnownF34n45), (117, filmKnownF117n10), (195, filmKnownF195n9), (174, filmKnownF174n3), (93, filmKnownF93n2), (177, filmKnownF177n12), (140, filmKnownF140n1), (50, filmKnownF50n1), (114, filmKnownF114n1), (138, filmKnownF138n1), (168, filmKnownF168n1)]
theorem filmKnown_tab163 : Tab2Ok Tryz.prog filmKnownTab163 := tab2Ok_cons filmKnown_f82n6 <| tab2Ok_cons filmKnown_f47n1 <| tab2Ok_cons filmKnown_f19n1 <| tab2Ok_cons filmKnown_f49n64 <| tab2Ok_cons filmKnown_f8n1 <| tab2Ok_cons filmKnown_f135n1 <| tab2Ok_cons filmKnown_f24n1 <| tab2Ok_cons filmKnown_f88n1 <| tab2Ok_cons filmKnown_f29n1 <| tab2Ok_cons filmKnown_f34n45 <| tab2Ok_cons filmKnown_f117n10 <| tab2Ok_cons filmKnown_f195n9 <| tab2Ok_cons filmKnown_f174n3 <| tab2Ok_cons filmKnown_f93n2 <| tab2Ok_cons filmKnown_f177n12 <| tab2Ok_cons filmKnown_f140n1 <| tab2Ok_cons filmKnown_f50n1 <| tab2Ok_cons filmKnown_f114n1 <| tab2Ok_cons filmKnown_f138n1 <| tab2Ok_cons filmKnown_f168n1 <| tab2Ok_nil
/-- num.Floor: 35 operations. -/
theorem filmKnown_c163 : (exFT evEnv filmKnownTab163 1000 60).1 34 filmKnownA163 = some filmKnownR163 := by kernel_rfl
def filmKnownA164 : List PV := [.v (.int .i64 687355)]
def filmKnownR164 : PV := .v (.bool true)
def filmKnownF34n46 : Tab := (34, filmKnownA163, filmKnownR163) :: filmKnownF34n45
theorem filmKnown_f34n46 : TabOk Tryz.prog filmKnownF34n46 := tabOk_cons ((exFT_ok evEnv_ok filmKnown_tab163 1000 60).1 _ _ _ filmKnown_c163) filmKnown_f34n45
def filmKnownTab164 : Tab2 := [(82, filmKnownF82n6), (47, filmKnownF47n1), (19, filmKnownF19n1), (49, filmKnownF49n64), (8, filmKnownF8n1), (135, filmKnownF135n1), (24, filmKnownF24n1), (88, filmKnownF88n1), (29, filmKnownF29n1), (34, filmKnownF34n46), (117, filmKnownF117n10), (195, filmKnownF195n9), (174, filmKnownF174n3), (93, filmKnownF93n2), (177, filmKnownF177n12), (140, filmKnownF140n1), (50, filmKnownF50n1), (114, filmKnownF114n1), (138, filmKnownF138n1), (168, filmKnownF168n1)]
theorem filmKnown_tab164 : Tab2Ok Tryz.prog filmKnownTab164 := tab2Ok_cons filmKnown_f82n6 <| tab2Ok_cons filmKnown_f47n1 <| tab2Ok_cons filmKnown_f19n1 <| tab2Ok_cons filmKnown_f49n64 <| tab2Ok_cons filmKnown_f8n1 <| tab2Ok_cons filmKnown_f135n1 <| tab2Ok_cons filmKnown_f24n1 <| tab2Ok_cons filmKnown_f88n1 <| tab2Ok_cons filmKnown_f29n1 <| tab2Ok_cons filmKnown_f34n46 <| tab2Ok_cons filmKnown_f117n10 <| tab2Ok_cons filmKnown_f195n9 <| tab2Ok_cons filmKnown_f174n3 <| tab2Ok_cons filmKnown_f93n2 <| tab2Ok_cons filmKnown_f177n12 <| tab2Ok_cons filmKnown_f140n1 <| tab2Ok_cons filmKnown_f50n1 <| tab2Ok_cons filmKnown_f114n1 <| tab2Ok_cons filmKnown_f138n1 <| tab2Ok_cons filmKnown_f168n1 <| tab2Ok_nil
/-- num.In: 21 operations. -/
theorem filmKnown_c164 : (exFT evEnv filmKnownTab164 1000 60).1 49 filmKnownA164 = some filmKnownR164 := by kernel_rfl
def filmKnownA165 : List PV := [.v (.int .i64 687354)]
def filmKnownR165 : PV := .v (.bool true)
def filmKnownF49n65 : Tab := (49, filmKnownA164, filmKnownR164) :: filmKnownF49n64
theorem filmKnown_f49n65 : TabOk Tryz.prog filmKnownF49n65 := tabOk_cons ((exFT_ok evEnv_ok filmKnown_tab164 1000 60).1 _ _ _ filmKnown_c164) filmKnown_f49n64
def filmKnownTab165 : Tab2 := [(82, filmKnownF82n6), (47, filmKnownF47n1), (19, filmKnownF19n1), (49, filmKnownF49n65), (8, filmKnownF8n1), (135, filmKnownF135n1), (24, filmKnownF24n1), (88, filmKnownF88n1), (29, filmKnownF29n1), (34, filmKnownF34n46), (117, filmKnownF117n10), (195, filmKnownF195n9), (174, filmKnownF174n3), (93, filmKnownF93n2), (177, filmKnownF177n12), (140, filmKnownF140n1), (50, filmKnownF50n1), (114, filmKnownF114n1), (138, filmKnownF138n1), (168, filmKnownF168n1)]
theorem filmKnown_tab165 : Tab2Ok Tryz.prog filmKnownTab165 := tab2Ok_cons filmKnown_f82n6 <| tab2Ok_cons filmKnown_f47n1 <| tab2Ok_cons filmKnown_f19n1 <| tab2Ok_cons filmKnown_f49n65 <| tab2Ok_cons filmKnown_f8n1 <| tab2Ok_cons filmKnown_f135n1 <| tab2Ok_cons filmKnown_f24n1 <| tab2Ok_cons filmKnown_f88n1 <| tab2Ok_cons filmKnown_f29n1 <| tab2Ok_cons filmKnown_f34n46 <| tab2Ok_cons filmKnown_f117n10 <| tab2Ok_cons filmKnown_f195n9 <| tab2Ok_cons filmKnown_f174n3 <| tab2Ok_cons filmKnown_f93n2 <| tab2Ok_cons filmKnown_f177n12 <| tab2Ok_cons filmKnown_f140n1 <| tab2Ok_cons filmKnown_f50n1 <| tab2Ok_cons filmKnown_f114n1 <| tab2Ok_cons filmKnown_f138n1 <| tab2Ok_cons filmKnown_f168n1 <| tab2Ok_nil
/-- num.In: 52 operations. -/
theorem filmKnown_c165 : (exFT evEnv filmKnownTab165 1000 60).1 49 filmKnownA165 = some filmKnownR165 := by kernel_rfl
def filmKnownA166 : List PV := [.v (.int .i64 85899345920), .v (.int .i64 128529)]
def filmKnownR166 : PV := .v (.int .i64 668326)
def filmKnownF49n66 : Tab := (49, filmKnownA165, filmKnownR165) :: filmKnownF49n65
theorem filmKnown_f49n66 : TabOk Tryz.prog filmKnownF49n66 := tabOk_cons ((exFT_ok evEnv_ok filmKnown_tab165 1000 60).1 _ _ _ filmKnown_c165) filmKnown_f49n65
def filmKnownTab166 : Tab2 := [(82, filmKnownF82n6), (47, filmKnownF47n1), (19, filmKnownF19n1), (49, filmKnownF49n66), (8, filmKnownF8n1), (135, filmKnownF135n1), (24, filmKnownF24n1), (88, filmKnownF88n1), (29, filmKnownF29n1), (34, filmKnownF34n46), (117, filmKnownF117n10), (195, filmKnownF195n9), (174, filmKnownF174n3), (93, filmKnownF93n2), (177, filmKnownF177n12), (140, filmKnownF140n1), (50, filmKnownF50n1), (114, filmKnownF114n1), (138, filmKnownF138n1), (168, filmKnownF168n1)]
theorem filmKnown_tab166 : Tab2Ok Tryz.prog filmKnownTab166 := tab2Ok_cons filmKnown_f82n6 <| tab2Ok_cons filmKnown_f47n1 <| tab2Ok_cons filmKnown_f19n1 <| tab2Ok_cons filmKnown_f49n66 <| tab2Ok_cons filmKnown_f8n1 <| tab2Ok_cons filmKnown_f135n1 <| tab2Ok_cons filmKnown_f24n1 <| tab2Ok_cons filmKnown_f88n1 <| tab2Ok_cons filmKnown_f29n1 <| tab2Ok_cons filmKnown_f34n46 <| tab2Ok_cons filmKnown_f117n10 <| tab2Ok_cons filmKnown_f195n9 <| tab2Ok_cons filmKnown_f174n3 <| tab2Ok_cons filmKnown_f93n2 <| tab2Ok_cons filmKnown_f177n12 <| tab2Ok_cons filmKnown_f140n1 <| tab2Ok_cons filmKnown_f50n1 <| tab2Ok_cons filmKnown_f114n1 <| tab2Ok_cons filmKnown_f138n1 <| tab2Ok_cons filmKnown_f168n1 <| tab2Ok_nil
/-- num.Floor: 35 operations. -/
theorem filmKnown_c166 : (exFT evEnv filmKnownTab166 1000 60).1 34 filmKnownA166 = some filmKnownR166 := by kernel_rfl
def filmKnownA167 : List PV := [.v (.int .i64 668326)]
def filmKnownR167 : PV := .v (.bool true)
def filmKnownF34n47 : Tab := (34, filmKnownA166, filmKnownR166) :: filmKnownF34n46
theorem filmKnown_f34n47 : TabOk Tryz.prog filmKnownF34n47 := tabOk_cons ((exFT_ok evEnv_ok filmKnown_tab166 1000 60).1 _ _ _ filmKnown_c166) filmKnown_f34n46
def filmKnownTab167 : Tab2 := [(82, filmKnownF82n6), (47, filmKnownF47n1), (19, filmKnownF19n1), (49, filmKnownF49n66), (8, filmKnownF8n1), (135, filmKnownF135n1), (24, filmKnownF24n1), (88, filmKnownF88n1), (29, filmKnownF29n1), (34, filmKnownF34n47), (117, filmKnownF117n10), (195, filmKnownF195n9), (174, filmKnownF174n3), (93, filmKnownF93n2), (177, filmKnownF177n12), (140, filmKnownF140n1), (50, filmKnownF50n1), (114, filmKnownF114n1), (138, filmKnownF138n1), (168, filmKnownF168n1)]
theorem filmKnown_tab167 : Tab2Ok Tryz.prog filmKnownTab167 := tab2Ok_cons filmKnown_f82n6 <| tab2Ok_cons filmKnown_f47n1 <| tab2Ok_cons filmKnown_f19n1 <| tab2Ok_cons filmKnown_f49n66 <| tab2Ok_cons filmKnown_f8n1 <| tab2Ok_cons filmKnown_f135n1 <| tab2Ok_cons filmKnown_f24n1 <| tab2Ok_cons filmKnown_f88n1 <| tab2Ok_cons filmKnown_f29n1 <| tab2Ok_cons filmKnown_f34n47 <| tab2Ok_cons filmKnown_f117n10 <| tab2Ok_cons filmKnown_f195n9 <| tab2Ok_cons filmKnown_f174n3 <| tab2Ok_cons filmKnown_f93n2 <| tab2Ok_cons filmKnown_f177n12 <| tab2Ok_cons filmKnown_f140n1 <| tab2Ok_cons filmKnown_f50n1 <| tab2Ok_cons filmKnown_f114n1 <| tab2Ok_cons filmKnown_f138n1 <| tab2Ok_cons filmKnown_f168n1 <| tab2Ok_nil
/-- num.In: 18 operations. -/
theorem filmKnown_c167 : (exFT evEnv filmKnownTab167 1000 60).1 49 filmKnownA167 = some filmKnownR167 := by kernel_rfl
def filmKnownA168 : List PV := [.agg [.v (.int .i64 1310720), .v (.int .i64 1310720), .v (.bool false)], .agg [.v (.int .i64 124971), .v (.int .i64 128529), .v (.bool false)]]
def filmKnownR168 : PV := .agg [.v (.int .i64 668326), .v (.int .i64 687355), .v (.bool false)]
def filmKnownF49n67 : Tab := (49, filmKnownA167, filmKnownR167) :: filmKnownF49n66
theorem filmKnown_f49n67 : TabOk Tryz.prog filmKnownF49n67 := tabOk_cons ((exFT_ok evEnv_ok filmKnown_tab167 1000 60).1 _ _ _ filmKnown_c167) filmKnown_f49n66
def filmKnownTab168 : Tab2 := [(82, filmKnownF82n6), (47, filmKnownF47n1), (19, filmKnownF19n1), (49, filmKnownF49n67), (8, filmKnownF8n1), (135, filmKnownF135n1), (24, filmKnownF24n1), (88, filmKnownF88n1), (29, filmKnownF29n1), (34, filmKnownF34n47), (117, filmKnownF117n10), (195, filmKnownF195n9), (174, filmKnownF174n3), (93, filmKnownF93n2), (177, filmKnownF177n12), (140, filmKnownF140n1), (50, filmKnownF50n1), (114, filmKnownF114n1), (138, filmKnownF138n1), (168, filmKnownF168n1)]
theorem filmKnown_tab168 : Tab2Ok Tryz.prog filmKnownTab168 := tab2Ok_cons filmKnown_f82n6 <| tab2Ok_cons filmKnown_f47n1 <| tab2Ok_cons filmKnown_f19n1 <| tab2Ok_cons filmKnown_f49n67 <| tab2Ok_cons filmKnown_f8n1 <| tab2Ok_cons filmKnown_f135n1 <| tab2Ok_cons filmKnown_f24n1 <| tab2Ok_cons filmKnown_f88n1 <| tab2Ok_cons filmKnown_f29n1 <| tab2Ok_cons filmKnown_f34n47 <| tab2Ok_cons filmKnown_f117n10 <| tab2Ok_cons filmKnown_f195n9 <| tab2Ok_cons filmKnown_f174n3 <| tab2Ok_cons filmKnown_f93n2 <| tab2Ok_cons filmKnown_f177n12 <| tab2Ok_cons filmKnown_f140n1 <| tab2Ok_cons filmKnown_f50n1 <| tab2Ok_cons filmKnown_f114n1 <| tab2Ok_cons filmKnown_f138n1 <| tab2Ok_cons filmKnown_f168n1 <| tab2Ok_nil
/-- iv.Div: 150 operations. -/
theorem filmKnown_c168 : (exFT evEnv filmKnownTab168 1000 60).1 117 filmKnownA168 = some filmKnownR168 := by kernel_rfl
def filmKnownA169 : List PV := [.v (.int .i64 127442)]
def filmKnownR169 : PV := .v (.bool true)
def filmKnownF117n11 : Tab := (117, filmKnownA168, filmKnownR168) :: filmKnownF117n10
theorem filmKnown_f117n11 : TabOk Tryz.prog filmKnownF117n11 := tabOk_cons ((exFT_ok evEnv_ok filmKnown_tab168 1000 60).1 _ _ _ filmKnown_c168) filmKnown_f117n10
def filmKnownTab169 : Tab2 := [(82, filmKnownF82n6), (47, filmKnownF47n1), (19, filmKnownF19n1), (49, filmKnownF49n67), (8, filmKnownF8n1), (135, filmKnownF135n1), (24, filmKnownF24n1), (88, filmKnownF88n1), (29, filmKnownF29n1), (34, filmKnownF34n47), (117, filmKnownF117n11), (195, filmKnownF195n9), (174, filmKnownF174n3), (93, filmKnownF93n2), (177, filmKnownF177n12), (140, filmKnownF140n1), (50, filmKnownF50n1), (114, filmKnownF114n1), (138, filmKnownF138n1), (168, filmKnownF168n1)]
theorem filmKnown_tab169 : Tab2Ok Tryz.prog filmKnownTab169 := tab2Ok_cons filmKnown_f82n6 <| tab2Ok_cons filmKnown_f47n1 <| tab2Ok_cons filmKnown_f19n1 <| tab2Ok_cons filmKnown_f49n67 <| tab2Ok_cons filmKnown_f8n1 <| tab2Ok_cons filmKnown_f135n1 <| tab2Ok_cons filmKnown_f24n1 <| tab2Ok_cons filmKnown_f88n1 <| tab2Ok_cons filmKnown_f29n1 <| tab2Ok_cons filmKnown_f34n47 <| tab2Ok_cons filmKnown_f117n11 <| tab2Ok_cons filmKnown_f195n9 <| tab2Ok_cons filmKnown_f174n3 <| tab2Ok_cons filmKnown_f93n2 <| tab2Ok_cons filmKnown_f177n12 <| tab2Ok_cons filmKnown_f140n1 <| tab2Ok_cons filmKnown_f50n1 <| tab2Ok_cons filmKnown_f114n1 <| tab2Ok_cons filmKnown_f138n1 <| tab2Ok_cons filmKnown_f168n1 <| tab2Ok_nil
/-- num.In: 18 operations. -/
theorem filmKnown_c169 : (exFT evEnv filmKnownTab169 1000 60).1 49 filmKnownA169 = some filmKnownR169 := by kernel_rfl
def filmKnownA170 : List PV := [.v (.int .i64 202213)]
def filmKnownR170 : PV := .v (.bool true)
def filmKnownF49n68 : Tab := (49, filmKnownA169, filmKnownR169) :: filmKnownF49n67
theorem filmKnown_f49n68 : TabOk Tryz.prog filmKnownF49n68 := tabOk_cons ((exFT_ok evEnv_ok filmKnown_tab169 1000 60).1 _ _ _ filmKnown_c169) filmKnown_f49n67
def filmKnownTab170 : Tab2 := [(82, filmKnownF82n6), (47, filmKnownF47n1), (19, filmKnownF19n1), (49, filmKnownF49n68), (8, filmKnownF8n1), (135, filmKnownF135n1), (24, filmKnownF24n1), (88, filmKnownF88n1), (29, filmKnownF29n1), (34, filmKnownF34n47), (117, filmKnownF117n11), (195, filmKnownF195n9), (174, filmKnownF174n3), (93, filmKnownF93n2), (177, filmKnownF177n12), (140, filmKnownF140n1), (50, filmKnownF50n1), (114, filmKnownF114n1), (138, filmKnownF138n1), (168, filmKnownF168n1)]
theorem filmKnown_tab170 : Tab2Ok Tryz.prog filmKnownTab170 := tab2Ok_cons filmKnown_f82n6 <| tab2Ok_cons filmKnown_f47n1 <| tab2Ok_cons filmKnown_f19n1 <| tab2Ok_cons filmKnown_f49n68 <| tab2Ok_cons filmKnown_f8n1 <| tab2Ok_cons filmKnown_f135n1 <| tab2Ok_cons filmKnown_f24n1 <| tab2Ok_cons filmKnown_f88n1 <| tab2Ok_cons filmKnown_f29n1 <| tab2Ok_cons filmKnown_f34n47 <| tab2Ok_cons filmKnown_f117n11 <| tab2Ok_cons filmKnown_f195n9 <| tab2Ok_cons filmKnown_f174n3 <| tab2Ok_cons filmKnown_f93n2 <| tab2Ok_cons filmKnown_f177n12 <| tab2Ok_cons filmKnown_f140n1 <| tab2Ok_cons filmKnown_f50n1 <| tab2Ok_cons filmKnown_f114n1 <| tab2Ok_cons filmKnown_f138n1 <| tab2Ok_cons filmKnown_f168n1 <| tab2Ok_nil
/-- num.In: 21 operations. -/
theorem filmKnown_c170 : (exFT evEnv filmKnownTab170 1000 60).1 49 filmKnownA170 = some filmKnownR170 := by kernel_rfl
def filmKnownA171 : List PV := [.agg [.v (.int .i64 12497), .v (.int .i64 19280), .v (.bool false)], .agg [.v (.int .i64 668326), .v (.int .i64 687355), .v (.bool false)]]
def filmKnownR171 : PV := .agg [.v (.int .i64 127442), .v (.int .i64 202213), .v (.bool false)]
def filmKnownF49n69 : Tab := (49, filmKnownA170, filmKnownR170) :: filmKnownF49n68
theorem filmKnown_f49n69 : TabOk Tryz.prog filmKnownF49n69 := tabOk_cons ((exFT_ok evEnv_ok filmKnown_tab170 1000 60).1 _ _ _ filmKnown_c170) filmKnown_f49n68
def filmKnownTab171 : Tab2 := [(82, filmKnownF82n6), (47, filmKnownF47n1), (19, filmKnownF19n1), (49, filmKnownF49n69), (8, filmKnownF8n1), (135, filmKnownF135n1), (24, filmKnownF24n1), (88, filmKnownF88n1), (29, filmKnownF29n1), (34, filmKnownF34n47), (117, filmKnownF117n11), (195, filmKnownF195n9), (174, filmKnownF174n3), (93, filmKnownF93n2), (177, filmKnownF177n12), (140, filmKnownF140n1), (50, filmKnownF50n1), (114, filmKnownF114n1), (138, filmKnownF138n1), (168, filmKnownF168n1)]
theorem filmKnown_tab171 : Tab2Ok Tryz.prog filmKnownTab171 := tab2Ok_cons filmKnown_f82n6 <| tab2Ok_cons filmKnown_f47n1 <| tab2Ok_cons filmKnown_f19n1 <| tab2Ok_cons filmKnown_f49n69 <| tab2Ok_cons filmKnown_f8n1 <| tab2Ok_cons filmKnown_f135n1 <| tab2Ok_cons filmKnown_f24n1 <| tab2Ok_cons filmKnown_f88n1 <| tab2Ok_cons filmKnown_f29n1 <| tab2Ok_cons filmKnown_f34n47 <| tab2Ok_cons filmKnown_f117n11 <| tab2Ok_cons filmKnown_f195n9 <| tab2Ok_cons filmKnown_f174n3 <| tab2Ok_cons filmKnown_f93n2 <| tab2Ok_cons filmKnown_f177n12 <| tab2Ok_cons filmKnown_f140n1 <| tab2Ok_cons filmKnown_f50n1 <| tab2Ok_cons filmKnown_f114n1 <| tab2Ok_cons filmKnown_f138n1 <| tab2Ok_cons filmKnown_f168n1 <| tab2Ok_nil
/-- iv.Mul: 442 operations. -/
theorem filmKnown_c171 : (exFT evEnv filmKnownTab171 1000 60).1 177 filmKnownA171 = some filmKnownR171 := by kernel_rfl
def filmKnownA172 : List PV := [.v (.int .i64 67408)]
def filmKnownR172 : PV := .v (.bool true)
def filmKnownF177n13 : Tab := (177, filmKnownA171, filmKnownR171) :: filmKnownF177n12
theorem filmKnown_f177n13 : TabOk Tryz.prog filmKnownF177n13 := tabOk_cons ((exFT_ok evEnv_ok filmKnown_tab171 1000 60).1 _ _ _ filmKnown_c171) filmKnown_f177n12
def filmKnownTab172 : Tab2 := [(82, filmKnownF82n6), (47, filmKnownF47n1), (19, filmKnownF19n1), (49, filmKnownF49n69), (8, filmKnownF8n1), (135, filmKnownF135n1), (24, filmKnownF24n1), (88, filmKnownF88n1), (29, filmKnownF29n1), (34, filmKnownF34n47), (117, filmKnownF117n11), (195, filmKnownF195n9), (174, filmKnownF174n3), (93, filmKnownF93n2), (177, filmKnownF177n13), (140, filmKnownF140n1), (50, filmKnownF50n1), (114, filmKnownF114n1), (138, filmKnownF138n1), (168, filmKnownF168n1)]
theorem filmKnown_tab172 : Tab2Ok Tryz.prog filmKnownTab172 := tab2Ok_cons filmKnown_f82n6 <| tab2Ok_cons filmKnown_f47n1 <| tab2Ok_cons filmKnown_f19n1 <| tab2Ok_cons filmKnown_f49n69 <| tab2Ok_cons filmKnown_f8n1 <| tab2Ok_cons filmKnown_f135n1 <| tab2Ok_cons filmKnown_f24n1 <| tab2Ok_cons filmKnown_f88n1 <| tab2Ok_cons filmKnown_f29n1 <| tab2Ok_cons filmKnown_f34n47 <| tab2Ok_cons filmKnown_f117n11 <| tab2Ok_cons filmKnown_f195n9 <| tab2Ok_cons filmKnown_f174n3 <| tab2Ok_cons filmKnown_f93n2 <| tab2Ok_cons filmKnown_f177n13 <| tab2Ok_cons filmKnown_f140n1 <| tab2Ok_cons filmKnown_f50n1 <| tab2Ok_cons filmKnown_f114n1 <| tab2Ok_cons filmKnown_f138n1 <| tab2Ok_cons filmKnown_f168n1 <| tab2Ok_nil
/-- num.In: 21 operations. -/
theorem filmKnown_c172 : (exFT evEnv filmKnownTab172 1000 60).1 49 filmKnownA172 = some filmKnownR172 := by kernel_rfl
def filmKnownA173 : List PV := [.agg [.v (.int .i64 0), .v (.int .i64 6427), .v (.bool false)], .agg [.v (.int .i64 668326), .v (.int .i64 687355), .v (.bool false)]]
def filmKnownR173 : PV := .agg [.v (.int .i64 0), .v (.int .i64 67408), .v (.bool false)]
def filmKnownF49n70 : Tab := (49, filmKnownA172, filmKnownR172) :: filmKnownF49n69
theorem filmKnown_f49n70 : TabOk Tryz.prog filmKnownF49n70 := tabOk_cons ((exFT_ok evEnv_ok filmKnown_tab172 1000 60).1 _ _ _ filmKnown_c172) filmKnown_f49n69
def filmKnownTab173 : Tab2 := [(82, filmKnownF82n6), (47, filmKnownF47n1), (19, filmKnownF19n1), (49, filmKnownF49n70), (8, filmKnownF8n1), (135, filmKnownF135n1), (24, filmKnownF24n1), (88, filmKnownF88n1), (29, filmKnownF29n1), (34, filmKnownF34n47), (117, filmKnownF117n11), (195, filmKnownF195n9), (174, filmKnownF174n3), (93, filmKnownF93n2), (177, filmKnownF177n13), (140, filmKnownF140n1), (50, filmKnownF50n1), (114, filmKnownF114n1), (138, filmKnownF138n1), (168, filmKnownF168n1)]
theorem filmKnown_tab173 : Tab2Ok Tryz.prog filmKnownTab173 := tab2Ok_cons filmKnown_f82n6 <| tab2Ok_cons filmKnown_f47n1 <| tab2Ok_cons filmKnown_f19n1 <| tab2Ok_cons filmKnown_f49n70 <| tab2Ok_cons filmKnown_f8n1 <| tab2Ok_cons filmKnown_f135n1 <| tab2Ok_cons filmKnown_f24n1 <| tab2Ok_cons filmKnown_f88n1 <| tab2Ok_cons filmKnown_f29n1 <| tab2Ok_cons filmKnown_f34n47 <| tab2Ok_cons filmKnown_f117n11 <| tab2Ok_cons filmKnown_f195n9 <| tab2Ok_cons filmKnown_f174n3 <| tab2Ok_cons filmKnown_f93n2 <| tab2Ok_cons filmKnown_f177n13 <| tab2Ok_cons filmKnown_f140n1 <| tab2Ok_cons filmKnown_f50n1 <| tab2Ok_cons filmKnown_f114n1 <| tab2Ok_cons filmKnown_f138n1 <| tab2Ok_cons filmKnown_f168n1 <| tab2Ok_nil
/-- iv.Mul: 247 operations. -/
theorem filmKnown_c173 : (exFT evEnv filmKnownTab173 1000 60).1 177 filmKnownA173 = some filmKnownR173 := by kernel_rfl
end Go.Proofs.YtbbnkadjmioalaaGreatDoor
