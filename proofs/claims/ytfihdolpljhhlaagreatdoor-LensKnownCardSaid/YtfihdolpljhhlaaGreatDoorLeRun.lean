/- The evaluation of 'LensKnown', call by call, by Lean's kernel, in an evaluator that is proved sound for whatever memory. PRINTED by a program of this claim's author; Lean checks it. -/
import Derived.Test.YtfihdolpljhhlaaGreatDoorLeEnv
namespace Go.Proofs.YtfihdolpljhhlaaGreatDoor
open Go.Ev

def lensKnownA0 : List PV := [.v (.int .i64 1), .v (.int .i64 1)]
def lensKnownR0 : PV := .v (.complex .f64 4607182418800017408 4607182418800017408)
def lensKnownTab0 : Tab2 := []
theorem lensKnown_tab0 : Tab2Ok Tryz.prog lensKnownTab0 := tab2Ok_nil
/-- lex.place: 52 operations. -/
theorem lensKnown_c0 : (exFT evEnv lensKnownTab0 1000 60).1 65 lensKnownA0 = some lensKnownR0 := by kernel_rfl
def lensKnownA1 : List PV := [.v (.int .u8 108)]
def lensKnownR1 : PV := .v (.bool true)
def lensKnownF65n1 : Tab := (65, lensKnownA0, lensKnownR0) :: []
theorem lensKnown_f65n1 : TabOk Tryz.prog lensKnownF65n1 := tabOk_cons ((exFT_ok evEnv_ok lensKnown_tab0 1000 60).1 _ _ _ lensKnown_c0) tabOk_nil
def lensKnownTab1 : Tab2 := [(65, lensKnownF65n1)]
theorem lensKnown_tab1 : Tab2Ok Tryz.prog lensKnownTab1 := tab2Ok_cons lensKnown_f65n1 <| tab2Ok_nil
/-- lex.letter: 40 operations. -/
theorem lensKnown_c1 : (exFT evEnv lensKnownTab1 1000 60).1 66 lensKnownA1 = some lensKnownR1 := by kernel_rfl
def lensKnownA2 : List PV := [.v (.int .u8 101)]
def lensKnownR2 : PV := .v (.bool true)
def lensKnownF66n1 : Tab := (66, lensKnownA1, lensKnownR1) :: []
theorem lensKnown_f66n1 : TabOk Tryz.prog lensKnownF66n1 := tabOk_cons ((exFT_ok evEnv_ok lensKnown_tab1 1000 60).1 _ _ _ lensKnown_c1) tabOk_nil
def lensKnownTab2 : Tab2 := [(65, lensKnownF65n1), (66, lensKnownF66n1)]
theorem lensKnown_tab2 : Tab2Ok Tryz.prog lensKnownTab2 := tab2Ok_cons lensKnown_f65n1 <| tab2Ok_cons lensKnown_f66n1 <| tab2Ok_nil
/-- lex.letter: 51 operations. -/
theorem lensKnown_c2 : (exFT evEnv lensKnownTab2 1000 60).1 66 lensKnownA2 = some lensKnownR2 := by kernel_rfl
def lensKnownA3 : List PV := [.v (.int .u8 110)]
def lensKnownR3 : PV := .v (.bool true)
def lensKnownF66n2 : Tab := (66, lensKnownA2, lensKnownR2) :: lensKnownF66n1
theorem lensKnown_f66n2 : TabOk Tryz.prog lensKnownF66n2 := tabOk_cons ((exFT_ok evEnv_ok lensKnown_tab2 1000 60).1 _ _ _ lensKnown_c2) lensKnown_f66n1
def lensKnownTab3 : Tab2 := [(65, lensKnownF65n1), (66, lensKnownF66n2)]
theorem lensKnown_tab3 : Tab2Ok Tryz.prog lensKnownTab3 := tab2Ok_cons lensKnown_f65n1 <| tab2Ok_cons lensKnown_f66n2 <| tab2Ok_nil
/-- lex.letter: 46 operations. -/
theorem lensKnown_c3 : (exFT evEnv lensKnownTab3 1000 60).1 66 lensKnownA3 = some lensKnownR3 := by kernel_rfl
def lensKnownA4 : List PV := [.v (.int .u8 115)]
def lensKnownR4 : PV := .v (.bool true)
def lensKnownF66n3 : Tab := (66, lensKnownA3, lensKnownR3) :: lensKnownF66n2
theorem lensKnown_f66n3 : TabOk Tryz.prog lensKnownF66n3 := tabOk_cons ((exFT_ok evEnv_ok lensKnown_tab3 1000 60).1 _ _ _ lensKnown_c3) lensKnown_f66n2
def lensKnownTab4 : Tab2 := [(65, lensKnownF65n1), (66, lensKnownF66n3)]
theorem lensKnown_tab4 : Tab2Ok Tryz.prog lensKnownTab4 := tab2Ok_cons lensKnown_f65n1 <| tab2Ok_cons lensKnown_f66n3 <| tab2Ok_nil
/-- lex.letter: 46 operations. -/
theorem lensKnown_c4 : (exFT evEnv lensKnownTab4 1000 60).1 66 lensKnownA4 = some lensKnownR4 := by kernel_rfl
def lensKnownA5 : List PV := [.v (.int .u8 32)]
def lensKnownR5 : PV := .v (.bool false)
def lensKnownF66n4 : Tab := (66, lensKnownA4, lensKnownR4) :: lensKnownF66n3
theorem lensKnown_f66n4 : TabOk Tryz.prog lensKnownF66n4 := tabOk_cons ((exFT_ok evEnv_ok lensKnown_tab4 1000 60).1 _ _ _ lensKnown_c4) lensKnown_f66n3
def lensKnownTab5 : Tab2 := [(65, lensKnownF65n1), (66, lensKnownF66n4)]
theorem lensKnown_tab5 : Tab2Ok Tryz.prog lensKnownTab5 := tab2Ok_cons lensKnown_f65n1 <| tab2Ok_cons lensKnown_f66n4 <| tab2Ok_nil
/-- lex.letter: 46 operations. -/
theorem lensKnown_c5 : (exFT evEnv lensKnownTab5 1000 60).1 66 lensKnownA5 = some lensKnownR5 := by kernel_rfl
def lensKnownA6 : List PV := [.v (.int .i64 1), .v (.int .i64 5)]
def lensKnownR6 : PV := .v (.complex .f64 4607182418800017408 4617315517961601024)
def lensKnownF66n5 : Tab := (66, lensKnownA5, lensKnownR5) :: lensKnownF66n4
theorem lensKnown_f66n5 : TabOk Tryz.prog lensKnownF66n5 := tabOk_cons ((exFT_ok evEnv_ok lensKnown_tab5 1000 60).1 _ _ _ lensKnown_c5) lensKnown_f66n4
def lensKnownTab6 : Tab2 := [(65, lensKnownF65n1), (66, lensKnownF66n5)]
theorem lensKnown_tab6 : Tab2Ok Tryz.prog lensKnownTab6 := tab2Ok_cons lensKnown_f65n1 <| tab2Ok_cons lensKnown_f66n5 <| tab2Ok_nil
/-- lex.place: 31 operations. -/
theorem lensKnown_c6 : (exFT evEnv lensKnownTab6 1000 60).1 65 lensKnownA6 = some lensKnownR6 := by kernel_rfl
def lensKnownA7 : List PV := [.v (.int .i64 1), .v (.int .i64 6)]
def lensKnownR7 : PV := .v (.complex .f64 4607182418800017408 4618441417868443648)
def lensKnownF65n2 : Tab := (65, lensKnownA6, lensKnownR6) :: lensKnownF65n1
theorem lensKnown_f65n2 : TabOk Tryz.prog lensKnownF65n2 := tabOk_cons ((exFT_ok evEnv_ok lensKnown_tab6 1000 60).1 _ _ _ lensKnown_c6) lensKnown_f65n1
def lensKnownTab7 : Tab2 := [(65, lensKnownF65n2), (66, lensKnownF66n5)]
theorem lensKnown_tab7 : Tab2Ok Tryz.prog lensKnownTab7 := tab2Ok_cons lensKnown_f65n2 <| tab2Ok_cons lensKnown_f66n5 <| tab2Ok_nil
/-- lex.place: 35 operations. -/
theorem lensKnown_c7 : (exFT evEnv lensKnownTab7 1000 60).1 65 lensKnownA7 = some lensKnownR7 := by kernel_rfl
def lensKnownA8 : List PV := [.v (.int .u8 97)]
def lensKnownR8 : PV := .v (.bool true)
def lensKnownF65n3 : Tab := (65, lensKnownA7, lensKnownR7) :: lensKnownF65n2
theorem lensKnown_f65n3 : TabOk Tryz.prog lensKnownF65n3 := tabOk_cons ((exFT_ok evEnv_ok lensKnown_tab7 1000 60).1 _ _ _ lensKnown_c7) lensKnown_f65n2
def lensKnownTab8 : Tab2 := [(65, lensKnownF65n3), (66, lensKnownF66n5)]
theorem lensKnown_tab8 : Tab2Ok Tryz.prog lensKnownTab8 := tab2Ok_cons lensKnown_f65n3 <| tab2Ok_cons lensKnown_f66n5 <| tab2Ok_nil
/-- lex.letter: 40 operations. -/
theorem lensKnown_c8 : (exFT evEnv lensKnownTab8 1000 60).1 66 lensKnownA8 = some lensKnownR8 := by kernel_rfl
def lensKnownA9 : List PV := [.v (.int .i64 1), .v (.int .i64 7)]
def lensKnownR9 : PV := .v (.complex .f64 4607182418800017408 4619567317775286272)
def lensKnownF66n6 : Tab := (66, lensKnownA8, lensKnownR8) :: lensKnownF66n5
theorem lensKnown_f66n6 : TabOk Tryz.prog lensKnownF66n6 := tabOk_cons ((exFT_ok evEnv_ok lensKnown_tab8 1000 60).1 _ _ _ lensKnown_c8) lensKnown_f66n5
def lensKnownTab9 : Tab2 := [(65, lensKnownF65n3), (66, lensKnownF66n6)]
theorem lensKnown_tab9 : Tab2Ok Tryz.prog lensKnownTab9 := tab2Ok_cons lensKnown_f65n3 <| tab2Ok_cons lensKnown_f66n6 <| tab2Ok_nil
/-- lex.place: 31 operations. -/
theorem lensKnown_c9 : (exFT evEnv lensKnownTab9 1000 60).1 65 lensKnownA9 = some lensKnownR9 := by kernel_rfl
def lensKnownA10 : List PV := [.v (.int .i64 1), .v (.int .i64 8)]
def lensKnownR10 : PV := .v (.complex .f64 4607182418800017408 4620693217682128896)
def lensKnownF65n4 : Tab := (65, lensKnownA9, lensKnownR9) :: lensKnownF65n3
theorem lensKnown_f65n4 : TabOk Tryz.prog lensKnownF65n4 := tabOk_cons ((exFT_ok evEnv_ok lensKnown_tab9 1000 60).1 _ _ _ lensKnown_c9) lensKnown_f65n3
def lensKnownTab10 : Tab2 := [(65, lensKnownF65n4), (66, lensKnownF66n6)]
theorem lensKnown_tab10 : Tab2Ok Tryz.prog lensKnownTab10 := tab2Ok_cons lensKnown_f65n4 <| tab2Ok_cons lensKnown_f66n6 <| tab2Ok_nil
/-- lex.place: 35 operations. -/
theorem lensKnown_c10 : (exFT evEnv lensKnownTab10 1000 60).1 65 lensKnownA10 = some lensKnownR10 := by kernel_rfl
def lensKnownA11 : List PV := [.v (.int .u8 52)]
def lensKnownR11 : PV := .v (.bool false)
def lensKnownF65n5 : Tab := (65, lensKnownA10, lensKnownR10) :: lensKnownF65n4
theorem lensKnown_f65n5 : TabOk Tryz.prog lensKnownF65n5 := tabOk_cons ((exFT_ok evEnv_ok lensKnown_tab10 1000 60).1 _ _ _ lensKnown_c10) lensKnown_f65n4
def lensKnownTab11 : Tab2 := [(65, lensKnownF65n5), (66, lensKnownF66n6)]
theorem lensKnown_tab11 : Tab2Ok Tryz.prog lensKnownTab11 := tab2Ok_cons lensKnown_f65n5 <| tab2Ok_cons lensKnown_f66n6 <| tab2Ok_nil
/-- lex.letter: 40 operations. -/
theorem lensKnown_c11 : (exFT evEnv lensKnownTab11 1000 60).1 66 lensKnownA11 = some lensKnownR11 := by kernel_rfl
def lensKnownA12 : List PV := [.v (.int .u8 48)]
def lensKnownR12 : PV := .v (.bool true)
def lensKnownF66n7 : Tab := (66, lensKnownA11, lensKnownR11) :: lensKnownF66n6
theorem lensKnown_f66n7 : TabOk Tryz.prog lensKnownF66n7 := tabOk_cons ((exFT_ok evEnv_ok lensKnown_tab11 1000 60).1 _ _ _ lensKnown_c11) lensKnown_f66n6
def lensKnownTab12 : Tab2 := [(65, lensKnownF65n5), (66, lensKnownF66n7)]
theorem lensKnown_tab12 : Tab2Ok Tryz.prog lensKnownTab12 := tab2Ok_cons lensKnown_f65n5 <| tab2Ok_cons lensKnown_f66n7 <| tab2Ok_nil
/-- lex.digit: 35 operations. -/
theorem lensKnown_c12 : (exFT evEnv lensKnownTab12 1000 60).1 67 lensKnownA12 = some lensKnownR12 := by kernel_rfl
def lensKnownA13 : List PV := [.v (.int .u8 10)]
def lensKnownR13 : PV := .v (.bool false)
def lensKnownF67n1 : Tab := (67, lensKnownA12, lensKnownR12) :: []
theorem lensKnown_f67n1 : TabOk Tryz.prog lensKnownF67n1 := tabOk_cons ((exFT_ok evEnv_ok lensKnown_tab12 1000 60).1 _ _ _ lensKnown_c12) tabOk_nil
def lensKnownTab13 : Tab2 := [(65, lensKnownF65n5), (66, lensKnownF66n7), (67, lensKnownF67n1)]
theorem lensKnown_tab13 : Tab2Ok Tryz.prog lensKnownTab13 := tab2Ok_cons lensKnown_f65n5 <| tab2Ok_cons lensKnown_f66n7 <| tab2Ok_cons lensKnown_f67n1 <| tab2Ok_nil
/-- lex.digit: 30 operations. -/
theorem lensKnown_c13 : (exFT evEnv lensKnownTab13 1000 60).1 67 lensKnownA13 = some lensKnownR13 := by kernel_rfl
def lensKnownA14 : List PV := [.str [52, 48], .str [45]]
def lensKnownR14 : PV := .v (.bool false)
def lensKnownF67n2 : Tab := (67, lensKnownA13, lensKnownR13) :: lensKnownF67n1
theorem lensKnown_f67n2 : TabOk Tryz.prog lensKnownF67n2 := tabOk_cons ((exFT_ok evEnv_ok lensKnown_tab13 1000 60).1 _ _ _ lensKnown_c13) lensKnown_f67n1
def lensKnownTab14 : Tab2 := [(65, lensKnownF65n5), (66, lensKnownF66n7), (67, lensKnownF67n2)]
theorem lensKnown_tab14 : Tab2Ok Tryz.prog lensKnownTab14 := tab2Ok_cons lensKnown_f65n5 <| tab2Ok_cons lensKnown_f66n7 <| tab2Ok_cons lensKnown_f67n2 <| tab2Ok_nil
/-- stringslite.HasPrefix: 50 operations. -/
theorem lensKnown_c14 : (exFT evEnv lensKnownTab14 1000 60).1 121 lensKnownA14 = some lensKnownR14 := by kernel_rfl
def lensKnownA15 : List PV := [.str [52, 48], .v (.int .u8 46)]
def lensKnownR15 : PV := .v (.int .i64 (-1))
def lensKnownF121n1 : Tab := (121, lensKnownA14, lensKnownR14) :: []
theorem lensKnown_f121n1 : TabOk Tryz.prog lensKnownF121n1 := tabOk_cons ((exFT_ok evEnv_ok lensKnown_tab14 1000 60).1 _ _ _ lensKnown_c14) tabOk_nil
def lensKnownTab15 : Tab2 := [(65, lensKnownF65n5), (66, lensKnownF66n7), (67, lensKnownF67n2), (121, lensKnownF121n1)]
theorem lensKnown_tab15 : Tab2Ok Tryz.prog lensKnownTab15 := tab2Ok_cons lensKnown_f65n5 <| tab2Ok_cons lensKnown_f66n7 <| tab2Ok_cons lensKnown_f67n2 <| tab2Ok_cons lensKnown_f121n1 <| tab2Ok_nil
/-- stringslite.IndexByte: 53 operations. -/
theorem lensKnown_c15 : (exFT evEnv lensKnownTab15 1000 60).1 140 lensKnownA15 = some lensKnownR15 := by kernel_rfl
def lensKnownA16 : List PV := [.str [52, 48], .v (.int .i64 5)]
def lensKnownR16 : PV := .v (.bool true)
def lensKnownF140n1 : Tab := (140, lensKnownA15, lensKnownR15) :: []
theorem lensKnown_f140n1 : TabOk Tryz.prog lensKnownF140n1 := tabOk_cons ((exFT_ok evEnv_ok lensKnown_tab15 1000 60).1 _ _ _ lensKnown_c15) tabOk_nil
def lensKnownTab16 : Tab2 := [(65, lensKnownF65n5), (66, lensKnownF66n7), (67, lensKnownF67n2), (121, lensKnownF121n1), (140, lensKnownF140n1)]
theorem lensKnown_tab16 : Tab2Ok Tryz.prog lensKnownTab16 := tab2Ok_cons lensKnown_f65n5 <| tab2Ok_cons lensKnown_f66n7 <| tab2Ok_cons lensKnown_f67n2 <| tab2Ok_cons lensKnown_f121n1 <| tab2Ok_cons lensKnown_f140n1 <| tab2Ok_nil
/-- dec.figures: 26 operations. -/
theorem lensKnown_c16 : (exFT evEnv lensKnownTab16 1000 60).1 98 lensKnownA16 = some lensKnownR16 := by kernel_rfl
def lensKnownA17 : List PV := [.str [52, 48]]
def lensKnownR17 : PV := .tup [.agg [.v (.int .i64 40), .v (.int .i64 0)], .v (.bool true)]
def lensKnownF98n1 : Tab := (98, lensKnownA16, lensKnownR16) :: []
theorem lensKnown_f98n1 : TabOk Tryz.prog lensKnownF98n1 := tabOk_cons ((exFT_ok evEnv_ok lensKnown_tab16 1000 60).1 _ _ _ lensKnown_c16) tabOk_nil
def lensKnownTab17 : Tab2 := [(65, lensKnownF65n5), (66, lensKnownF66n7), (67, lensKnownF67n2), (121, lensKnownF121n1), (140, lensKnownF140n1), (98, lensKnownF98n1)]
theorem lensKnown_tab17 : Tab2Ok Tryz.prog lensKnownTab17 := tab2Ok_cons lensKnown_f65n5 <| tab2Ok_cons lensKnown_f66n7 <| tab2Ok_cons lensKnown_f67n2 <| tab2Ok_cons lensKnown_f121n1 <| tab2Ok_cons lensKnown_f140n1 <| tab2Ok_cons lensKnown_f98n1 <| tab2Ok_nil
/-- dec.Read: 33 operations. -/
theorem lensKnown_c17 : (exFT evEnv lensKnownTab17 1000 60).1 72 lensKnownA17 = some lensKnownR17 := by kernel_rfl
def lensKnownA18 : List PV := [.v (.int .i64 1), .v (.int .i64 10)]
def lensKnownR18 : PV := .v (.complex .f64 4607182418800017408 4621819117588971520)
def lensKnownF72n1 : Tab := (72, lensKnownA17, lensKnownR17) :: []
theorem lensKnown_f72n1 : TabOk Tryz.prog lensKnownF72n1 := tabOk_cons ((exFT_ok evEnv_ok lensKnown_tab17 1000 60).1 _ _ _ lensKnown_c17) tabOk_nil
def lensKnownTab18 : Tab2 := [(65, lensKnownF65n5), (66, lensKnownF66n7), (67, lensKnownF67n2), (121, lensKnownF121n1), (140, lensKnownF140n1), (98, lensKnownF98n1), (72, lensKnownF72n1)]
theorem lensKnown_tab18 : Tab2Ok Tryz.prog lensKnownTab18 := tab2Ok_cons lensKnown_f65n5 <| tab2Ok_cons lensKnown_f66n7 <| tab2Ok_cons lensKnown_f67n2 <| tab2Ok_cons lensKnown_f121n1 <| tab2Ok_cons lensKnown_f140n1 <| tab2Ok_cons lensKnown_f98n1 <| tab2Ok_cons lensKnown_f72n1 <| tab2Ok_nil
/-- lex.place: 29 operations. -/
theorem lensKnown_c18 : (exFT evEnv lensKnownTab18 1000 60).1 65 lensKnownA18 = some lensKnownR18 := by kernel_rfl
def lensKnownA19 : List PV := [.v (.int .i64 2), .v (.int .i64 1)]
def lensKnownR19 : PV := .v (.complex .f64 4611686018427387904 4607182418800017408)
def lensKnownF65n6 : Tab := (65, lensKnownA18, lensKnownR18) :: lensKnownF65n5
theorem lensKnown_f65n6 : TabOk Tryz.prog lensKnownF65n6 := tabOk_cons ((exFT_ok evEnv_ok lensKnown_tab18 1000 60).1 _ _ _ lensKnown_c18) lensKnown_f65n5
def lensKnownTab19 : Tab2 := [(65, lensKnownF65n6), (66, lensKnownF66n7), (67, lensKnownF67n2), (121, lensKnownF121n1), (140, lensKnownF140n1), (98, lensKnownF98n1), (72, lensKnownF72n1)]
theorem lensKnown_tab19 : Tab2Ok Tryz.prog lensKnownTab19 := tab2Ok_cons lensKnown_f65n6 <| tab2Ok_cons lensKnown_f66n7 <| tab2Ok_cons lensKnown_f67n2 <| tab2Ok_cons lensKnown_f121n1 <| tab2Ok_cons lensKnown_f140n1 <| tab2Ok_cons lensKnown_f98n1 <| tab2Ok_cons lensKnown_f72n1 <| tab2Ok_nil
/-- lex.place: 45 operations. -/
theorem lensKnown_c19 : (exFT evEnv lensKnownTab19 1000 60).1 65 lensKnownA19 = some lensKnownR19 := by kernel_rfl
def lensKnownA20 : List PV := [.v (.int .u8 102)]
def lensKnownR20 : PV := .v (.bool true)
def lensKnownF65n7 : Tab := (65, lensKnownA19, lensKnownR19) :: lensKnownF65n6
theorem lensKnown_f65n7 : TabOk Tryz.prog lensKnownF65n7 := tabOk_cons ((exFT_ok evEnv_ok lensKnown_tab19 1000 60).1 _ _ _ lensKnown_c19) lensKnown_f65n6
def lensKnownTab20 : Tab2 := [(65, lensKnownF65n7), (66, lensKnownF66n7), (67, lensKnownF67n2), (121, lensKnownF121n1), (140, lensKnownF140n1), (98, lensKnownF98n1), (72, lensKnownF72n1)]
theorem lensKnown_tab20 : Tab2Ok Tryz.prog lensKnownTab20 := tab2Ok_cons lensKnown_f65n7 <| tab2Ok_cons lensKnown_f66n7 <| tab2Ok_cons lensKnown_f67n2 <| tab2Ok_cons lensKnown_f121n1 <| tab2Ok_cons lensKnown_f140n1 <| tab2Ok_cons lensKnown_f98n1 <| tab2Ok_cons lensKnown_f72n1 <| tab2Ok_nil
/-- lex.letter: 40 operations. -/
theorem lensKnown_c20 : (exFT evEnv lensKnownTab20 1000 60).1 66 lensKnownA20 = some lensKnownR20 := by kernel_rfl
def lensKnownA21 : List PV := [.v (.int .u8 99)]
def lensKnownR21 : PV := .v (.bool true)
def lensKnownF66n8 : Tab := (66, lensKnownA20, lensKnownR20) :: lensKnownF66n7
theorem lensKnown_f66n8 : TabOk Tryz.prog lensKnownF66n8 := tabOk_cons ((exFT_ok evEnv_ok lensKnown_tab20 1000 60).1 _ _ _ lensKnown_c20) lensKnown_f66n7
def lensKnownTab21 : Tab2 := [(65, lensKnownF65n7), (66, lensKnownF66n8), (67, lensKnownF67n2), (121, lensKnownF121n1), (140, lensKnownF140n1), (98, lensKnownF98n1), (72, lensKnownF72n1)]
theorem lensKnown_tab21 : Tab2Ok Tryz.prog lensKnownTab21 := tab2Ok_cons lensKnown_f65n7 <| tab2Ok_cons lensKnown_f66n8 <| tab2Ok_cons lensKnown_f67n2 <| tab2Ok_cons lensKnown_f121n1 <| tab2Ok_cons lensKnown_f140n1 <| tab2Ok_cons lensKnown_f98n1 <| tab2Ok_cons lensKnown_f72n1 <| tab2Ok_nil
/-- lex.letter: 46 operations. -/
theorem lensKnown_c21 : (exFT evEnv lensKnownTab21 1000 60).1 66 lensKnownA21 = some lensKnownR21 := by kernel_rfl
def lensKnownA22 : List PV := [.v (.int .u8 53)]
def lensKnownR22 : PV := .v (.bool true)
def lensKnownF66n9 : Tab := (66, lensKnownA21, lensKnownR21) :: lensKnownF66n8
theorem lensKnown_f66n9 : TabOk Tryz.prog lensKnownF66n9 := tabOk_cons ((exFT_ok evEnv_ok lensKnown_tab21 1000 60).1 _ _ _ lensKnown_c21) lensKnown_f66n8
def lensKnownTab22 : Tab2 := [(65, lensKnownF65n7), (66, lensKnownF66n9), (67, lensKnownF67n2), (121, lensKnownF121n1), (140, lensKnownF140n1), (98, lensKnownF98n1), (72, lensKnownF72n1)]
theorem lensKnown_tab22 : Tab2Ok Tryz.prog lensKnownTab22 := tab2Ok_cons lensKnown_f65n7 <| tab2Ok_cons lensKnown_f66n9 <| tab2Ok_cons lensKnown_f67n2 <| tab2Ok_cons lensKnown_f121n1 <| tab2Ok_cons lensKnown_f140n1 <| tab2Ok_cons lensKnown_f98n1 <| tab2Ok_cons lensKnown_f72n1 <| tab2Ok_nil
/-- lex.digit: 30 operations. -/
theorem lensKnown_c22 : (exFT evEnv lensKnownTab22 1000 60).1 67 lensKnownA22 = some lensKnownR22 := by kernel_rfl
def lensKnownA23 : List PV := [.v (.int .u8 32)]
def lensKnownR23 : PV := .v (.bool false)
def lensKnownF67n3 : Tab := (67, lensKnownA22, lensKnownR22) :: lensKnownF67n2
theorem lensKnown_f67n3 : TabOk Tryz.prog lensKnownF67n3 := tabOk_cons ((exFT_ok evEnv_ok lensKnown_tab22 1000 60).1 _ _ _ lensKnown_c22) lensKnown_f67n2
def lensKnownTab23 : Tab2 := [(65, lensKnownF65n7), (66, lensKnownF66n9), (67, lensKnownF67n3), (121, lensKnownF121n1), (140, lensKnownF140n1), (98, lensKnownF98n1), (72, lensKnownF72n1)]
theorem lensKnown_tab23 : Tab2Ok Tryz.prog lensKnownTab23 := tab2Ok_cons lensKnown_f65n7 <| tab2Ok_cons lensKnown_f66n9 <| tab2Ok_cons lensKnown_f67n3 <| tab2Ok_cons lensKnown_f121n1 <| tab2Ok_cons lensKnown_f140n1 <| tab2Ok_cons lensKnown_f98n1 <| tab2Ok_cons lensKnown_f72n1 <| tab2Ok_nil
/-- lex.digit: 30 operations. -/
theorem lensKnown_c23 : (exFT evEnv lensKnownTab23 1000 60).1 67 lensKnownA23 = some lensKnownR23 := by kernel_rfl
def lensKnownA24 : List PV := [.v (.int .u8 53)]
def lensKnownR24 : PV := .v (.bool false)
def lensKnownF67n4 : Tab := (67, lensKnownA23, lensKnownR23) :: lensKnownF67n3
theorem lensKnown_f67n4 : TabOk Tryz.prog lensKnownF67n4 := tabOk_cons ((exFT_ok evEnv_ok lensKnown_tab23 1000 60).1 _ _ _ lensKnown_c23) lensKnown_f67n3
def lensKnownTab24 : Tab2 := [(65, lensKnownF65n7), (66, lensKnownF66n9), (67, lensKnownF67n4), (121, lensKnownF121n1), (140, lensKnownF140n1), (98, lensKnownF98n1), (72, lensKnownF72n1)]
theorem lensKnown_tab24 : Tab2Ok Tryz.prog lensKnownTab24 := tab2Ok_cons lensKnown_f65n7 <| tab2Ok_cons lensKnown_f66n9 <| tab2Ok_cons lensKnown_f67n4 <| tab2Ok_cons lensKnown_f121n1 <| tab2Ok_cons lensKnown_f140n1 <| tab2Ok_cons lensKnown_f98n1 <| tab2Ok_cons lensKnown_f72n1 <| tab2Ok_nil
/-- lex.letter: 40 operations. -/
theorem lensKnown_c24 : (exFT evEnv lensKnownTab24 1000 60).1 66 lensKnownA24 = some lensKnownR24 := by kernel_rfl
def lensKnownA25 : List PV := [.str [53], .str [45]]
def lensKnownR25 : PV := .v (.bool false)
def lensKnownF66n10 : Tab := (66, lensKnownA24, lensKnownR24) :: lensKnownF66n9
theorem lensKnown_f66n10 : TabOk Tryz.prog lensKnownF66n10 := tabOk_cons ((exFT_ok evEnv_ok lensKnown_tab24 1000 60).1 _ _ _ lensKnown_c24) lensKnown_f66n9
def lensKnownTab25 : Tab2 := [(65, lensKnownF65n7), (66, lensKnownF66n10), (67, lensKnownF67n4), (121, lensKnownF121n1), (140, lensKnownF140n1), (98, lensKnownF98n1), (72, lensKnownF72n1)]
theorem lensKnown_tab25 : Tab2Ok Tryz.prog lensKnownTab25 := tab2Ok_cons lensKnown_f65n7 <| tab2Ok_cons lensKnown_f66n10 <| tab2Ok_cons lensKnown_f67n4 <| tab2Ok_cons lensKnown_f121n1 <| tab2Ok_cons lensKnown_f140n1 <| tab2Ok_cons lensKnown_f98n1 <| tab2Ok_cons lensKnown_f72n1 <| tab2Ok_nil
/-- stringslite.HasPrefix: 50 operations. -/
theorem lensKnown_c25 : (exFT evEnv lensKnownTab25 1000 60).1 121 lensKnownA25 = some lensKnownR25 := by kernel_rfl
def lensKnownA26 : List PV := [.str [53], .v (.int .u8 46)]
def lensKnownR26 : PV := .v (.int .i64 (-1))
def lensKnownF121n2 : Tab := (121, lensKnownA25, lensKnownR25) :: lensKnownF121n1
theorem lensKnown_f121n2 : TabOk Tryz.prog lensKnownF121n2 := tabOk_cons ((exFT_ok evEnv_ok lensKnown_tab25 1000 60).1 _ _ _ lensKnown_c25) lensKnown_f121n1
def lensKnownTab26 : Tab2 := [(65, lensKnownF65n7), (66, lensKnownF66n10), (67, lensKnownF67n4), (121, lensKnownF121n2), (140, lensKnownF140n1), (98, lensKnownF98n1), (72, lensKnownF72n1)]
theorem lensKnown_tab26 : Tab2Ok Tryz.prog lensKnownTab26 := tab2Ok_cons lensKnown_f65n7 <| tab2Ok_cons lensKnown_f66n10 <| tab2Ok_cons lensKnown_f67n4 <| tab2Ok_cons lensKnown_f121n2 <| tab2Ok_cons lensKnown_f140n1 <| tab2Ok_cons lensKnown_f98n1 <| tab2Ok_cons lensKnown_f72n1 <| tab2Ok_nil
/-- stringslite.IndexByte: 53 operations. -/
theorem lensKnown_c26 : (exFT evEnv lensKnownTab26 1000 60).1 140 lensKnownA26 = some lensKnownR26 := by kernel_rfl
def lensKnownA27 : List PV := [.str [53], .v (.int .i64 5)]
def lensKnownR27 : PV := .v (.bool true)
def lensKnownF140n2 : Tab := (140, lensKnownA26, lensKnownR26) :: lensKnownF140n1
theorem lensKnown_f140n2 : TabOk Tryz.prog lensKnownF140n2 := tabOk_cons ((exFT_ok evEnv_ok lensKnown_tab26 1000 60).1 _ _ _ lensKnown_c26) lensKnown_f140n1
def lensKnownTab27 : Tab2 := [(65, lensKnownF65n7), (66, lensKnownF66n10), (67, lensKnownF67n4), (121, lensKnownF121n2), (140, lensKnownF140n2), (98, lensKnownF98n1), (72, lensKnownF72n1)]
theorem lensKnown_tab27 : Tab2Ok Tryz.prog lensKnownTab27 := tab2Ok_cons lensKnown_f65n7 <| tab2Ok_cons lensKnown_f66n10 <| tab2Ok_cons lensKnown_f67n4 <| tab2Ok_cons lensKnown_f121n2 <| tab2Ok_cons lensKnown_f140n2 <| tab2Ok_cons lensKnown_f98n1 <| tab2Ok_cons lensKnown_f72n1 <| tab2Ok_nil
/-- dec.figures: 26 operations. -/
theorem lensKnown_c27 : (exFT evEnv lensKnownTab27 1000 60).1 98 lensKnownA27 = some lensKnownR27 := by kernel_rfl
def lensKnownA28 : List PV := [.str [53]]
def lensKnownR28 : PV := .tup [.agg [.v (.int .i64 5), .v (.int .i64 0)], .v (.bool true)]
def lensKnownF98n2 : Tab := (98, lensKnownA27, lensKnownR27) :: lensKnownF98n1
theorem lensKnown_f98n2 : TabOk Tryz.prog lensKnownF98n2 := tabOk_cons ((exFT_ok evEnv_ok lensKnown_tab27 1000 60).1 _ _ _ lensKnown_c27) lensKnown_f98n1
def lensKnownTab28 : Tab2 := [(65, lensKnownF65n7), (66, lensKnownF66n10), (67, lensKnownF67n4), (121, lensKnownF121n2), (140, lensKnownF140n2), (98, lensKnownF98n2), (72, lensKnownF72n1)]
theorem lensKnown_tab28 : Tab2Ok Tryz.prog lensKnownTab28 := tab2Ok_cons lensKnown_f65n7 <| tab2Ok_cons lensKnown_f66n10 <| tab2Ok_cons lensKnown_f67n4 <| tab2Ok_cons lensKnown_f121n2 <| tab2Ok_cons lensKnown_f140n2 <| tab2Ok_cons lensKnown_f98n2 <| tab2Ok_cons lensKnown_f72n1 <| tab2Ok_nil
/-- dec.Read: 33 operations. -/
theorem lensKnown_c28 : (exFT evEnv lensKnownTab28 1000 60).1 72 lensKnownA28 = some lensKnownR28 := by kernel_rfl
def lensKnownA29 : List PV := [.v (.int .u8 49)]
def lensKnownR29 : PV := .v (.bool false)
def lensKnownF72n2 : Tab := (72, lensKnownA28, lensKnownR28) :: lensKnownF72n1
theorem lensKnown_f72n2 : TabOk Tryz.prog lensKnownF72n2 := tabOk_cons ((exFT_ok evEnv_ok lensKnown_tab28 1000 60).1 _ _ _ lensKnown_c28) lensKnown_f72n1
def lensKnownTab29 : Tab2 := [(65, lensKnownF65n7), (66, lensKnownF66n10), (67, lensKnownF67n4), (121, lensKnownF121n2), (140, lensKnownF140n2), (98, lensKnownF98n2), (72, lensKnownF72n2)]
theorem lensKnown_tab29 : Tab2Ok Tryz.prog lensKnownTab29 := tab2Ok_cons lensKnown_f65n7 <| tab2Ok_cons lensKnown_f66n10 <| tab2Ok_cons lensKnown_f67n4 <| tab2Ok_cons lensKnown_f121n2 <| tab2Ok_cons lensKnown_f140n2 <| tab2Ok_cons lensKnown_f98n2 <| tab2Ok_cons lensKnown_f72n2 <| tab2Ok_nil
/-- lex.letter: 40 operations. -/
theorem lensKnown_c29 : (exFT evEnv lensKnownTab29 1000 60).1 66 lensKnownA29 = some lensKnownR29 := by kernel_rfl
def lensKnownA30 : List PV := [.v (.int .u8 49)]
def lensKnownR30 : PV := .v (.bool true)
def lensKnownF66n11 : Tab := (66, lensKnownA29, lensKnownR29) :: lensKnownF66n10
theorem lensKnown_f66n11 : TabOk Tryz.prog lensKnownF66n11 := tabOk_cons ((exFT_ok evEnv_ok lensKnown_tab29 1000 60).1 _ _ _ lensKnown_c29) lensKnown_f66n10
def lensKnownTab30 : Tab2 := [(65, lensKnownF65n7), (66, lensKnownF66n11), (67, lensKnownF67n4), (121, lensKnownF121n2), (140, lensKnownF140n2), (98, lensKnownF98n2), (72, lensKnownF72n2)]
theorem lensKnown_tab30 : Tab2Ok Tryz.prog lensKnownTab30 := tab2Ok_cons lensKnown_f65n7 <| tab2Ok_cons lensKnown_f66n11 <| tab2Ok_cons lensKnown_f67n4 <| tab2Ok_cons lensKnown_f121n2 <| tab2Ok_cons lensKnown_f140n2 <| tab2Ok_cons lensKnown_f98n2 <| tab2Ok_cons lensKnown_f72n2 <| tab2Ok_nil
/-- lex.digit: 15 operations. -/
theorem lensKnown_c30 : (exFT evEnv lensKnownTab30 1000 60).1 67 lensKnownA30 = some lensKnownR30 := by kernel_rfl
def lensKnownA31 : List PV := [.str [49], .str [45]]
def lensKnownR31 : PV := .v (.bool false)
def lensKnownF67n5 : Tab := (67, lensKnownA30, lensKnownR30) :: lensKnownF67n4
theorem lensKnown_f67n5 : TabOk Tryz.prog lensKnownF67n5 := tabOk_cons ((exFT_ok evEnv_ok lensKnown_tab30 1000 60).1 _ _ _ lensKnown_c30) lensKnown_f67n4
def lensKnownTab31 : Tab2 := [(65, lensKnownF65n7), (66, lensKnownF66n11), (67, lensKnownF67n5), (121, lensKnownF121n2), (140, lensKnownF140n2), (98, lensKnownF98n2), (72, lensKnownF72n2)]
theorem lensKnown_tab31 : Tab2Ok Tryz.prog lensKnownTab31 := tab2Ok_cons lensKnown_f65n7 <| tab2Ok_cons lensKnown_f66n11 <| tab2Ok_cons lensKnown_f67n5 <| tab2Ok_cons lensKnown_f121n2 <| tab2Ok_cons lensKnown_f140n2 <| tab2Ok_cons lensKnown_f98n2 <| tab2Ok_cons lensKnown_f72n2 <| tab2Ok_nil
/-- stringslite.HasPrefix: 50 operations. -/
theorem lensKnown_c31 : (exFT evEnv lensKnownTab31 1000 60).1 121 lensKnownA31 = some lensKnownR31 := by kernel_rfl
def lensKnownA32 : List PV := [.str [49], .v (.int .u8 46)]
def lensKnownR32 : PV := .v (.int .i64 (-1))
def lensKnownF121n3 : Tab := (121, lensKnownA31, lensKnownR31) :: lensKnownF121n2
theorem lensKnown_f121n3 : TabOk Tryz.prog lensKnownF121n3 := tabOk_cons ((exFT_ok evEnv_ok lensKnown_tab31 1000 60).1 _ _ _ lensKnown_c31) lensKnown_f121n2
def lensKnownTab32 : Tab2 := [(65, lensKnownF65n7), (66, lensKnownF66n11), (67, lensKnownF67n5), (121, lensKnownF121n3), (140, lensKnownF140n2), (98, lensKnownF98n2), (72, lensKnownF72n2)]
theorem lensKnown_tab32 : Tab2Ok Tryz.prog lensKnownTab32 := tab2Ok_cons lensKnown_f65n7 <| tab2Ok_cons lensKnown_f66n11 <| tab2Ok_cons lensKnown_f67n5 <| tab2Ok_cons lensKnown_f121n3 <| tab2Ok_cons lensKnown_f140n2 <| tab2Ok_cons lensKnown_f98n2 <| tab2Ok_cons lensKnown_f72n2 <| tab2Ok_nil
/-- stringslite.IndexByte: 53 operations. -/
theorem lensKnown_c32 : (exFT evEnv lensKnownTab32 1000 60).1 140 lensKnownA32 = some lensKnownR32 := by kernel_rfl
def lensKnownA33 : List PV := [.str [49], .v (.int .i64 5)]
def lensKnownR33 : PV := .v (.bool true)
def lensKnownF140n3 : Tab := (140, lensKnownA32, lensKnownR32) :: lensKnownF140n2
theorem lensKnown_f140n3 : TabOk Tryz.prog lensKnownF140n3 := tabOk_cons ((exFT_ok evEnv_ok lensKnown_tab32 1000 60).1 _ _ _ lensKnown_c32) lensKnown_f140n2
def lensKnownTab33 : Tab2 := [(65, lensKnownF65n7), (66, lensKnownF66n11), (67, lensKnownF67n5), (121, lensKnownF121n3), (140, lensKnownF140n3), (98, lensKnownF98n2), (72, lensKnownF72n2)]
theorem lensKnown_tab33 : Tab2Ok Tryz.prog lensKnownTab33 := tab2Ok_cons lensKnown_f65n7 <| tab2Ok_cons lensKnown_f66n11 <| tab2Ok_cons lensKnown_f67n5 <| tab2Ok_cons lensKnown_f121n3 <| tab2Ok_cons lensKnown_f140n3 <| tab2Ok_cons lensKnown_f98n2 <| tab2Ok_cons lensKnown_f72n2 <| tab2Ok_nil
/-- dec.figures: 26 operations. -/
theorem lensKnown_c33 : (exFT evEnv lensKnownTab33 1000 60).1 98 lensKnownA33 = some lensKnownR33 := by kernel_rfl
def lensKnownA34 : List PV := [.str [49]]
def lensKnownR34 : PV := .tup [.agg [.v (.int .i64 1), .v (.int .i64 0)], .v (.bool true)]
def lensKnownF98n3 : Tab := (98, lensKnownA33, lensKnownR33) :: lensKnownF98n2
theorem lensKnown_f98n3 : TabOk Tryz.prog lensKnownF98n3 := tabOk_cons ((exFT_ok evEnv_ok lensKnown_tab33 1000 60).1 _ _ _ lensKnown_c33) lensKnown_f98n2
def lensKnownTab34 : Tab2 := [(65, lensKnownF65n7), (66, lensKnownF66n11), (67, lensKnownF67n5), (121, lensKnownF121n3), (140, lensKnownF140n3), (98, lensKnownF98n3), (72, lensKnownF72n2)]
theorem lensKnown_tab34 : Tab2Ok Tryz.prog lensKnownTab34 := tab2Ok_cons lensKnown_f65n7 <| tab2Ok_cons lensKnown_f66n11 <| tab2Ok_cons lensKnown_f67n5 <| tab2Ok_cons lensKnown_f121n3 <| tab2Ok_cons lensKnown_f140n3 <| tab2Ok_cons lensKnown_f98n3 <| tab2Ok_cons lensKnown_f72n2 <| tab2Ok_nil
/-- dec.Read: 33 operations. -/
theorem lensKnown_c34 : (exFT evEnv lensKnownTab34 1000 60).1 72 lensKnownA34 = some lensKnownR34 := by kernel_rfl
def lensKnownA35 : List PV := [.v (.int .u8 114)]
def lensKnownR35 : PV := .v (.bool true)
def lensKnownF72n3 : Tab := (72, lensKnownA34, lensKnownR34) :: lensKnownF72n2
theorem lensKnown_f72n3 : TabOk Tryz.prog lensKnownF72n3 := tabOk_cons ((exFT_ok evEnv_ok lensKnown_tab34 1000 60).1 _ _ _ lensKnown_c34) lensKnown_f72n2
def lensKnownTab35 : Tab2 := [(65, lensKnownF65n7), (66, lensKnownF66n11), (67, lensKnownF67n5), (121, lensKnownF121n3), (140, lensKnownF140n3), (98, lensKnownF98n3), (72, lensKnownF72n3)]
theorem lensKnown_tab35 : Tab2Ok Tryz.prog lensKnownTab35 := tab2Ok_cons lensKnown_f65n7 <| tab2Ok_cons lensKnown_f66n11 <| tab2Ok_cons lensKnown_f67n5 <| tab2Ok_cons lensKnown_f121n3 <| tab2Ok_cons lensKnown_f140n3 <| tab2Ok_cons lensKnown_f98n3 <| tab2Ok_cons lensKnown_f72n3 <| tab2Ok_nil
/-- lex.letter: 51 operations. -/
theorem lensKnown_c35 : (exFT evEnv lensKnownTab35 1000 60).1 66 lensKnownA35 = some lensKnownR35 := by kernel_rfl
def lensKnownA36 : List PV := [.v (.int .u8 111)]
def lensKnownR36 : PV := .v (.bool true)
def lensKnownF66n12 : Tab := (66, lensKnownA35, lensKnownR35) :: lensKnownF66n11
theorem lensKnown_f66n12 : TabOk Tryz.prog lensKnownF66n12 := tabOk_cons ((exFT_ok evEnv_ok lensKnown_tab35 1000 60).1 _ _ _ lensKnown_c35) lensKnown_f66n11
def lensKnownTab36 : Tab2 := [(65, lensKnownF65n7), (66, lensKnownF66n12), (67, lensKnownF67n5), (121, lensKnownF121n3), (140, lensKnownF140n3), (98, lensKnownF98n3), (72, lensKnownF72n3)]
theorem lensKnown_tab36 : Tab2Ok Tryz.prog lensKnownTab36 := tab2Ok_cons lensKnown_f65n7 <| tab2Ok_cons lensKnown_f66n12 <| tab2Ok_cons lensKnown_f67n5 <| tab2Ok_cons lensKnown_f121n3 <| tab2Ok_cons lensKnown_f140n3 <| tab2Ok_cons lensKnown_f98n3 <| tab2Ok_cons lensKnown_f72n3 <| tab2Ok_nil
/-- lex.letter: 46 operations. -/
theorem lensKnown_c36 : (exFT evEnv lensKnownTab36 1000 60).1 66 lensKnownA36 = some lensKnownR36 := by kernel_rfl
def lensKnownA37 : List PV := [.v (.int .u8 105)]
def lensKnownR37 : PV := .v (.bool true)
def lensKnownF66n13 : Tab := (66, lensKnownA36, lensKnownR36) :: lensKnownF66n12
theorem lensKnown_f66n13 : TabOk Tryz.prog lensKnownF66n13 := tabOk_cons ((exFT_ok evEnv_ok lensKnown_tab36 1000 60).1 _ _ _ lensKnown_c36) lensKnown_f66n12
def lensKnownTab37 : Tab2 := [(65, lensKnownF65n7), (66, lensKnownF66n13), (67, lensKnownF67n5), (121, lensKnownF121n3), (140, lensKnownF140n3), (98, lensKnownF98n3), (72, lensKnownF72n3)]
theorem lensKnown_tab37 : Tab2Ok Tryz.prog lensKnownTab37 := tab2Ok_cons lensKnown_f65n7 <| tab2Ok_cons lensKnown_f66n13 <| tab2Ok_cons lensKnown_f67n5 <| tab2Ok_cons lensKnown_f121n3 <| tab2Ok_cons lensKnown_f140n3 <| tab2Ok_cons lensKnown_f98n3 <| tab2Ok_cons lensKnown_f72n3 <| tab2Ok_nil
/-- lex.letter: 46 operations. -/
theorem lensKnown_c37 : (exFT evEnv lensKnownTab37 1000 60).1 66 lensKnownA37 = some lensKnownR37 := by kernel_rfl
def lensKnownA38 : List PV := [.str [45, 49]]
def lensKnownR38 : PV := .tup [.agg [.v (.int .i64 (-1)), .v (.int .i64 0)], .v (.bool true)]
def lensKnownF66n14 : Tab := (66, lensKnownA37, lensKnownR37) :: lensKnownF66n13
theorem lensKnown_f66n14 : TabOk Tryz.prog lensKnownF66n14 := tabOk_cons ((exFT_ok evEnv_ok lensKnown_tab37 1000 60).1 _ _ _ lensKnown_c37) lensKnown_f66n13
def lensKnownTab38 : Tab2 := [(65, lensKnownF65n7), (66, lensKnownF66n14), (67, lensKnownF67n5), (121, lensKnownF121n3), (140, lensKnownF140n3), (98, lensKnownF98n3), (72, lensKnownF72n3)]
theorem lensKnown_tab38 : Tab2Ok Tryz.prog lensKnownTab38 := tab2Ok_cons lensKnown_f65n7 <| tab2Ok_cons lensKnown_f66n14 <| tab2Ok_cons lensKnown_f67n5 <| tab2Ok_cons lensKnown_f121n3 <| tab2Ok_cons lensKnown_f140n3 <| tab2Ok_cons lensKnown_f98n3 <| tab2Ok_cons lensKnown_f72n3 <| tab2Ok_nil
/-- dec.Read: 89 operations. -/
theorem lensKnown_c38 : (exFT evEnv lensKnownTab38 1000 60).1 72 lensKnownA38 = some lensKnownR38 := by kernel_rfl
def lensKnownA39 : List PV := [.str [52]]
def lensKnownR39 : PV := .tup [.agg [.v (.int .i64 4), .v (.int .i64 0)], .v (.bool true)]
def lensKnownF72n4 : Tab := (72, lensKnownA38, lensKnownR38) :: lensKnownF72n3
theorem lensKnown_f72n4 : TabOk Tryz.prog lensKnownF72n4 := tabOk_cons ((exFT_ok evEnv_ok lensKnown_tab38 1000 60).1 _ _ _ lensKnown_c38) lensKnown_f72n3
def lensKnownTab39 : Tab2 := [(65, lensKnownF65n7), (66, lensKnownF66n14), (67, lensKnownF67n5), (121, lensKnownF121n3), (140, lensKnownF140n3), (98, lensKnownF98n3), (72, lensKnownF72n4)]
theorem lensKnown_tab39 : Tab2Ok Tryz.prog lensKnownTab39 := tab2Ok_cons lensKnown_f65n7 <| tab2Ok_cons lensKnown_f66n14 <| tab2Ok_cons lensKnown_f67n5 <| tab2Ok_cons lensKnown_f121n3 <| tab2Ok_cons lensKnown_f140n3 <| tab2Ok_cons lensKnown_f98n3 <| tab2Ok_cons lensKnown_f72n4 <| tab2Ok_nil
/-- dec.Read: 162 operations. -/
theorem lensKnown_c39 : (exFT evEnv lensKnownTab39 1000 60).1 72 lensKnownA39 = some lensKnownR39 := by kernel_rfl
def lensKnownA40 : List PV := [.v (.int .u8 48)]
def lensKnownR40 : PV := .v (.bool false)
def lensKnownF72n5 : Tab := (72, lensKnownA39, lensKnownR39) :: lensKnownF72n4
theorem lensKnown_f72n5 : TabOk Tryz.prog lensKnownF72n5 := tabOk_cons ((exFT_ok evEnv_ok lensKnown_tab39 1000 60).1 _ _ _ lensKnown_c39) lensKnown_f72n4
def lensKnownTab40 : Tab2 := [(65, lensKnownF65n7), (66, lensKnownF66n14), (67, lensKnownF67n5), (121, lensKnownF121n3), (140, lensKnownF140n3), (98, lensKnownF98n3), (72, lensKnownF72n5)]
theorem lensKnown_tab40 : Tab2Ok Tryz.prog lensKnownTab40 := tab2Ok_cons lensKnown_f65n7 <| tab2Ok_cons lensKnown_f66n14 <| tab2Ok_cons lensKnown_f67n5 <| tab2Ok_cons lensKnown_f121n3 <| tab2Ok_cons lensKnown_f140n3 <| tab2Ok_cons lensKnown_f98n3 <| tab2Ok_cons lensKnown_f72n5 <| tab2Ok_nil
/-- lex.letter: 40 operations. -/
theorem lensKnown_c40 : (exFT evEnv lensKnownTab40 1000 60).1 66 lensKnownA40 = some lensKnownR40 := by kernel_rfl
def lensKnownA41 : List PV := [.str [48], .v (.int .i64 5)]
def lensKnownR41 : PV := .v (.bool true)
def lensKnownF66n15 : Tab := (66, lensKnownA40, lensKnownR40) :: lensKnownF66n14
theorem lensKnown_f66n15 : TabOk Tryz.prog lensKnownF66n15 := tabOk_cons ((exFT_ok evEnv_ok lensKnown_tab40 1000 60).1 _ _ _ lensKnown_c40) lensKnown_f66n14
def lensKnownTab41 : Tab2 := [(65, lensKnownF65n7), (66, lensKnownF66n15), (67, lensKnownF67n5), (121, lensKnownF121n3), (140, lensKnownF140n3), (98, lensKnownF98n3), (72, lensKnownF72n5)]
theorem lensKnown_tab41 : Tab2Ok Tryz.prog lensKnownTab41 := tab2Ok_cons lensKnown_f65n7 <| tab2Ok_cons lensKnown_f66n15 <| tab2Ok_cons lensKnown_f67n5 <| tab2Ok_cons lensKnown_f121n3 <| tab2Ok_cons lensKnown_f140n3 <| tab2Ok_cons lensKnown_f98n3 <| tab2Ok_cons lensKnown_f72n5 <| tab2Ok_nil
/-- dec.figures: 26 operations. -/
theorem lensKnown_c41 : (exFT evEnv lensKnownTab41 1000 60).1 98 lensKnownA41 = some lensKnownR41 := by kernel_rfl
def lensKnownA42 : List PV := [.str [48], .str [45]]
def lensKnownR42 : PV := .v (.bool false)
def lensKnownF98n4 : Tab := (98, lensKnownA41, lensKnownR41) :: lensKnownF98n3
theorem lensKnown_f98n4 : TabOk Tryz.prog lensKnownF98n4 := tabOk_cons ((exFT_ok evEnv_ok lensKnown_tab41 1000 60).1 _ _ _ lensKnown_c41) lensKnown_f98n3
def lensKnownTab42 : Tab2 := [(65, lensKnownF65n7), (66, lensKnownF66n15), (67, lensKnownF67n5), (121, lensKnownF121n3), (140, lensKnownF140n3), (98, lensKnownF98n4), (72, lensKnownF72n5)]
theorem lensKnown_tab42 : Tab2Ok Tryz.prog lensKnownTab42 := tab2Ok_cons lensKnown_f65n7 <| tab2Ok_cons lensKnown_f66n15 <| tab2Ok_cons lensKnown_f67n5 <| tab2Ok_cons lensKnown_f121n3 <| tab2Ok_cons lensKnown_f140n3 <| tab2Ok_cons lensKnown_f98n4 <| tab2Ok_cons lensKnown_f72n5 <| tab2Ok_nil
/-- stringslite.HasPrefix: 50 operations. -/
theorem lensKnown_c42 : (exFT evEnv lensKnownTab42 1000 60).1 121 lensKnownA42 = some lensKnownR42 := by kernel_rfl
def lensKnownA43 : List PV := [.str [48], .v (.int .u8 46)]
def lensKnownR43 : PV := .v (.int .i64 (-1))
def lensKnownF121n4 : Tab := (121, lensKnownA42, lensKnownR42) :: lensKnownF121n3
theorem lensKnown_f121n4 : TabOk Tryz.prog lensKnownF121n4 := tabOk_cons ((exFT_ok evEnv_ok lensKnown_tab42 1000 60).1 _ _ _ lensKnown_c42) lensKnown_f121n3
def lensKnownTab43 : Tab2 := [(65, lensKnownF65n7), (66, lensKnownF66n15), (67, lensKnownF67n5), (121, lensKnownF121n4), (140, lensKnownF140n3), (98, lensKnownF98n4), (72, lensKnownF72n5)]
theorem lensKnown_tab43 : Tab2Ok Tryz.prog lensKnownTab43 := tab2Ok_cons lensKnown_f65n7 <| tab2Ok_cons lensKnown_f66n15 <| tab2Ok_cons lensKnown_f67n5 <| tab2Ok_cons lensKnown_f121n4 <| tab2Ok_cons lensKnown_f140n3 <| tab2Ok_cons lensKnown_f98n4 <| tab2Ok_cons lensKnown_f72n5 <| tab2Ok_nil
/-- stringslite.IndexByte: 53 operations. -/
theorem lensKnown_c43 : (exFT evEnv lensKnownTab43 1000 60).1 140 lensKnownA43 = some lensKnownR43 := by kernel_rfl
def lensKnownA44 : List PV := [.str [48]]
def lensKnownR44 : PV := .tup [.agg [.v (.int .i64 0), .v (.int .i64 0)], .v (.bool true)]
def lensKnownF140n4 : Tab := (140, lensKnownA43, lensKnownR43) :: lensKnownF140n3
theorem lensKnown_f140n4 : TabOk Tryz.prog lensKnownF140n4 := tabOk_cons ((exFT_ok evEnv_ok lensKnown_tab43 1000 60).1 _ _ _ lensKnown_c43) lensKnown_f140n3
def lensKnownTab44 : Tab2 := [(65, lensKnownF65n7), (66, lensKnownF66n15), (67, lensKnownF67n5), (121, lensKnownF121n4), (140, lensKnownF140n4), (98, lensKnownF98n4), (72, lensKnownF72n5)]
theorem lensKnown_tab44 : Tab2Ok Tryz.prog lensKnownTab44 := tab2Ok_cons lensKnown_f65n7 <| tab2Ok_cons lensKnown_f66n15 <| tab2Ok_cons lensKnown_f67n5 <| tab2Ok_cons lensKnown_f121n4 <| tab2Ok_cons lensKnown_f140n4 <| tab2Ok_cons lensKnown_f98n4 <| tab2Ok_cons lensKnown_f72n5 <| tab2Ok_nil
/-- dec.Read: 33 operations. -/
theorem lensKnown_c44 : (exFT evEnv lensKnownTab44 1000 60).1 72 lensKnownA44 = some lensKnownR44 := by kernel_rfl
def lensKnownA45 : List PV := [.str [108, 101, 110, 115, 32, 97, 32, 52, 48, 10, 10, 102, 97, 99, 101, 32, 51, 48, 46, 53, 32, 53, 32, 49, 32, 99, 114, 111, 119, 110, 32, 99, 111, 110, 105, 99, 32, 45, 49, 32, 97, 54, 32, 50, 10, 115, 116, 111, 112, 32, 52, 32, 48, 46, 53, 32, 35, 32, 104, 101, 114, 101, 10, 102, 97, 99, 101, 32, 45, 51, 48, 32, 53, 32, 48, 32, 97, 105, 114, 32, 97, 52, 32, 45, 48, 46, 48, 49]]
def lensKnownR45 : PV := .tup [.lst [[.v (.int .i64 1), .str [108, 101, 110, 115], .v (.complex .f64 4607182418800017408 4607182418800017408)], [.v (.int .i64 1), .str [97], .v (.complex .f64 4607182418800017408 4618441417868443648)], [.v (.int .i64 2), .str [52, 48], .v (.complex .f64 4607182418800017408 4620693217682128896)], [.v (.int .i64 3), .str [], .v (.complex .f64 4607182418800017408 4621819117588971520)], [.v (.int .i64 1), .str [102, 97, 99, 101], .v (.complex .f64 4613937818241073152 4607182418800017408)], [.v (.int .i64 2), .str [51, 48, 46, 53], .v (.complex .f64 4613937818241073152 4618441417868443648)], [.v (.int .i64 2), .str [53], .v (.complex .f64 4613937818241073152 4622382067542392832)], [.v (.int .i64 2), .str [49], .v (.complex .f64 4613937818241073152 4623507967449235456)], [.v (.int .i64 1), .str [99, 114, 111, 119, 110], .v (.complex .f64 4613937818241073152 4624633867356078080)], [.v (.int .i64 1), .str [99, 111, 110, 105, 99], .v (.complex .f64 4613937818241073152 4626604192193052672)], [.v (.int .i64 2), .str [45, 49], .v (.complex .f64 4613937818241073152 4628293042053316608)], [.v (.int .i64 1), .str [97, 54], .v (.complex .f64 4613937818241073152 4629137466983448576)], [.v (.int .i64 2), .str [50], .v (.complex .f64 4613937818241073152 4629841154425225216)], [.v (.int .i64 3), .str [], .v (.complex .f64 4613937818241073152 4629981891913580544)], [.v (.int .i64 1), .str [115, 116, 111, 112], .v (.complex .f64 4616189618054758400 4607182418800017408)], [.v (.int .i64 2), .str [52], .v (.complex .f64 4616189618054758400 4618441417868443648)], [.v (.int .i64 2), .str [48, 46, 53], .v (.complex .f64 4616189618054758400 4620693217682128896)], [.v (.int .i64 3), .str [], .v (.complex .f64 4616189618054758400 4625759767262920704)], [.v (.int .i64 1), .str [102, 97, 99, 101], .v (.complex .f64 4617315517961601024 4607182418800017408)], [.v (.int .i64 2), .str [45, 51, 48], .v (.complex .f64 4617315517961601024 4618441417868443648)], [.v (.int .i64 2), .str [53], .v (.complex .f64 4617315517961601024 4621819117588971520)], [.v (.int .i64 2), .str [48], .v (.complex .f64 4617315517961601024 4622945017495814144)], [.v (.int .i64 1), .str [97, 105, 114], .v (.complex .f64 4617315517961601024 4624070917402656768)], [.v (.int .i64 1), .str [97, 52], .v (.complex .f64 4617315517961601024 4625759767262920704)], [.v (.int .i64 2), .str [45, 48, 46, 48, 49], .v (.complex .f64 4617315517961601024 4626604192193052672)], [.v (.int .i64 3), .str [], .v (.complex .f64 4617315517961601024 4628011567076605952)]], .v (.complex .f64 0 0), .v (.int .i64 0)]
def lensKnownF72n6 : Tab := (72, lensKnownA44, lensKnownR44) :: lensKnownF72n5
theorem lensKnown_f72n6 : TabOk Tryz.prog lensKnownF72n6 := tabOk_cons ((exFT_ok evEnv_ok lensKnown_tab44 1000 60).1 _ _ _ lensKnown_c44) lensKnown_f72n5
def lensKnownTab45 : Tab2 := [(65, lensKnownF65n7), (66, lensKnownF66n15), (67, lensKnownF67n5), (121, lensKnownF121n4), (140, lensKnownF140n4), (98, lensKnownF98n4), (72, lensKnownF72n6)]
theorem lensKnown_tab45 : Tab2Ok Tryz.prog lensKnownTab45 := tab2Ok_cons lensKnown_f65n7 <| tab2Ok_cons lensKnown_f66n15 <| tab2Ok_cons lensKnown_f67n5 <| tab2Ok_cons lensKnown_f121n4 <| tab2Ok_cons lensKnown_f140n4 <| tab2Ok_cons lensKnown_f98n4 <| tab2Ok_cons lensKnown_f72n6 <| tab2Ok_nil
/-- lex.Tokens: 3026 operations. -/
theorem lensKnown_c45 : (exFT evEnv lensKnownTab45 1000 60).1 30 lensKnownA45 = some lensKnownR45 := by kernel_rfl
def lensKnownA46 : List PV := [.agg [.v (.int .i64 0), .v (.int .i64 0)]]
def lensKnownR46 : PV := .v (.bool true)
def lensKnownF30n1 : Tab := (30, lensKnownA45, lensKnownR45) :: []
theorem lensKnown_f30n1 : TabOk Tryz.prog lensKnownF30n1 := tabOk_cons ((exFT_ok evEnv_ok lensKnown_tab45 1000 60).1 _ _ _ lensKnown_c45) tabOk_nil
def lensKnownTab46 : Tab2 := [(65, lensKnownF65n7), (66, lensKnownF66n15), (67, lensKnownF67n5), (121, lensKnownF121n4), (140, lensKnownF140n4), (98, lensKnownF98n4), (72, lensKnownF72n6), (30, lensKnownF30n1)]
theorem lensKnown_tab46 : Tab2Ok Tryz.prog lensKnownTab46 := tab2Ok_cons lensKnown_f65n7 <| tab2Ok_cons lensKnown_f66n15 <| tab2Ok_cons lensKnown_f67n5 <| tab2Ok_cons lensKnown_f121n4 <| tab2Ok_cons lensKnown_f140n4 <| tab2Ok_cons lensKnown_f98n4 <| tab2Ok_cons lensKnown_f72n6 <| tab2Ok_cons lensKnown_f30n1 <| tab2Ok_nil
/-- dec.Right: 59 operations. -/
theorem lensKnown_c46 : (exFT evEnv lensKnownTab46 1000 60).1 77 lensKnownA46 = some lensKnownR46 := by kernel_rfl
def lensKnownA47 : List PV := [.agg [.v (.int .i64 40), .v (.int .i64 0)]]
def lensKnownR47 : PV := .v (.bool true)
def lensKnownF77n1 : Tab := (77, lensKnownA46, lensKnownR46) :: []
theorem lensKnown_f77n1 : TabOk Tryz.prog lensKnownF77n1 := tabOk_cons ((exFT_ok evEnv_ok lensKnown_tab46 1000 60).1 _ _ _ lensKnown_c46) tabOk_nil
def lensKnownTab47 : Tab2 := [(65, lensKnownF65n7), (66, lensKnownF66n15), (67, lensKnownF67n5), (121, lensKnownF121n4), (140, lensKnownF140n4), (98, lensKnownF98n4), (72, lensKnownF72n6), (30, lensKnownF30n1), (77, lensKnownF77n1)]
theorem lensKnown_tab47 : Tab2Ok Tryz.prog lensKnownTab47 := tab2Ok_cons lensKnown_f65n7 <| tab2Ok_cons lensKnown_f66n15 <| tab2Ok_cons lensKnown_f67n5 <| tab2Ok_cons lensKnown_f121n4 <| tab2Ok_cons lensKnown_f140n4 <| tab2Ok_cons lensKnown_f98n4 <| tab2Ok_cons lensKnown_f72n6 <| tab2Ok_cons lensKnown_f30n1 <| tab2Ok_cons lensKnown_f77n1 <| tab2Ok_nil
/-- dec.Right: 32 operations. -/
theorem lensKnown_c47 : (exFT evEnv lensKnownTab47 1000 60).1 77 lensKnownA47 = some lensKnownR47 := by kernel_rfl
def lensKnownA48 : List PV := [.v (.int .i64 6)]
def lensKnownR48 : PV := .v (.int .i64 1000000)
def lensKnownF77n2 : Tab := (77, lensKnownA47, lensKnownR47) :: lensKnownF77n1
theorem lensKnown_f77n2 : TabOk Tryz.prog lensKnownF77n2 := tabOk_cons ((exFT_ok evEnv_ok lensKnown_tab47 1000 60).1 _ _ _ lensKnown_c47) lensKnown_f77n1
def lensKnownTab48 : Tab2 := [(65, lensKnownF65n7), (66, lensKnownF66n15), (67, lensKnownF67n5), (121, lensKnownF121n4), (140, lensKnownF140n4), (98, lensKnownF98n4), (72, lensKnownF72n6), (30, lensKnownF30n1), (77, lensKnownF77n2)]
theorem lensKnown_tab48 : Tab2Ok Tryz.prog lensKnownTab48 := tab2Ok_cons lensKnown_f65n7 <| tab2Ok_cons lensKnown_f66n15 <| tab2Ok_cons lensKnown_f67n5 <| tab2Ok_cons lensKnown_f121n4 <| tab2Ok_cons lensKnown_f140n4 <| tab2Ok_cons lensKnown_f98n4 <| tab2Ok_cons lensKnown_f72n6 <| tab2Ok_cons lensKnown_f30n1 <| tab2Ok_cons lensKnown_f77n2 <| tab2Ok_nil
/-- dec.power: 43 operations. -/
theorem lensKnown_c48 : (exFT evEnv lensKnownTab48 1000 60).1 78 lensKnownA48 = some lensKnownR48 := by kernel_rfl
def lensKnownA49 : List PV := [.agg [.v (.int .i64 5), .v (.int .i64 0)]]
def lensKnownR49 : PV := .v (.bool true)
def lensKnownF78n1 : Tab := (78, lensKnownA48, lensKnownR48) :: []
theorem lensKnown_f78n1 : TabOk Tryz.prog lensKnownF78n1 := tabOk_cons ((exFT_ok evEnv_ok lensKnown_tab48 1000 60).1 _ _ _ lensKnown_c48) tabOk_nil
def lensKnownTab49 : Tab2 := [(65, lensKnownF65n7), (66, lensKnownF66n15), (67, lensKnownF67n5), (121, lensKnownF121n4), (140, lensKnownF140n4), (98, lensKnownF98n4), (72, lensKnownF72n6), (30, lensKnownF30n1), (77, lensKnownF77n2), (78, lensKnownF78n1)]
theorem lensKnown_tab49 : Tab2Ok Tryz.prog lensKnownTab49 := tab2Ok_cons lensKnown_f65n7 <| tab2Ok_cons lensKnown_f66n15 <| tab2Ok_cons lensKnown_f67n5 <| tab2Ok_cons lensKnown_f121n4 <| tab2Ok_cons lensKnown_f140n4 <| tab2Ok_cons lensKnown_f98n4 <| tab2Ok_cons lensKnown_f72n6 <| tab2Ok_cons lensKnown_f30n1 <| tab2Ok_cons lensKnown_f77n2 <| tab2Ok_cons lensKnown_f78n1 <| tab2Ok_nil
/-- dec.Right: 32 operations. -/
theorem lensKnown_c49 : (exFT evEnv lensKnownTab49 1000 60).1 77 lensKnownA49 = some lensKnownR49 := by kernel_rfl
def lensKnownA50 : List PV := [.agg [.v (.int .i64 305), .v (.int .i64 1)]]
def lensKnownR50 : PV := .v (.bool true)
def lensKnownF77n3 : Tab := (77, lensKnownA49, lensKnownR49) :: lensKnownF77n2
theorem lensKnown_f77n3 : TabOk Tryz.prog lensKnownF77n3 := tabOk_cons ((exFT_ok evEnv_ok lensKnown_tab49 1000 60).1 _ _ _ lensKnown_c49) lensKnown_f77n2
def lensKnownTab50 : Tab2 := [(65, lensKnownF65n7), (66, lensKnownF66n15), (67, lensKnownF67n5), (121, lensKnownF121n4), (140, lensKnownF140n4), (98, lensKnownF98n4), (72, lensKnownF72n6), (30, lensKnownF30n1), (77, lensKnownF77n3), (78, lensKnownF78n1)]
theorem lensKnown_tab50 : Tab2Ok Tryz.prog lensKnownTab50 := tab2Ok_cons lensKnown_f65n7 <| tab2Ok_cons lensKnown_f66n15 <| tab2Ok_cons lensKnown_f67n5 <| tab2Ok_cons lensKnown_f121n4 <| tab2Ok_cons lensKnown_f140n4 <| tab2Ok_cons lensKnown_f98n4 <| tab2Ok_cons lensKnown_f72n6 <| tab2Ok_cons lensKnown_f30n1 <| tab2Ok_cons lensKnown_f77n3 <| tab2Ok_cons lensKnown_f78n1 <| tab2Ok_nil
/-- dec.Right: 86 operations. -/
theorem lensKnown_c50 : (exFT evEnv lensKnownTab50 1000 60).1 77 lensKnownA50 = some lensKnownR50 := by kernel_rfl
def lensKnownA51 : List PV := [.v (.int .i64 5)]
def lensKnownR51 : PV := .v (.int .i64 100000)
def lensKnownF77n4 : Tab := (77, lensKnownA50, lensKnownR50) :: lensKnownF77n3
theorem lensKnown_f77n4 : TabOk Tryz.prog lensKnownF77n4 := tabOk_cons ((exFT_ok evEnv_ok lensKnown_tab50 1000 60).1 _ _ _ lensKnown_c50) lensKnown_f77n3
def lensKnownTab51 : Tab2 := [(65, lensKnownF65n7), (66, lensKnownF66n15), (67, lensKnownF67n5), (121, lensKnownF121n4), (140, lensKnownF140n4), (98, lensKnownF98n4), (72, lensKnownF72n6), (30, lensKnownF30n1), (77, lensKnownF77n4), (78, lensKnownF78n1)]
theorem lensKnown_tab51 : Tab2Ok Tryz.prog lensKnownTab51 := tab2Ok_cons lensKnown_f65n7 <| tab2Ok_cons lensKnown_f66n15 <| tab2Ok_cons lensKnown_f67n5 <| tab2Ok_cons lensKnown_f121n4 <| tab2Ok_cons lensKnown_f140n4 <| tab2Ok_cons lensKnown_f98n4 <| tab2Ok_cons lensKnown_f72n6 <| tab2Ok_cons lensKnown_f30n1 <| tab2Ok_cons lensKnown_f77n4 <| tab2Ok_cons lensKnown_f78n1 <| tab2Ok_nil
/-- dec.power: 37 operations. -/
theorem lensKnown_c51 : (exFT evEnv lensKnownTab51 1000 60).1 78 lensKnownA51 = some lensKnownR51 := by kernel_rfl
def lensKnownA52 : List PV := []
def lensKnownR52 : PV := .agg [.v (.int .i64 0), .v (.int .i64 0)]
def lensKnownF78n2 : Tab := (78, lensKnownA51, lensKnownR51) :: lensKnownF78n1
theorem lensKnown_f78n2 : TabOk Tryz.prog lensKnownF78n2 := tabOk_cons ((exFT_ok evEnv_ok lensKnown_tab51 1000 60).1 _ _ _ lensKnown_c51) lensKnown_f78n1
def lensKnownTab52 : Tab2 := [(65, lensKnownF65n7), (66, lensKnownF66n15), (67, lensKnownF67n5), (121, lensKnownF121n4), (140, lensKnownF140n4), (98, lensKnownF98n4), (72, lensKnownF72n6), (30, lensKnownF30n1), (77, lensKnownF77n4), (78, lensKnownF78n2)]
theorem lensKnown_tab52 : Tab2Ok Tryz.prog lensKnownTab52 := tab2Ok_cons lensKnown_f65n7 <| tab2Ok_cons lensKnown_f66n15 <| tab2Ok_cons lensKnown_f67n5 <| tab2Ok_cons lensKnown_f121n4 <| tab2Ok_cons lensKnown_f140n4 <| tab2Ok_cons lensKnown_f98n4 <| tab2Ok_cons lensKnown_f72n6 <| tab2Ok_cons lensKnown_f30n1 <| tab2Ok_cons lensKnown_f77n4 <| tab2Ok_cons lensKnown_f78n2 <| tab2Ok_nil
/-- lens.nought: 12 operations. -/
theorem lensKnown_c52 : (exFT evEnv lensKnownTab52 1000 60).1 62 lensKnownA52 = some lensKnownR52 := by kernel_rfl
def lensKnownA53 : List PV := [.agg [.v (.int .i64 1), .v (.int .i64 0)]]
def lensKnownR53 : PV := .v (.bool true)
def lensKnownF62n1 : Tab := (62, lensKnownA52, lensKnownR52) :: []
theorem lensKnown_f62n1 : TabOk Tryz.prog lensKnownF62n1 := tabOk_cons ((exFT_ok evEnv_ok lensKnown_tab52 1000 60).1 _ _ _ lensKnown_c52) tabOk_nil
def lensKnownTab53 : Tab2 := [(65, lensKnownF65n7), (66, lensKnownF66n15), (67, lensKnownF67n5), (121, lensKnownF121n4), (140, lensKnownF140n4), (98, lensKnownF98n4), (72, lensKnownF72n6), (30, lensKnownF30n1), (77, lensKnownF77n4), (78, lensKnownF78n2), (62, lensKnownF62n1)]
theorem lensKnown_tab53 : Tab2Ok Tryz.prog lensKnownTab53 := tab2Ok_cons lensKnown_f65n7 <| tab2Ok_cons lensKnown_f66n15 <| tab2Ok_cons lensKnown_f67n5 <| tab2Ok_cons lensKnown_f121n4 <| tab2Ok_cons lensKnown_f140n4 <| tab2Ok_cons lensKnown_f98n4 <| tab2Ok_cons lensKnown_f72n6 <| tab2Ok_cons lensKnown_f30n1 <| tab2Ok_cons lensKnown_f77n4 <| tab2Ok_cons lensKnown_f78n2 <| tab2Ok_cons lensKnown_f62n1 <| tab2Ok_nil
/-- dec.Right: 59 operations. -/
theorem lensKnown_c53 : (exFT evEnv lensKnownTab53 1000 60).1 77 lensKnownA53 = some lensKnownR53 := by kernel_rfl
def lensKnownA54 : List PV := [.agg [.v (.int .i64 5), .v (.int .i64 1)]]
def lensKnownR54 : PV := .v (.bool true)
def lensKnownF77n5 : Tab := (77, lensKnownA53, lensKnownR53) :: lensKnownF77n4
theorem lensKnown_f77n5 : TabOk Tryz.prog lensKnownF77n5 := tabOk_cons ((exFT_ok evEnv_ok lensKnown_tab53 1000 60).1 _ _ _ lensKnown_c53) lensKnown_f77n4
def lensKnownTab54 : Tab2 := [(65, lensKnownF65n7), (66, lensKnownF66n15), (67, lensKnownF67n5), (121, lensKnownF121n4), (140, lensKnownF140n4), (98, lensKnownF98n4), (72, lensKnownF72n6), (30, lensKnownF30n1), (77, lensKnownF77n5), (78, lensKnownF78n2), (62, lensKnownF62n1)]
theorem lensKnown_tab54 : Tab2Ok Tryz.prog lensKnownTab54 := tab2Ok_cons lensKnown_f65n7 <| tab2Ok_cons lensKnown_f66n15 <| tab2Ok_cons lensKnown_f67n5 <| tab2Ok_cons lensKnown_f121n4 <| tab2Ok_cons lensKnown_f140n4 <| tab2Ok_cons lensKnown_f98n4 <| tab2Ok_cons lensKnown_f72n6 <| tab2Ok_cons lensKnown_f30n1 <| tab2Ok_cons lensKnown_f77n5 <| tab2Ok_cons lensKnown_f78n2 <| tab2Ok_cons lensKnown_f62n1 <| tab2Ok_nil
/-- dec.Right: 59 operations. -/
theorem lensKnown_c54 : (exFT evEnv lensKnownTab54 1000 60).1 77 lensKnownA54 = some lensKnownR54 := by kernel_rfl
def lensKnownA55 : List PV := [.str [108, 101, 110, 115, 32, 97, 32, 52, 48, 10, 10, 102, 97, 99, 101, 32, 51, 48, 46, 53, 32, 53, 32, 49, 32, 99, 114, 111, 119, 110, 32, 99, 111, 110, 105, 99, 32, 45, 49, 32, 97, 54, 32, 50, 10, 115, 116, 111, 112, 32, 52, 32, 48, 46, 53, 32, 35, 32, 104, 101, 114, 101, 10, 102, 97, 99, 101, 32, 45, 51, 48, 32, 53, 32, 48, 32, 97, 105, 114, 32, 97, 52, 32, 45, 48, 46, 48, 49], .lst [[.str [99, 114, 111, 119, 110], .v (.int .i64 103961), .v (.int .i64 5), .v (.int .i64 23179), .v (.int .i64 5), .v (.int .i64 101047), .v (.int .i64 5), .v (.int .i64 6), .v (.int .i64 3), .v (.int .i64 2002), .v (.int .i64 5), .v (.int .i64 1035607), .v (.int .i64 4)], [.str [102, 108, 105, 110, 116], .v (.int .i64 17376), .v (.int .i64 4), .v (.int .i64 31375), .v (.int .i64 5), .v (.int .i64 189878), .v (.int .i64 5), .v (.int .i64 1319), .v (.int .i64 5), .v (.int .i64 6231), .v (.int .i64 5), .v (.int .i64 1552363), .v (.int .i64 4)]]]
def lensKnownR55 : PV := .tup [.agg [.str [97], .v (.int .i64 40), .v (.int .i64 0), .lst [[.v (.bool false), .v (.int .i64 305), .v (.int .i64 1), .v (.int .i64 5), .v (.int .i64 0), .v (.int .i64 1), .v (.int .i64 0), .v (.int .i64 (-1)), .v (.int .i64 0), .v (.int .i64 0), .v (.int .i64 0), .v (.int .i64 2), .v (.int .i64 0), .str [99, 114, 111, 119, 110]], [.v (.bool true), .v (.int .i64 0), .v (.int .i64 0), .v (.int .i64 4), .v (.int .i64 0), .v (.int .i64 5), .v (.int .i64 1), .v (.int .i64 0), .v (.int .i64 0), .v (.int .i64 0), .v (.int .i64 0), .v (.int .i64 0), .v (.int .i64 0), .str []], [.v (.bool false), .v (.int .i64 (-30)), .v (.int .i64 0), .v (.int .i64 5), .v (.int .i64 0), .v (.int .i64 0), .v (.int .i64 0), .v (.int .i64 0), .v (.int .i64 0), .v (.int .i64 (-1)), .v (.int .i64 2), .v (.int .i64 0), .v (.int .i64 0), .str [97, 105, 114]]]], .v (.complex .f64 0 0), .v (.int .i64 0)]
def lensKnownF77n6 : Tab := (77, lensKnownA54, lensKnownR54) :: lensKnownF77n5
theorem lensKnown_f77n6 : TabOk Tryz.prog lensKnownF77n6 := tabOk_cons ((exFT_ok evEnv_ok lensKnown_tab54 1000 60).1 _ _ _ lensKnown_c54) lensKnown_f77n5
def lensKnownTab55 : Tab2 := [(65, lensKnownF65n7), (66, lensKnownF66n15), (67, lensKnownF67n5), (121, lensKnownF121n4), (140, lensKnownF140n4), (98, lensKnownF98n4), (72, lensKnownF72n6), (30, lensKnownF30n1), (77, lensKnownF77n6), (78, lensKnownF78n2), (62, lensKnownF62n1)]
theorem lensKnown_tab55 : Tab2Ok Tryz.prog lensKnownTab55 := tab2Ok_cons lensKnown_f65n7 <| tab2Ok_cons lensKnown_f66n15 <| tab2Ok_cons lensKnown_f67n5 <| tab2Ok_cons lensKnown_f121n4 <| tab2Ok_cons lensKnown_f140n4 <| tab2Ok_cons lensKnown_f98n4 <| tab2Ok_cons lensKnown_f72n6 <| tab2Ok_cons lensKnown_f30n1 <| tab2Ok_cons lensKnown_f77n6 <| tab2Ok_cons lensKnown_f78n2 <| tab2Ok_cons lensKnown_f62n1 <| tab2Ok_nil
/-- lens.Read: 2633 operations. -/
theorem lensKnown_c55 : (exFT evEnv lensKnownTab55 1000 60).1 7 lensKnownA55 = some lensKnownR55 := by kernel_rfl
def lensKnownA56 : List PV := [.v (.int .i64 2), .v (.int .i64 5)]
def lensKnownR56 : PV := .v (.complex .f64 4611686018427387904 4617315517961601024)
def lensKnownF7n1 : Tab := (7, lensKnownA55, lensKnownR55) :: []
theorem lensKnown_f7n1 : TabOk Tryz.prog lensKnownF7n1 := tabOk_cons ((exFT_ok evEnv_ok lensKnown_tab55 1000 60).1 _ _ _ lensKnown_c55) tabOk_nil
def lensKnownTab56 : Tab2 := [(65, lensKnownF65n7), (66, lensKnownF66n15), (67, lensKnownF67n5), (121, lensKnownF121n4), (140, lensKnownF140n4), (98, lensKnownF98n4), (72, lensKnownF72n6), (30, lensKnownF30n1), (77, lensKnownF77n6), (78, lensKnownF78n2), (62, lensKnownF62n1), (7, lensKnownF7n1)]
theorem lensKnown_tab56 : Tab2Ok Tryz.prog lensKnownTab56 := tab2Ok_cons lensKnown_f65n7 <| tab2Ok_cons lensKnown_f66n15 <| tab2Ok_cons lensKnown_f67n5 <| tab2Ok_cons lensKnown_f121n4 <| tab2Ok_cons lensKnown_f140n4 <| tab2Ok_cons lensKnown_f98n4 <| tab2Ok_cons lensKnown_f72n6 <| tab2Ok_cons lensKnown_f30n1 <| tab2Ok_cons lensKnown_f77n6 <| tab2Ok_cons lensKnown_f78n2 <| tab2Ok_cons lensKnown_f62n1 <| tab2Ok_cons lensKnown_f7n1 <| tab2Ok_nil
/-- lex.place: 31 operations. -/
theorem lensKnown_c56 : (exFT evEnv lensKnownTab56 1000 60).1 65 lensKnownA56 = some lensKnownR56 := by kernel_rfl
def lensKnownA57 : List PV := [.v (.int .i64 2), .v (.int .i64 6)]
def lensKnownR57 : PV := .v (.complex .f64 4611686018427387904 4618441417868443648)
def lensKnownF65n8 : Tab := (65, lensKnownA56, lensKnownR56) :: lensKnownF65n7
theorem lensKnown_f65n8 : TabOk Tryz.prog lensKnownF65n8 := tabOk_cons ((exFT_ok evEnv_ok lensKnown_tab56 1000 60).1 _ _ _ lensKnown_c56) lensKnown_f65n7
def lensKnownTab57 : Tab2 := [(65, lensKnownF65n8), (66, lensKnownF66n15), (67, lensKnownF67n5), (121, lensKnownF121n4), (140, lensKnownF140n4), (98, lensKnownF98n4), (72, lensKnownF72n6), (30, lensKnownF30n1), (77, lensKnownF77n6), (78, lensKnownF78n2), (62, lensKnownF62n1), (7, lensKnownF7n1)]
theorem lensKnown_tab57 : Tab2Ok Tryz.prog lensKnownTab57 := tab2Ok_cons lensKnown_f65n8 <| tab2Ok_cons lensKnown_f66n15 <| tab2Ok_cons lensKnown_f67n5 <| tab2Ok_cons lensKnown_f121n4 <| tab2Ok_cons lensKnown_f140n4 <| tab2Ok_cons lensKnown_f98n4 <| tab2Ok_cons lensKnown_f72n6 <| tab2Ok_cons lensKnown_f30n1 <| tab2Ok_cons lensKnown_f77n6 <| tab2Ok_cons lensKnown_f78n2 <| tab2Ok_cons lensKnown_f62n1 <| tab2Ok_cons lensKnown_f7n1 <| tab2Ok_nil
/-- lex.place: 35 operations. -/
theorem lensKnown_c57 : (exFT evEnv lensKnownTab57 1000 60).1 65 lensKnownA57 = some lensKnownR57 := by kernel_rfl
def lensKnownA58 : List PV := [.v (.int .i64 2), .v (.int .i64 7)]
def lensKnownR58 : PV := .v (.complex .f64 4611686018427387904 4619567317775286272)
def lensKnownF65n9 : Tab := (65, lensKnownA57, lensKnownR57) :: lensKnownF65n8
theorem lensKnown_f65n9 : TabOk Tryz.prog lensKnownF65n9 := tabOk_cons ((exFT_ok evEnv_ok lensKnown_tab57 1000 60).1 _ _ _ lensKnown_c57) lensKnown_f65n8
def lensKnownTab58 : Tab2 := [(65, lensKnownF65n9), (66, lensKnownF66n15), (67, lensKnownF67n5), (121, lensKnownF121n4), (140, lensKnownF140n4), (98, lensKnownF98n4), (72, lensKnownF72n6), (30, lensKnownF30n1), (77, lensKnownF77n6), (78, lensKnownF78n2), (62, lensKnownF62n1), (7, lensKnownF7n1)]
theorem lensKnown_tab58 : Tab2Ok Tryz.prog lensKnownTab58 := tab2Ok_cons lensKnown_f65n9 <| tab2Ok_cons lensKnown_f66n15 <| tab2Ok_cons lensKnown_f67n5 <| tab2Ok_cons lensKnown_f121n4 <| tab2Ok_cons lensKnown_f140n4 <| tab2Ok_cons lensKnown_f98n4 <| tab2Ok_cons lensKnown_f72n6 <| tab2Ok_cons lensKnown_f30n1 <| tab2Ok_cons lensKnown_f77n6 <| tab2Ok_cons lensKnown_f78n2 <| tab2Ok_cons lensKnown_f62n1 <| tab2Ok_cons lensKnown_f7n1 <| tab2Ok_nil
/-- lex.place: 29 operations. -/
theorem lensKnown_c58 : (exFT evEnv lensKnownTab58 1000 60).1 65 lensKnownA58 = some lensKnownR58 := by kernel_rfl
def lensKnownA59 : List PV := [.v (.int .i64 2), .v (.int .i64 8)]
def lensKnownR59 : PV := .v (.complex .f64 4611686018427387904 4620693217682128896)
def lensKnownF65n10 : Tab := (65, lensKnownA58, lensKnownR58) :: lensKnownF65n9
theorem lensKnown_f65n10 : TabOk Tryz.prog lensKnownF65n10 := tabOk_cons ((exFT_ok evEnv_ok lensKnown_tab58 1000 60).1 _ _ _ lensKnown_c58) lensKnown_f65n9
def lensKnownTab59 : Tab2 := [(65, lensKnownF65n10), (66, lensKnownF66n15), (67, lensKnownF67n5), (121, lensKnownF121n4), (140, lensKnownF140n4), (98, lensKnownF98n4), (72, lensKnownF72n6), (30, lensKnownF30n1), (77, lensKnownF77n6), (78, lensKnownF78n2), (62, lensKnownF62n1), (7, lensKnownF7n1)]
theorem lensKnown_tab59 : Tab2Ok Tryz.prog lensKnownTab59 := tab2Ok_cons lensKnown_f65n10 <| tab2Ok_cons lensKnown_f66n15 <| tab2Ok_cons lensKnown_f67n5 <| tab2Ok_cons lensKnown_f121n4 <| tab2Ok_cons lensKnown_f140n4 <| tab2Ok_cons lensKnown_f98n4 <| tab2Ok_cons lensKnown_f72n6 <| tab2Ok_cons lensKnown_f30n1 <| tab2Ok_cons lensKnown_f77n6 <| tab2Ok_cons lensKnown_f78n2 <| tab2Ok_cons lensKnown_f62n1 <| tab2Ok_cons lensKnown_f7n1 <| tab2Ok_nil
/-- lex.place: 35 operations. -/
theorem lensKnown_c59 : (exFT evEnv lensKnownTab59 1000 60).1 65 lensKnownA59 = some lensKnownR59 := by kernel_rfl
def lensKnownA60 : List PV := [.v (.int .i64 2), .v (.int .i64 9)]
def lensKnownR60 : PV := .v (.complex .f64 4611686018427387904 4621256167635550208)
def lensKnownF65n11 : Tab := (65, lensKnownA59, lensKnownR59) :: lensKnownF65n10
theorem lensKnown_f65n11 : TabOk Tryz.prog lensKnownF65n11 := tabOk_cons ((exFT_ok evEnv_ok lensKnown_tab59 1000 60).1 _ _ _ lensKnown_c59) lensKnown_f65n10
def lensKnownTab60 : Tab2 := [(65, lensKnownF65n11), (66, lensKnownF66n15), (67, lensKnownF67n5), (121, lensKnownF121n4), (140, lensKnownF140n4), (98, lensKnownF98n4), (72, lensKnownF72n6), (30, lensKnownF30n1), (77, lensKnownF77n6), (78, lensKnownF78n2), (62, lensKnownF62n1), (7, lensKnownF7n1)]
theorem lensKnown_tab60 : Tab2Ok Tryz.prog lensKnownTab60 := tab2Ok_cons lensKnown_f65n11 <| tab2Ok_cons lensKnown_f66n15 <| tab2Ok_cons lensKnown_f67n5 <| tab2Ok_cons lensKnown_f121n4 <| tab2Ok_cons lensKnown_f140n4 <| tab2Ok_cons lensKnown_f98n4 <| tab2Ok_cons lensKnown_f72n6 <| tab2Ok_cons lensKnown_f30n1 <| tab2Ok_cons lensKnown_f77n6 <| tab2Ok_cons lensKnown_f78n2 <| tab2Ok_cons lensKnown_f62n1 <| tab2Ok_cons lensKnown_f7n1 <| tab2Ok_nil
/-- lex.place: 29 operations. -/
theorem lensKnown_c60 : (exFT evEnv lensKnownTab60 1000 60).1 65 lensKnownA60 = some lensKnownR60 := by kernel_rfl
def lensKnownA61 : List PV := [.v (.int .i64 2), .v (.int .i64 10)]
def lensKnownR61 : PV := .v (.complex .f64 4611686018427387904 4621819117588971520)
def lensKnownF65n12 : Tab := (65, lensKnownA60, lensKnownR60) :: lensKnownF65n11
theorem lensKnown_f65n12 : TabOk Tryz.prog lensKnownF65n12 := tabOk_cons ((exFT_ok evEnv_ok lensKnown_tab60 1000 60).1 _ _ _ lensKnown_c60) lensKnown_f65n11
def lensKnownTab61 : Tab2 := [(65, lensKnownF65n12), (66, lensKnownF66n15), (67, lensKnownF67n5), (121, lensKnownF121n4), (140, lensKnownF140n4), (98, lensKnownF98n4), (72, lensKnownF72n6), (30, lensKnownF30n1), (77, lensKnownF77n6), (78, lensKnownF78n2), (62, lensKnownF62n1), (7, lensKnownF7n1)]
theorem lensKnown_tab61 : Tab2Ok Tryz.prog lensKnownTab61 := tab2Ok_cons lensKnown_f65n12 <| tab2Ok_cons lensKnown_f66n15 <| tab2Ok_cons lensKnown_f67n5 <| tab2Ok_cons lensKnown_f121n4 <| tab2Ok_cons lensKnown_f140n4 <| tab2Ok_cons lensKnown_f98n4 <| tab2Ok_cons lensKnown_f72n6 <| tab2Ok_cons lensKnown_f30n1 <| tab2Ok_cons lensKnown_f77n6 <| tab2Ok_cons lensKnown_f78n2 <| tab2Ok_cons lensKnown_f62n1 <| tab2Ok_cons lensKnown_f7n1 <| tab2Ok_nil
/-- lex.place: 35 operations. -/
theorem lensKnown_c61 : (exFT evEnv lensKnownTab61 1000 60).1 65 lensKnownA61 = some lensKnownR61 := by kernel_rfl
def lensKnownA62 : List PV := [.v (.int .i64 2), .v (.int .i64 12)]
def lensKnownR62 : PV := .v (.complex .f64 4611686018427387904 4622945017495814144)
def lensKnownF65n13 : Tab := (65, lensKnownA61, lensKnownR61) :: lensKnownF65n12
theorem lensKnown_f65n13 : TabOk Tryz.prog lensKnownF65n13 := tabOk_cons ((exFT_ok evEnv_ok lensKnown_tab61 1000 60).1 _ _ _ lensKnown_c61) lensKnown_f65n12
def lensKnownTab62 : Tab2 := [(65, lensKnownF65n13), (66, lensKnownF66n15), (67, lensKnownF67n5), (121, lensKnownF121n4), (140, lensKnownF140n4), (98, lensKnownF98n4), (72, lensKnownF72n6), (30, lensKnownF30n1), (77, lensKnownF77n6), (78, lensKnownF78n2), (62, lensKnownF62n1), (7, lensKnownF7n1)]
theorem lensKnown_tab62 : Tab2Ok Tryz.prog lensKnownTab62 := tab2Ok_cons lensKnown_f65n13 <| tab2Ok_cons lensKnown_f66n15 <| tab2Ok_cons lensKnown_f67n5 <| tab2Ok_cons lensKnown_f121n4 <| tab2Ok_cons lensKnown_f140n4 <| tab2Ok_cons lensKnown_f98n4 <| tab2Ok_cons lensKnown_f72n6 <| tab2Ok_cons lensKnown_f30n1 <| tab2Ok_cons lensKnown_f77n6 <| tab2Ok_cons lensKnown_f78n2 <| tab2Ok_cons lensKnown_f62n1 <| tab2Ok_cons lensKnown_f7n1 <| tab2Ok_nil
/-- lex.place: 35 operations. -/
theorem lensKnown_c62 : (exFT evEnv lensKnownTab62 1000 60).1 65 lensKnownA62 = some lensKnownR62 := by kernel_rfl
def lensKnownA63 : List PV := [.agg [.v (.int .i64 0), .v (.int .i64 0)], .agg [.v (.int .i64 5), .v (.int .i64 0)]]
def lensKnownR63 : PV := .v (.bool true)
def lensKnownF65n14 : Tab := (65, lensKnownA62, lensKnownR62) :: lensKnownF65n13
theorem lensKnown_f65n14 : TabOk Tryz.prog lensKnownF65n14 := tabOk_cons ((exFT_ok evEnv_ok lensKnown_tab62 1000 60).1 _ _ _ lensKnown_c62) lensKnown_f65n13
def lensKnownTab63 : Tab2 := [(65, lensKnownF65n14), (66, lensKnownF66n15), (67, lensKnownF67n5), (121, lensKnownF121n4), (140, lensKnownF140n4), (98, lensKnownF98n4), (72, lensKnownF72n6), (30, lensKnownF30n1), (77, lensKnownF77n6), (78, lensKnownF78n2), (62, lensKnownF62n1), (7, lensKnownF7n1)]
theorem lensKnown_tab63 : Tab2Ok Tryz.prog lensKnownTab63 := tab2Ok_cons lensKnown_f65n14 <| tab2Ok_cons lensKnown_f66n15 <| tab2Ok_cons lensKnown_f67n5 <| tab2Ok_cons lensKnown_f121n4 <| tab2Ok_cons lensKnown_f140n4 <| tab2Ok_cons lensKnown_f98n4 <| tab2Ok_cons lensKnown_f72n6 <| tab2Ok_cons lensKnown_f30n1 <| tab2Ok_cons lensKnown_f77n6 <| tab2Ok_cons lensKnown_f78n2 <| tab2Ok_cons lensKnown_f62n1 <| tab2Ok_cons lensKnown_f7n1 <| tab2Ok_nil
/-- lens.wide: 27 operations. -/
theorem lensKnown_c63 : (exFT evEnv lensKnownTab63 1000 60).1 91 lensKnownA63 = some lensKnownR63 := by kernel_rfl
def lensKnownA64 : List PV := [.agg [.v (.int .i64 5), .v (.int .i64 0)]]
def lensKnownR64 : PV := .str [53]
def lensKnownF91n1 : Tab := (91, lensKnownA63, lensKnownR63) :: []
theorem lensKnown_f91n1 : TabOk Tryz.prog lensKnownF91n1 := tabOk_cons ((exFT_ok evEnv_ok lensKnown_tab63 1000 60).1 _ _ _ lensKnown_c63) tabOk_nil
def lensKnownTab64 : Tab2 := [(65, lensKnownF65n14), (66, lensKnownF66n15), (67, lensKnownF67n5), (121, lensKnownF121n4), (140, lensKnownF140n4), (98, lensKnownF98n4), (72, lensKnownF72n6), (30, lensKnownF30n1), (77, lensKnownF77n6), (78, lensKnownF78n2), (62, lensKnownF62n1), (7, lensKnownF7n1), (91, lensKnownF91n1)]
theorem lensKnown_tab64 : Tab2Ok Tryz.prog lensKnownTab64 := tab2Ok_cons lensKnown_f65n14 <| tab2Ok_cons lensKnown_f66n15 <| tab2Ok_cons lensKnown_f67n5 <| tab2Ok_cons lensKnown_f121n4 <| tab2Ok_cons lensKnown_f140n4 <| tab2Ok_cons lensKnown_f98n4 <| tab2Ok_cons lensKnown_f72n6 <| tab2Ok_cons lensKnown_f30n1 <| tab2Ok_cons lensKnown_f77n6 <| tab2Ok_cons lensKnown_f78n2 <| tab2Ok_cons lensKnown_f62n1 <| tab2Ok_cons lensKnown_f7n1 <| tab2Ok_cons lensKnown_f91n1 <| tab2Ok_nil
/-- dec.Print: 45 operations. -/
theorem lensKnown_c64 : (exFT evEnv lensKnownTab64 1000 60).1 61 lensKnownA64 = some lensKnownR64 := by kernel_rfl
def lensKnownA65 : List PV := [.agg [.v (.int .i64 1), .v (.int .i64 0)]]
def lensKnownR65 : PV := .str [49]
def lensKnownF61n1 : Tab := (61, lensKnownA64, lensKnownR64) :: []
theorem lensKnown_f61n1 : TabOk Tryz.prog lensKnownF61n1 := tabOk_cons ((exFT_ok evEnv_ok lensKnown_tab64 1000 60).1 _ _ _ lensKnown_c64) tabOk_nil
def lensKnownTab65 : Tab2 := [(65, lensKnownF65n14), (66, lensKnownF66n15), (67, lensKnownF67n5), (121, lensKnownF121n4), (140, lensKnownF140n4), (98, lensKnownF98n4), (72, lensKnownF72n6), (30, lensKnownF30n1), (77, lensKnownF77n6), (78, lensKnownF78n2), (62, lensKnownF62n1), (7, lensKnownF7n1), (91, lensKnownF91n1), (61, lensKnownF61n1)]
theorem lensKnown_tab65 : Tab2Ok Tryz.prog lensKnownTab65 := tab2Ok_cons lensKnown_f65n14 <| tab2Ok_cons lensKnown_f66n15 <| tab2Ok_cons lensKnown_f67n5 <| tab2Ok_cons lensKnown_f121n4 <| tab2Ok_cons lensKnown_f140n4 <| tab2Ok_cons lensKnown_f98n4 <| tab2Ok_cons lensKnown_f72n6 <| tab2Ok_cons lensKnown_f30n1 <| tab2Ok_cons lensKnown_f77n6 <| tab2Ok_cons lensKnown_f78n2 <| tab2Ok_cons lensKnown_f62n1 <| tab2Ok_cons lensKnown_f7n1 <| tab2Ok_cons lensKnown_f91n1 <| tab2Ok_cons lensKnown_f61n1 <| tab2Ok_nil
/-- dec.Print: 45 operations. -/
theorem lensKnown_c65 : (exFT evEnv lensKnownTab65 1000 60).1 61 lensKnownA65 = some lensKnownR65 := by kernel_rfl
def lensKnownA66 : List PV := [.agg [.v (.int .i64 0), .v (.int .i64 0)]]
def lensKnownR66 : PV := .str [48]
def lensKnownF61n2 : Tab := (61, lensKnownA65, lensKnownR65) :: lensKnownF61n1
theorem lensKnown_f61n2 : TabOk Tryz.prog lensKnownF61n2 := tabOk_cons ((exFT_ok evEnv_ok lensKnown_tab65 1000 60).1 _ _ _ lensKnown_c65) lensKnown_f61n1
def lensKnownTab66 : Tab2 := [(65, lensKnownF65n14), (66, lensKnownF66n15), (67, lensKnownF67n5), (121, lensKnownF121n4), (140, lensKnownF140n4), (98, lensKnownF98n4), (72, lensKnownF72n6), (30, lensKnownF30n1), (77, lensKnownF77n6), (78, lensKnownF78n2), (62, lensKnownF62n1), (7, lensKnownF7n1), (91, lensKnownF91n1), (61, lensKnownF61n2)]
theorem lensKnown_tab66 : Tab2Ok Tryz.prog lensKnownTab66 := tab2Ok_cons lensKnown_f65n14 <| tab2Ok_cons lensKnown_f66n15 <| tab2Ok_cons lensKnown_f67n5 <| tab2Ok_cons lensKnown_f121n4 <| tab2Ok_cons lensKnown_f140n4 <| tab2Ok_cons lensKnown_f98n4 <| tab2Ok_cons lensKnown_f72n6 <| tab2Ok_cons lensKnown_f30n1 <| tab2Ok_cons lensKnown_f77n6 <| tab2Ok_cons lensKnown_f78n2 <| tab2Ok_cons lensKnown_f62n1 <| tab2Ok_cons lensKnown_f7n1 <| tab2Ok_cons lensKnown_f91n1 <| tab2Ok_cons lensKnown_f61n2 <| tab2Ok_nil
/-- dec.Print: 45 operations. -/
theorem lensKnown_c66 : (exFT evEnv lensKnownTab66 1000 60).1 61 lensKnownA66 = some lensKnownR66 := by kernel_rfl
def lensKnownA67 : List PV := [.str [97, 105, 114]]
def lensKnownR67 : PV := .v (.bool true)
def lensKnownF61n3 : Tab := (61, lensKnownA66, lensKnownR66) :: lensKnownF61n2
theorem lensKnown_f61n3 : TabOk Tryz.prog lensKnownF61n3 := tabOk_cons ((exFT_ok evEnv_ok lensKnown_tab66 1000 60).1 _ _ _ lensKnown_c66) lensKnown_f61n2
def lensKnownTab67 : Tab2 := [(65, lensKnownF65n14), (66, lensKnownF66n15), (67, lensKnownF67n5), (121, lensKnownF121n4), (140, lensKnownF140n4), (98, lensKnownF98n4), (72, lensKnownF72n6), (30, lensKnownF30n1), (77, lensKnownF77n6), (78, lensKnownF78n2), (62, lensKnownF62n1), (7, lensKnownF7n1), (91, lensKnownF91n1), (61, lensKnownF61n3)]
theorem lensKnown_tab67 : Tab2Ok Tryz.prog lensKnownTab67 := tab2Ok_cons lensKnown_f65n14 <| tab2Ok_cons lensKnown_f66n15 <| tab2Ok_cons lensKnown_f67n5 <| tab2Ok_cons lensKnown_f121n4 <| tab2Ok_cons lensKnown_f140n4 <| tab2Ok_cons lensKnown_f98n4 <| tab2Ok_cons lensKnown_f72n6 <| tab2Ok_cons lensKnown_f30n1 <| tab2Ok_cons lensKnown_f77n6 <| tab2Ok_cons lensKnown_f78n2 <| tab2Ok_cons lensKnown_f62n1 <| tab2Ok_cons lensKnown_f7n1 <| tab2Ok_cons lensKnown_f91n1 <| tab2Ok_cons lensKnown_f61n3 <| tab2Ok_nil
/-- lens.named: 89 operations. -/
theorem lensKnown_c67 : (exFT evEnv lensKnownTab67 1000 60).1 58 lensKnownA67 = some lensKnownR67 := by kernel_rfl
def lensKnownA68 : List PV := [.str [97]]
def lensKnownR68 : PV := .v (.bool true)
def lensKnownF58n1 : Tab := (58, lensKnownA67, lensKnownR67) :: []
theorem lensKnown_f58n1 : TabOk Tryz.prog lensKnownF58n1 := tabOk_cons ((exFT_ok evEnv_ok lensKnown_tab67 1000 60).1 _ _ _ lensKnown_c67) tabOk_nil
def lensKnownTab68 : Tab2 := [(65, lensKnownF65n14), (66, lensKnownF66n15), (67, lensKnownF67n5), (121, lensKnownF121n4), (140, lensKnownF140n4), (98, lensKnownF98n4), (72, lensKnownF72n6), (30, lensKnownF30n1), (77, lensKnownF77n6), (78, lensKnownF78n2), (62, lensKnownF62n1), (7, lensKnownF7n1), (91, lensKnownF91n1), (61, lensKnownF61n3), (58, lensKnownF58n1)]
theorem lensKnown_tab68 : Tab2Ok Tryz.prog lensKnownTab68 := tab2Ok_cons lensKnown_f65n14 <| tab2Ok_cons lensKnown_f66n15 <| tab2Ok_cons lensKnown_f67n5 <| tab2Ok_cons lensKnown_f121n4 <| tab2Ok_cons lensKnown_f140n4 <| tab2Ok_cons lensKnown_f98n4 <| tab2Ok_cons lensKnown_f72n6 <| tab2Ok_cons lensKnown_f30n1 <| tab2Ok_cons lensKnown_f77n6 <| tab2Ok_cons lensKnown_f78n2 <| tab2Ok_cons lensKnown_f62n1 <| tab2Ok_cons lensKnown_f7n1 <| tab2Ok_cons lensKnown_f91n1 <| tab2Ok_cons lensKnown_f61n3 <| tab2Ok_cons lensKnown_f58n1 <| tab2Ok_nil
/-- lens.named: 94 operations. -/
theorem lensKnown_c68 : (exFT evEnv lensKnownTab68 1000 60).1 58 lensKnownA68 = some lensKnownR68 := by kernel_rfl
def lensKnownA69 : List PV := []
def lensKnownR69 : PV := .v (.bool true)
def lensKnownF58n2 : Tab := (58, lensKnownA68, lensKnownR68) :: lensKnownF58n1
theorem lensKnown_f58n2 : TabOk Tryz.prog lensKnownF58n2 := tabOk_cons ((exFT_ok evEnv_ok lensKnown_tab68 1000 60).1 _ _ _ lensKnown_c68) lensKnown_f58n1
def lensKnownTab69 : Tab2 := [(65, lensKnownF65n14), (66, lensKnownF66n15), (67, lensKnownF67n5), (121, lensKnownF121n4), (140, lensKnownF140n4), (98, lensKnownF98n4), (72, lensKnownF72n6), (30, lensKnownF30n1), (77, lensKnownF77n6), (78, lensKnownF78n2), (62, lensKnownF62n1), (7, lensKnownF7n1), (91, lensKnownF91n1), (61, lensKnownF61n3), (58, lensKnownF58n2)]
theorem lensKnown_tab69 : Tab2Ok Tryz.prog lensKnownTab69 := tab2Ok_cons lensKnown_f65n14 <| tab2Ok_cons lensKnown_f66n15 <| tab2Ok_cons lensKnown_f67n5 <| tab2Ok_cons lensKnown_f121n4 <| tab2Ok_cons lensKnown_f140n4 <| tab2Ok_cons lensKnown_f98n4 <| tab2Ok_cons lensKnown_f72n6 <| tab2Ok_cons lensKnown_f30n1 <| tab2Ok_cons lensKnown_f77n6 <| tab2Ok_cons lensKnown_f78n2 <| tab2Ok_cons lensKnown_f62n1 <| tab2Ok_cons lensKnown_f7n1 <| tab2Ok_cons lensKnown_f91n1 <| tab2Ok_cons lensKnown_f61n3 <| tab2Ok_cons lensKnown_f58n2 <| tab2Ok_nil
/-- meniscuslaw12.known: 1014 operations. -/
theorem lensKnown_c69 : (exFT evEnv lensKnownTab69 1000 60).1 23 lensKnownA69 = some lensKnownR69 := by kernel_rfl
def lensKnownA70 : List PV := [.str [], .str [45]]
def lensKnownR70 : PV := .v (.bool false)
def lensKnownF23n1 : Tab := (23, lensKnownA69, lensKnownR69) :: []
theorem lensKnown_f23n1 : TabOk Tryz.prog lensKnownF23n1 := tabOk_cons ((exFT_ok evEnv_ok lensKnown_tab69 1000 60).1 _ _ _ lensKnown_c69) tabOk_nil
def lensKnownTab70 : Tab2 := [(65, lensKnownF65n14), (66, lensKnownF66n15), (67, lensKnownF67n5), (121, lensKnownF121n4), (140, lensKnownF140n4), (98, lensKnownF98n4), (72, lensKnownF72n6), (30, lensKnownF30n1), (77, lensKnownF77n6), (78, lensKnownF78n2), (62, lensKnownF62n1), (7, lensKnownF7n1), (91, lensKnownF91n1), (61, lensKnownF61n3), (58, lensKnownF58n2), (23, lensKnownF23n1)]
theorem lensKnown_tab70 : Tab2Ok Tryz.prog lensKnownTab70 := tab2Ok_cons lensKnown_f65n14 <| tab2Ok_cons lensKnown_f66n15 <| tab2Ok_cons lensKnown_f67n5 <| tab2Ok_cons lensKnown_f121n4 <| tab2Ok_cons lensKnown_f140n4 <| tab2Ok_cons lensKnown_f98n4 <| tab2Ok_cons lensKnown_f72n6 <| tab2Ok_cons lensKnown_f30n1 <| tab2Ok_cons lensKnown_f77n6 <| tab2Ok_cons lensKnown_f78n2 <| tab2Ok_cons lensKnown_f62n1 <| tab2Ok_cons lensKnown_f7n1 <| tab2Ok_cons lensKnown_f91n1 <| tab2Ok_cons lensKnown_f61n3 <| tab2Ok_cons lensKnown_f58n2 <| tab2Ok_cons lensKnown_f23n1 <| tab2Ok_nil
/-- stringslite.HasPrefix: 48 operations. -/
theorem lensKnown_c70 : (exFT evEnv lensKnownTab70 1000 60).1 121 lensKnownA70 = some lensKnownR70 := by kernel_rfl
def lensKnownA71 : List PV := [.str [], .v (.int .u8 46)]
def lensKnownR71 : PV := .v (.int .i64 (-1))
def lensKnownF121n5 : Tab := (121, lensKnownA70, lensKnownR70) :: lensKnownF121n4
theorem lensKnown_f121n5 : TabOk Tryz.prog lensKnownF121n5 := tabOk_cons ((exFT_ok evEnv_ok lensKnown_tab70 1000 60).1 _ _ _ lensKnown_c70) lensKnown_f121n4
def lensKnownTab71 : Tab2 := [(65, lensKnownF65n14), (66, lensKnownF66n15), (67, lensKnownF67n5), (121, lensKnownF121n5), (140, lensKnownF140n4), (98, lensKnownF98n4), (72, lensKnownF72n6), (30, lensKnownF30n1), (77, lensKnownF77n6), (78, lensKnownF78n2), (62, lensKnownF62n1), (7, lensKnownF7n1), (91, lensKnownF91n1), (61, lensKnownF61n3), (58, lensKnownF58n2), (23, lensKnownF23n1)]
theorem lensKnown_tab71 : Tab2Ok Tryz.prog lensKnownTab71 := tab2Ok_cons lensKnown_f65n14 <| tab2Ok_cons lensKnown_f66n15 <| tab2Ok_cons lensKnown_f67n5 <| tab2Ok_cons lensKnown_f121n5 <| tab2Ok_cons lensKnown_f140n4 <| tab2Ok_cons lensKnown_f98n4 <| tab2Ok_cons lensKnown_f72n6 <| tab2Ok_cons lensKnown_f30n1 <| tab2Ok_cons lensKnown_f77n6 <| tab2Ok_cons lensKnown_f78n2 <| tab2Ok_cons lensKnown_f62n1 <| tab2Ok_cons lensKnown_f7n1 <| tab2Ok_cons lensKnown_f91n1 <| tab2Ok_cons lensKnown_f61n3 <| tab2Ok_cons lensKnown_f58n2 <| tab2Ok_cons lensKnown_f23n1 <| tab2Ok_nil
/-- stringslite.IndexByte: 53 operations. -/
theorem lensKnown_c71 : (exFT evEnv lensKnownTab71 1000 60).1 140 lensKnownA71 = some lensKnownR71 := by kernel_rfl
def lensKnownA72 : List PV := [.str []]
def lensKnownR72 : PV := .tup [.agg [.v (.int .i64 0), .v (.int .i64 0)], .v (.bool false)]
def lensKnownF140n5 : Tab := (140, lensKnownA71, lensKnownR71) :: lensKnownF140n4
theorem lensKnown_f140n5 : TabOk Tryz.prog lensKnownF140n5 := tabOk_cons ((exFT_ok evEnv_ok lensKnown_tab71 1000 60).1 _ _ _ lensKnown_c71) lensKnown_f140n4
def lensKnownTab72 : Tab2 := [(65, lensKnownF65n14), (66, lensKnownF66n15), (67, lensKnownF67n5), (121, lensKnownF121n5), (140, lensKnownF140n5), (98, lensKnownF98n4), (72, lensKnownF72n6), (30, lensKnownF30n1), (77, lensKnownF77n6), (78, lensKnownF78n2), (62, lensKnownF62n1), (7, lensKnownF7n1), (91, lensKnownF91n1), (61, lensKnownF61n3), (58, lensKnownF58n2), (23, lensKnownF23n1)]
theorem lensKnown_tab72 : Tab2Ok Tryz.prog lensKnownTab72 := tab2Ok_cons lensKnown_f65n14 <| tab2Ok_cons lensKnown_f66n15 <| tab2Ok_cons lensKnown_f67n5 <| tab2Ok_cons lensKnown_f121n5 <| tab2Ok_cons lensKnown_f140n5 <| tab2Ok_cons lensKnown_f98n4 <| tab2Ok_cons lensKnown_f72n6 <| tab2Ok_cons lensKnown_f30n1 <| tab2Ok_cons lensKnown_f77n6 <| tab2Ok_cons lensKnown_f78n2 <| tab2Ok_cons lensKnown_f62n1 <| tab2Ok_cons lensKnown_f7n1 <| tab2Ok_cons lensKnown_f91n1 <| tab2Ok_cons lensKnown_f61n3 <| tab2Ok_cons lensKnown_f58n2 <| tab2Ok_cons lensKnown_f23n1 <| tab2Ok_nil
/-- dec.Read: 38 operations. -/
theorem lensKnown_c72 : (exFT evEnv lensKnownTab72 1000 60).1 72 lensKnownA72 = some lensKnownR72 := by kernel_rfl
def lensKnownA73 : List PV := [.agg [.v (.int .i64 4), .v (.int .i64 0)]]
def lensKnownR73 : PV := .v (.bool true)
def lensKnownF72n7 : Tab := (72, lensKnownA72, lensKnownR72) :: lensKnownF72n6
theorem lensKnown_f72n7 : TabOk Tryz.prog lensKnownF72n7 := tabOk_cons ((exFT_ok evEnv_ok lensKnown_tab72 1000 60).1 _ _ _ lensKnown_c72) lensKnown_f72n6
def lensKnownTab73 : Tab2 := [(65, lensKnownF65n14), (66, lensKnownF66n15), (67, lensKnownF67n5), (121, lensKnownF121n5), (140, lensKnownF140n5), (98, lensKnownF98n4), (72, lensKnownF72n7), (30, lensKnownF30n1), (77, lensKnownF77n6), (78, lensKnownF78n2), (62, lensKnownF62n1), (7, lensKnownF7n1), (91, lensKnownF91n1), (61, lensKnownF61n3), (58, lensKnownF58n2), (23, lensKnownF23n1)]
theorem lensKnown_tab73 : Tab2Ok Tryz.prog lensKnownTab73 := tab2Ok_cons lensKnown_f65n14 <| tab2Ok_cons lensKnown_f66n15 <| tab2Ok_cons lensKnown_f67n5 <| tab2Ok_cons lensKnown_f121n5 <| tab2Ok_cons lensKnown_f140n5 <| tab2Ok_cons lensKnown_f98n4 <| tab2Ok_cons lensKnown_f72n7 <| tab2Ok_cons lensKnown_f30n1 <| tab2Ok_cons lensKnown_f77n6 <| tab2Ok_cons lensKnown_f78n2 <| tab2Ok_cons lensKnown_f62n1 <| tab2Ok_cons lensKnown_f7n1 <| tab2Ok_cons lensKnown_f91n1 <| tab2Ok_cons lensKnown_f61n3 <| tab2Ok_cons lensKnown_f58n2 <| tab2Ok_cons lensKnown_f23n1 <| tab2Ok_nil
/-- dec.Right: 86 operations. -/
theorem lensKnown_c73 : (exFT evEnv lensKnownTab73 1000 60).1 77 lensKnownA73 = some lensKnownR73 := by kernel_rfl
def lensKnownA74 : List PV := [.str [108, 101, 110, 115, 32, 97, 32, 52, 48, 10, 102, 97, 99, 101, 32, 48, 32, 53, 32, 45, 49, 32, 97, 105, 114], .lst [[.str [99, 114, 111, 119, 110], .v (.int .i64 103961), .v (.int .i64 5), .v (.int .i64 23179), .v (.int .i64 5), .v (.int .i64 101047), .v (.int .i64 5), .v (.int .i64 6), .v (.int .i64 3), .v (.int .i64 2002), .v (.int .i64 5), .v (.int .i64 1035607), .v (.int .i64 4)], [.str [102, 108, 105, 110, 116], .v (.int .i64 17376), .v (.int .i64 4), .v (.int .i64 31375), .v (.int .i64 5), .v (.int .i64 189878), .v (.int .i64 5), .v (.int .i64 1319), .v (.int .i64 5), .v (.int .i64 6231), .v (.int .i64 5), .v (.int .i64 1552363), .v (.int .i64 4)]]]
def lensKnownR74 : PV := .tup [.agg [.str [], .v (.int .i64 0), .v (.int .i64 0), .nil], .v (.complex .f64 4611686018427387904 4621819117588971520), .v (.int .i64 1)]
def lensKnownF77n7 : Tab := (77, lensKnownA73, lensKnownR73) :: lensKnownF77n6
theorem lensKnown_f77n7 : TabOk Tryz.prog lensKnownF77n7 := tabOk_cons ((exFT_ok evEnv_ok lensKnown_tab73 1000 60).1 _ _ _ lensKnown_c73) lensKnown_f77n6
def lensKnownTab74 : Tab2 := [(65, lensKnownF65n14), (66, lensKnownF66n15), (67, lensKnownF67n5), (121, lensKnownF121n5), (140, lensKnownF140n5), (98, lensKnownF98n4), (72, lensKnownF72n7), (30, lensKnownF30n1), (77, lensKnownF77n7), (78, lensKnownF78n2), (62, lensKnownF62n1), (7, lensKnownF7n1), (91, lensKnownF91n1), (61, lensKnownF61n3), (58, lensKnownF58n2), (23, lensKnownF23n1)]
theorem lensKnown_tab74 : Tab2Ok Tryz.prog lensKnownTab74 := tab2Ok_cons lensKnown_f65n14 <| tab2Ok_cons lensKnown_f66n15 <| tab2Ok_cons lensKnown_f67n5 <| tab2Ok_cons lensKnown_f121n5 <| tab2Ok_cons lensKnown_f140n5 <| tab2Ok_cons lensKnown_f98n4 <| tab2Ok_cons lensKnown_f72n7 <| tab2Ok_cons lensKnown_f30n1 <| tab2Ok_cons lensKnown_f77n7 <| tab2Ok_cons lensKnown_f78n2 <| tab2Ok_cons lensKnown_f62n1 <| tab2Ok_cons lensKnown_f7n1 <| tab2Ok_cons lensKnown_f91n1 <| tab2Ok_cons lensKnown_f61n3 <| tab2Ok_cons lensKnown_f58n2 <| tab2Ok_cons lensKnown_f23n1 <| tab2Ok_nil
/-- lens.Read: 847 operations. -/
theorem lensKnown_c74 : (exFT evEnv lensKnownTab74 1000 60).1 7 lensKnownA74 = some lensKnownR74 := by kernel_rfl
def lensKnownA75 : List PV := [.str [108, 101, 110, 115, 32, 97, 32, 52, 48, 10, 102, 97, 99, 101, 32, 48, 32, 53, 32, 49, 32, 114, 117, 98, 121], .lst [[.str [99, 114, 111, 119, 110], .v (.int .i64 103961), .v (.int .i64 5), .v (.int .i64 23179), .v (.int .i64 5), .v (.int .i64 101047), .v (.int .i64 5), .v (.int .i64 6), .v (.int .i64 3), .v (.int .i64 2002), .v (.int .i64 5), .v (.int .i64 1035607), .v (.int .i64 4)], [.str [102, 108, 105, 110, 116], .v (.int .i64 17376), .v (.int .i64 4), .v (.int .i64 31375), .v (.int .i64 5), .v (.int .i64 189878), .v (.int .i64 5), .v (.int .i64 1319), .v (.int .i64 5), .v (.int .i64 6231), .v (.int .i64 5), .v (.int .i64 1552363), .v (.int .i64 4)]]]
def lensKnownR75 : PV := .tup [.agg [.str [], .v (.int .i64 0), .v (.int .i64 0), .nil], .v (.complex .f64 4611686018427387904 4622945017495814144), .v (.int .i64 4)]
def lensKnownF7n2 : Tab := (7, lensKnownA74, lensKnownR74) :: lensKnownF7n1
theorem lensKnown_f7n2 : TabOk Tryz.prog lensKnownF7n2 := tabOk_cons ((exFT_ok evEnv_ok lensKnown_tab74 1000 60).1 _ _ _ lensKnown_c74) lensKnown_f7n1
def lensKnownTab75 : Tab2 := [(65, lensKnownF65n14), (66, lensKnownF66n15), (67, lensKnownF67n5), (121, lensKnownF121n5), (140, lensKnownF140n5), (98, lensKnownF98n4), (72, lensKnownF72n7), (30, lensKnownF30n1), (77, lensKnownF77n7), (78, lensKnownF78n2), (62, lensKnownF62n1), (7, lensKnownF7n2), (91, lensKnownF91n1), (61, lensKnownF61n3), (58, lensKnownF58n2), (23, lensKnownF23n1)]
theorem lensKnown_tab75 : Tab2Ok Tryz.prog lensKnownTab75 := tab2Ok_cons lensKnown_f65n14 <| tab2Ok_cons lensKnown_f66n15 <| tab2Ok_cons lensKnown_f67n5 <| tab2Ok_cons lensKnown_f121n5 <| tab2Ok_cons lensKnown_f140n5 <| tab2Ok_cons lensKnown_f98n4 <| tab2Ok_cons lensKnown_f72n7 <| tab2Ok_cons lensKnown_f30n1 <| tab2Ok_cons lensKnown_f77n7 <| tab2Ok_cons lensKnown_f78n2 <| tab2Ok_cons lensKnown_f62n1 <| tab2Ok_cons lensKnown_f7n2 <| tab2Ok_cons lensKnown_f91n1 <| tab2Ok_cons lensKnown_f61n3 <| tab2Ok_cons lensKnown_f58n2 <| tab2Ok_cons lensKnown_f23n1 <| tab2Ok_nil
/-- lens.Read: 889 operations. -/
theorem lensKnown_c75 : (exFT evEnv lensKnownTab75 1000 60).1 7 lensKnownA75 = some lensKnownR75 := by kernel_rfl
def lensKnownA76 : List PV := [.str [108, 101, 110, 115, 32, 97, 32, 52, 48, 10, 102, 97, 99, 101, 32, 48, 32, 53, 32, 49, 32, 97, 105, 114, 32, 97, 52, 32, 49, 32, 99, 111, 110, 105, 99, 32, 49], .lst [[.str [99, 114, 111, 119, 110], .v (.int .i64 103961), .v (.int .i64 5), .v (.int .i64 23179), .v (.int .i64 5), .v (.int .i64 101047), .v (.int .i64 5), .v (.int .i64 6), .v (.int .i64 3), .v (.int .i64 2002), .v (.int .i64 5), .v (.int .i64 1035607), .v (.int .i64 4)], [.str [102, 108, 105, 110, 116], .v (.int .i64 17376), .v (.int .i64 4), .v (.int .i64 31375), .v (.int .i64 5), .v (.int .i64 189878), .v (.int .i64 5), .v (.int .i64 1319), .v (.int .i64 5), .v (.int .i64 6231), .v (.int .i64 5), .v (.int .i64 1552363), .v (.int .i64 4)]]]
def lensKnownR76 : PV := .tup [.agg [.str [], .v (.int .i64 0), .v (.int .i64 0), .nil], .v (.complex .f64 4611686018427387904 4626604192193052672), .v (.int .i64 2)]
def lensKnownF7n3 : Tab := (7, lensKnownA75, lensKnownR75) :: lensKnownF7n2
theorem lensKnown_f7n3 : TabOk Tryz.prog lensKnownF7n3 := tabOk_cons ((exFT_ok evEnv_ok lensKnown_tab75 1000 60).1 _ _ _ lensKnown_c75) lensKnown_f7n2
def lensKnownTab76 : Tab2 := [(65, lensKnownF65n14), (66, lensKnownF66n15), (67, lensKnownF67n5), (121, lensKnownF121n5), (140, lensKnownF140n5), (98, lensKnownF98n4), (72, lensKnownF72n7), (30, lensKnownF30n1), (77, lensKnownF77n7), (78, lensKnownF78n2), (62, lensKnownF62n1), (7, lensKnownF7n3), (91, lensKnownF91n1), (61, lensKnownF61n3), (58, lensKnownF58n2), (23, lensKnownF23n1)]
theorem lensKnown_tab76 : Tab2Ok Tryz.prog lensKnownTab76 := tab2Ok_cons lensKnown_f65n14 <| tab2Ok_cons lensKnown_f66n15 <| tab2Ok_cons lensKnown_f67n5 <| tab2Ok_cons lensKnown_f121n5 <| tab2Ok_cons lensKnown_f140n5 <| tab2Ok_cons lensKnown_f98n4 <| tab2Ok_cons lensKnown_f72n7 <| tab2Ok_cons lensKnown_f30n1 <| tab2Ok_cons lensKnown_f77n7 <| tab2Ok_cons lensKnown_f78n2 <| tab2Ok_cons lensKnown_f62n1 <| tab2Ok_cons lensKnown_f7n3 <| tab2Ok_cons lensKnown_f91n1 <| tab2Ok_cons lensKnown_f61n3 <| tab2Ok_cons lensKnown_f58n2 <| tab2Ok_cons lensKnown_f23n1 <| tab2Ok_nil
/-- lens.Read: 1179 operations. -/
theorem lensKnown_c76 : (exFT evEnv lensKnownTab76 1000 60).1 7 lensKnownA76 = some lensKnownR76 := by kernel_rfl
def lensKnownA77 : List PV := [.str [108, 101, 110, 115, 32, 97, 32, 52, 48, 10, 102, 97, 99, 101, 32, 48, 32, 53, 32, 49, 32, 97, 105, 114, 32, 97, 52, 32, 48], .lst [[.str [99, 114, 111, 119, 110], .v (.int .i64 103961), .v (.int .i64 5), .v (.int .i64 23179), .v (.int .i64 5), .v (.int .i64 101047), .v (.int .i64 5), .v (.int .i64 6), .v (.int .i64 3), .v (.int .i64 2002), .v (.int .i64 5), .v (.int .i64 1035607), .v (.int .i64 4)], [.str [102, 108, 105, 110, 116], .v (.int .i64 17376), .v (.int .i64 4), .v (.int .i64 31375), .v (.int .i64 5), .v (.int .i64 189878), .v (.int .i64 5), .v (.int .i64 1319), .v (.int .i64 5), .v (.int .i64 6231), .v (.int .i64 5), .v (.int .i64 1552363), .v (.int .i64 4)]]]
def lensKnownR77 : PV := .tup [.agg [.str [], .v (.int .i64 0), .v (.int .i64 0), .nil], .v (.complex .f64 4611686018427387904 4626041242239631360), .v (.int .i64 1)]
def lensKnownF7n4 : Tab := (7, lensKnownA76, lensKnownR76) :: lensKnownF7n3
theorem lensKnown_f7n4 : TabOk Tryz.prog lensKnownF7n4 := tabOk_cons ((exFT_ok evEnv_ok lensKnown_tab76 1000 60).1 _ _ _ lensKnown_c76) lensKnown_f7n3
def lensKnownTab77 : Tab2 := [(65, lensKnownF65n14), (66, lensKnownF66n15), (67, lensKnownF67n5), (121, lensKnownF121n5), (140, lensKnownF140n5), (98, lensKnownF98n4), (72, lensKnownF72n7), (30, lensKnownF30n1), (77, lensKnownF77n7), (78, lensKnownF78n2), (62, lensKnownF62n1), (7, lensKnownF7n4), (91, lensKnownF91n1), (61, lensKnownF61n3), (58, lensKnownF58n2), (23, lensKnownF23n1)]
theorem lensKnown_tab77 : Tab2Ok Tryz.prog lensKnownTab77 := tab2Ok_cons lensKnown_f65n14 <| tab2Ok_cons lensKnown_f66n15 <| tab2Ok_cons lensKnown_f67n5 <| tab2Ok_cons lensKnown_f121n5 <| tab2Ok_cons lensKnown_f140n5 <| tab2Ok_cons lensKnown_f98n4 <| tab2Ok_cons lensKnown_f72n7 <| tab2Ok_cons lensKnown_f30n1 <| tab2Ok_cons lensKnown_f77n7 <| tab2Ok_cons lensKnown_f78n2 <| tab2Ok_cons lensKnown_f62n1 <| tab2Ok_cons lensKnown_f7n4 <| tab2Ok_cons lensKnown_f91n1 <| tab2Ok_cons lensKnown_f61n3 <| tab2Ok_cons lensKnown_f58n2 <| tab2Ok_cons lensKnown_f23n1 <| tab2Ok_nil
/-- lens.Read: 1026 operations. -/
theorem lensKnown_c77 : (exFT evEnv lensKnownTab77 1000 60).1 7 lensKnownA77 = some lensKnownR77 := by kernel_rfl
def lensKnownA78 : List PV := [.v (.int .u8 10)]
def lensKnownR78 : PV := .v (.bool false)
def lensKnownF7n5 : Tab := (7, lensKnownA77, lensKnownR77) :: lensKnownF7n4
theorem lensKnown_f7n5 : TabOk Tryz.prog lensKnownF7n5 := tabOk_cons ((exFT_ok evEnv_ok lensKnown_tab77 1000 60).1 _ _ _ lensKnown_c77) lensKnown_f7n4
def lensKnownTab78 : Tab2 := [(65, lensKnownF65n14), (66, lensKnownF66n15), (67, lensKnownF67n5), (121, lensKnownF121n5), (140, lensKnownF140n5), (98, lensKnownF98n4), (72, lensKnownF72n7), (30, lensKnownF30n1), (77, lensKnownF77n7), (78, lensKnownF78n2), (62, lensKnownF62n1), (7, lensKnownF7n5), (91, lensKnownF91n1), (61, lensKnownF61n3), (58, lensKnownF58n2), (23, lensKnownF23n1)]
theorem lensKnown_tab78 : Tab2Ok Tryz.prog lensKnownTab78 := tab2Ok_cons lensKnown_f65n14 <| tab2Ok_cons lensKnown_f66n15 <| tab2Ok_cons lensKnown_f67n5 <| tab2Ok_cons lensKnown_f121n5 <| tab2Ok_cons lensKnown_f140n5 <| tab2Ok_cons lensKnown_f98n4 <| tab2Ok_cons lensKnown_f72n7 <| tab2Ok_cons lensKnown_f30n1 <| tab2Ok_cons lensKnown_f77n7 <| tab2Ok_cons lensKnown_f78n2 <| tab2Ok_cons lensKnown_f62n1 <| tab2Ok_cons lensKnown_f7n5 <| tab2Ok_cons lensKnown_f91n1 <| tab2Ok_cons lensKnown_f61n3 <| tab2Ok_cons lensKnown_f58n2 <| tab2Ok_cons lensKnown_f23n1 <| tab2Ok_nil
/-- lex.letter: 46 operations. -/
theorem lensKnown_c78 : (exFT evEnv lensKnownTab78 1000 60).1 66 lensKnownA78 = some lensKnownR78 := by kernel_rfl
def lensKnownA79 : List PV := [.str [108, 101, 110, 115, 32, 97, 32, 52, 48, 10, 102, 97, 99, 101, 32, 48, 32, 53, 32, 49, 32, 97, 105, 114, 10, 102, 97, 99, 101, 32, 48, 32, 53, 32, 49, 32, 97, 105, 114, 10, 102, 97, 99, 101, 32, 48, 32, 53, 32, 49, 32, 97, 105, 114, 10, 102, 97, 99, 101, 32, 48, 32, 53, 32, 49, 32, 97, 105, 114, 10, 102, 97, 99, 101, 32, 48, 32, 53, 32, 49, 32, 97, 105, 114, 10, 102, 97, 99, 101, 32, 48, 32, 53, 32, 49, 32, 97, 105, 114, 10, 102, 97, 99, 101, 32, 48, 32, 53, 32, 49, 32, 97, 105, 114, 10, 102, 97, 99, 101, 32, 48, 32, 53, 32, 49, 32, 97, 105, 114, 10, 102, 97, 99, 101, 32, 48, 32, 53, 32, 49, 32, 97, 105, 114, 10, 102, 97, 99, 101, 32, 48, 32, 53, 32, 49, 32, 97, 105, 114, 10, 102, 97, 99, 101, 32, 48, 32, 53, 32, 49, 32, 97, 105, 114, 10, 102, 97, 99, 101, 32, 48, 32, 53, 32, 49, 32, 97, 105, 114, 10, 102, 97, 99, 101, 32, 48, 32, 53, 32, 49, 32, 97, 105, 114, 10]]
def lensKnownR79 : PV := .tup [.lst [[.v (.int .i64 1), .str [108, 101, 110, 115], .v (.complex .f64 4607182418800017408 4607182418800017408)], [.v (.int .i64 1), .str [97], .v (.complex .f64 4607182418800017408 4618441417868443648)], [.v (.int .i64 2), .str [52, 48], .v (.complex .f64 4607182418800017408 4620693217682128896)], [.v (.int .i64 3), .str [], .v (.complex .f64 4607182418800017408 4621819117588971520)], [.v (.int .i64 1), .str [102, 97, 99, 101], .v (.complex .f64 4611686018427387904 4607182418800017408)], [.v (.int .i64 2), .str [48], .v (.complex .f64 4611686018427387904 4618441417868443648)], [.v (.int .i64 2), .str [53], .v (.complex .f64 4611686018427387904 4620693217682128896)], [.v (.int .i64 2), .str [49], .v (.complex .f64 4611686018427387904 4621819117588971520)], [.v (.int .i64 1), .str [97, 105, 114], .v (.complex .f64 4611686018427387904 4622945017495814144)], [.v (.int .i64 3), .str [], .v (.complex .f64 4611686018427387904 4624633867356078080)], [.v (.int .i64 1), .str [102, 97, 99, 101], .v (.complex .f64 4613937818241073152 4607182418800017408)], [.v (.int .i64 2), .str [48], .v (.complex .f64 4613937818241073152 4618441417868443648)], [.v (.int .i64 2), .str [53], .v (.complex .f64 4613937818241073152 4620693217682128896)], [.v (.int .i64 2), .str [49], .v (.complex .f64 4613937818241073152 4621819117588971520)], [.v (.int .i64 1), .str [97, 105, 114], .v (.complex .f64 4613937818241073152 4622945017495814144)], [.v (.int .i64 3), .str [], .v (.complex .f64 4613937818241073152 4624633867356078080)], [.v (.int .i64 1), .str [102, 97, 99, 101], .v (.complex .f64 4616189618054758400 4607182418800017408)], [.v (.int .i64 2), .str [48], .v (.complex .f64 4616189618054758400 4618441417868443648)], [.v (.int .i64 2), .str [53], .v (.complex .f64 4616189618054758400 4620693217682128896)], [.v (.int .i64 2), .str [49], .v (.complex .f64 4616189618054758400 4621819117588971520)], [.v (.int .i64 1), .str [97, 105, 114], .v (.complex .f64 4616189618054758400 4622945017495814144)], [.v (.int .i64 3), .str [], .v (.complex .f64 4616189618054758400 4624633867356078080)], [.v (.int .i64 1), .str [102, 97, 99, 101], .v (.complex .f64 4617315517961601024 4607182418800017408)], [.v (.int .i64 2), .str [48], .v (.complex .f64 4617315517961601024 4618441417868443648)], [.v (.int .i64 2), .str [53], .v (.complex .f64 4617315517961601024 4620693217682128896)], [.v (.int .i64 2), .str [49], .v (.complex .f64 4617315517961601024 4621819117588971520)], [.v (.int .i64 1), .str [97, 105, 114], .v (.complex .f64 4617315517961601024 4622945017495814144)], [.v (.int .i64 3), .str [], .v (.complex .f64 4617315517961601024 4624633867356078080)], [.v (.int .i64 1), .str [102, 97, 99, 101], .v (.complex .f64 4618441417868443648 4607182418800017408)], [.v (.int .i64 2), .str [48], .v (.complex .f64 4618441417868443648 4618441417868443648)], [.v (.int .i64 2), .str [53], .v (.complex .f64 4618441417868443648 4620693217682128896)], [.v (.int .i64 2), .str [49], .v (.complex .f64 4618441417868443648 4621819117588971520)], [.v (.int .i64 1), .str [97, 105, 114], .v (.complex .f64 4618441417868443648 4622945017495814144)], [.v (.int .i64 3), .str [], .v (.complex .f64 4618441417868443648 4624633867356078080)], [.v (.int .i64 1), .str [102, 97, 99, 101], .v (.complex .f64 4619567317775286272 4607182418800017408)], [.v (.int .i64 2), .str [48], .v (.complex .f64 4619567317775286272 4618441417868443648)], [.v (.int .i64 2), .str [53], .v (.complex .f64 4619567317775286272 4620693217682128896)], [.v (.int .i64 2), .str [49], .v (.complex .f64 4619567317775286272 4621819117588971520)], [.v (.int .i64 1), .str [97, 105, 114], .v (.complex .f64 4619567317775286272 4622945017495814144)], [.v (.int .i64 3), .str [], .v (.complex .f64 4619567317775286272 4624633867356078080)], [.v (.int .i64 1), .str [102, 97, 99, 101], .v (.complex .f64 4620693217682128896 4607182418800017408)], [.v (.int .i64 2), .str [48], .v (.complex .f64 4620693217682128896 4618441417868443648)], [.v (.int .i64 2), .str [53], .v (.complex .f64 4620693217682128896 4620693217682128896)], [.v (.int .i64 2), .str [49], .v (.complex .f64 4620693217682128896 4621819117588971520)], [.v (.int .i64 1), .str [97, 105, 114], .v (.complex .f64 4620693217682128896 4622945017495814144)], [.v (.int .i64 3), .str [], .v (.complex .f64 4620693217682128896 4624633867356078080)], [.v (.int .i64 1), .str [102, 97, 99, 101], .v (.complex .f64 4621256167635550208 4607182418800017408)], [.v (.int .i64 2), .str [48], .v (.complex .f64 4621256167635550208 4618441417868443648)], [.v (.int .i64 2), .str [53], .v (.complex .f64 4621256167635550208 4620693217682128896)], [.v (.int .i64 2), .str [49], .v (.complex .f64 4621256167635550208 4621819117588971520)], [.v (.int .i64 1), .str [97, 105, 114], .v (.complex .f64 4621256167635550208 4622945017495814144)], [.v (.int .i64 3), .str [], .v (.complex .f64 4621256167635550208 4624633867356078080)], [.v (.int .i64 1), .str [102, 97, 99, 101], .v (.complex .f64 4621819117588971520 4607182418800017408)], [.v (.int .i64 2), .str [48], .v (.complex .f64 4621819117588971520 4618441417868443648)], [.v (.int .i64 2), .str [53], .v (.complex .f64 4621819117588971520 4620693217682128896)], [.v (.int .i64 2), .str [49], .v (.complex .f64 4621819117588971520 4621819117588971520)], [.v (.int .i64 1), .str [97, 105, 114], .v (.complex .f64 4621819117588971520 4622945017495814144)], [.v (.int .i64 3), .str [], .v (.complex .f64 4621819117588971520 4624633867356078080)], [.v (.int .i64 1), .str [102, 97, 99, 101], .v (.complex .f64 4622382067542392832 4607182418800017408)], [.v (.int .i64 2), .str [48], .v (.complex .f64 4622382067542392832 4618441417868443648)], [.v (.int .i64 2), .str [53], .v (.complex .f64 4622382067542392832 4620693217682128896)], [.v (.int .i64 2), .str [49], .v (.complex .f64 4622382067542392832 4621819117588971520)], [.v (.int .i64 1), .str [97, 105, 114], .v (.complex .f64 4622382067542392832 4622945017495814144)], [.v (.int .i64 3), .str [], .v (.complex .f64 4622382067542392832 4624633867356078080)], [.v (.int .i64 1), .str [102, 97, 99, 101], .v (.complex .f64 4622945017495814144 4607182418800017408)], [.v (.int .i64 2), .str [48], .v (.complex .f64 4622945017495814144 4618441417868443648)], [.v (.int .i64 2), .str [53], .v (.complex .f64 4622945017495814144 4620693217682128896)], [.v (.int .i64 2), .str [49], .v (.complex .f64 4622945017495814144 4621819117588971520)], [.v (.int .i64 1), .str [97, 105, 114], .v (.complex .f64 4622945017495814144 4622945017495814144)], [.v (.int .i64 3), .str [], .v (.complex .f64 4622945017495814144 4624633867356078080)], [.v (.int .i64 1), .str [102, 97, 99, 101], .v (.complex .f64 4623507967449235456 4607182418800017408)], [.v (.int .i64 2), .str [48], .v (.complex .f64 4623507967449235456 4618441417868443648)], [.v (.int .i64 2), .str [53], .v (.complex .f64 4623507967449235456 4620693217682128896)], [.v (.int .i64 2), .str [49], .v (.complex .f64 4623507967449235456 4621819117588971520)], [.v (.int .i64 1), .str [97, 105, 114], .v (.complex .f64 4623507967449235456 4622945017495814144)], [.v (.int .i64 3), .str [], .v (.complex .f64 4623507967449235456 4624633867356078080)], [.v (.int .i64 1), .str [102, 97, 99, 101], .v (.complex .f64 4624070917402656768 4607182418800017408)], [.v (.int .i64 2), .str [48], .v (.complex .f64 4624070917402656768 4618441417868443648)], [.v (.int .i64 2), .str [53], .v (.complex .f64 4624070917402656768 4620693217682128896)], [.v (.int .i64 2), .str [49], .v (.complex .f64 4624070917402656768 4621819117588971520)], [.v (.int .i64 1), .str [97, 105, 114], .v (.complex .f64 4624070917402656768 4622945017495814144)], [.v (.int .i64 3), .str [], .v (.complex .f64 4624070917402656768 4624633867356078080)]], .v (.complex .f64 0 0), .v (.int .i64 0)]
def lensKnownF66n16 : Tab := (66, lensKnownA78, lensKnownR78) :: lensKnownF66n15
theorem lensKnown_f66n16 : TabOk Tryz.prog lensKnownF66n16 := tabOk_cons ((exFT_ok evEnv_ok lensKnown_tab78 1000 60).1 _ _ _ lensKnown_c78) lensKnown_f66n15
def lensKnownTab79 : Tab2 := [(65, lensKnownF65n14), (66, lensKnownF66n16), (67, lensKnownF67n5), (121, lensKnownF121n5), (140, lensKnownF140n5), (98, lensKnownF98n4), (72, lensKnownF72n7), (30, lensKnownF30n1), (77, lensKnownF77n7), (78, lensKnownF78n2), (62, lensKnownF62n1), (7, lensKnownF7n5), (91, lensKnownF91n1), (61, lensKnownF61n3), (58, lensKnownF58n2), (23, lensKnownF23n1)]
theorem lensKnown_tab79 : Tab2Ok Tryz.prog lensKnownTab79 := tab2Ok_cons lensKnown_f65n14 <| tab2Ok_cons lensKnown_f66n16 <| tab2Ok_cons lensKnown_f67n5 <| tab2Ok_cons lensKnown_f121n5 <| tab2Ok_cons lensKnown_f140n5 <| tab2Ok_cons lensKnown_f98n4 <| tab2Ok_cons lensKnown_f72n7 <| tab2Ok_cons lensKnown_f30n1 <| tab2Ok_cons lensKnown_f77n7 <| tab2Ok_cons lensKnown_f78n2 <| tab2Ok_cons lensKnown_f62n1 <| tab2Ok_cons lensKnown_f7n5 <| tab2Ok_cons lensKnown_f91n1 <| tab2Ok_cons lensKnown_f61n3 <| tab2Ok_cons lensKnown_f58n2 <| tab2Ok_cons lensKnown_f23n1 <| tab2Ok_nil
/-- lex.Tokens: 4277 operations. -/
theorem lensKnown_c79 : (exFT evEnv lensKnownTab79 1000 60).1 30 lensKnownA79 = some lensKnownR79 := by kernel_rfl
def lensKnownA80 : List PV := [.str [108, 101, 110, 115, 32, 97, 32, 52, 48, 10, 102, 97, 99, 101, 32, 48, 32, 53, 32, 49, 32, 97, 105, 114, 10, 102, 97, 99, 101, 32, 48, 32, 53, 32, 49, 32, 97, 105, 114, 10, 102, 97, 99, 101, 32, 48, 32, 53, 32, 49, 32, 97, 105, 114, 10, 102, 97, 99, 101, 32, 48, 32, 53, 32, 49, 32, 97, 105, 114, 10, 102, 97, 99, 101, 32, 48, 32, 53, 32, 49, 32, 97, 105, 114, 10, 102, 97, 99, 101, 32, 48, 32, 53, 32, 49, 32, 97, 105, 114, 10, 102, 97, 99, 101, 32, 48, 32, 53, 32, 49, 32, 97, 105, 114, 10, 102, 97, 99, 101, 32, 48, 32, 53, 32, 49, 32, 97, 105, 114, 10, 102, 97, 99, 101, 32, 48, 32, 53, 32, 49, 32, 97, 105, 114, 10, 102, 97, 99, 101, 32, 48, 32, 53, 32, 49, 32, 97, 105, 114, 10, 102, 97, 99, 101, 32, 48, 32, 53, 32, 49, 32, 97, 105, 114, 10, 102, 97, 99, 101, 32, 48, 32, 53, 32, 49, 32, 97, 105, 114, 10, 102, 97, 99, 101, 32, 48, 32, 53, 32, 49, 32, 97, 105, 114, 10], .lst [[.str [99, 114, 111, 119, 110], .v (.int .i64 103961), .v (.int .i64 5), .v (.int .i64 23179), .v (.int .i64 5), .v (.int .i64 101047), .v (.int .i64 5), .v (.int .i64 6), .v (.int .i64 3), .v (.int .i64 2002), .v (.int .i64 5), .v (.int .i64 1035607), .v (.int .i64 4)], [.str [102, 108, 105, 110, 116], .v (.int .i64 17376), .v (.int .i64 4), .v (.int .i64 31375), .v (.int .i64 5), .v (.int .i64 189878), .v (.int .i64 5), .v (.int .i64 1319), .v (.int .i64 5), .v (.int .i64 6231), .v (.int .i64 5), .v (.int .i64 1552363), .v (.int .i64 4)]]]
def lensKnownR80 : PV := .tup [.agg [.str [], .v (.int .i64 0), .v (.int .i64 0), .nil], .v (.complex .f64 4624070917402656768 4607182418800017408), .v (.int .i64 3)]
def lensKnownF30n2 : Tab := (30, lensKnownA79, lensKnownR79) :: lensKnownF30n1
theorem lensKnown_f30n2 : TabOk Tryz.prog lensKnownF30n2 := tabOk_cons ((exFT_ok evEnv_ok lensKnown_tab79 1000 60).1 _ _ _ lensKnown_c79) lensKnown_f30n1
def lensKnownTab80 : Tab2 := [(65, lensKnownF65n14), (66, lensKnownF66n16), (67, lensKnownF67n5), (121, lensKnownF121n5), (140, lensKnownF140n5), (98, lensKnownF98n4), (72, lensKnownF72n7), (30, lensKnownF30n2), (77, lensKnownF77n7), (78, lensKnownF78n2), (62, lensKnownF62n1), (7, lensKnownF7n5), (91, lensKnownF91n1), (61, lensKnownF61n3), (58, lensKnownF58n2), (23, lensKnownF23n1)]
theorem lensKnown_tab80 : Tab2Ok Tryz.prog lensKnownTab80 := tab2Ok_cons lensKnown_f65n14 <| tab2Ok_cons lensKnown_f66n16 <| tab2Ok_cons lensKnown_f67n5 <| tab2Ok_cons lensKnown_f121n5 <| tab2Ok_cons lensKnown_f140n5 <| tab2Ok_cons lensKnown_f98n4 <| tab2Ok_cons lensKnown_f72n7 <| tab2Ok_cons lensKnown_f30n2 <| tab2Ok_cons lensKnown_f77n7 <| tab2Ok_cons lensKnown_f78n2 <| tab2Ok_cons lensKnown_f62n1 <| tab2Ok_cons lensKnown_f7n5 <| tab2Ok_cons lensKnown_f91n1 <| tab2Ok_cons lensKnown_f61n3 <| tab2Ok_cons lensKnown_f58n2 <| tab2Ok_cons lensKnown_f23n1 <| tab2Ok_nil
/-- lens.Read: 5466 operations. -/
theorem lensKnown_c80 : (exFT evEnv lensKnownTab80 1000 60).1 7 lensKnownA80 = some lensKnownR80 := by kernel_rfl
def lensKnownA81 : List PV := [.agg [.v (.int .i64 (-1)), .v (.int .i64 0)]]
def lensKnownR81 : PV := .str [45, 49]
def lensKnownF7n6 : Tab := (7, lensKnownA80, lensKnownR80) :: lensKnownF7n5
theorem lensKnown_f7n6 : TabOk Tryz.prog lensKnownF7n6 := tabOk_cons ((exFT_ok evEnv_ok lensKnown_tab80 1000 60).1 _ _ _ lensKnown_c80) lensKnown_f7n5
def lensKnownTab81 : Tab2 := [(65, lensKnownF65n14), (66, lensKnownF66n16), (67, lensKnownF67n5), (121, lensKnownF121n5), (140, lensKnownF140n5), (98, lensKnownF98n4), (72, lensKnownF72n7), (30, lensKnownF30n2), (77, lensKnownF77n7), (78, lensKnownF78n2), (62, lensKnownF62n1), (7, lensKnownF7n6), (91, lensKnownF91n1), (61, lensKnownF61n3), (58, lensKnownF58n2), (23, lensKnownF23n1)]
theorem lensKnown_tab81 : Tab2Ok Tryz.prog lensKnownTab81 := tab2Ok_cons lensKnown_f65n14 <| tab2Ok_cons lensKnown_f66n16 <| tab2Ok_cons lensKnown_f67n5 <| tab2Ok_cons lensKnown_f121n5 <| tab2Ok_cons lensKnown_f140n5 <| tab2Ok_cons lensKnown_f98n4 <| tab2Ok_cons lensKnown_f72n7 <| tab2Ok_cons lensKnown_f30n2 <| tab2Ok_cons lensKnown_f77n7 <| tab2Ok_cons lensKnown_f78n2 <| tab2Ok_cons lensKnown_f62n1 <| tab2Ok_cons lensKnown_f7n6 <| tab2Ok_cons lensKnown_f91n1 <| tab2Ok_cons lensKnown_f61n3 <| tab2Ok_cons lensKnown_f58n2 <| tab2Ok_cons lensKnown_f23n1 <| tab2Ok_nil
/-- dec.Print: 91 operations. -/
theorem lensKnown_c81 : (exFT evEnv lensKnownTab81 1000 60).1 61 lensKnownA81 = some lensKnownR81 := by kernel_rfl
def lensKnownA82 : List PV := [.str [99, 114, 111, 119, 110]]
def lensKnownR82 : PV := .v (.bool true)
def lensKnownF61n4 : Tab := (61, lensKnownA81, lensKnownR81) :: lensKnownF61n3
theorem lensKnown_f61n4 : TabOk Tryz.prog lensKnownF61n4 := tabOk_cons ((exFT_ok evEnv_ok lensKnown_tab81 1000 60).1 _ _ _ lensKnown_c81) lensKnown_f61n3
def lensKnownTab82 : Tab2 := [(65, lensKnownF65n14), (66, lensKnownF66n16), (67, lensKnownF67n5), (121, lensKnownF121n5), (140, lensKnownF140n5), (98, lensKnownF98n4), (72, lensKnownF72n7), (30, lensKnownF30n2), (77, lensKnownF77n7), (78, lensKnownF78n2), (62, lensKnownF62n1), (7, lensKnownF7n6), (91, lensKnownF91n1), (61, lensKnownF61n4), (58, lensKnownF58n2), (23, lensKnownF23n1)]
theorem lensKnown_tab82 : Tab2Ok Tryz.prog lensKnownTab82 := tab2Ok_cons lensKnown_f65n14 <| tab2Ok_cons lensKnown_f66n16 <| tab2Ok_cons lensKnown_f67n5 <| tab2Ok_cons lensKnown_f121n5 <| tab2Ok_cons lensKnown_f140n5 <| tab2Ok_cons lensKnown_f98n4 <| tab2Ok_cons lensKnown_f72n7 <| tab2Ok_cons lensKnown_f30n2 <| tab2Ok_cons lensKnown_f77n7 <| tab2Ok_cons lensKnown_f78n2 <| tab2Ok_cons lensKnown_f62n1 <| tab2Ok_cons lensKnown_f7n6 <| tab2Ok_cons lensKnown_f91n1 <| tab2Ok_cons lensKnown_f61n4 <| tab2Ok_cons lensKnown_f58n2 <| tab2Ok_cons lensKnown_f23n1 <| tab2Ok_nil
/-- lens.named: 104 operations. -/
theorem lensKnown_c82 : (exFT evEnv lensKnownTab82 1000 60).1 58 lensKnownA82 = some lensKnownR82 := by kernel_rfl
def lensKnownF58n3 : Tab := (58, lensKnownA82, lensKnownR82) :: lensKnownF58n2
theorem lensKnown_f58n3 : TabOk Tryz.prog lensKnownF58n3 := tabOk_cons ((exFT_ok evEnv_ok lensKnown_tab82 1000 60).1 _ _ _ lensKnown_c82) lensKnown_f58n2
def lensKnownTab83 : Tab2 := [(65, lensKnownF65n14), (66, lensKnownF66n16), (67, lensKnownF67n5), (121, lensKnownF121n5), (140, lensKnownF140n5), (98, lensKnownF98n4), (72, lensKnownF72n7), (30, lensKnownF30n2), (77, lensKnownF77n7), (78, lensKnownF78n2), (62, lensKnownF62n1), (7, lensKnownF7n6), (91, lensKnownF91n1), (61, lensKnownF61n4), (58, lensKnownF58n3), (23, lensKnownF23n1)]
theorem lensKnown_tab83 : Tab2Ok Tryz.prog lensKnownTab83 := tab2Ok_cons lensKnown_f65n14 <| tab2Ok_cons lensKnown_f66n16 <| tab2Ok_cons lensKnown_f67n5 <| tab2Ok_cons lensKnown_f121n5 <| tab2Ok_cons lensKnown_f140n5 <| tab2Ok_cons lensKnown_f98n4 <| tab2Ok_cons lensKnown_f72n7 <| tab2Ok_cons lensKnown_f30n2 <| tab2Ok_cons lensKnown_f77n7 <| tab2Ok_cons lensKnown_f78n2 <| tab2Ok_cons lensKnown_f62n1 <| tab2Ok_cons lensKnown_f7n6 <| tab2Ok_cons lensKnown_f91n1 <| tab2Ok_cons lensKnown_f61n4 <| tab2Ok_cons lensKnown_f58n3 <| tab2Ok_cons lensKnown_f23n1 <| tab2Ok_nil
/-- The evaluation. -/
theorem lensKnown_run : (exFT evEnv lensKnownTab83 1000 60).1 5 [] = some (.v (.bool true)) := by kernel_rfl
end Go.Proofs.YtfihdolpljhhlaaGreatDoor
