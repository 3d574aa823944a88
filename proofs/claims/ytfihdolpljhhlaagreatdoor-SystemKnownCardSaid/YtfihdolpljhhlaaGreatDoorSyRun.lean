/- The evaluation of 'SystemKnown', call by call, by Lean's kernel, in an evaluator that is proved sound for whatever memory. PRINTED by a program of this claim's author; Lean checks it. -/
import Derived.Test.YtfihdolpljhhlaaGreatDoorSyEnv
namespace Go.Proofs.YtfihdolpljhhlaaGreatDoor
open Go.Ev

def systemKnownA0 : List PV := [.str [108, 101, 110, 115, 32, 97, 32, 52, 48, 10, 102, 97, 99, 101, 32, 51, 48, 32, 53, 32, 49, 32, 99, 114, 111, 119, 110, 10, 115, 116, 111, 112, 32, 52, 32, 50, 10, 102, 97, 99, 101, 32, 45, 51, 48, 32, 53, 32, 48, 32, 97, 105, 114, 32, 99, 111, 110, 105, 99, 32, 49, 32, 97, 52, 32, 49]]
def systemKnownR0 : PV := .tup [.lst [[.v (.int .i64 1), .str [108, 101, 110, 115], .v (.complex .f64 4607182418800017408 4607182418800017408)], [.v (.int .i64 1), .str [97], .v (.complex .f64 4607182418800017408 4618441417868443648)], [.v (.int .i64 2), .str [52, 48], .v (.complex .f64 4607182418800017408 4620693217682128896)], [.v (.int .i64 3), .str [], .v (.complex .f64 4607182418800017408 4621819117588971520)], [.v (.int .i64 1), .str [102, 97, 99, 101], .v (.complex .f64 4611686018427387904 4607182418800017408)], [.v (.int .i64 2), .str [51, 48], .v (.complex .f64 4611686018427387904 4618441417868443648)], [.v (.int .i64 2), .str [53], .v (.complex .f64 4611686018427387904 4621256167635550208)], [.v (.int .i64 2), .str [49], .v (.complex .f64 4611686018427387904 4622382067542392832)], [.v (.int .i64 1), .str [99, 114, 111, 119, 110], .v (.complex .f64 4611686018427387904 4623507967449235456)], [.v (.int .i64 3), .str [], .v (.complex .f64 4611686018427387904 4625759767262920704)], [.v (.int .i64 1), .str [115, 116, 111, 112], .v (.complex .f64 4613937818241073152 4607182418800017408)], [.v (.int .i64 2), .str [52], .v (.complex .f64 4613937818241073152 4618441417868443648)], [.v (.int .i64 2), .str [50], .v (.complex .f64 4613937818241073152 4620693217682128896)], [.v (.int .i64 3), .str [], .v (.complex .f64 4613937818241073152 4621256167635550208)], [.v (.int .i64 1), .str [102, 97, 99, 101], .v (.complex .f64 4616189618054758400 4607182418800017408)], [.v (.int .i64 2), .str [45, 51, 48], .v (.complex .f64 4616189618054758400 4618441417868443648)], [.v (.int .i64 2), .str [53], .v (.complex .f64 4616189618054758400 4621819117588971520)], [.v (.int .i64 2), .str [48], .v (.complex .f64 4616189618054758400 4622945017495814144)], [.v (.int .i64 1), .str [97, 105, 114], .v (.complex .f64 4616189618054758400 4624070917402656768)], [.v (.int .i64 1), .str [99, 111, 110, 105, 99], .v (.complex .f64 4616189618054758400 4625759767262920704)], [.v (.int .i64 2), .str [49], .v (.complex .f64 4616189618054758400 4627448617123184640)], [.v (.int .i64 1), .str [97, 52], .v (.complex .f64 4616189618054758400 4628011567076605952)], [.v (.int .i64 2), .str [49], .v (.complex .f64 4616189618054758400 4628855992006737920)], [.v (.int .i64 3), .str [], .v (.complex .f64 4616189618054758400 4629137466983448576)]], .v (.complex .f64 0 0), .v (.int .i64 0)]
def systemKnownTab0 : Tab := []
theorem systemKnown_tab0 : TabOk Tryz.prog systemKnownTab0 := tabOk_nil
/-- lex.Tokens: 6241 operations. -/
theorem systemKnown_c0 : (exFT evEnv systemKnownTab0 1000 60).1 30 systemKnownA0 = some systemKnownR0 := by kernel_rfl
def systemKnownA1 : List PV := [.str [108, 101, 110, 115, 32, 97, 32, 52, 48, 10, 102, 97, 99, 101, 32, 51, 48, 32, 53, 32, 49, 32, 99, 114, 111, 119, 110, 10, 115, 116, 111, 112, 32, 52, 32, 50, 10, 102, 97, 99, 101, 32, 45, 51, 48, 32, 53, 32, 48, 32, 97, 105, 114, 32, 99, 111, 110, 105, 99, 32, 49, 32, 97, 52, 32, 49], .lst [[.str [99, 114, 111, 119, 110], .v (.int .i64 103961), .v (.int .i64 5), .v (.int .i64 23179), .v (.int .i64 5), .v (.int .i64 101047), .v (.int .i64 5), .v (.int .i64 6), .v (.int .i64 3), .v (.int .i64 2002), .v (.int .i64 5), .v (.int .i64 1035607), .v (.int .i64 4)], [.str [102, 108, 105, 110, 116], .v (.int .i64 17376), .v (.int .i64 4), .v (.int .i64 31375), .v (.int .i64 5), .v (.int .i64 189878), .v (.int .i64 5), .v (.int .i64 1319), .v (.int .i64 5), .v (.int .i64 6231), .v (.int .i64 5), .v (.int .i64 1552363), .v (.int .i64 4)]]]
def systemKnownR1 : PV := .tup [.agg [.str [97], .v (.int .i64 40), .v (.int .i64 0), .lst [[.v (.bool false), .v (.int .i64 30), .v (.int .i64 0), .v (.int .i64 5), .v (.int .i64 0), .v (.int .i64 1), .v (.int .i64 0), .v (.int .i64 0), .v (.int .i64 0), .v (.int .i64 0), .v (.int .i64 0), .v (.int .i64 0), .v (.int .i64 0), .str [99, 114, 111, 119, 110]], [.v (.bool true), .v (.int .i64 0), .v (.int .i64 0), .v (.int .i64 4), .v (.int .i64 0), .v (.int .i64 2), .v (.int .i64 0), .v (.int .i64 0), .v (.int .i64 0), .v (.int .i64 0), .v (.int .i64 0), .v (.int .i64 0), .v (.int .i64 0), .str []], [.v (.bool false), .v (.int .i64 (-30)), .v (.int .i64 0), .v (.int .i64 5), .v (.int .i64 0), .v (.int .i64 0), .v (.int .i64 0), .v (.int .i64 1), .v (.int .i64 0), .v (.int .i64 1), .v (.int .i64 0), .v (.int .i64 0), .v (.int .i64 0), .str [97, 105, 114]]]], .v (.complex .f64 0 0), .v (.int .i64 0)]
def systemKnownTab1 : Tab := (30, systemKnownA0, systemKnownR0) :: systemKnownTab0
theorem systemKnown_tab1 : TabOk Tryz.prog systemKnownTab1 := tabOk_cons ((exFT_ok evEnv_ok systemKnown_tab0 1000 60).1 _ _ _ systemKnown_c0) systemKnown_tab0
/-- lens.Read: 5219 operations. -/
theorem systemKnown_c1 : (exFT evEnv systemKnownTab1 1000 60).1 7 systemKnownA1 = some systemKnownR1 := by kernel_rfl
def systemKnownA2 : List PV := [.str [108, 101, 110, 115, 32, 97, 32, 52, 48, 10, 102, 97, 99, 101, 32, 48, 32, 53, 32, 49, 32, 97, 105, 114, 10, 102, 97, 99, 101, 32, 50, 48, 32, 52, 32, 50, 32, 97, 105, 114]]
def systemKnownR2 : PV := .tup [.lst [[.v (.int .i64 1), .str [108, 101, 110, 115], .v (.complex .f64 4607182418800017408 4607182418800017408)], [.v (.int .i64 1), .str [97], .v (.complex .f64 4607182418800017408 4618441417868443648)], [.v (.int .i64 2), .str [52, 48], .v (.complex .f64 4607182418800017408 4620693217682128896)], [.v (.int .i64 3), .str [], .v (.complex .f64 4607182418800017408 4621819117588971520)], [.v (.int .i64 1), .str [102, 97, 99, 101], .v (.complex .f64 4611686018427387904 4607182418800017408)], [.v (.int .i64 2), .str [48], .v (.complex .f64 4611686018427387904 4618441417868443648)], [.v (.int .i64 2), .str [53], .v (.complex .f64 4611686018427387904 4620693217682128896)], [.v (.int .i64 2), .str [49], .v (.complex .f64 4611686018427387904 4621819117588971520)], [.v (.int .i64 1), .str [97, 105, 114], .v (.complex .f64 4611686018427387904 4622945017495814144)], [.v (.int .i64 3), .str [], .v (.complex .f64 4611686018427387904 4624633867356078080)], [.v (.int .i64 1), .str [102, 97, 99, 101], .v (.complex .f64 4613937818241073152 4607182418800017408)], [.v (.int .i64 2), .str [50, 48], .v (.complex .f64 4613937818241073152 4618441417868443648)], [.v (.int .i64 2), .str [52], .v (.complex .f64 4613937818241073152 4621256167635550208)], [.v (.int .i64 2), .str [50], .v (.complex .f64 4613937818241073152 4622382067542392832)], [.v (.int .i64 1), .str [97, 105, 114], .v (.complex .f64 4613937818241073152 4623507967449235456)], [.v (.int .i64 3), .str [], .v (.complex .f64 4613937818241073152 4625196817309499392)]], .v (.complex .f64 0 0), .v (.int .i64 0)]
def systemKnownTab2 : Tab := (7, systemKnownA1, systemKnownR1) :: systemKnownTab1
theorem systemKnown_tab2 : TabOk Tryz.prog systemKnownTab2 := tabOk_cons ((exFT_ok evEnv_ok systemKnown_tab1 1000 60).1 _ _ _ systemKnown_c1) systemKnown_tab1
/-- lex.Tokens: 3906 operations. -/
theorem systemKnown_c2 : (exFT evEnv systemKnownTab2 1000 60).1 30 systemKnownA2 = some systemKnownR2 := by kernel_rfl
def systemKnownA3 : List PV := [.str [108, 101, 110, 115, 32, 97, 32, 52, 48, 10, 102, 97, 99, 101, 32, 48, 32, 53, 32, 49, 32, 97, 105, 114, 10, 102, 97, 99, 101, 32, 50, 48, 32, 52, 32, 50, 32, 97, 105, 114], .nil]
def systemKnownR3 : PV := .tup [.agg [.str [97], .v (.int .i64 40), .v (.int .i64 0), .lst [[.v (.bool false), .v (.int .i64 0), .v (.int .i64 0), .v (.int .i64 5), .v (.int .i64 0), .v (.int .i64 1), .v (.int .i64 0), .v (.int .i64 0), .v (.int .i64 0), .v (.int .i64 0), .v (.int .i64 0), .v (.int .i64 0), .v (.int .i64 0), .str [97, 105, 114]], [.v (.bool false), .v (.int .i64 20), .v (.int .i64 0), .v (.int .i64 4), .v (.int .i64 0), .v (.int .i64 2), .v (.int .i64 0), .v (.int .i64 0), .v (.int .i64 0), .v (.int .i64 0), .v (.int .i64 0), .v (.int .i64 0), .v (.int .i64 0), .str [97, 105, 114]]]], .v (.complex .f64 0 0), .v (.int .i64 0)]
def systemKnownTab3 : Tab := (30, systemKnownA2, systemKnownR2) :: systemKnownTab2
theorem systemKnown_tab3 : TabOk Tryz.prog systemKnownTab3 := tabOk_cons ((exFT_ok evEnv_ok systemKnown_tab2 1000 60).1 _ _ _ systemKnown_c2) systemKnown_tab2
/-- lens.Read: 3553 operations. -/
theorem systemKnown_c3 : (exFT evEnv systemKnownTab3 1000 60).1 7 systemKnownA3 = some systemKnownR3 := by kernel_rfl
def systemKnownA4 : List PV := [.agg [.v (.bool false), .v (.int .i64 0), .v (.int .i64 0), .v (.int .i64 5), .v (.int .i64 0), .v (.int .i64 1), .v (.int .i64 0), .v (.int .i64 0), .v (.int .i64 0), .v (.int .i64 0), .v (.int .i64 0), .v (.int .i64 0), .v (.int .i64 0), .str [97, 105, 114]], .nil]
def systemKnownR4 : PV := .v (.bool true)
def systemKnownTab4 : Tab := (7, systemKnownA3, systemKnownR3) :: systemKnownTab3
theorem systemKnown_tab4 : TabOk Tryz.prog systemKnownTab4 := tabOk_cons ((exFT_ok evEnv_ok systemKnown_tab3 1000 60).1 _ _ _ systemKnown_c3) systemKnown_tab3
/-- lens.rightFace: 1314 operations. -/
theorem systemKnown_c4 : (exFT evEnv systemKnownTab4 1000 60).1 56 systemKnownA4 = some systemKnownR4 := by kernel_rfl
def systemKnownA5 : List PV := [.agg [.v (.bool false), .v (.int .i64 20), .v (.int .i64 0), .v (.int .i64 4), .v (.int .i64 0), .v (.int .i64 2), .v (.int .i64 0), .v (.int .i64 0), .v (.int .i64 0), .v (.int .i64 0), .v (.int .i64 0), .v (.int .i64 0), .v (.int .i64 0), .str [97, 105, 114]], .nil]
def systemKnownR5 : PV := .v (.bool true)
def systemKnownTab5 : Tab := (56, systemKnownA4, systemKnownR4) :: systemKnownTab4
theorem systemKnown_tab5 : TabOk Tryz.prog systemKnownTab5 := tabOk_cons ((exFT_ok evEnv_ok systemKnown_tab4 1000 60).1 _ _ _ systemKnown_c4) systemKnown_tab4
/-- lens.rightFace: 1467 operations. -/
theorem systemKnown_c5 : (exFT evEnv systemKnownTab5 1000 60).1 56 systemKnownA5 = some systemKnownR5 := by kernel_rfl
def systemKnownA6 : List PV := [.agg [.v (.bool false), .v (.int .i64 0), .v (.int .i64 0), .v (.int .i64 5), .v (.int .i64 0), .v (.int .i64 1), .v (.int .i64 0), .v (.int .i64 0), .v (.int .i64 0), .v (.int .i64 0), .v (.int .i64 0), .v (.int .i64 0), .v (.int .i64 0), .str [97, 105, 114]]]
def systemKnownR6 : PV := .agg [.v (.bool false), .v (.bool false), .v (.int .i64 0), .v (.int .i64 0), .v (.bool false), .v (.int .i64 65536), .v (.int .i64 65536), .v (.bool false), .v (.int .i64 0), .v (.int .i64 0), .v (.bool false), .v (.int .i64 0), .v (.int .i64 0), .v (.bool false), .v (.int .i64 0), .v (.int .i64 0), .v (.bool false), .v (.int .i64 1638400), .v (.int .i64 1638400), .v (.bool false), .v (.int .i64 65536), .v (.int .i64 65536), .v (.bool false)]
def systemKnownTab6 : Tab := (56, systemKnownA5, systemKnownR5) :: systemKnownTab5
theorem systemKnown_tab6 : TabOk Tryz.prog systemKnownTab6 := tabOk_cons ((exFT_ok evEnv_ok systemKnown_tab5 1000 60).1 _ _ _ systemKnown_c5) systemKnown_tab5
/-- system.surf: 1287 operations. -/
theorem systemKnown_c6 : (exFT evEnv systemKnownTab6 1000 60).1 38 systemKnownA6 = some systemKnownR6 := by kernel_rfl
def systemKnownA7 : List PV := [.agg [.v (.int .i64 65536), .v (.int .i64 65536), .v (.bool false)], .agg [.v (.int .i64 65536), .v (.int .i64 65536), .v (.bool false)]]
def systemKnownR7 : PV := .agg [.v (.int .i64 65536), .v (.int .i64 65536), .v (.bool false)]
def systemKnownTab7 : Tab := (38, systemKnownA6, systemKnownR6) :: systemKnownTab6
theorem systemKnown_tab7 : TabOk Tryz.prog systemKnownTab7 := tabOk_cons ((exFT_ok evEnv_ok systemKnown_tab6 1000 60).1 _ _ _ systemKnown_c6) systemKnown_tab6
/-- iv.Div: 1305 operations. -/
theorem systemKnown_c7 : (exFT evEnv systemKnownTab7 1000 60).1 13 systemKnownA7 = some systemKnownR7 := by kernel_rfl
def systemKnownA8 : List PV := [.agg [.v (.int .i64 65536), .v (.int .i64 65536), .v (.bool false)], .agg [.v (.int .i64 1310720), .v (.int .i64 1310720), .v (.bool false)]]
def systemKnownR8 : PV := .agg [.v (.int .i64 3276), .v (.int .i64 3277), .v (.bool false)]
def systemKnownTab8 : Tab := (13, systemKnownA7, systemKnownR7) :: systemKnownTab7
theorem systemKnown_tab8 : TabOk Tryz.prog systemKnownTab8 := tabOk_cons ((exFT_ok evEnv_ok systemKnown_tab7 1000 60).1 _ _ _ systemKnown_c7) systemKnown_tab7
/-- iv.Div: 1312 operations. -/
theorem systemKnown_c8 : (exFT evEnv systemKnownTab8 1000 60).1 13 systemKnownA8 = some systemKnownR8 := by kernel_rfl
def systemKnownA9 : List PV := [.agg [.v (.bool false), .v (.int .i64 20), .v (.int .i64 0), .v (.int .i64 4), .v (.int .i64 0), .v (.int .i64 2), .v (.int .i64 0), .v (.int .i64 0), .v (.int .i64 0), .v (.int .i64 0), .v (.int .i64 0), .v (.int .i64 0), .v (.int .i64 0), .str [97, 105, 114]]]
def systemKnownR9 : PV := .agg [.v (.bool false), .v (.bool false), .v (.int .i64 3276), .v (.int .i64 3277), .v (.bool false), .v (.int .i64 65536), .v (.int .i64 65536), .v (.bool false), .v (.int .i64 0), .v (.int .i64 0), .v (.bool false), .v (.int .i64 0), .v (.int .i64 0), .v (.bool false), .v (.int .i64 0), .v (.int .i64 0), .v (.bool false), .v (.int .i64 1048576), .v (.int .i64 1048576), .v (.bool false), .v (.int .i64 65536), .v (.int .i64 65536), .v (.bool false)]
def systemKnownTab9 : Tab := (13, systemKnownA8, systemKnownR8) :: systemKnownTab8
theorem systemKnown_tab9 : TabOk Tryz.prog systemKnownTab9 := tabOk_cons ((exFT_ok evEnv_ok systemKnown_tab8 1000 60).1 _ _ _ systemKnown_c8) systemKnown_tab8
/-- system.surf: 1499 operations. -/
theorem systemKnown_c9 : (exFT evEnv systemKnownTab9 1000 60).1 38 systemKnownA9 = some systemKnownR9 := by kernel_rfl
def systemKnownA10 : List PV := [.agg [.str [97], .v (.int .i64 40), .v (.int .i64 0), .lst [[.v (.bool false), .v (.int .i64 0), .v (.int .i64 0), .v (.int .i64 5), .v (.int .i64 0), .v (.int .i64 1), .v (.int .i64 0), .v (.int .i64 0), .v (.int .i64 0), .v (.int .i64 0), .v (.int .i64 0), .v (.int .i64 0), .v (.int .i64 0), .str [97, 105, 114]], [.v (.bool false), .v (.int .i64 20), .v (.int .i64 0), .v (.int .i64 4), .v (.int .i64 0), .v (.int .i64 2), .v (.int .i64 0), .v (.int .i64 0), .v (.int .i64 0), .v (.int .i64 0), .v (.int .i64 0), .v (.int .i64 0), .v (.int .i64 0), .str [97, 105, 114]]]], .nil, .agg [.v (.int .i64 0), .v (.int .i64 0), .v (.bool true)]]
def systemKnownR10 : PV := .tup [.agg [.lst [[.v (.bool false), .v (.bool false), .v (.int .i64 0), .v (.int .i64 0), .v (.bool false), .v (.int .i64 65536), .v (.int .i64 65536), .v (.bool false), .v (.int .i64 0), .v (.int .i64 0), .v (.bool false), .v (.int .i64 0), .v (.int .i64 0), .v (.bool false), .v (.int .i64 2621440), .v (.int .i64 2621440), .v (.bool false), .v (.int .i64 1638400), .v (.int .i64 1638400), .v (.bool false), .v (.int .i64 65536), .v (.int .i64 65536), .v (.bool false)], [.v (.bool false), .v (.bool false), .v (.int .i64 3276), .v (.int .i64 3277), .v (.bool false), .v (.int .i64 65536), .v (.int .i64 65536), .v (.bool false), .v (.int .i64 0), .v (.int .i64 0), .v (.bool false), .v (.int .i64 0), .v (.int .i64 0), .v (.bool false), .v (.int .i64 2686976), .v (.int .i64 2686976), .v (.bool false), .v (.int .i64 1048576), .v (.int .i64 1048576), .v (.bool false), .v (.int .i64 65536), .v (.int .i64 65536), .v (.bool false)]], .v (.int .i64 327680), .v (.int .i64 327680), .v (.bool false)], .v (.int .i64 0)]
def systemKnownTab10 : Tab := (38, systemKnownA9, systemKnownR9) :: systemKnownTab9
theorem systemKnown_tab10 : TabOk Tryz.prog systemKnownTab10 := tabOk_cons ((exFT_ok evEnv_ok systemKnown_tab9 1000 60).1 _ _ _ systemKnown_c9) systemKnown_tab9
/-- system.Build: 1979 operations. -/
theorem systemKnown_c10 : (exFT evEnv systemKnownTab10 1000 60).1 9 systemKnownA10 = some systemKnownR10 := by kernel_rfl
def systemKnownA11 : List PV := [.agg [.v (.bool false), .v (.int .i64 30), .v (.int .i64 0), .v (.int .i64 5), .v (.int .i64 0), .v (.int .i64 1), .v (.int .i64 0), .v (.int .i64 0), .v (.int .i64 0), .v (.int .i64 0), .v (.int .i64 0), .v (.int .i64 0), .v (.int .i64 0), .str [99, 114, 111, 119, 110]], .lst [[.str [99, 114, 111, 119, 110], .v (.int .i64 103961), .v (.int .i64 5), .v (.int .i64 23179), .v (.int .i64 5), .v (.int .i64 101047), .v (.int .i64 5), .v (.int .i64 6), .v (.int .i64 3), .v (.int .i64 2002), .v (.int .i64 5), .v (.int .i64 1035607), .v (.int .i64 4)], [.str [102, 108, 105, 110, 116], .v (.int .i64 17376), .v (.int .i64 4), .v (.int .i64 31375), .v (.int .i64 5), .v (.int .i64 189878), .v (.int .i64 5), .v (.int .i64 1319), .v (.int .i64 5), .v (.int .i64 6231), .v (.int .i64 5), .v (.int .i64 1552363), .v (.int .i64 4)]]]
def systemKnownR11 : PV := .v (.bool true)
def systemKnownTab11 : Tab := (9, systemKnownA10, systemKnownR10) :: systemKnownTab10
theorem systemKnown_tab11 : TabOk Tryz.prog systemKnownTab11 := tabOk_cons ((exFT_ok evEnv_ok systemKnown_tab10 1000 60).1 _ _ _ systemKnown_c10) systemKnown_tab10
/-- lens.rightFace: 1591 operations. -/
theorem systemKnown_c11 : (exFT evEnv systemKnownTab11 1000 60).1 56 systemKnownA11 = some systemKnownR11 := by kernel_rfl
def systemKnownA12 : List PV := [.agg [.v (.bool false), .v (.int .i64 (-30)), .v (.int .i64 0), .v (.int .i64 5), .v (.int .i64 0), .v (.int .i64 0), .v (.int .i64 0), .v (.int .i64 1), .v (.int .i64 0), .v (.int .i64 1), .v (.int .i64 0), .v (.int .i64 0), .v (.int .i64 0), .str [97, 105, 114]], .lst [[.str [99, 114, 111, 119, 110], .v (.int .i64 103961), .v (.int .i64 5), .v (.int .i64 23179), .v (.int .i64 5), .v (.int .i64 101047), .v (.int .i64 5), .v (.int .i64 6), .v (.int .i64 3), .v (.int .i64 2002), .v (.int .i64 5), .v (.int .i64 1035607), .v (.int .i64 4)], [.str [102, 108, 105, 110, 116], .v (.int .i64 17376), .v (.int .i64 4), .v (.int .i64 31375), .v (.int .i64 5), .v (.int .i64 189878), .v (.int .i64 5), .v (.int .i64 1319), .v (.int .i64 5), .v (.int .i64 6231), .v (.int .i64 5), .v (.int .i64 1552363), .v (.int .i64 4)]]]
def systemKnownR12 : PV := .v (.bool true)
def systemKnownTab12 : Tab := (56, systemKnownA11, systemKnownR11) :: systemKnownTab11
theorem systemKnown_tab12 : TabOk Tryz.prog systemKnownTab12 := tabOk_cons ((exFT_ok evEnv_ok systemKnown_tab11 1000 60).1 _ _ _ systemKnown_c11) systemKnown_tab11
/-- lens.rightFace: 1492 operations. -/
theorem systemKnown_c12 : (exFT evEnv systemKnownTab12 1000 60).1 56 systemKnownA12 = some systemKnownR12 := by kernel_rfl
def systemKnownA13 : List PV := [.agg [.str [97], .v (.int .i64 40), .v (.int .i64 0), .lst [[.v (.bool false), .v (.int .i64 30), .v (.int .i64 0), .v (.int .i64 5), .v (.int .i64 0), .v (.int .i64 1), .v (.int .i64 0), .v (.int .i64 0), .v (.int .i64 0), .v (.int .i64 0), .v (.int .i64 0), .v (.int .i64 0), .v (.int .i64 0), .str [99, 114, 111, 119, 110]], [.v (.bool true), .v (.int .i64 0), .v (.int .i64 0), .v (.int .i64 4), .v (.int .i64 0), .v (.int .i64 2), .v (.int .i64 0), .v (.int .i64 0), .v (.int .i64 0), .v (.int .i64 0), .v (.int .i64 0), .v (.int .i64 0), .v (.int .i64 0), .str []], [.v (.bool false), .v (.int .i64 (-30)), .v (.int .i64 0), .v (.int .i64 5), .v (.int .i64 0), .v (.int .i64 0), .v (.int .i64 0), .v (.int .i64 1), .v (.int .i64 0), .v (.int .i64 1), .v (.int .i64 0), .v (.int .i64 0), .v (.int .i64 0), .str [97, 105, 114]]]], .lst [[.str [99, 114, 111, 119, 110], .v (.int .i64 103961), .v (.int .i64 5), .v (.int .i64 23179), .v (.int .i64 5), .v (.int .i64 101047), .v (.int .i64 5), .v (.int .i64 6), .v (.int .i64 3), .v (.int .i64 2002), .v (.int .i64 5), .v (.int .i64 1035607), .v (.int .i64 4)], [.str [102, 108, 105, 110, 116], .v (.int .i64 17376), .v (.int .i64 4), .v (.int .i64 31375), .v (.int .i64 5), .v (.int .i64 189878), .v (.int .i64 5), .v (.int .i64 1319), .v (.int .i64 5), .v (.int .i64 6231), .v (.int .i64 5), .v (.int .i64 1552363), .v (.int .i64 4)]]]
def systemKnownR13 : PV := .v (.bool true)
def systemKnownTab13 : Tab := (56, systemKnownA12, systemKnownR12) :: systemKnownTab12
theorem systemKnown_tab13 : TabOk Tryz.prog systemKnownTab13 := tabOk_cons ((exFT_ok evEnv_ok systemKnown_tab12 1000 60).1 _ _ _ systemKnown_c12) systemKnown_tab12
/-- lens.Right: 1107 operations. -/
theorem systemKnown_c13 : (exFT evEnv systemKnownTab13 1000 60).1 24 systemKnownA13 = some systemKnownR13 := by kernel_rfl
def systemKnownA14 : List PV := [.agg [.v (.int .i64 65536), .v (.int .i64 65536), .v (.bool false)], .agg [.v (.int .i64 1966080), .v (.int .i64 1966080), .v (.bool false)]]
def systemKnownR14 : PV := .agg [.v (.int .i64 2184), .v (.int .i64 2185), .v (.bool false)]
def systemKnownTab14 : Tab := (24, systemKnownA13, systemKnownR13) :: systemKnownTab13
theorem systemKnown_tab14 : TabOk Tryz.prog systemKnownTab14 := tabOk_cons ((exFT_ok evEnv_ok systemKnown_tab13 1000 60).1 _ _ _ systemKnown_c13) systemKnown_tab13
/-- iv.Div: 1312 operations. -/
theorem systemKnown_c14 : (exFT evEnv systemKnownTab14 1000 60).1 13 systemKnownA14 = some systemKnownR14 := by kernel_rfl
def systemKnownA15 : List PV := [.agg [.v (.bool false), .v (.int .i64 30), .v (.int .i64 0), .v (.int .i64 5), .v (.int .i64 0), .v (.int .i64 1), .v (.int .i64 0), .v (.int .i64 0), .v (.int .i64 0), .v (.int .i64 0), .v (.int .i64 0), .v (.int .i64 0), .v (.int .i64 0), .str [99, 114, 111, 119, 110]]]
def systemKnownR15 : PV := .agg [.v (.bool false), .v (.bool false), .v (.int .i64 2184), .v (.int .i64 2185), .v (.bool false), .v (.int .i64 65536), .v (.int .i64 65536), .v (.bool false), .v (.int .i64 0), .v (.int .i64 0), .v (.bool false), .v (.int .i64 0), .v (.int .i64 0), .v (.bool false), .v (.int .i64 0), .v (.int .i64 0), .v (.bool false), .v (.int .i64 1638400), .v (.int .i64 1638400), .v (.bool false), .v (.int .i64 65536), .v (.int .i64 65536), .v (.bool false)]
def systemKnownTab15 : Tab := (13, systemKnownA14, systemKnownR14) :: systemKnownTab14
theorem systemKnown_tab15 : TabOk Tryz.prog systemKnownTab15 := tabOk_cons ((exFT_ok evEnv_ok systemKnown_tab14 1000 60).1 _ _ _ systemKnown_c14) systemKnown_tab14
/-- system.surf: 1501 operations. -/
theorem systemKnown_c15 : (exFT evEnv systemKnownTab15 1000 60).1 38 systemKnownA15 = some systemKnownR15 := by kernel_rfl
def systemKnownA16 : List PV := [.agg [.v (.int .i64 68131), .v (.int .i64 68132), .v (.bool false)], .agg [.v (.int .i64 22626), .v (.int .i64 22628), .v (.bool false)]]
def systemKnownR16 : PV := .agg [.v (.int .i64 23521), .v (.int .i64 23525), .v (.bool false)]
def systemKnownTab16 : Tab := (38, systemKnownA15, systemKnownR15) :: systemKnownTab15
theorem systemKnown_tab16 : TabOk Tryz.prog systemKnownTab16 := tabOk_cons ((exFT_ok evEnv_ok systemKnown_tab15 1000 60).1 _ _ _ systemKnown_c15) systemKnown_tab15
/-- iv.Mul: 1220 operations. -/
theorem systemKnown_c16 : (exFT evEnv systemKnownTab16 1000 60).1 43 systemKnownA16 = some systemKnownR16 := by kernel_rfl
def systemKnownA17 : List PV := [.agg [.v (.int .i64 23521), .v (.int .i64 23525), .v (.bool false)], .agg [.v (.int .i64 22232), .v (.int .i64 22235), .v (.bool false)]]
def systemKnownR17 : PV := .agg [.v (.int .i64 69326), .v (.int .i64 69348), .v (.bool false)]
def systemKnownTab17 : Tab := (43, systemKnownA16, systemKnownR16) :: systemKnownTab16
theorem systemKnown_tab17 : TabOk Tryz.prog systemKnownTab17 := tabOk_cons ((exFT_ok evEnv_ok systemKnown_tab16 1000 60).1 _ _ _ systemKnown_c16) systemKnown_tab16
/-- iv.Div: 1312 operations. -/
theorem systemKnown_c17 : (exFT evEnv systemKnownTab17 1000 60).1 13 systemKnownA17 = some systemKnownR17 := by kernel_rfl
def systemKnownA18 : List PV := [.agg [.v (.int .i64 15190), .v (.int .i64 15191), .v (.bool false)], .agg [.v (.int .i64 22626), .v (.int .i64 22628), .v (.bool false)]]
def systemKnownR18 : PV := .agg [.v (.int .i64 5244), .v (.int .i64 5246), .v (.bool false)]
def systemKnownTab18 : Tab := (13, systemKnownA17, systemKnownR17) :: systemKnownTab17
theorem systemKnown_tab18 : TabOk Tryz.prog systemKnownTab18 := tabOk_cons ((exFT_ok evEnv_ok systemKnown_tab17 1000 60).1 _ _ _ systemKnown_c17) systemKnown_tab17
/-- iv.Mul: 1220 operations. -/
theorem systemKnown_c18 : (exFT evEnv systemKnownTab18 1000 60).1 43 systemKnownA18 = some systemKnownR18 := by kernel_rfl
def systemKnownA19 : List PV := [.agg [.v (.int .i64 5244), .v (.int .i64 5246), .v (.bool false)], .agg [.v (.int .i64 21313), .v (.int .i64 21316), .v (.bool false)]]
def systemKnownR19 : PV := .agg [.v (.int .i64 16122), .v (.int .i64 16132), .v (.bool false)]
def systemKnownTab19 : Tab := (43, systemKnownA18, systemKnownR18) :: systemKnownTab18
theorem systemKnown_tab19 : TabOk Tryz.prog systemKnownTab19 := tabOk_cons ((exFT_ok evEnv_ok systemKnown_tab18 1000 60).1 _ _ _ systemKnown_c18) systemKnown_tab18
/-- iv.Div: 1312 operations. -/
theorem systemKnown_c19 : (exFT evEnv systemKnownTab19 1000 60).1 13 systemKnownA19 = some systemKnownR19 := by kernel_rfl
def systemKnownA20 : List PV := [.agg [.v (.int .i64 66222), .v (.int .i64 66223), .v (.bool false)], .agg [.v (.int .i64 22626), .v (.int .i64 22628), .v (.bool false)]]
def systemKnownR20 : PV := .agg [.v (.int .i64 22862), .v (.int .i64 22866), .v (.bool false)]
def systemKnownTab20 : Tab := (13, systemKnownA19, systemKnownR19) :: systemKnownTab19
theorem systemKnown_tab20 : TabOk Tryz.prog systemKnownTab20 := tabOk_cons ((exFT_ok evEnv_ok systemKnown_tab19 1000 60).1 _ _ _ systemKnown_c19) systemKnown_tab19
/-- iv.Mul: 1220 operations. -/
theorem systemKnown_c20 : (exFT evEnv systemKnownTab20 1000 60).1 43 systemKnownA20 = some systemKnownR20 := by kernel_rfl
def systemKnownA21 : List PV := [.agg [.v (.int .i64 22862), .v (.int .i64 22866), .v (.bool false)], .agg [.v (.int .i64 (-6764329)), .v (.int .i64 (-6764326)), .v (.bool false)]]
def systemKnownR21 : PV := .agg [.v (.int .i64 (-222)), .v (.int .i64 (-221)), .v (.bool false)]
def systemKnownTab21 : Tab := (43, systemKnownA20, systemKnownR20) :: systemKnownTab20
theorem systemKnown_tab21 : TabOk Tryz.prog systemKnownTab21 := tabOk_cons ((exFT_ok evEnv_ok systemKnown_tab20 1000 60).1 _ _ _ systemKnown_c20) systemKnown_tab20
/-- iv.Div: 1336 operations. -/
theorem systemKnown_c21 : (exFT evEnv systemKnownTab21 1000 60).1 13 systemKnownA21 = some systemKnownR21 := by kernel_rfl
def systemKnownA22 : List PV := [.agg [.v (.int .i64 150762), .v (.int .i64 150795), .v (.bool false)]]
def systemKnownR22 : PV := .agg [.v (.int .i64 99399), .v (.int .i64 99411), .v (.bool false)]
def systemKnownTab22 : Tab := (13, systemKnownA21, systemKnownR21) :: systemKnownTab21
theorem systemKnown_tab22 : TabOk Tryz.prog systemKnownTab22 := tabOk_cons ((exFT_ok evEnv_ok systemKnown_tab21 1000 60).1 _ _ _ systemKnown_c21) systemKnown_tab21
/-- iv.Root: 974 operations. -/
theorem systemKnown_c22 : (exFT evEnv systemKnownTab22 1000 60).1 45 systemKnownA22 = some systemKnownR22 := by kernel_rfl
def systemKnownA23 : List PV := [.agg [.str [99, 114, 111, 119, 110], .v (.int .i64 103961), .v (.int .i64 5), .v (.int .i64 23179), .v (.int .i64 5), .v (.int .i64 101047), .v (.int .i64 5), .v (.int .i64 6), .v (.int .i64 3), .v (.int .i64 2002), .v (.int .i64 5), .v (.int .i64 1035607), .v (.int .i64 4)], .agg [.v (.int .i64 38508), .v (.int .i64 38509), .v (.bool false)]]
def systemKnownR23 : PV := .agg [.v (.int .i64 99399), .v (.int .i64 99411), .v (.bool false)]
def systemKnownTab23 : Tab := (45, systemKnownA22, systemKnownR22) :: systemKnownTab22
theorem systemKnown_tab23 : TabOk Tryz.prog systemKnownTab23 := tabOk_cons ((exFT_ok evEnv_ok systemKnown_tab22 1000 60).1 _ _ _ systemKnown_c22) systemKnown_tab22
/-- glass.Index: 2801 operations. -/
theorem systemKnown_c23 : (exFT evEnv systemKnownTab23 1000 60).1 12 systemKnownA23 = some systemKnownR23 := by kernel_rfl
def systemKnownA24 : List PV := [.agg [.v (.int .i64 65536), .v (.int .i64 65536), .v (.bool false)], .agg [.v (.int .i64 99399), .v (.int .i64 99411), .v (.bool false)]]
def systemKnownR24 : PV := .agg [.v (.int .i64 43204), .v (.int .i64 43210), .v (.bool false)]
def systemKnownTab24 : Tab := (12, systemKnownA23, systemKnownR23) :: systemKnownTab23
theorem systemKnown_tab24 : TabOk Tryz.prog systemKnownTab24 := tabOk_cons ((exFT_ok evEnv_ok systemKnown_tab23 1000 60).1 _ _ _ systemKnown_c23) systemKnown_tab23
/-- iv.Div: 1317 operations. -/
theorem systemKnown_c24 : (exFT evEnv systemKnownTab24 1000 60).1 13 systemKnownA24 = some systemKnownR24 := by kernel_rfl
def systemKnownA25 : List PV := [.agg [.v (.bool true), .v (.int .i64 0), .v (.int .i64 0), .v (.int .i64 4), .v (.int .i64 0), .v (.int .i64 2), .v (.int .i64 0), .v (.int .i64 0), .v (.int .i64 0), .v (.int .i64 0), .v (.int .i64 0), .v (.int .i64 0), .v (.int .i64 0), .str []]]
def systemKnownR25 : PV := .agg [.v (.bool true), .v (.bool false), .v (.int .i64 0), .v (.int .i64 0), .v (.bool false), .v (.int .i64 65536), .v (.int .i64 65536), .v (.bool false), .v (.int .i64 0), .v (.int .i64 0), .v (.bool false), .v (.int .i64 0), .v (.int .i64 0), .v (.bool false), .v (.int .i64 0), .v (.int .i64 0), .v (.bool false), .v (.int .i64 1048576), .v (.int .i64 1048576), .v (.bool false), .v (.int .i64 65536), .v (.int .i64 65536), .v (.bool false)]
def systemKnownTab25 : Tab := (13, systemKnownA24, systemKnownR24) :: systemKnownTab24
theorem systemKnown_tab25 : TabOk Tryz.prog systemKnownTab25 := tabOk_cons ((exFT_ok evEnv_ok systemKnown_tab24 1000 60).1 _ _ _ systemKnown_c24) systemKnown_tab24
/-- system.surf: 1285 operations. -/
theorem systemKnown_c25 : (exFT evEnv systemKnownTab25 1000 60).1 38 systemKnownA25 = some systemKnownR25 := by kernel_rfl
def systemKnownA26 : List PV := [.agg [.v (.int .i64 65536), .v (.int .i64 65536), .v (.bool false)], .agg [.v (.int .i64 (-1966080)), .v (.int .i64 (-1966080)), .v (.bool false)]]
def systemKnownR26 : PV := .agg [.v (.int .i64 (-2185)), .v (.int .i64 (-2184)), .v (.bool false)]
def systemKnownTab26 : Tab := (38, systemKnownA25, systemKnownR25) :: systemKnownTab25
theorem systemKnown_tab26 : TabOk Tryz.prog systemKnownTab26 := tabOk_cons ((exFT_ok evEnv_ok systemKnown_tab25 1000 60).1 _ _ _ systemKnown_c25) systemKnown_tab25
/-- iv.Div: 1336 operations. -/
theorem systemKnown_c26 : (exFT evEnv systemKnownTab26 1000 60).1 13 systemKnownA26 = some systemKnownR26 := by kernel_rfl
def systemKnownA27 : List PV := [.agg [.v (.bool false), .v (.int .i64 (-30)), .v (.int .i64 0), .v (.int .i64 5), .v (.int .i64 0), .v (.int .i64 0), .v (.int .i64 0), .v (.int .i64 1), .v (.int .i64 0), .v (.int .i64 1), .v (.int .i64 0), .v (.int .i64 0), .v (.int .i64 0), .str [97, 105, 114]]]
def systemKnownR27 : PV := .agg [.v (.bool false), .v (.bool true), .v (.int .i64 (-2185)), .v (.int .i64 (-2184)), .v (.bool false), .v (.int .i64 131072), .v (.int .i64 131072), .v (.bool false), .v (.int .i64 65536), .v (.int .i64 65536), .v (.bool false), .v (.int .i64 0), .v (.int .i64 0), .v (.bool false), .v (.int .i64 0), .v (.int .i64 0), .v (.bool false), .v (.int .i64 1638400), .v (.int .i64 1638400), .v (.bool false), .v (.int .i64 65536), .v (.int .i64 65536), .v (.bool false)]
def systemKnownTab27 : Tab := (13, systemKnownA26, systemKnownR26) :: systemKnownTab26
theorem systemKnown_tab27 : TabOk Tryz.prog systemKnownTab27 := tabOk_cons ((exFT_ok evEnv_ok systemKnown_tab26 1000 60).1 _ _ _ systemKnown_c26) systemKnown_tab26
/-- system.surf: 1499 operations. -/
theorem systemKnown_c27 : (exFT evEnv systemKnownTab27 1000 60).1 38 systemKnownA27 = some systemKnownR27 := by kernel_rfl
def systemKnownA28 : List PV := [.agg [.v (.int .i64 99399), .v (.int .i64 99411), .v (.bool false)], .agg [.v (.int .i64 65536), .v (.int .i64 65536), .v (.bool false)]]
def systemKnownR28 : PV := .agg [.v (.int .i64 99399), .v (.int .i64 99411), .v (.bool false)]
def systemKnownTab28 : Tab := (38, systemKnownA27, systemKnownR27) :: systemKnownTab27
theorem systemKnown_tab28 : TabOk Tryz.prog systemKnownTab28 := tabOk_cons ((exFT_ok evEnv_ok systemKnown_tab27 1000 60).1 _ _ _ systemKnown_c27) systemKnown_tab27
/-- iv.Div: 1305 operations. -/
theorem systemKnown_c28 : (exFT evEnv systemKnownTab28 1000 60).1 13 systemKnownA28 = some systemKnownR28 := by kernel_rfl
def systemKnownA29 : List PV := [.agg [.str [97], .v (.int .i64 40), .v (.int .i64 0), .lst [[.v (.bool false), .v (.int .i64 30), .v (.int .i64 0), .v (.int .i64 5), .v (.int .i64 0), .v (.int .i64 1), .v (.int .i64 0), .v (.int .i64 0), .v (.int .i64 0), .v (.int .i64 0), .v (.int .i64 0), .v (.int .i64 0), .v (.int .i64 0), .str [99, 114, 111, 119, 110]], [.v (.bool true), .v (.int .i64 0), .v (.int .i64 0), .v (.int .i64 4), .v (.int .i64 0), .v (.int .i64 2), .v (.int .i64 0), .v (.int .i64 0), .v (.int .i64 0), .v (.int .i64 0), .v (.int .i64 0), .v (.int .i64 0), .v (.int .i64 0), .str []], [.v (.bool false), .v (.int .i64 (-30)), .v (.int .i64 0), .v (.int .i64 5), .v (.int .i64 0), .v (.int .i64 0), .v (.int .i64 0), .v (.int .i64 1), .v (.int .i64 0), .v (.int .i64 1), .v (.int .i64 0), .v (.int .i64 0), .v (.int .i64 0), .str [97, 105, 114]]]], .lst [[.str [99, 114, 111, 119, 110], .v (.int .i64 103961), .v (.int .i64 5), .v (.int .i64 23179), .v (.int .i64 5), .v (.int .i64 101047), .v (.int .i64 5), .v (.int .i64 6), .v (.int .i64 3), .v (.int .i64 2002), .v (.int .i64 5), .v (.int .i64 1035607), .v (.int .i64 4)], [.str [102, 108, 105, 110, 116], .v (.int .i64 17376), .v (.int .i64 4), .v (.int .i64 31375), .v (.int .i64 5), .v (.int .i64 189878), .v (.int .i64 5), .v (.int .i64 1319), .v (.int .i64 5), .v (.int .i64 6231), .v (.int .i64 5), .v (.int .i64 1552363), .v (.int .i64 4)]], .agg [.v (.int .i64 38508), .v (.int .i64 38509), .v (.bool false)]]
def systemKnownR29 : PV := .tup [.agg [.lst [[.v (.bool false), .v (.bool false), .v (.int .i64 2184), .v (.int .i64 2185), .v (.bool false), .v (.int .i64 65536), .v (.int .i64 65536), .v (.bool false), .v (.int .i64 0), .v (.int .i64 0), .v (.bool false), .v (.int .i64 0), .v (.int .i64 0), .v (.bool false), .v (.int .i64 2621440), .v (.int .i64 2621440), .v (.bool false), .v (.int .i64 1638400), .v (.int .i64 1638400), .v (.bool false), .v (.int .i64 43204), .v (.int .i64 43210), .v (.bool false)], [.v (.bool true), .v (.bool false), .v (.int .i64 0), .v (.int .i64 0), .v (.bool false), .v (.int .i64 65536), .v (.int .i64 65536), .v (.bool false), .v (.int .i64 0), .v (.int .i64 0), .v (.bool false), .v (.int .i64 0), .v (.int .i64 0), .v (.bool false), .v (.int .i64 2686976), .v (.int .i64 2686976), .v (.bool false), .v (.int .i64 1048576), .v (.int .i64 1048576), .v (.bool false), .v (.int .i64 65536), .v (.int .i64 65536), .v (.bool false)], [.v (.bool false), .v (.bool true), .v (.int .i64 (-2185)), .v (.int .i64 (-2184)), .v (.bool false), .v (.int .i64 131072), .v (.int .i64 131072), .v (.bool false), .v (.int .i64 65536), .v (.int .i64 65536), .v (.bool false), .v (.int .i64 0), .v (.int .i64 0), .v (.bool false), .v (.int .i64 2818048), .v (.int .i64 2818048), .v (.bool false), .v (.int .i64 1638400), .v (.int .i64 1638400), .v (.bool false), .v (.int .i64 99399), .v (.int .i64 99411), .v (.bool false)]], .v (.int .i64 327680), .v (.int .i64 327680), .v (.bool false)], .v (.int .i64 0)]
def systemKnownTab29 : Tab := (13, systemKnownA28, systemKnownR28) :: systemKnownTab28
theorem systemKnown_tab29 : TabOk Tryz.prog systemKnownTab29 := tabOk_cons ((exFT_ok evEnv_ok systemKnown_tab28 1000 60).1 _ _ _ systemKnown_c28) systemKnown_tab28
/-- system.Build: 1913 operations. -/
theorem systemKnown_c29 : (exFT evEnv systemKnownTab29 1000 60).1 9 systemKnownA29 = some systemKnownR29 := by kernel_rfl
def systemKnownA30 : List PV := [.agg [.v (.bool false), .v (.int .i64 30), .v (.int .i64 0), .v (.int .i64 5), .v (.int .i64 0), .v (.int .i64 1), .v (.int .i64 0), .v (.int .i64 0), .v (.int .i64 0), .v (.int .i64 0), .v (.int .i64 0), .v (.int .i64 0), .v (.int .i64 0), .str [99, 114, 111, 119, 110]], .nil]
def systemKnownR30 : PV := .v (.bool false)
def systemKnownTab30 : Tab := (9, systemKnownA29, systemKnownR29) :: systemKnownTab29
theorem systemKnown_tab30 : TabOk Tryz.prog systemKnownTab30 := tabOk_cons ((exFT_ok evEnv_ok systemKnown_tab29 1000 60).1 _ _ _ systemKnown_c29) systemKnown_tab29
/-- lens.rightFace: 1583 operations. -/
theorem systemKnown_c30 : (exFT evEnv systemKnownTab30 1000 60).1 56 systemKnownA30 = some systemKnownR30 := by kernel_rfl
def systemKnownA31 : List PV := [.agg [.str [99, 114, 111, 119, 110], .v (.int .i64 103961), .v (.int .i64 5), .v (.int .i64 23179), .v (.int .i64 5), .v (.int .i64 101047), .v (.int .i64 5), .v (.int .i64 6), .v (.int .i64 3), .v (.int .i64 2002), .v (.int .i64 5), .v (.int .i64 1035607), .v (.int .i64 4)], .agg [.v (.int .i64 0), .v (.int .i64 0), .v (.bool true)]]
def systemKnownR31 : PV := .agg [.v (.int .i64 0), .v (.int .i64 0), .v (.bool true)]
def systemKnownTab31 : Tab := (56, systemKnownA30, systemKnownR30) :: systemKnownTab30
theorem systemKnown_tab31 : TabOk Tryz.prog systemKnownTab31 := tabOk_cons ((exFT_ok evEnv_ok systemKnown_tab30 1000 60).1 _ _ _ systemKnown_c30) systemKnown_tab30
/-- glass.Index: 2347 operations. -/
theorem systemKnown_c31 : (exFT evEnv systemKnownTab31 1000 60).1 12 systemKnownA31 = some systemKnownR31 := by kernel_rfl
def systemKnownTab32 : Tab := (12, systemKnownA31, systemKnownR31) :: systemKnownTab31
theorem systemKnown_tab32 : TabOk Tryz.prog systemKnownTab32 := tabOk_cons ((exFT_ok evEnv_ok systemKnown_tab31 1000 60).1 _ _ _ systemKnown_c31) systemKnown_tab31
/-- The evaluation. -/
theorem systemKnown_run : (exFT evEnv systemKnownTab32 1000 60).1 3 [] = some (.v (.bool true)) := by kernel_rfl
end Go.Proofs.YtfihdolpljhhlaaGreatDoor
