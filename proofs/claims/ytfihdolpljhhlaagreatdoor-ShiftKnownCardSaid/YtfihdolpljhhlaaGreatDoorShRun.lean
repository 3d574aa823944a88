/- The evaluation of 'ShiftKnown', call by call, by Lean's kernel, in an evaluator that is proved sound for whatever memory. PRINTED by a program of this claim's author; Lean checks it. -/
import Derived.Test.YtfihdolpljhhlaaGreatDoorShEnv
namespace Go.Proofs.YtfihdolpljhhlaaGreatDoor
open Go.Ev

def shiftKnownA0 : List PV := [.agg [.v (.bool false), .v (.int .i64 40), .v (.int .i64 0), .v (.int .i64 8), .v (.int .i64 0), .v (.int .i64 3), .v (.int .i64 0), .v (.int .i64 0), .v (.int .i64 0), .v (.int .i64 0), .v (.int .i64 0), .v (.int .i64 0), .v (.int .i64 0), .str [99, 114, 111, 119, 110]], .lst [[.str [99, 114, 111, 119, 110], .v (.int .i64 103961), .v (.int .i64 5), .v (.int .i64 23179), .v (.int .i64 5), .v (.int .i64 101047), .v (.int .i64 5), .v (.int .i64 6), .v (.int .i64 3), .v (.int .i64 2002), .v (.int .i64 5), .v (.int .i64 1035607), .v (.int .i64 4)], [.str [102, 108, 105, 110, 116], .v (.int .i64 17376), .v (.int .i64 4), .v (.int .i64 31375), .v (.int .i64 5), .v (.int .i64 189878), .v (.int .i64 5), .v (.int .i64 1319), .v (.int .i64 5), .v (.int .i64 6231), .v (.int .i64 5), .v (.int .i64 1552363), .v (.int .i64 4)]]]
def shiftKnownR0 : PV := .v (.bool true)
def shiftKnownTab0 : Tab := []
theorem shiftKnown_tab0 : TabOk Tryz.prog shiftKnownTab0 := tabOk_nil
/-- lens.rightFace: 1613 operations. -/
theorem shiftKnown_c0 : (exFT evEnv shiftKnownTab0 1000 60).1 56 shiftKnownA0 = some shiftKnownR0 := by kernel_rfl
def shiftKnownA1 : List PV := [.agg [.v (.int .i64 65536), .v (.int .i64 65536), .v (.bool false)], .agg [.v (.int .i64 2621440), .v (.int .i64 2621440), .v (.bool false)]]
def shiftKnownR1 : PV := .agg [.v (.int .i64 1638), .v (.int .i64 1639), .v (.bool false)]
def shiftKnownTab1 : Tab := (56, shiftKnownA0, shiftKnownR0) :: shiftKnownTab0
theorem shiftKnown_tab1 : TabOk Tryz.prog shiftKnownTab1 := tabOk_cons ((exFT_ok evEnv_ok shiftKnown_tab0 1000 60).1 _ _ _ shiftKnown_c0) shiftKnown_tab0
/-- iv.Div: 1312 operations. -/
theorem shiftKnown_c1 : (exFT evEnv shiftKnownTab1 1000 60).1 13 shiftKnownA1 = some shiftKnownR1 := by kernel_rfl
def shiftKnownA2 : List PV := [.agg [.v (.bool false), .v (.int .i64 40), .v (.int .i64 0), .v (.int .i64 8), .v (.int .i64 0), .v (.int .i64 3), .v (.int .i64 0), .v (.int .i64 0), .v (.int .i64 0), .v (.int .i64 0), .v (.int .i64 0), .v (.int .i64 0), .v (.int .i64 0), .str [99, 114, 111, 119, 110]]]
def shiftKnownR2 : PV := .agg [.v (.bool false), .v (.bool false), .v (.int .i64 1638), .v (.int .i64 1639), .v (.bool false), .v (.int .i64 65536), .v (.int .i64 65536), .v (.bool false), .v (.int .i64 0), .v (.int .i64 0), .v (.bool false), .v (.int .i64 0), .v (.int .i64 0), .v (.bool false), .v (.int .i64 0), .v (.int .i64 0), .v (.bool false), .v (.int .i64 4194304), .v (.int .i64 4194304), .v (.bool false), .v (.int .i64 65536), .v (.int .i64 65536), .v (.bool false)]
def shiftKnownTab2 : Tab := (13, shiftKnownA1, shiftKnownR1) :: shiftKnownTab1
theorem shiftKnown_tab2 : TabOk Tryz.prog shiftKnownTab2 := tabOk_cons ((exFT_ok evEnv_ok shiftKnown_tab1 1000 60).1 _ _ _ shiftKnown_c1) shiftKnown_tab1
/-- system.surf: 1501 operations. -/
theorem shiftKnown_c2 : (exFT evEnv shiftKnownTab2 1000 60).1 38 shiftKnownA2 = some shiftKnownR2 := by kernel_rfl
def shiftKnownA3 : List PV := [.agg [.v (.int .i64 68131), .v (.int .i64 68132), .v (.bool false)], .agg [.v (.int .i64 15485), .v (.int .i64 15487), .v (.bool false)]]
def shiftKnownR3 : PV := .agg [.v (.int .i64 16098), .v (.int .i64 16101), .v (.bool false)]
def shiftKnownTab3 : Tab := (38, shiftKnownA2, shiftKnownR2) :: shiftKnownTab2
theorem shiftKnown_tab3 : TabOk Tryz.prog shiftKnownTab3 := tabOk_cons ((exFT_ok evEnv_ok shiftKnown_tab2 1000 60).1 _ _ _ shiftKnown_c2) shiftKnown_tab2
/-- iv.Mul: 1220 operations. -/
theorem shiftKnown_c3 : (exFT evEnv shiftKnownTab3 1000 60).1 43 shiftKnownA3 = some shiftKnownR3 := by kernel_rfl
def shiftKnownA4 : List PV := [.agg [.v (.int .i64 16098), .v (.int .i64 16101), .v (.bool false)], .agg [.v (.int .i64 15091), .v (.int .i64 15094), .v (.bool false)]]
def shiftKnownR4 : PV := .agg [.v (.int .i64 69895), .v (.int .i64 69923), .v (.bool false)]
def shiftKnownTab4 : Tab := (43, shiftKnownA3, shiftKnownR3) :: shiftKnownTab3
theorem shiftKnown_tab4 : TabOk Tryz.prog shiftKnownTab4 := tabOk_cons ((exFT_ok evEnv_ok shiftKnown_tab3 1000 60).1 _ _ _ shiftKnown_c3) shiftKnown_tab3
/-- iv.Div: 1312 operations. -/
theorem shiftKnown_c4 : (exFT evEnv shiftKnownTab4 1000 60).1 13 shiftKnownA4 = some shiftKnownR4 := by kernel_rfl
def shiftKnownA5 : List PV := [.agg [.v (.int .i64 15190), .v (.int .i64 15191), .v (.bool false)], .agg [.v (.int .i64 15485), .v (.int .i64 15487), .v (.bool false)]]
def shiftKnownR5 : PV := .agg [.v (.int .i64 3589), .v (.int .i64 3590), .v (.bool false)]
def shiftKnownTab5 : Tab := (13, shiftKnownA4, shiftKnownR4) :: shiftKnownTab4
theorem shiftKnown_tab5 : TabOk Tryz.prog shiftKnownTab5 := tabOk_cons ((exFT_ok evEnv_ok shiftKnown_tab4 1000 60).1 _ _ _ shiftKnown_c4) shiftKnown_tab4
/-- iv.Mul: 1220 operations. -/
theorem shiftKnown_c5 : (exFT evEnv shiftKnownTab5 1000 60).1 43 shiftKnownA5 = some shiftKnownR5 := by kernel_rfl
def shiftKnownA6 : List PV := [.agg [.v (.int .i64 3589), .v (.int .i64 3590), .v (.bool false)], .agg [.v (.int .i64 14172), .v (.int .i64 14175), .v (.bool false)]]
def shiftKnownR6 : PV := .agg [.v (.int .i64 16593), .v (.int .i64 16602), .v (.bool false)]
def shiftKnownTab6 : Tab := (43, shiftKnownA5, shiftKnownR5) :: shiftKnownTab5
theorem shiftKnown_tab6 : TabOk Tryz.prog shiftKnownTab6 := tabOk_cons ((exFT_ok evEnv_ok shiftKnown_tab5 1000 60).1 _ _ _ shiftKnown_c5) shiftKnown_tab5
/-- iv.Div: 1312 operations. -/
theorem shiftKnown_c6 : (exFT evEnv shiftKnownTab6 1000 60).1 13 shiftKnownA6 = some shiftKnownR6 := by kernel_rfl
def shiftKnownA7 : List PV := [.agg [.v (.int .i64 66222), .v (.int .i64 66223), .v (.bool false)], .agg [.v (.int .i64 15485), .v (.int .i64 15487), .v (.bool false)]]
def shiftKnownR7 : PV := .agg [.v (.int .i64 15647), .v (.int .i64 15650), .v (.bool false)]
def shiftKnownTab7 : Tab := (13, shiftKnownA6, shiftKnownR6) :: shiftKnownTab6
theorem shiftKnown_tab7 : TabOk Tryz.prog shiftKnownTab7 := tabOk_cons ((exFT_ok evEnv_ok shiftKnown_tab6 1000 60).1 _ _ _ shiftKnown_c6) shiftKnown_tab6
/-- iv.Mul: 1220 operations. -/
theorem shiftKnown_c7 : (exFT evEnv shiftKnownTab7 1000 60).1 43 shiftKnownA7 = some shiftKnownR7 := by kernel_rfl
def shiftKnownA8 : List PV := [.agg [.v (.int .i64 15647), .v (.int .i64 15650), .v (.bool false)], .agg [.v (.int .i64 (-6771470)), .v (.int .i64 (-6771467)), .v (.bool false)]]
def shiftKnownR8 : PV := .agg [.v (.int .i64 (-152)), .v (.int .i64 (-151)), .v (.bool false)]
def shiftKnownTab8 : Tab := (43, shiftKnownA7, shiftKnownR7) :: shiftKnownTab7
theorem shiftKnown_tab8 : TabOk Tryz.prog shiftKnownTab8 := tabOk_cons ((exFT_ok evEnv_ok shiftKnown_tab7 1000 60).1 _ _ _ shiftKnown_c7) shiftKnown_tab7
/-- iv.Div: 1336 operations. -/
theorem shiftKnown_c8 : (exFT evEnv shiftKnownTab8 1000 60).1 13 shiftKnownA8 = some shiftKnownR8 := by kernel_rfl
def shiftKnownA9 : List PV := [.agg [.v (.int .i64 151872), .v (.int .i64 151910), .v (.bool false)]]
def shiftKnownR9 : PV := .agg [.v (.int .i64 99765), .v (.int .i64 99778), .v (.bool false)]
def shiftKnownTab9 : Tab := (13, shiftKnownA8, shiftKnownR8) :: shiftKnownTab8
theorem shiftKnown_tab9 : TabOk Tryz.prog shiftKnownTab9 := tabOk_cons ((exFT_ok evEnv_ok shiftKnown_tab8 1000 60).1 _ _ _ shiftKnown_c8) shiftKnown_tab8
/-- iv.Root: 980 operations. -/
theorem shiftKnown_c9 : (exFT evEnv shiftKnownTab9 1000 60).1 45 shiftKnownA9 = some shiftKnownR9 := by kernel_rfl
def shiftKnownA10 : List PV := [.agg [.str [99, 114, 111, 119, 110], .v (.int .i64 103961), .v (.int .i64 5), .v (.int .i64 23179), .v (.int .i64 5), .v (.int .i64 101047), .v (.int .i64 5), .v (.int .i64 6), .v (.int .i64 3), .v (.int .i64 2002), .v (.int .i64 5), .v (.int .i64 1035607), .v (.int .i64 4)], .agg [.v (.int .i64 31857), .v (.int .i64 31858), .v (.bool false)]]
def shiftKnownR10 : PV := .agg [.v (.int .i64 99765), .v (.int .i64 99778), .v (.bool false)]
def shiftKnownTab10 : Tab := (45, shiftKnownA9, shiftKnownR9) :: shiftKnownTab9
theorem shiftKnown_tab10 : TabOk Tryz.prog shiftKnownTab10 := tabOk_cons ((exFT_ok evEnv_ok shiftKnown_tab9 1000 60).1 _ _ _ shiftKnown_c9) shiftKnown_tab9
/-- glass.Index: 2801 operations. -/
theorem shiftKnown_c10 : (exFT evEnv shiftKnownTab10 1000 60).1 12 shiftKnownA10 = some shiftKnownR10 := by kernel_rfl
def shiftKnownA11 : List PV := [.agg [.v (.int .i64 65536), .v (.int .i64 65536), .v (.bool false)], .agg [.v (.int .i64 99765), .v (.int .i64 99778), .v (.bool false)]]
def shiftKnownR11 : PV := .agg [.v (.int .i64 43045), .v (.int .i64 43051), .v (.bool false)]
def shiftKnownTab11 : Tab := (12, shiftKnownA10, shiftKnownR10) :: shiftKnownTab10
theorem shiftKnown_tab11 : TabOk Tryz.prog shiftKnownTab11 := tabOk_cons ((exFT_ok evEnv_ok shiftKnown_tab10 1000 60).1 _ _ _ shiftKnown_c10) shiftKnown_tab10
/-- iv.Div: 1317 operations. -/
theorem shiftKnown_c11 : (exFT evEnv shiftKnownTab11 1000 60).1 13 shiftKnownA11 = some shiftKnownR11 := by kernel_rfl
def shiftKnownA12 : List PV := [.agg [.str [120, 48], .v (.int .i64 20), .v (.int .i64 0), .lst [[.v (.bool false), .v (.int .i64 40), .v (.int .i64 0), .v (.int .i64 8), .v (.int .i64 0), .v (.int .i64 3), .v (.int .i64 0), .v (.int .i64 0), .v (.int .i64 0), .v (.int .i64 0), .v (.int .i64 0), .v (.int .i64 0), .v (.int .i64 0), .str [99, 114, 111, 119, 110]]]], .lst [[.str [99, 114, 111, 119, 110], .v (.int .i64 103961), .v (.int .i64 5), .v (.int .i64 23179), .v (.int .i64 5), .v (.int .i64 101047), .v (.int .i64 5), .v (.int .i64 6), .v (.int .i64 3), .v (.int .i64 2002), .v (.int .i64 5), .v (.int .i64 1035607), .v (.int .i64 4)], [.str [102, 108, 105, 110, 116], .v (.int .i64 17376), .v (.int .i64 4), .v (.int .i64 31375), .v (.int .i64 5), .v (.int .i64 189878), .v (.int .i64 5), .v (.int .i64 1319), .v (.int .i64 5), .v (.int .i64 6231), .v (.int .i64 5), .v (.int .i64 1552363), .v (.int .i64 4)]], .agg [.v (.int .i64 31857), .v (.int .i64 31858), .v (.bool false)]]
def shiftKnownR12 : PV := .tup [.agg [.lst [[.v (.bool false), .v (.bool false), .v (.int .i64 1638), .v (.int .i64 1639), .v (.bool false), .v (.int .i64 65536), .v (.int .i64 65536), .v (.bool false), .v (.int .i64 0), .v (.int .i64 0), .v (.bool false), .v (.int .i64 0), .v (.int .i64 0), .v (.bool false), .v (.int .i64 1310720), .v (.int .i64 1310720), .v (.bool false), .v (.int .i64 4194304), .v (.int .i64 4194304), .v (.bool false), .v (.int .i64 43045), .v (.int .i64 43051), .v (.bool false)]], .v (.int .i64 524288), .v (.int .i64 524288), .v (.bool false)], .v (.int .i64 0)]
def shiftKnownTab12 : Tab := (13, shiftKnownA11, shiftKnownR11) :: shiftKnownTab11
theorem shiftKnown_tab12 : TabOk Tryz.prog shiftKnownTab12 := tabOk_cons ((exFT_ok evEnv_ok shiftKnown_tab11 1000 60).1 _ _ _ shiftKnown_c11) shiftKnown_tab11
/-- system.Build: 1459 operations. -/
theorem shiftKnown_c12 : (exFT evEnv shiftKnownTab12 1000 60).1 9 shiftKnownA12 = some shiftKnownR12 := by kernel_rfl
def shiftKnownA13 : List PV := [.agg [.v (.int .i64 43045), .v (.int .i64 43051), .v (.bool false)], .agg [.v (.int .i64 0), .v (.int .i64 0), .v (.bool false)]]
def shiftKnownR13 : PV := .agg [.v (.int .i64 0), .v (.int .i64 0), .v (.bool false)]
def shiftKnownTab13 : Tab := (9, shiftKnownA12, shiftKnownR12) :: shiftKnownTab12
theorem shiftKnown_tab13 : TabOk Tryz.prog shiftKnownTab13 := tabOk_cons ((exFT_ok evEnv_ok shiftKnown_tab12 1000 60).1 _ _ _ shiftKnown_c12) shiftKnown_tab12
/-- iv.Mul: 1237 operations. -/
theorem shiftKnown_c13 : (exFT evEnv shiftKnownTab13 1000 60).1 43 shiftKnownA13 = some shiftKnownR13 := by kernel_rfl
def shiftKnownA14 : List PV := [.agg [.v (.int .i64 65536), .v (.int .i64 65536), .v (.bool false)], .agg [.v (.int .i64 1638), .v (.int .i64 1639), .v (.bool false)]]
def shiftKnownR14 : PV := .agg [.v (.int .i64 1638), .v (.int .i64 1639), .v (.bool false)]
def shiftKnownTab14 : Tab := (43, shiftKnownA13, shiftKnownR13) :: shiftKnownTab13
theorem shiftKnown_tab14 : TabOk Tryz.prog shiftKnownTab14 := tabOk_cons ((exFT_ok evEnv_ok shiftKnown_tab13 1000 60).1 _ _ _ shiftKnown_c13) shiftKnown_tab13
/-- iv.Mul: 1208 operations. -/
theorem shiftKnown_c14 : (exFT evEnv shiftKnownTab14 1000 60).1 43 shiftKnownA14 = some shiftKnownR14 := by kernel_rfl
def shiftKnownA15 : List PV := [.agg [.v (.int .i64 1638), .v (.int .i64 1639), .v (.bool false)], .agg [.v (.int .i64 22485), .v (.int .i64 22491), .v (.bool false)]]
def shiftKnownR15 : PV := .agg [.v (.int .i64 561), .v (.int .i64 563), .v (.bool false)]
def shiftKnownTab15 : Tab := (43, shiftKnownA14, shiftKnownR14) :: shiftKnownTab14
theorem shiftKnown_tab15 : TabOk Tryz.prog shiftKnownTab15 := tabOk_cons ((exFT_ok evEnv_ok shiftKnown_tab14 1000 60).1 _ _ _ shiftKnown_c14) shiftKnown_tab14
/-- iv.Mul: 1220 operations. -/
theorem shiftKnown_c15 : (exFT evEnv shiftKnownTab15 1000 60).1 43 shiftKnownA15 = some shiftKnownR15 := by kernel_rfl
def shiftKnownA16 : List PV := [.agg [.v (.int .i64 65536), .v (.int .i64 65536), .v (.bool false)], .agg [.v (.int .i64 (-563)), .v (.int .i64 (-561)), .v (.bool false)]]
def shiftKnownR16 : PV := .agg [.v (.int .i64 (-7655914)), .v (.int .i64 (-7628716)), .v (.bool false)]
def shiftKnownTab16 : Tab := (43, shiftKnownA15, shiftKnownR15) :: shiftKnownTab15
theorem shiftKnown_tab16 : TabOk Tryz.prog shiftKnownTab16 := tabOk_cons ((exFT_ok evEnv_ok shiftKnown_tab15 1000 60).1 _ _ _ shiftKnown_c15) shiftKnown_tab15
/-- iv.Div: 1357 operations. -/
theorem shiftKnown_c16 : (exFT evEnv shiftKnownTab16 1000 60).1 13 shiftKnownA16 = some shiftKnownR16 := by kernel_rfl
def shiftKnownA17 : List PV := [.agg [.v (.int .i64 7628716), .v (.int .i64 7655914), .v (.bool false)], .agg [.v (.int .i64 1048576), .v (.int .i64 1048576), .v (.bool false)]]
def shiftKnownR17 : PV := .agg [.v (.int .i64 476794), .v (.int .i64 478495), .v (.bool false)]
def shiftKnownTab17 : Tab := (13, shiftKnownA16, shiftKnownR16) :: shiftKnownTab16
theorem shiftKnown_tab17 : TabOk Tryz.prog shiftKnownTab17 := tabOk_cons ((exFT_ok evEnv_ok shiftKnown_tab16 1000 60).1 _ _ _ shiftKnown_c16) shiftKnown_tab16
/-- iv.Div: 1312 operations. -/
theorem shiftKnown_c17 : (exFT evEnv shiftKnownTab17 1000 60).1 13 shiftKnownA17 = some shiftKnownR17 := by kernel_rfl
def shiftKnownA18 : List PV := [.agg [.lst [[.v (.bool false), .v (.bool false), .v (.int .i64 1638), .v (.int .i64 1639), .v (.bool false), .v (.int .i64 65536), .v (.int .i64 65536), .v (.bool false), .v (.int .i64 0), .v (.int .i64 0), .v (.bool false), .v (.int .i64 0), .v (.int .i64 0), .v (.bool false), .v (.int .i64 1310720), .v (.int .i64 1310720), .v (.bool false), .v (.int .i64 4194304), .v (.int .i64 4194304), .v (.bool false), .v (.int .i64 43045), .v (.int .i64 43051), .v (.bool false)]], .v (.int .i64 524288), .v (.int .i64 524288), .v (.bool false)]]
def shiftKnownR18 : PV := .agg [.v (.int .i64 7628716), .v (.int .i64 7655914), .v (.bool false), .v (.int .i64 7628716), .v (.int .i64 7655914), .v (.bool false), .v (.int .i64 (-27198)), .v (.int .i64 27198), .v (.bool false), .v (.int .i64 476794), .v (.int .i64 478495), .v (.bool false)]
def shiftKnownTab18 : Tab := (13, shiftKnownA17, shiftKnownR17) :: shiftKnownTab17
theorem shiftKnown_tab18 : TabOk Tryz.prog shiftKnownTab18 := tabOk_cons ((exFT_ok evEnv_ok shiftKnown_tab17 1000 60).1 _ _ _ shiftKnown_c17) shiftKnown_tab17
/-- parax.Of: 1274 operations. -/
theorem shiftKnown_c18 : (exFT evEnv shiftKnownTab18 1000 60).1 53 shiftKnownA18 = some shiftKnownR18 := by kernel_rfl
def shiftKnownA19 : List PV := [.agg [.v (.int .i64 68131), .v (.int .i64 68132), .v (.bool false)], .agg [.v (.int .i64 28227), .v (.int .i64 28230), .v (.bool false)]]
def shiftKnownR19 : PV := .agg [.v (.int .i64 29344), .v (.int .i64 29349), .v (.bool false)]
def shiftKnownTab19 : Tab := (53, shiftKnownA18, shiftKnownR18) :: shiftKnownTab18
theorem shiftKnown_tab19 : TabOk Tryz.prog shiftKnownTab19 := tabOk_cons ((exFT_ok evEnv_ok shiftKnown_tab18 1000 60).1 _ _ _ shiftKnown_c18) shiftKnown_tab18
/-- iv.Mul: 1220 operations. -/
theorem shiftKnown_c19 : (exFT evEnv shiftKnownTab19 1000 60).1 43 shiftKnownA19 = some shiftKnownR19 := by kernel_rfl
def shiftKnownA20 : List PV := [.agg [.v (.int .i64 29344), .v (.int .i64 29349), .v (.bool false)], .agg [.v (.int .i64 27833), .v (.int .i64 27837), .v (.bool false)]]
def shiftKnownR20 : PV := .agg [.v (.int .i64 69083), .v (.int .i64 69106), .v (.bool false)]
def shiftKnownTab20 : Tab := (43, shiftKnownA19, shiftKnownR19) :: shiftKnownTab19
theorem shiftKnown_tab20 : TabOk Tryz.prog shiftKnownTab20 := tabOk_cons ((exFT_ok evEnv_ok shiftKnown_tab19 1000 60).1 _ _ _ shiftKnown_c19) shiftKnown_tab19
/-- iv.Div: 1312 operations. -/
theorem shiftKnown_c20 : (exFT evEnv shiftKnownTab20 1000 60).1 13 shiftKnownA20 = some shiftKnownR20 := by kernel_rfl
def shiftKnownA21 : List PV := [.agg [.v (.int .i64 15190), .v (.int .i64 15191), .v (.bool false)], .agg [.v (.int .i64 28227), .v (.int .i64 28230), .v (.bool false)]]
def shiftKnownR21 : PV := .agg [.v (.int .i64 6542), .v (.int .i64 6544), .v (.bool false)]
def shiftKnownTab21 : Tab := (13, shiftKnownA20, shiftKnownR20) :: shiftKnownTab20
theorem shiftKnown_tab21 : TabOk Tryz.prog shiftKnownTab21 := tabOk_cons ((exFT_ok evEnv_ok shiftKnown_tab20 1000 60).1 _ _ _ shiftKnown_c20) shiftKnown_tab20
/-- iv.Mul: 1220 operations. -/
theorem shiftKnown_c21 : (exFT evEnv shiftKnownTab21 1000 60).1 43 shiftKnownA21 = some shiftKnownR21 := by kernel_rfl
def shiftKnownA22 : List PV := [.agg [.v (.int .i64 6542), .v (.int .i64 6544), .v (.bool false)], .agg [.v (.int .i64 26914), .v (.int .i64 26918), .v (.bool false)]]
def shiftKnownR22 : PV := .agg [.v (.int .i64 15927), .v (.int .i64 15935), .v (.bool false)]
def shiftKnownTab22 : Tab := (43, shiftKnownA21, shiftKnownR21) :: shiftKnownTab21
theorem shiftKnown_tab22 : TabOk Tryz.prog shiftKnownTab22 := tabOk_cons ((exFT_ok evEnv_ok shiftKnown_tab21 1000 60).1 _ _ _ shiftKnown_c21) shiftKnown_tab21
/-- iv.Div: 1312 operations. -/
theorem shiftKnown_c22 : (exFT evEnv shiftKnownTab22 1000 60).1 13 shiftKnownA22 = some shiftKnownR22 := by kernel_rfl
def shiftKnownA23 : List PV := [.agg [.v (.int .i64 66222), .v (.int .i64 66223), .v (.bool false)], .agg [.v (.int .i64 28227), .v (.int .i64 28230), .v (.bool false)]]
def shiftKnownR23 : PV := .agg [.v (.int .i64 28522), .v (.int .i64 28526), .v (.bool false)]
def shiftKnownTab23 : Tab := (13, shiftKnownA22, shiftKnownR22) :: shiftKnownTab22
theorem shiftKnown_tab23 : TabOk Tryz.prog shiftKnownTab23 := tabOk_cons ((exFT_ok evEnv_ok shiftKnown_tab22 1000 60).1 _ _ _ shiftKnown_c22) shiftKnown_tab22
/-- iv.Mul: 1220 operations. -/
theorem shiftKnown_c23 : (exFT evEnv shiftKnownTab23 1000 60).1 43 shiftKnownA23 = some shiftKnownR23 := by kernel_rfl
def shiftKnownA24 : List PV := [.agg [.v (.int .i64 28522), .v (.int .i64 28526), .v (.bool false)], .agg [.v (.int .i64 (-6758728)), .v (.int .i64 (-6758724)), .v (.bool false)]]
def shiftKnownR24 : PV := .agg [.v (.int .i64 (-277)), .v (.int .i64 (-276)), .v (.bool false)]
def shiftKnownTab24 : Tab := (43, shiftKnownA23, shiftKnownR23) :: shiftKnownTab23
theorem shiftKnown_tab24 : TabOk Tryz.prog shiftKnownTab24 := tabOk_cons ((exFT_ok evEnv_ok shiftKnown_tab23 1000 60).1 _ _ _ shiftKnown_c23) shiftKnown_tab23
/-- iv.Div: 1336 operations. -/
theorem shiftKnown_c24 : (exFT evEnv shiftKnownTab24 1000 60).1 13 shiftKnownA24 = some shiftKnownR24 := by kernel_rfl
def shiftKnownA25 : List PV := [.agg [.v (.int .i64 150269), .v (.int .i64 150301), .v (.bool false)]]
def shiftKnownR25 : PV := .agg [.v (.int .i64 99237), .v (.int .i64 99248), .v (.bool false)]
def shiftKnownTab25 : Tab := (13, shiftKnownA24, shiftKnownR24) :: shiftKnownTab24
theorem shiftKnown_tab25 : TabOk Tryz.prog shiftKnownTab25 := tabOk_cons ((exFT_ok evEnv_ok shiftKnown_tab24 1000 60).1 _ _ _ shiftKnown_c24) shiftKnown_tab24
/-- iv.Root: 984 operations. -/
theorem shiftKnown_c25 : (exFT evEnv shiftKnownTab25 1000 60).1 45 shiftKnownA25 = some shiftKnownR25 := by kernel_rfl
def shiftKnownA26 : List PV := [.agg [.str [99, 114, 111, 119, 110], .v (.int .i64 103961), .v (.int .i64 5), .v (.int .i64 23179), .v (.int .i64 5), .v (.int .i64 101047), .v (.int .i64 5), .v (.int .i64 6), .v (.int .i64 3), .v (.int .i64 2002), .v (.int .i64 5), .v (.int .i64 1035607), .v (.int .i64 4)], .agg [.v (.int .i64 43011), .v (.int .i64 43012), .v (.bool false)]]
def shiftKnownR26 : PV := .agg [.v (.int .i64 99237), .v (.int .i64 99248), .v (.bool false)]
def shiftKnownTab26 : Tab := (45, shiftKnownA25, shiftKnownR25) :: shiftKnownTab25
theorem shiftKnown_tab26 : TabOk Tryz.prog shiftKnownTab26 := tabOk_cons ((exFT_ok evEnv_ok shiftKnown_tab25 1000 60).1 _ _ _ shiftKnown_c25) shiftKnown_tab25
/-- glass.Index: 2801 operations. -/
theorem shiftKnown_c26 : (exFT evEnv shiftKnownTab26 1000 60).1 12 shiftKnownA26 = some shiftKnownR26 := by kernel_rfl
def shiftKnownA27 : List PV := [.agg [.v (.int .i64 65536), .v (.int .i64 65536), .v (.bool false)], .agg [.v (.int .i64 99237), .v (.int .i64 99248), .v (.bool false)]]
def shiftKnownR27 : PV := .agg [.v (.int .i64 43275), .v (.int .i64 43280), .v (.bool false)]
def shiftKnownTab27 : Tab := (12, shiftKnownA26, shiftKnownR26) :: shiftKnownTab26
theorem shiftKnown_tab27 : TabOk Tryz.prog shiftKnownTab27 := tabOk_cons ((exFT_ok evEnv_ok shiftKnown_tab26 1000 60).1 _ _ _ shiftKnown_c26) shiftKnown_tab26
/-- iv.Div: 1317 operations. -/
theorem shiftKnown_c27 : (exFT evEnv shiftKnownTab27 1000 60).1 13 shiftKnownA27 = some shiftKnownR27 := by kernel_rfl
def shiftKnownA28 : List PV := [.agg [.str [120, 48], .v (.int .i64 20), .v (.int .i64 0), .lst [[.v (.bool false), .v (.int .i64 40), .v (.int .i64 0), .v (.int .i64 8), .v (.int .i64 0), .v (.int .i64 3), .v (.int .i64 0), .v (.int .i64 0), .v (.int .i64 0), .v (.int .i64 0), .v (.int .i64 0), .v (.int .i64 0), .v (.int .i64 0), .str [99, 114, 111, 119, 110]]]], .lst [[.str [99, 114, 111, 119, 110], .v (.int .i64 103961), .v (.int .i64 5), .v (.int .i64 23179), .v (.int .i64 5), .v (.int .i64 101047), .v (.int .i64 5), .v (.int .i64 6), .v (.int .i64 3), .v (.int .i64 2002), .v (.int .i64 5), .v (.int .i64 1035607), .v (.int .i64 4)], [.str [102, 108, 105, 110, 116], .v (.int .i64 17376), .v (.int .i64 4), .v (.int .i64 31375), .v (.int .i64 5), .v (.int .i64 189878), .v (.int .i64 5), .v (.int .i64 1319), .v (.int .i64 5), .v (.int .i64 6231), .v (.int .i64 5), .v (.int .i64 1552363), .v (.int .i64 4)]], .agg [.v (.int .i64 43011), .v (.int .i64 43012), .v (.bool false)]]
def shiftKnownR28 : PV := .tup [.agg [.lst [[.v (.bool false), .v (.bool false), .v (.int .i64 1638), .v (.int .i64 1639), .v (.bool false), .v (.int .i64 65536), .v (.int .i64 65536), .v (.bool false), .v (.int .i64 0), .v (.int .i64 0), .v (.bool false), .v (.int .i64 0), .v (.int .i64 0), .v (.bool false), .v (.int .i64 1310720), .v (.int .i64 1310720), .v (.bool false), .v (.int .i64 4194304), .v (.int .i64 4194304), .v (.bool false), .v (.int .i64 43275), .v (.int .i64 43280), .v (.bool false)]], .v (.int .i64 524288), .v (.int .i64 524288), .v (.bool false)], .v (.int .i64 0)]
def shiftKnownTab28 : Tab := (13, shiftKnownA27, shiftKnownR27) :: shiftKnownTab27
theorem shiftKnown_tab28 : TabOk Tryz.prog shiftKnownTab28 := tabOk_cons ((exFT_ok evEnv_ok shiftKnown_tab27 1000 60).1 _ _ _ shiftKnown_c27) shiftKnown_tab27
/-- system.Build: 1459 operations. -/
theorem shiftKnown_c28 : (exFT evEnv shiftKnownTab28 1000 60).1 9 shiftKnownA28 = some shiftKnownR28 := by kernel_rfl
def shiftKnownA29 : List PV := [.agg [.v (.int .i64 43275), .v (.int .i64 43280), .v (.bool false)], .agg [.v (.int .i64 0), .v (.int .i64 0), .v (.bool false)]]
def shiftKnownR29 : PV := .agg [.v (.int .i64 0), .v (.int .i64 0), .v (.bool false)]
def shiftKnownTab29 : Tab := (9, shiftKnownA28, shiftKnownR28) :: shiftKnownTab28
theorem shiftKnown_tab29 : TabOk Tryz.prog shiftKnownTab29 := tabOk_cons ((exFT_ok evEnv_ok shiftKnown_tab28 1000 60).1 _ _ _ shiftKnown_c28) shiftKnown_tab28
/-- iv.Mul: 1237 operations. -/
theorem shiftKnown_c29 : (exFT evEnv shiftKnownTab29 1000 60).1 43 shiftKnownA29 = some shiftKnownR29 := by kernel_rfl
def shiftKnownA30 : List PV := [.agg [.v (.int .i64 1638), .v (.int .i64 1639), .v (.bool false)], .agg [.v (.int .i64 22256), .v (.int .i64 22261), .v (.bool false)]]
def shiftKnownR30 : PV := .agg [.v (.int .i64 556), .v (.int .i64 557), .v (.bool false)]
def shiftKnownTab30 : Tab := (43, shiftKnownA29, shiftKnownR29) :: shiftKnownTab29
theorem shiftKnown_tab30 : TabOk Tryz.prog shiftKnownTab30 := tabOk_cons ((exFT_ok evEnv_ok shiftKnown_tab29 1000 60).1 _ _ _ shiftKnown_c29) shiftKnown_tab29
/-- iv.Mul: 1220 operations. -/
theorem shiftKnown_c30 : (exFT evEnv shiftKnownTab30 1000 60).1 43 shiftKnownA30 = some shiftKnownR30 := by kernel_rfl
def shiftKnownA31 : List PV := [.agg [.v (.int .i64 65536), .v (.int .i64 65536), .v (.bool false)], .agg [.v (.int .i64 (-557)), .v (.int .i64 (-556)), .v (.bool false)]]
def shiftKnownR31 : PV := .agg [.v (.int .i64 (-7724762)), .v (.int .i64 (-7710892)), .v (.bool false)]
def shiftKnownTab31 : Tab := (43, shiftKnownA30, shiftKnownR30) :: shiftKnownTab30
theorem shiftKnown_tab31 : TabOk Tryz.prog shiftKnownTab31 := tabOk_cons ((exFT_ok evEnv_ok shiftKnown_tab30 1000 60).1 _ _ _ shiftKnown_c30) shiftKnown_tab30
/-- iv.Div: 1357 operations. -/
theorem shiftKnown_c31 : (exFT evEnv shiftKnownTab31 1000 60).1 13 shiftKnownA31 = some shiftKnownR31 := by kernel_rfl
def shiftKnownA32 : List PV := [.agg [.v (.int .i64 7710892), .v (.int .i64 7724762), .v (.bool false)], .agg [.v (.int .i64 1048576), .v (.int .i64 1048576), .v (.bool false)]]
def shiftKnownR32 : PV := .agg [.v (.int .i64 481930), .v (.int .i64 482798), .v (.bool false)]
def shiftKnownTab32 : Tab := (13, shiftKnownA31, shiftKnownR31) :: shiftKnownTab31
theorem shiftKnown_tab32 : TabOk Tryz.prog shiftKnownTab32 := tabOk_cons ((exFT_ok evEnv_ok shiftKnown_tab31 1000 60).1 _ _ _ shiftKnown_c31) shiftKnown_tab31
/-- iv.Div: 1312 operations. -/
theorem shiftKnown_c32 : (exFT evEnv shiftKnownTab32 1000 60).1 13 shiftKnownA32 = some shiftKnownR32 := by kernel_rfl
def shiftKnownA33 : List PV := [.agg [.lst [[.v (.bool false), .v (.bool false), .v (.int .i64 1638), .v (.int .i64 1639), .v (.bool false), .v (.int .i64 65536), .v (.int .i64 65536), .v (.bool false), .v (.int .i64 0), .v (.int .i64 0), .v (.bool false), .v (.int .i64 0), .v (.int .i64 0), .v (.bool false), .v (.int .i64 1310720), .v (.int .i64 1310720), .v (.bool false), .v (.int .i64 4194304), .v (.int .i64 4194304), .v (.bool false), .v (.int .i64 43275), .v (.int .i64 43280), .v (.bool false)]], .v (.int .i64 524288), .v (.int .i64 524288), .v (.bool false)]]
def shiftKnownR33 : PV := .agg [.v (.int .i64 7710892), .v (.int .i64 7724762), .v (.bool false), .v (.int .i64 7710892), .v (.int .i64 7724762), .v (.bool false), .v (.int .i64 (-13870)), .v (.int .i64 13870), .v (.bool false), .v (.int .i64 481930), .v (.int .i64 482798), .v (.bool false)]
def shiftKnownTab33 : Tab := (13, shiftKnownA32, shiftKnownR32) :: shiftKnownTab32
theorem shiftKnown_tab33 : TabOk Tryz.prog shiftKnownTab33 := tabOk_cons ((exFT_ok evEnv_ok shiftKnown_tab32 1000 60).1 _ _ _ shiftKnown_c32) shiftKnown_tab32
/-- parax.Of: 1274 operations. -/
theorem shiftKnown_c33 : (exFT evEnv shiftKnownTab33 1000 60).1 53 shiftKnownA33 = some shiftKnownR33 := by kernel_rfl
def shiftKnownA34 : List PV := [.agg [.v (.bool false), .v (.int .i64 40), .v (.int .i64 0), .v (.int .i64 8), .v (.int .i64 0), .v (.int .i64 3), .v (.int .i64 0), .v (.int .i64 0), .v (.int .i64 0), .v (.int .i64 0), .v (.int .i64 0), .v (.int .i64 0), .v (.int .i64 0), .str [99, 114, 111, 119, 110]], .nil]
def shiftKnownR34 : PV := .v (.bool false)
def shiftKnownTab34 : Tab := (53, shiftKnownA33, shiftKnownR33) :: shiftKnownTab33
theorem shiftKnown_tab34 : TabOk Tryz.prog shiftKnownTab34 := tabOk_cons ((exFT_ok evEnv_ok shiftKnown_tab33 1000 60).1 _ _ _ shiftKnown_c33) shiftKnown_tab33
/-- lens.rightFace: 1605 operations. -/
theorem shiftKnown_c34 : (exFT evEnv shiftKnownTab34 1000 60).1 56 shiftKnownA34 = some shiftKnownR34 := by kernel_rfl
def shiftKnownA35 : List PV := [.agg [.str [120, 48], .v (.int .i64 20), .v (.int .i64 0), .lst [[.v (.bool false), .v (.int .i64 40), .v (.int .i64 0), .v (.int .i64 8), .v (.int .i64 0), .v (.int .i64 3), .v (.int .i64 0), .v (.int .i64 0), .v (.int .i64 0), .v (.int .i64 0), .v (.int .i64 0), .v (.int .i64 0), .v (.int .i64 0), .str [99, 114, 111, 119, 110]]]], .nil]
def shiftKnownR35 : PV := .tup [.agg [.v (.int .i64 0), .v (.int .i64 0), .v (.bool false)], .v (.int .i64 1)]
def shiftKnownTab35 : Tab := (56, shiftKnownA34, shiftKnownR34) :: shiftKnownTab34
theorem shiftKnown_tab35 : TabOk Tryz.prog shiftKnownTab35 := tabOk_cons ((exFT_ok evEnv_ok shiftKnown_tab34 1000 60).1 _ _ _ shiftKnown_c34) shiftKnown_tab34
/-- shift.Colour: 990 operations. -/
theorem shiftKnown_c35 : (exFT evEnv shiftKnownTab35 1000 60).1 18 shiftKnownA35 = some shiftKnownR35 := by kernel_rfl
def shiftKnownA36 : List PV := [.agg [.v (.int .i64 68131), .v (.int .i64 68132), .v (.bool false)], .agg [.v (.int .i64 22626), .v (.int .i64 22628), .v (.bool false)]]
def shiftKnownR36 : PV := .agg [.v (.int .i64 23521), .v (.int .i64 23525), .v (.bool false)]
def shiftKnownTab36 : Tab := (18, shiftKnownA35, shiftKnownR35) :: shiftKnownTab35
theorem shiftKnown_tab36 : TabOk Tryz.prog shiftKnownTab36 := tabOk_cons ((exFT_ok evEnv_ok shiftKnown_tab35 1000 60).1 _ _ _ shiftKnown_c35) shiftKnown_tab35
/-- iv.Mul: 1220 operations. -/
theorem shiftKnown_c36 : (exFT evEnv shiftKnownTab36 1000 60).1 43 shiftKnownA36 = some shiftKnownR36 := by kernel_rfl
def shiftKnownA37 : List PV := [.agg [.v (.int .i64 23521), .v (.int .i64 23525), .v (.bool false)], .agg [.v (.int .i64 22232), .v (.int .i64 22235), .v (.bool false)]]
def shiftKnownR37 : PV := .agg [.v (.int .i64 69326), .v (.int .i64 69348), .v (.bool false)]
def shiftKnownTab37 : Tab := (43, shiftKnownA36, shiftKnownR36) :: shiftKnownTab36
theorem shiftKnown_tab37 : TabOk Tryz.prog shiftKnownTab37 := tabOk_cons ((exFT_ok evEnv_ok shiftKnown_tab36 1000 60).1 _ _ _ shiftKnown_c36) shiftKnown_tab36
/-- iv.Div: 1312 operations. -/
theorem shiftKnown_c37 : (exFT evEnv shiftKnownTab37 1000 60).1 13 shiftKnownA37 = some shiftKnownR37 := by kernel_rfl
def shiftKnownA38 : List PV := [.agg [.v (.int .i64 15190), .v (.int .i64 15191), .v (.bool false)], .agg [.v (.int .i64 22626), .v (.int .i64 22628), .v (.bool false)]]
def shiftKnownR38 : PV := .agg [.v (.int .i64 5244), .v (.int .i64 5246), .v (.bool false)]
def shiftKnownTab38 : Tab := (13, shiftKnownA37, shiftKnownR37) :: shiftKnownTab37
theorem shiftKnown_tab38 : TabOk Tryz.prog shiftKnownTab38 := tabOk_cons ((exFT_ok evEnv_ok shiftKnown_tab37 1000 60).1 _ _ _ shiftKnown_c37) shiftKnown_tab37
/-- iv.Mul: 1220 operations. -/
theorem shiftKnown_c38 : (exFT evEnv shiftKnownTab38 1000 60).1 43 shiftKnownA38 = some shiftKnownR38 := by kernel_rfl
def shiftKnownA39 : List PV := [.agg [.v (.int .i64 5244), .v (.int .i64 5246), .v (.bool false)], .agg [.v (.int .i64 21313), .v (.int .i64 21316), .v (.bool false)]]
def shiftKnownR39 : PV := .agg [.v (.int .i64 16122), .v (.int .i64 16132), .v (.bool false)]
def shiftKnownTab39 : Tab := (43, shiftKnownA38, shiftKnownR38) :: shiftKnownTab38
theorem shiftKnown_tab39 : TabOk Tryz.prog shiftKnownTab39 := tabOk_cons ((exFT_ok evEnv_ok shiftKnown_tab38 1000 60).1 _ _ _ shiftKnown_c38) shiftKnown_tab38
/-- iv.Div: 1312 operations. -/
theorem shiftKnown_c39 : (exFT evEnv shiftKnownTab39 1000 60).1 13 shiftKnownA39 = some shiftKnownR39 := by kernel_rfl
def shiftKnownA40 : List PV := [.agg [.v (.int .i64 66222), .v (.int .i64 66223), .v (.bool false)], .agg [.v (.int .i64 22626), .v (.int .i64 22628), .v (.bool false)]]
def shiftKnownR40 : PV := .agg [.v (.int .i64 22862), .v (.int .i64 22866), .v (.bool false)]
def shiftKnownTab40 : Tab := (13, shiftKnownA39, shiftKnownR39) :: shiftKnownTab39
theorem shiftKnown_tab40 : TabOk Tryz.prog shiftKnownTab40 := tabOk_cons ((exFT_ok evEnv_ok shiftKnown_tab39 1000 60).1 _ _ _ shiftKnown_c39) shiftKnown_tab39
/-- iv.Mul: 1220 operations. -/
theorem shiftKnown_c40 : (exFT evEnv shiftKnownTab40 1000 60).1 43 shiftKnownA40 = some shiftKnownR40 := by kernel_rfl
def shiftKnownA41 : List PV := [.agg [.v (.int .i64 22862), .v (.int .i64 22866), .v (.bool false)], .agg [.v (.int .i64 (-6764329)), .v (.int .i64 (-6764326)), .v (.bool false)]]
def shiftKnownR41 : PV := .agg [.v (.int .i64 (-222)), .v (.int .i64 (-221)), .v (.bool false)]
def shiftKnownTab41 : Tab := (43, shiftKnownA40, shiftKnownR40) :: shiftKnownTab40
theorem shiftKnown_tab41 : TabOk Tryz.prog shiftKnownTab41 := tabOk_cons ((exFT_ok evEnv_ok shiftKnown_tab40 1000 60).1 _ _ _ shiftKnown_c40) shiftKnown_tab40
/-- iv.Div: 1336 operations. -/
theorem shiftKnown_c41 : (exFT evEnv shiftKnownTab41 1000 60).1 13 shiftKnownA41 = some shiftKnownR41 := by kernel_rfl
def shiftKnownA42 : List PV := [.agg [.v (.int .i64 150762), .v (.int .i64 150795), .v (.bool false)]]
def shiftKnownR42 : PV := .agg [.v (.int .i64 99399), .v (.int .i64 99411), .v (.bool false)]
def shiftKnownTab42 : Tab := (13, shiftKnownA41, shiftKnownR41) :: shiftKnownTab41
theorem shiftKnown_tab42 : TabOk Tryz.prog shiftKnownTab42 := tabOk_cons ((exFT_ok evEnv_ok shiftKnown_tab41 1000 60).1 _ _ _ shiftKnown_c41) shiftKnown_tab41
/-- iv.Root: 974 operations. -/
theorem shiftKnown_c42 : (exFT evEnv shiftKnownTab42 1000 60).1 45 shiftKnownA42 = some shiftKnownR42 := by kernel_rfl
def shiftKnownA43 : List PV := [.agg [.str [99, 114, 111, 119, 110], .v (.int .i64 103961), .v (.int .i64 5), .v (.int .i64 23179), .v (.int .i64 5), .v (.int .i64 101047), .v (.int .i64 5), .v (.int .i64 6), .v (.int .i64 3), .v (.int .i64 2002), .v (.int .i64 5), .v (.int .i64 1035607), .v (.int .i64 4)], .agg [.v (.int .i64 38508), .v (.int .i64 38509), .v (.bool false)]]
def shiftKnownR43 : PV := .agg [.v (.int .i64 99399), .v (.int .i64 99411), .v (.bool false)]
def shiftKnownTab43 : Tab := (45, shiftKnownA42, shiftKnownR42) :: shiftKnownTab42
theorem shiftKnown_tab43 : TabOk Tryz.prog shiftKnownTab43 := tabOk_cons ((exFT_ok evEnv_ok shiftKnown_tab42 1000 60).1 _ _ _ shiftKnown_c42) shiftKnown_tab42
/-- glass.Index: 2801 operations. -/
theorem shiftKnown_c43 : (exFT evEnv shiftKnownTab43 1000 60).1 12 shiftKnownA43 = some shiftKnownR43 := by kernel_rfl
def shiftKnownA44 : List PV := [.agg [.v (.int .i64 65536), .v (.int .i64 65536), .v (.bool false)], .agg [.v (.int .i64 99399), .v (.int .i64 99411), .v (.bool false)]]
def shiftKnownR44 : PV := .agg [.v (.int .i64 43204), .v (.int .i64 43210), .v (.bool false)]
def shiftKnownTab44 : Tab := (12, shiftKnownA43, shiftKnownR43) :: shiftKnownTab43
theorem shiftKnown_tab44 : TabOk Tryz.prog shiftKnownTab44 := tabOk_cons ((exFT_ok evEnv_ok shiftKnown_tab43 1000 60).1 _ _ _ shiftKnown_c43) shiftKnown_tab43
/-- iv.Div: 1317 operations. -/
theorem shiftKnown_c44 : (exFT evEnv shiftKnownTab44 1000 60).1 13 shiftKnownA44 = some shiftKnownR44 := by kernel_rfl
def shiftKnownA45 : List PV := [.agg [.str [120, 48], .v (.int .i64 20), .v (.int .i64 0), .lst [[.v (.bool false), .v (.int .i64 40), .v (.int .i64 0), .v (.int .i64 8), .v (.int .i64 0), .v (.int .i64 3), .v (.int .i64 0), .v (.int .i64 0), .v (.int .i64 0), .v (.int .i64 0), .v (.int .i64 0), .v (.int .i64 0), .v (.int .i64 0), .str [99, 114, 111, 119, 110]]]], .lst [[.str [99, 114, 111, 119, 110], .v (.int .i64 103961), .v (.int .i64 5), .v (.int .i64 23179), .v (.int .i64 5), .v (.int .i64 101047), .v (.int .i64 5), .v (.int .i64 6), .v (.int .i64 3), .v (.int .i64 2002), .v (.int .i64 5), .v (.int .i64 1035607), .v (.int .i64 4)], [.str [102, 108, 105, 110, 116], .v (.int .i64 17376), .v (.int .i64 4), .v (.int .i64 31375), .v (.int .i64 5), .v (.int .i64 189878), .v (.int .i64 5), .v (.int .i64 1319), .v (.int .i64 5), .v (.int .i64 6231), .v (.int .i64 5), .v (.int .i64 1552363), .v (.int .i64 4)]], .agg [.v (.int .i64 38508), .v (.int .i64 38509), .v (.bool false)]]
def shiftKnownR45 : PV := .tup [.agg [.lst [[.v (.bool false), .v (.bool false), .v (.int .i64 1638), .v (.int .i64 1639), .v (.bool false), .v (.int .i64 65536), .v (.int .i64 65536), .v (.bool false), .v (.int .i64 0), .v (.int .i64 0), .v (.bool false), .v (.int .i64 0), .v (.int .i64 0), .v (.bool false), .v (.int .i64 1310720), .v (.int .i64 1310720), .v (.bool false), .v (.int .i64 4194304), .v (.int .i64 4194304), .v (.bool false), .v (.int .i64 43204), .v (.int .i64 43210), .v (.bool false)]], .v (.int .i64 524288), .v (.int .i64 524288), .v (.bool false)], .v (.int .i64 0)]
def shiftKnownTab45 : Tab := (13, shiftKnownA44, shiftKnownR44) :: shiftKnownTab44
theorem shiftKnown_tab45 : TabOk Tryz.prog shiftKnownTab45 := tabOk_cons ((exFT_ok evEnv_ok shiftKnown_tab44 1000 60).1 _ _ _ shiftKnown_c44) shiftKnown_tab44
/-- system.Build: 1459 operations. -/
theorem shiftKnown_c45 : (exFT evEnv shiftKnownTab45 1000 60).1 9 shiftKnownA45 = some shiftKnownR45 := by kernel_rfl
def shiftKnownA46 : List PV := [.agg [.v (.int .i64 43204), .v (.int .i64 43210), .v (.bool false)], .agg [.v (.int .i64 0), .v (.int .i64 0), .v (.bool false)]]
def shiftKnownR46 : PV := .agg [.v (.int .i64 0), .v (.int .i64 0), .v (.bool false)]
def shiftKnownTab46 : Tab := (9, shiftKnownA45, shiftKnownR45) :: shiftKnownTab45
theorem shiftKnown_tab46 : TabOk Tryz.prog shiftKnownTab46 := tabOk_cons ((exFT_ok evEnv_ok shiftKnown_tab45 1000 60).1 _ _ _ shiftKnown_c45) shiftKnown_tab45
/-- iv.Mul: 1237 operations. -/
theorem shiftKnown_c46 : (exFT evEnv shiftKnownTab46 1000 60).1 43 shiftKnownA46 = some shiftKnownR46 := by kernel_rfl
def shiftKnownA47 : List PV := [.agg [.v (.int .i64 1638), .v (.int .i64 1639), .v (.bool false)], .agg [.v (.int .i64 22326), .v (.int .i64 22332), .v (.bool false)]]
def shiftKnownR47 : PV := .agg [.v (.int .i64 558), .v (.int .i64 559), .v (.bool false)]
def shiftKnownTab47 : Tab := (43, shiftKnownA46, shiftKnownR46) :: shiftKnownTab46
theorem shiftKnown_tab47 : TabOk Tryz.prog shiftKnownTab47 := tabOk_cons ((exFT_ok evEnv_ok shiftKnown_tab46 1000 60).1 _ _ _ shiftKnown_c46) shiftKnown_tab46
/-- iv.Mul: 1220 operations. -/
theorem shiftKnown_c47 : (exFT evEnv shiftKnownTab47 1000 60).1 43 shiftKnownA47 = some shiftKnownR47 := by kernel_rfl
def shiftKnownA48 : List PV := [.agg [.v (.int .i64 65536), .v (.int .i64 65536), .v (.bool false)], .agg [.v (.int .i64 (-559)), .v (.int .i64 (-558)), .v (.bool false)]]
def shiftKnownR48 : PV := .agg [.v (.int .i64 (-7697075)), .v (.int .i64 (-7683304)), .v (.bool false)]
def shiftKnownTab48 : Tab := (43, shiftKnownA47, shiftKnownR47) :: shiftKnownTab47
theorem shiftKnown_tab48 : TabOk Tryz.prog shiftKnownTab48 := tabOk_cons ((exFT_ok evEnv_ok shiftKnown_tab47 1000 60).1 _ _ _ shiftKnown_c47) shiftKnown_tab47
/-- iv.Div: 1357 operations. -/
theorem shiftKnown_c48 : (exFT evEnv shiftKnownTab48 1000 60).1 13 shiftKnownA48 = some shiftKnownR48 := by kernel_rfl
def shiftKnownA49 : List PV := [.agg [.v (.int .i64 7683304), .v (.int .i64 7697075), .v (.bool false)], .agg [.v (.int .i64 1048576), .v (.int .i64 1048576), .v (.bool false)]]
def shiftKnownR49 : PV := .agg [.v (.int .i64 480206), .v (.int .i64 481068), .v (.bool false)]
def shiftKnownTab49 : Tab := (13, shiftKnownA48, shiftKnownR48) :: shiftKnownTab48
theorem shiftKnown_tab49 : TabOk Tryz.prog shiftKnownTab49 := tabOk_cons ((exFT_ok evEnv_ok shiftKnown_tab48 1000 60).1 _ _ _ shiftKnown_c48) shiftKnown_tab48
/-- iv.Div: 1312 operations. -/
theorem shiftKnown_c49 : (exFT evEnv shiftKnownTab49 1000 60).1 13 shiftKnownA49 = some shiftKnownR49 := by kernel_rfl
def shiftKnownA50 : List PV := [.agg [.lst [[.v (.bool false), .v (.bool false), .v (.int .i64 1638), .v (.int .i64 1639), .v (.bool false), .v (.int .i64 65536), .v (.int .i64 65536), .v (.bool false), .v (.int .i64 0), .v (.int .i64 0), .v (.bool false), .v (.int .i64 0), .v (.int .i64 0), .v (.bool false), .v (.int .i64 1310720), .v (.int .i64 1310720), .v (.bool false), .v (.int .i64 4194304), .v (.int .i64 4194304), .v (.bool false), .v (.int .i64 43204), .v (.int .i64 43210), .v (.bool false)]], .v (.int .i64 524288), .v (.int .i64 524288), .v (.bool false)]]
def shiftKnownR50 : PV := .agg [.v (.int .i64 7683304), .v (.int .i64 7697075), .v (.bool false), .v (.int .i64 7683304), .v (.int .i64 7697075), .v (.bool false), .v (.int .i64 (-13771)), .v (.int .i64 13771), .v (.bool false), .v (.int .i64 480206), .v (.int .i64 481068), .v (.bool false)]
def shiftKnownTab50 : Tab := (13, shiftKnownA49, shiftKnownR49) :: shiftKnownTab49
theorem shiftKnown_tab50 : TabOk Tryz.prog shiftKnownTab50 := tabOk_cons ((exFT_ok evEnv_ok shiftKnown_tab49 1000 60).1 _ _ _ shiftKnown_c49) shiftKnown_tab49
/-- parax.Of: 1274 operations. -/
theorem shiftKnown_c50 : (exFT evEnv shiftKnownTab50 1000 60).1 53 shiftKnownA50 = some shiftKnownR50 := by kernel_rfl
def shiftKnownA51 : List PV := [.agg [.str [99, 114, 111, 119, 110], .v (.int .i64 103961), .v (.int .i64 5), .v (.int .i64 23179), .v (.int .i64 5), .v (.int .i64 101047), .v (.int .i64 5), .v (.int .i64 6), .v (.int .i64 3), .v (.int .i64 2002), .v (.int .i64 5), .v (.int .i64 1035607), .v (.int .i64 4)], .agg [.v (.int .i64 0), .v (.int .i64 0), .v (.bool true)]]
def shiftKnownR51 : PV := .agg [.v (.int .i64 0), .v (.int .i64 0), .v (.bool true)]
def shiftKnownTab51 : Tab := (53, shiftKnownA50, shiftKnownR50) :: shiftKnownTab50
theorem shiftKnown_tab51 : TabOk Tryz.prog shiftKnownTab51 := tabOk_cons ((exFT_ok evEnv_ok shiftKnown_tab50 1000 60).1 _ _ _ shiftKnown_c50) shiftKnown_tab50
/-- glass.Index: 2347 operations. -/
theorem shiftKnown_c51 : (exFT evEnv shiftKnownTab51 1000 60).1 12 shiftKnownA51 = some shiftKnownR51 := by kernel_rfl
def shiftKnownA52 : List PV := [.agg [.str [120, 48], .v (.int .i64 20), .v (.int .i64 0), .lst [[.v (.bool false), .v (.int .i64 40), .v (.int .i64 0), .v (.int .i64 8), .v (.int .i64 0), .v (.int .i64 3), .v (.int .i64 0), .v (.int .i64 0), .v (.int .i64 0), .v (.int .i64 0), .v (.int .i64 0), .v (.int .i64 0), .v (.int .i64 0), .str [99, 114, 111, 119, 110]]]], .lst [[.str [99, 114, 111, 119, 110], .v (.int .i64 103961), .v (.int .i64 5), .v (.int .i64 23179), .v (.int .i64 5), .v (.int .i64 101047), .v (.int .i64 5), .v (.int .i64 6), .v (.int .i64 3), .v (.int .i64 2002), .v (.int .i64 5), .v (.int .i64 1035607), .v (.int .i64 4)], [.str [102, 108, 105, 110, 116], .v (.int .i64 17376), .v (.int .i64 4), .v (.int .i64 31375), .v (.int .i64 5), .v (.int .i64 189878), .v (.int .i64 5), .v (.int .i64 1319), .v (.int .i64 5), .v (.int .i64 6231), .v (.int .i64 5), .v (.int .i64 1552363), .v (.int .i64 4)]], .agg [.v (.int .i64 0), .v (.int .i64 0), .v (.bool true)]]
def shiftKnownR52 : PV := .tup [.agg [.nil, .v (.int .i64 0), .v (.int .i64 0), .v (.bool false)], .v (.int .i64 6)]
def shiftKnownTab52 : Tab := (12, shiftKnownA51, shiftKnownR51) :: shiftKnownTab51
theorem shiftKnown_tab52 : TabOk Tryz.prog shiftKnownTab52 := tabOk_cons ((exFT_ok evEnv_ok shiftKnown_tab51 1000 60).1 _ _ _ shiftKnown_c51) shiftKnown_tab51
/-- system.Build: 1222 operations. -/
theorem shiftKnown_c52 : (exFT evEnv shiftKnownTab52 1000 60).1 9 shiftKnownA52 = some shiftKnownR52 := by kernel_rfl
def shiftKnownTab53 : Tab := (9, shiftKnownA52, shiftKnownR52) :: shiftKnownTab52
theorem shiftKnown_tab53 : TabOk Tryz.prog shiftKnownTab53 := tabOk_cons ((exFT_ok evEnv_ok shiftKnown_tab52 1000 60).1 _ _ _ shiftKnown_c52) shiftKnown_tab52
/-- The evaluation. -/
theorem shiftKnown_run : (exFT evEnv shiftKnownTab53 1000 60).1 4 [] = some (.v (.bool true)) := by kernel_rfl
end Go.Proofs.YtfihdolpljhhlaaGreatDoor
