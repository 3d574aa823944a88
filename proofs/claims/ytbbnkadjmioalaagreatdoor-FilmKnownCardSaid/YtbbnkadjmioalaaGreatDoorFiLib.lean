/- What the library's functions that are met are known to do: each by the shelf's contract, laid at this program. PRINTED by a program of this claim's author; Lean checks it. -/
import Derived.Test.YtbbnkadjmioalaaGreatDoorChecked
import Derived.Test.YtbbnkadjmioalaaGreatDoorShelf
import Derived.Test.YtbbnkadjmioalaaGreatDoorFiEvF
namespace Go.Proofs.YtbbnkadjmioalaaGreatDoor
open Go.Ev Go.RowKit Go.Sort

theorem below_ahead (w : World) (k : Nat) (os : Array Obj) : Below w.heap.size w (grow (w.drewN k) os) :=
  ⟨rfl, rfl, rfl, by simp [grow], fun i hi => Array.getElem?_append_left hi⟩
def ev0 : Nat → List PV → Option PV := fun _ _ => none
def ev1 : Nat → List PV → Option PV := fun k args => bif Nat.beq k 33 then libItoa args else ev0 k args
theorem ev1_ok : LibOk Tryz.prog ev1 := libOk_cons (libItoa_ok Tryz.call33 fun n hw w h0 h1 hg => (Any.strconv_Itoa Tryz.laysM171 n h0 h1 w (glob_var hg (x := 2) (vs := Lib.pow10Tab.map fun z => Value.int .u64 z) rfl (by kernel_rfl))).mono fun e w' ⟨he, k, os, hw'⟩ => ⟨he, by subst hw'; exact below_ahead w k os⟩) (libOk_nil)
def ev2 : Nat → List PV → Option PV := fun k args => bif Nat.beq k 193 then libTrunc args else ev1 k args
theorem ev2_ok : LibOk Tryz.prog ev2 := libOk_cons (libTrunc_ok fun args w => run_callFunc_extern Tryz.func193 (by kernel_rfl) (by kernel_rfl) (by kernel_rfl) (e := Extern.MathFloor.toIntegral "math.archTrunc" .zero) (by kernel_rfl) args w) (ev1_ok)
def evLib : Nat → List PV → Option PV := ev2
theorem evLib_ok : LibOk Tryz.prog evLib := ev2_ok
end Go.Proofs.YtbbnkadjmioalaaGreatDoor
