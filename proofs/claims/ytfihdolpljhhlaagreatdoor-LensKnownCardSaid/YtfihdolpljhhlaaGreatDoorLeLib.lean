/- What the library's functions that are met are known to do: each by the shelf's contract, laid at this program. PRINTED by a program of this claim's author; Lean checks it. -/
import Derived.Test.YtfihdolpljhhlaaGreatDoorChecked
import Derived.Test.YtfihdolpljhhlaaGreatDoorShelf
import Derived.Test.YtfihdolpljhhlaaGreatDoorLeEvE
namespace Go.Proofs.YtfihdolpljhhlaaGreatDoor
open Go.Ev Go.RowKit Go.Sort

theorem below_ahead (w : World) (k : Nat) (os : Array Obj) : Below w.heap.size w (grow (w.drewN k) os) :=
  ⟨rfl, rfl, rfl, by simp [grow], fun i hi => Array.getElem?_append_left hi⟩
theorem below_bytes (w : World) (e : TypeId) (s : ByteArray) : Below w.heap.size w (Lib.bytesWorld w e s) :=
  ⟨rfl, rfl, rfl, by rw [Lib.bytesWorld_size]; omega, fun k hk => Lib.bytesWorld_at_old w e s k hk⟩
def ev0 : Nat → List PV → Option PV := fun _ _ => none
def ev1 : Nat → List PV → Option PV := fun k args => bif Nat.beq k 94 then libItoa args else ev0 k args
theorem ev1_ok : LibOk Tryz.prog ev1 := libOk_cons (libItoa_ok Tryz.call94 fun n hw w h0 h1 hg => (Any.strconv_Itoa Tryz.laysM171 n h0 h1 w (glob_var hg (x := 4) (vs := Lib.pow10Tab.map fun z => Value.int .u64 z) rfl (by kernel_rfl))).mono fun e w' ⟨he, k, os, hw'⟩ => ⟨he, by subst hw'; exact below_ahead w k os⟩) (libOk_nil)
def ev2 : Nat → List PV → Option PV := fun k args => bif Nat.beq k 95 then libRepeat args else ev1 k args
theorem ev2_ok : LibOk Tryz.prog ev2 := libOk_cons (libRepeat_ok Tryz.call95 fun s c w h1 h2 => Any.strings_Repeat Tryz.lays105 Tryz.Builder_Extra_105 s c w h1 h2) (ev1_ok)
def ev3 : Nat → List PV → Option PV := fun k args => bif Nat.beq k 99 then libTrimRight args else ev2 k args
theorem ev3_ok : LibOk Tryz.prog ev3 := libOk_cons (libTrimRight_ok Tryz.call99 fun s c w h1 h2 h3 => Any.strings_TrimRight_laid Tryz.lays162 (by kernel_rfl) s c w h1 h2 h3) (ev2_ok)
def ev4 : Nat → List PV → Option PV := fun k args => bif Nat.beq k 100 then libAtoi args else ev3 k args
theorem ev4_ok : LibOk Tryz.prog ev4 := libOk_cons (libAtoi_ok Tryz.call100 fun s n w h1 h2 => (Any.strconv_Atoi Tryz.lays172 s n h1 h2 w).mono fun e w' ⟨he, t, hw'⟩ => ⟨he, by subst hw'; exact below_bytes w _ t⟩) (ev3_ok)
def ev5 : Nat → List PV → Option PV := fun k args => bif Nat.beq k 111 then libTrim args else ev4 k args
theorem ev5_ok : LibOk Tryz.prog ev5 := libOk_cons (libTrim_ok Tryz.call111 fun s c w h1 h2 h3 => Any.strings_Trim_laid Tryz.lays160 (by kernel_rfl) s c w h1 h2 h3) (ev4_ok)
def ev6 : Nat → List PV → Option PV := fun k args => bif Nat.beq k 155 then libIndexByte args else ev5 k args
theorem ev6_ok : LibOk Tryz.prog ev6 := libOk_cons (libIndexByte_ok fun args w => run_callFunc_extern Tryz.func155 (by kernel_rfl) (by kernel_rfl) (by kernel_rfl) (e := Extern.BytealgIndexByte.indexByte) (by kernel_rfl) args w) (ev5_ok)
def evLib : Nat → List PV → Option PV := ev6
theorem evLib_ok : LibOk Tryz.prog evLib := ev6_ok
end Go.Proofs.YtfihdolpljhhlaaGreatDoor
