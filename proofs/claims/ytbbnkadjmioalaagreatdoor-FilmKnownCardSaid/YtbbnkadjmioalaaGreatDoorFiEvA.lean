/- A logic of frames, written for these claims: what a function is known to do is said of what is known of its arguments, in whatever memory; an evaluator of the program's code in that logic, and its soundness. (Part EvA.) -/
import Derived.WalkKit
import Derived.Below
import Derived.Laws.AppendOwn
import Derived.Laws.IdiomCopy
import Derived.KernelRfl
namespace Go.Ev
open Go.RowKit

/-- What a value is known to be (bld: the first cell of a Builder; bp: a place in one of the frame's boxes; bs: a slice of n elements, each of s cells, in one of the frame's boxes: these stand in boxes alone): a plain value, a list (a slice's elements, each its cells), a place that is only read, cells side by side, several values, a closure. -/
inductive PV where
  | v (x : Value)
  | str (l : List UInt8)
  | nil
  | lst (xs : List (List PV))
  | lptr (cs : List PV) (off : Nat)
  | agg (cs : List PV)
  | tup (vs : List PV)
  | fn (f : FuncId) (caps : List PV)
  | bld (used : Bool)
  | bp (b off : Nat)
  | bs (b off n s : Nat)

inductive Rep (hw : Nat → Nat) (w : World) : Value → PV → Prop
  | v (x : Value) (h1 : x.oneCell' = true) : Rep hw w x (.v x)
  | str (l : List UInt8) : Rep hw w (.string ⟨l.toArray⟩) (.str l)
  | nil : Rep hw w (.slice none 0 0) .nil
  | lnil : Rep hw w (.slice none 0 0) (.lst [])
  | lst (xs : List (List PV)) (blk off cap s : Nat) (c : Nat → Nat → Value)
      (hcap : xs.length ≤ cap)
      (hlen : ∀ (i : Nat) (x : List PV), xs[i]? = some x → x.length = s)
      (hc : ∀ i j, i < xs.length → j < s → w.cell? ⟨blk, off + (i * s + j), none⟩ = some (c i j))
      (hr : ∀ (i j : Nat) (x : List PV) (y : PV), xs[i]? = some x → x[j]? = some y → Rep hw w (c i j) y)
      (h1 : ∀ i j, i < xs.length → j < s → (c i j).oneCell' = true)
      (hh : off + xs.length * s ≤ hw blk) : Rep hw w (.slice (some ⟨blk, off, none⟩) xs.length cap) (.lst xs)
  | lptr (cs : List PV) (blk base off : Nat) (c : Nat → Value)
      (hc : ∀ j, j < cs.length → w.cell? ⟨blk, base + j, none⟩ = some (c j))
      (hr : ∀ (j : Nat) (y : PV), cs[j]? = some y → Rep hw w (c j) y)
      (h1 : ∀ j, j < cs.length → (c j).oneCell' = true)
      (hh : base + cs.length ≤ hw blk) : Rep hw w (.pointer (some ⟨blk, base + off, none⟩)) (.lptr cs off)
  | agg (vs : List Value) (cs : List PV) (hl : vs.length = cs.length)
      (hr : ∀ (j : Nat) (x : Value) (y : PV), vs[j]? = some x → cs[j]? = some y → Rep hw w x y)
      (h1 : ∀ x ∈ vs, x.oneCell' = true) : Rep hw w (.agg vs.toArray) (.agg cs)
  | tup (vs : List Value) (cs : List PV) (hl : vs.length = cs.length)
      (hr : ∀ (j : Nat) (x : Value) (y : PV), vs[j]? = some x → cs[j]? = some y → Rep hw w x y) : Rep hw w (.tuple vs.toArray) (.tup cs)
  | fn (f : FuncId) (vs : List Value) (cs : List PV) (hl : vs.length = cs.length)
      (hr : ∀ (j : Nat) (x : Value) (y : PV), vs[j]? = some x → cs[j]? = some y → Rep hw w x y) : Rep hw w (.func (.func f) #[] vs.toArray) (.fn f cs)

/-- What is covered stays, and more may be covered. -/
structure Ext (hw : Nat → Nat) (w : World) (hw' : Nat → Nat) (w' : World) : Prop where
  cell : ∀ k off, off < hw k → w'.cell? ⟨k, off, none⟩ = w.cell? ⟨k, off, none⟩
  hw : ∀ k, hw k ≤ hw' k

theorem Ext.refl (hw : Nat → Nat) (w : World) : Ext hw w hw w := ⟨fun _ _ _ => rfl, fun _ => Nat.le_refl _⟩
theorem Ext.trans {h1 h2 h3 : Nat → Nat} {a b c : World} (x : Ext h1 a h2 b) (y : Ext h2 b h3 c) : Ext h1 a h3 c :=
  ⟨fun k off h => (y.cell k off (Nat.lt_of_lt_of_le h (x.hw k))).trans (x.cell k off h), fun k => Nat.le_trans (x.hw k) (y.hw k)⟩

theorem seg_lt {i j n s off : Nat} (hi : i < n) (hj : j < s) : off + (i * s + j) < off + n * s := by
  have : (i + 1) * s ≤ n * s := Nat.mul_le_mul_right s hi
  rw [Nat.succ_mul] at this
  omega

theorem Rep.mono {hw hw' : Nat → Nat} {w w' : World} (x : Ext hw w hw' w') {val : Value} {p : PV} (h : Rep hw w val p) : Rep hw' w' val p := by
  induction h with
  | v y h1 => exact .v y h1
  | str l => exact .str l
  | nil => exact .nil
  | lnil => exact .lnil
  | lst xs blk off cap s c hcap hlen hc hr h1 hh ih =>
    exact .lst xs blk off cap s c hcap hlen (fun i j hi hj => (x.cell _ _ (Nat.lt_of_lt_of_le (seg_lt hi hj) hh)).trans (hc i j hi hj)) ih h1 (Nat.le_trans hh (x.hw _))
  | lptr cs blk base off c hc hr h1 hh ih =>
    exact .lptr cs blk base off c (fun j hj => (x.cell _ _ (by omega)).trans (hc j hj)) ih h1 (Nat.le_trans hh (x.hw _))
  | agg vs cs hl hr h1 ih => exact .agg vs cs hl ih h1
  | tup vs cs hl hr ih => exact .tup vs cs hl ih
  | fn f vs cs hl hr ih => exact .fn f vs cs hl ih

/-- In a frame: a plain thing, a pointer into a box of the frame, a closure over boxes of the frame. -/
inductive AV where
  | p (x : PV)
  | ptr (b off : Nat)
  | fnp (f : FuncId) (caps : List Nat)
  | sl (b off n s : Nat)

inductive Loc where
  | t (t : Nat)
  | b (b c : Nat)
  deriving DecidableEq

/-- A frame as it is known: how many slots; slots; boxes (named by a number of the frame); which places own the list that they hold (element type); which slots hold what another place holds. -/
structure St where
  n : Nat
  tmps : List (Nat × AV)
  boxes : List (Nat × List PV)
  ro : List Nat
  own : List (Loc × Nat)
  al : List (Nat × Loc)

def lk {α : Type} (k : Nat) : List (Nat × α) → Option α
  | [] => none
  | (k', x) :: r => bif Nat.beq k k' then some x else lk k r

/-- The type of a Builder. -/
def bldT : Nat := 79
def isBld : PV → Bool
  | .bld _ => true
  | .bp _ _ => true
  | .bs _ _ _ _ => true
  | _ => false
def hdOk : List PV → Bool
  | [] => true
  | x :: r => match x with
    | .bld _ => false
    | .bp _ _ => false
    | .bs _ _ _ _ => false
    | _ => hdOk r
/-- The box that a cell leads to. -/
def refP : PV → Option Nat
  | .bp b _ => some b
  | .bs b _ _ _ => some b
  | _ => none
def refsOf : List PV → List Nat
  | [] => []
  | x :: r => match x with
    | .bp b _ => b :: refsOf r
    | .bs b _ _ _ => b :: refsOf r
    | _ => refsOf r
/-- The package-level variables that are read: their cells, as they are known. -/
def glTab : List (Nat × List PV) := [(2, [.v (.int .u64 1), .v (.int .u64 10), .v (.int .u64 100), .v (.int .u64 1000), .v (.int .u64 10000), .v (.int .u64 100000), .v (.int .u64 1000000), .v (.int .u64 10000000), .v (.int .u64 100000000), .v (.int .u64 1000000000), .v (.int .u64 10000000000), .v (.int .u64 100000000000), .v (.int .u64 1000000000000), .v (.int .u64 10000000000000), .v (.int .u64 100000000000000), .v (.int .u64 1000000000000000), .v (.int .u64 10000000000000000), .v (.int .u64 100000000000000000), .v (.int .u64 1000000000000000000), .v (.int .u64 10000000000000000000)])]
def GlobOk (hw : Nat → Nat) (w : World) : Prop := ∀ x cs, lk x glTab = some cs → Rep hw w (.pointer (some ⟨x, 0, none⟩)) (.lptr cs 0) ∧ 0 < cs.length ∧ ∃ arr t fr, w.heap[x]? = some (.cells arr t fr) ∧ arr.size = cs.length
theorem GlobOk.mono {hw hw' : Nat → Nat} {w w' : World} (x : Ext hw w hw' w') (hk : ∀ y cs, lk y glTab = some cs → w'.heap[y]? = w.heap[y]?) (h : GlobOk hw w) : GlobOk hw' w' := fun y cs hy =>
  ⟨(h y cs hy).1.mono x, (h y cs hy).2.1, by rw [hk y cs hy]; exact (h y cs hy).2.2⟩
theorem GlobOk.lt {hw : Nat → Nat} {w : World} (h : GlobOk hw w) {y : Nat} {cs : List PV} (hy : lk y glTab = some cs) : y < w.heap.size := by
  obtain ⟨_, _, arr, t, fr, e, _⟩ := h y cs hy
  exact (Array.getElem?_eq_some_iff.1 e).1
theorem GlobOk.pos {hw : Nat → Nat} {w : World} (h : GlobOk hw w) {y : Nat} {cs : List PV} (hy : lk y glTab = some cs) : 0 < hw y := by
  obtain ⟨hr, h0, _⟩ := h y cs hy
  generalize hv : Value.pointer (some ⟨y, 0, none⟩) = v at hr
  generalize hq : PV.lptr cs 0 = q at hr
  cases hr with
  | lptr cs' blk base off c hc hr h1 hh =>
    injection hv with hv
    injection hv with hv
    injection hv with e1 e2
    injection hq with e3 e4
    subst e1; subst e3
    omega
  | _ => cases hq
/-- The same, below the frame's own. -/
def GlobIn (B : Nat) (hw : Nat → Nat) (w : World) : Prop := GlobOk hw w ∧ ∀ x cs, lk x glTab = some cs → x < B
theorem GlobIn.mono {B : Nat} {hw hw' : Nat → Nat} {w w' : World} (x : Ext hw w hw' w') (hk : ∀ y cs, lk y glTab = some cs → w'.heap[y]? = w.heap[y]?) (h : GlobIn B hw w) : GlobIn B hw' w' := ⟨h.1.mono x hk, h.2⟩

def Loc.eq : Loc → Loc → Bool
  | .t x, .t y => Nat.beq x y
  | .b x c, .b y d => Nat.beq x y && Nat.beq c d
  | _, _ => false

def lkL {α : Type} (k : Loc) : List (Loc × α) → Option α
  | [] => none
  | (k', x) :: r => bif k.eq k' then some x else lkL k r

/-- What is told of a type: its kind (1: fields, 2: an array, 3: a slice, 4: a text, 0: others), its cells, its bytes, its zero's cells, its fields (place, type), its elements' type, how many. -/
structure Ty where
  kd : Nat
  size : Nat
  bytes : Nat
  zero : List PV
  fields : List (Nat × Nat)
  elem : Nat
  len : Nat

def cv : Value → PV
  | .string b => .str b.data.toList
  | .slice none 0 0 => .nil
  | x => .v x

def cvO : Value → Option PV
  | .agg cs => bif cs.toList.all Value.oneCell' then some (.agg (cs.toList.map cv)) else none
  | .tuple _ => none
  | x => some (cv x)

def Ty.agg (t : Ty) : Bool := Nat.beq t.kd 1 || Nat.beq t.kd 2

def mkTy (kd : Nat) (i : TypeInfo) (z : Value) (fs : List (Nat × Nat)) (e n : Nat) : Option Ty :=
  bif z.cells.toList.all Value.oneCell' && Nat.beq z.cells.size i.size then some ⟨kd, i.size, i.bytes, z.cells.toList.map cv, fs, e, n⟩ else none

def tyOf (P : Program) (T : TypeId) : Option Ty :=
  match P.info? T with
  | none => none
  | some i => match i.zero with
    | none => none
    | some z => match P.underlying T with
      | some (.struct fs) => mkTy 1 i z (fs.toList.map fun f => (f.offset, f.type)) 0 0
      | some (.array n e) => mkTy 2 i z [] e n
      | some (.slice e) => mkTy 3 i z [] e 0
      | some .string => mkTy 4 i z [] 0 0
      | some _ => mkTy 0 i z [] 0 0
      | none => none

def TyOk (P : Program) (Γ : List (Nat × Ty)) : Prop := ∀ T ty, lk T Γ = some ty → tyOf P T = some ty
end Go.Ev
namespace Go.Ev

inductive Ex where
  | normal
  | exit (id : Nat)
  | goto (l : Nat)
  | ret

/-- What an evaluation leaves to be shown. -/
inductive Obl where
  | call (f : FuncId) (args : List PV) (r : PV)
  | callp (f : FuncId) (cs : List PV) (args : List PV) (r : PV) (cs' : List PV)
  | rb (d : Nat) (b v : Bool)
  | re (d : Nat) (a b : PV)
  | idx (xs : List (List PV)) (i : Int) (x : List PV)
  | pr (p : Prop)
  | bin (op : BinOp) (T : TypeId) (x y r : PV)
  | cvt (S T : TypeId) (x r : PV)
  | un (op : UnOp) (x r : PV)
  | blt (b : Builtin) (ats : Array TypeId) (T : TypeId) (args : List PV) (r : PV)
  | tri (kd : Nat) (c : Code) (σ : St) (e : Ex) (σ' : St)
  | dk (k : Nat)

def chunk (s : Nat) : Nat → List PV → List (List PV)
  | 0, _ => []
  | n + 1, l => l.take s :: chunk s n (l.drop s)

def rd1 : Option PV → Option PV
  | some (.bld _) => none
  | some (.bp _ _) => none
  | some (.bs _ _ _ _) => none
  | x => x
/-- A value of a type, read out of cells. -/
def rd (ty : Ty) (cs : List PV) (off : Nat) : Option PV :=
  bif Nat.ble (off + ty.size) cs.length then (bif ty.agg then (bif hdOk ((cs.drop off).take ty.size) then some (.agg ((cs.drop off).take ty.size)) else none) else bif Nat.beq ty.size 1 then rd1 cs[off]? else none) else none

/-- A value's cells. -/
def PV.cells : PV → List PV
  | .agg cs => cs
  | .tup _ => []
  | x => [x]

/-- nil as the list that has none: so it is handed on. -/
def nilLst : PV → PV
  | .nil => .lst []
  | x => x
def norm (x : PV) : PV := x

/-- Nothing in it leads to memory. -/
def flat1 : PV → Bool
  | .v _ => true
  | .str _ => true
  | _ => false
def flat : PV → Bool
  | .v _ => true
  | .str _ => true
  | .agg cs => cs.all flat1
  | .tup vs => vs.all fun | .v _ => true | .str _ => true | .agg cs => cs.all flat1 | _ => false
  | _ => false

def put (σ : St) (d : Nat) (a : AV) : St :=
  { σ with tmps := (d, a) :: σ.tmps,
           own := σ.own.filter fun (l, _) => !(l.eq (.t d)),
           al := σ.al.filter fun (t, l) => !(Nat.beq t d) && !(l.eq (.t d)) }

def opd (σ : St) : Operand → Option AV
  | .tmp t => lk t σ.tmps
  | .const v => match cvO v with | some x => some (.p x) | none => none
  | .func f => some (.p (.fn f []))
  | .global x => match lk x glTab with | some cs => some (.p (.lptr cs 0)) | none => none

def pvOf (σ : St) (x : Operand) : Option PV :=
  match opd σ x with
  | some (.p x) => some x
  | _ => none

def evLoad (Γ : List (Nat × Ty)) (bx : List (Nat × List PV)) (T : TypeId) : AV → Option PV
  | .ptr b off => match lk T Γ, lk b bx with
    | some ty, some cs => rd ty cs off
    | _, _ => none
  | .p (.lptr cs off) => match lk T Γ with
    | some ty => rd ty cs off
    | none => none
  | _ => none

def evField (Γ : List (Nat × Ty)) (T : TypeId) (f : Nat) : Option (Nat × Ty) :=
  match lk T Γ with
  | some ⟨1, _, _, _, fs, _, _⟩ => match fs[f]? with
    | some (off, ft) => match lk ft Γ with
      | some fty => bif Nat.beq fty.size 0 then none else some (off, fty)
      | none => none
    | none => none
  | _ => none

def evFieldAddr (Γ : List (Nat × Ty)) (T : TypeId) (f : Nat) (a : AV) : Option AV :=
  match evField Γ T f with
  | some (off, _) => match a with
    | .ptr b o => some (.ptr b (o + off))
    | .p (.lptr cs o) => some (.p (.lptr cs (o + off)))
    | _ => none
  | none => none

/-- The parts of a struct or an array, laid over its zero. -/
def lay (cells : List PV) (off : Nat) (x : List PV) : List PV := cells.take off ++ (x ++ cells.drop (off + x.length))
def fillS (place : Nat → Option (Nat × Nat)) (cells : List PV) : List (Nat × PV) → Option (List PV)
  | [] => some cells
  | (i, x) :: r => match place i with
    | none => none
    | some (off, size) => bif Nat.beq x.cells.length size && Nat.ble (off + size) cells.length && !(Nat.beq size 0) then fillS place (lay cells off x.cells) r else none

def szs (Γ : List (Nat × Ty)) : List (Nat × Nat) → Option (List (Nat × Nat))
  | [] => some []
  | (off, t) :: r => match lk t Γ, szs Γ r with
    | some ty, some l => some ((off, ty.size) :: l)
    | _, _ => none

def evBuild (Γ : List (Nat × Ty)) (T : TypeId) (ps : List (Nat × PV)) : Option PV :=
  match lk T Γ with
  | some ⟨1, _, _, z, fs, _, _⟩ => match szs Γ fs with
    | some pl => match fillS (fun i => pl[i]?) z ps with
      | some cs => some (.agg cs)
      | none => none
    | none => none
  | some ⟨2, _, _, z, _, e, _⟩ => match lk e Γ with
    | some ety => match fillS (fun i => some (i * ety.size, ety.size)) z ps with
      | some cs => some (.agg cs)
      | none => none
    | none => none
  | _ => none

def reps : Nat → List PV → List PV
  | 0, _ => []
  | n + 1, z => z ++ reps n z

def evBuildSlice (Γ : List (Nat × Ty)) (T : TypeId) (n : Nat) (ps : List (Nat × PV)) : Option PV :=
  match lk T Γ with
  | some ⟨3, _, _, _, _, e, _⟩ => match lk e Γ with
    | some ety => bif Nat.beq ety.size 0 || Nat.ble 16777216 (n * ety.size) || !(Nat.beq ety.zero.length ety.size) then none else
      match fillS (fun i => some (i * ety.size, ety.size)) (reps n ety.zero) ps with
      | some cs => some (.lst (chunk ety.size n cs))
      | none => none
    | none => none
  | _ => none

def mapO {α β : Type} (f : α → Option β) : List α → Option (List β)
  | [] => some []
  | x :: r => match f x, mapO f r with
    | some y, some l => some (y :: l)
    | _, _ => none

/-- Whole numbers: what never panics. -/
def intB (op : BinOp) (k : IntKind) (a b : Int) : Option PV :=
  match op with
  | .add => some (.v (.int k (k.wrap (a + b))))
  | .sub => some (.v (.int k (k.wrap (a - b))))
  | .mul => some (.v (.int k (k.wrap (a * b))))
  | .eql => some (.v (.bool (a == b)))
  | .neq => some (.v (.bool (a != b)))
  | .lss => some (.v (.bool (decide (a < b))))
  | .leq => some (.v (.bool (decide (a ≤ b))))
  | .gtr => some (.v (.bool (decide (a > b))))
  | .geq => some (.v (.bool (decide (a ≥ b))))
  | _ => none

abbrev Out (α : Type) := Option (α × List Obl × List Obl)

def evBin (op : BinOp) (T : TypeId) (x y : PV) (os : List Obl) : Out PV :=
  match os with
  | .bin _ _ _ _ r :: os => some (r, os, [.bin op T x y r])
  | os =>
    match op, x, y with
    | .quo, .v (.int k a), .v (.int k' b) => match os with
      | .pr _ :: os => bif decide (k = k') then some (.v (.int k (k.wrap (a.tdiv b))), os, [.pr (b ≠ 0)]) else none
      | _ => none
    | .rem, .v (.int k a), .v (.int k' b) => match os with
      | .pr _ :: os => bif decide (k = k') then some (.v (.int k (a.tmod b)), os, [.pr (b ≠ 0)]) else none
      | _ => none
    | .shl, .v (.int k a), .v (.int _ b) => match os with
      | .pr _ :: os => some (.v (.int k (k.wrap (a * 2 ^ min b.toNat k.bits))), os, [.pr (0 ≤ b)])
      | _ => none
    | .shr, .v (.int k a), .v (.int _ b) => match os with
      | .pr _ :: os => some (.v (.int k (a.fdiv (2 ^ min b.toNat k.bits))), os, [.pr (0 ≤ b)])
      | _ => none
    | op, .v (.int k a), .v (.int k' b) => bif decide (k = k') then (match intB op k a b with | some r => some (r, os, []) | none => none) else none
    | .add, .str a, .str b => match os with
      | .pr _ :: os => some (.str (a ++ b), os, [.pr (a.length + b.length ≤ 9223372036854775807)])
      | _ => none
    | .eql, .str a, .str b => some (.v (.bool (a == b)), os, [])
    | .neq, .str a, .str b => some (.v (.bool (!(a == b))), os, [])
    | _, _, _ => none

def evUn (op : UnOp) (x : PV) (os : List Obl) : Out PV :=
  match os with
  | .un _ _ r :: os => some (r, os, [.un op x r])
  | os => match op, x with
    | .not, .v (.bool b) => some (.v (.bool (!b)), os, [])
    | .neg, .v (.int k n) => some (.v (.int k (k.wrap (0 - n))), os, [])
    | _, _ => none

def imax (x y : Int) : Int := if y > x then y else x
def imin (x y : Int) : Int := if y < x then y else x
def intsOf (k : IntKind) : List PV → Option (List Int)
  | [] => some []
  | .v (.int k' n) :: r => bif decide (k = k') then (match intsOf k r with | some l => some (n :: l) | none => none) else none
  | _ => none

def evBuiltin (Γ : List (Nat × Ty)) (b : Builtin) (ats : Array TypeId) (T : TypeId) (xs : List PV) (os : List Obl) : Out PV :=
  match os with
  | .blt _ _ _ _ r :: os => some (r, os, [.blt b ats T xs r])
  | os => match b, xs with
    | .len, [x] => match ats.toList with
      | [t] => match lk t Γ with
        | some ty => match ty.kd, x with
          | 4, .str l => some (.v (.int .i64 l.length), os, [])
          | 3, .lst l => some (.v (.int .i64 l.length), os, [])
          | 3, .nil => some (.v (.int .i64 0), os, [])
          | 2, _ => some (.v (.int .i64 ty.len), os, [])
          | _, _ => none
        | none => none
      | _ => none
    | .max, .v (.int k n) :: r => match intsOf k r with
      | some l => some (.v (.int k (l.foldl imax n)), os, [])
      | none => none
    | .min, .v (.int k n) :: r => match intsOf k r with
      | some l => some (.v (.int k (l.foldl imin n)), os, [])
      | none => none
    | _, _ => none

/-- All elements are as long as the type says. -/
def Lens (n : Nat) (l : List (List PV)) : Prop := ∀ x ∈ l, x.length = n

/-- A part of a text, of a list. -/
def evSlice (Γ : List (Nat × Ty)) (T : TypeId) (x : PV) (lo hi : Option PV) (os : List Obl) : Out PV :=
  match lk T Γ, os with
  | some ty, .pr _ :: os => match ty.kd, x, lo, hi with
    | 4, .str l, some (.v (.int _ a)), some (.v (.int _ b)) => some (.str ((l.drop a.toNat).take (b.toNat - a.toNat)), os, [.pr (0 ≤ a ∧ a ≤ b ∧ b ≤ l.length)])
    | 4, .str l, some (.v (.int _ a)), none => some (.str (l.drop a.toNat), os, [.pr (0 ≤ a ∧ a ≤ l.length)])
    | 4, .str l, none, some (.v (.int _ b)) => some (.str (l.take b.toNat), os, [.pr (0 ≤ b ∧ b ≤ l.length)])
    | 3, .lst l, lo, hi => match lk ty.elem Γ, lo, hi with
      | some ety, some (.v (.int _ a)), some (.v (.int _ b)) => some (.lst ((l.drop a.toNat).take (b.toNat - a.toNat)), os, [.pr (0 ≤ a ∧ a ≤ b ∧ b ≤ l.length ∧ Lens ety.size l)])
      | some ety, some (.v (.int _ a)), none => some (.lst (l.drop a.toNat), os, [.pr (0 ≤ a ∧ a ≤ l.length ∧ Lens ety.size l)])
      | some ety, none, some (.v (.int _ b)) => some (.lst (l.take b.toNat), os, [.pr (0 ≤ b ∧ b ≤ l.length ∧ Lens ety.size l)])
      | _, _, _ => none
    | _, _, _, _ => none
  | _, _ => none

/-- An element of a list, of an array, of a text. -/
def evIndex (Γ : List (Nat × Ty)) (T : TypeId) (x : PV) (i : PV) (os : List Obl) : Out PV :=
  match lk T Γ, i with
  | some ty, .v (.int _ n) => match ty.kd, x, os with
    | 4, .str l, .pr _ :: os => some (.v (.int .u8 ((l.getD n.toNat 0).toNat : Int)), os, [.pr (0 ≤ n ∧ n < l.length)])
    | 2, .agg cs, .idx _ _ y :: os => match lk ty.elem Γ with
      | some ety => bif Nat.beq cs.length (ty.len * ety.size) && !(Nat.beq ety.size 0) then
          (match rd ety y 0 with
          | some r => bif Nat.beq y.length ety.size then some (r, os, [.idx (chunk ety.size ty.len cs) n y]) else none
          | none => none)
        else none
      | none => none
    | _, _, _ => none
  | _, _ => none

/-- A value handed on to a call: pointers into boxes as places that are only read; is there one? -/
def handC (bx : List (Nat × List PV)) : List Nat → Option (List PV)
  | [] => some []
  | b :: r => match lk b bx, handC bx r with
    | some cs, some l => bif hdOk cs then some (.lptr cs 0 :: l) else none
    | _, _ => none
def hand (bx : List (Nat × List PV)) : AV → Option (PV × Bool)
  | .p x => some (norm x, false)
  | .ptr b off => match lk b bx with
    | some cs => bif hdOk cs then some (.lptr cs off, true) else none
    | none => none
  | .fnp f bs => match handC bx bs with
    | some l => some (.fn f l, true)
    | none => none
  | .sl _ _ _ _ => none
def handAll (bx : List (Nat × List PV)) : List AV → Option (List PV × Bool)
  | [] => some ([], false)
  | a :: r => match hand bx a, handAll bx r with
    | some (x, c), some (l, d) => some (x :: l, c || d)
    | _, _ => none

def boxesOf : List AV → Option (List Nat)
  | [] => some []
  | .ptr b off :: r => bif Nat.beq off 0 then (match boxesOf r with | some l => some (b :: l) | none => none) else none
  | _ => none

/-- What an operation that writes nothing leaves: a value; a new box; the place that holds the same list. -/
structure Res where
  av : AV
  box : Option (List PV) := none
  link : Option Loc := none

def linkOf (σ : St) (x : PV) (l : Loc) : Option Loc :=
  match x with
  | .lst _ => match l with
    | .t t => match lk t σ.al with
      | some l' => some l'
      | none => some l
    | l => some l
  | .nil => some l
  | _ => none

def mvLink (σ : St) (v : PV) : Operand → Option Loc
  | .tmp t => linkOf σ v (.t t)
  | _ => none
def ldLink (σ : St) (x : PV) : AV → Option Loc
  | .ptr b off => linkOf σ x (.b b off)
  | _ => none

def evPure (Γ : List (Nat × Ty)) (σ : St) (o : Oper) (os : List Obl) : Out Res :=
  let val (r : Option PV) : Out Res := match r with | some x => some (⟨.p x, none, none⟩, os, []) | none => none
  let out (r : Out PV) : Out Res := match r with | some (x, os, ob) => some (⟨.p x, none, none⟩, os, ob) | none => none
  match o.op with
  | .move x | .assign x => match opd σ x with
    | some (.p v) => some (⟨.p v, none, mvLink σ v x⟩, os, [])
    | some a => some (⟨a, none, none⟩, os, [])
    | none => none
  | .pick c a b => match pvOf σ c with
    | some (.v (.bool true)) => val (pvOf σ a)
    | some (.v (.bool false)) => val (pvOf σ b)
    | _ => none
  | .alloc T => match lk T Γ, o.dst with
    | some ty, some d => match lk d σ.boxes with
      | none => some (⟨.ptr d 0, some ty.zero, none⟩, os, [])
      | some _ => none
    | _, _ => none
  | .box _ x => match pvOf σ x, o.dst with
    | some v, some d => match lk d σ.boxes with
      | none => some (⟨.ptr d 0, some v.cells, none⟩, os, [])
      | some _ => none
    | _, _ => none
  | .build T ps => match mapO (fun (i, x) => match pvOf σ x with | some v => some (i, v) | none => none) ps.toList with
    | some l => val (evBuild Γ T l)
    | none => none
  | .buildSlice T n ps => match mapO (fun (i, x) => match pvOf σ x with | some v => some (i, v) | none => none) ps.toList with
    | some l => val (evBuildSlice Γ T n l)
    | none => none
  | .load T p => match opd σ p with
    | some a => match evLoad Γ σ.boxes T a with
      | some x => some (⟨.p x, none, ldLink σ x a⟩, os, [])
      | none => none
    | none => none
  | .fieldAddr T p f => match opd σ p with
    | some a => match evFieldAddr Γ T f a with
      | some a' => some (⟨a', none, none⟩, os, [])
      | none => none
    | none => none
  | .field T x f => match pvOf σ x, evField Γ T f with
    | some (.agg cs), some (off, fty) => val (rd fty cs off)
    | _, _ => none
  | .nilCheck x => match opd σ x with
    | some (.ptr b off) => some (⟨.ptr b off, none, none⟩, os, [])
    | some (.p (.lptr cs off)) => some (⟨.p (.lptr cs off), none, none⟩, os, [])
    | some (.p (.fn f cs)) => some (⟨.p (.fn f cs), none, none⟩, os, [])
    | _ => none
  | .binOp op T x y _ => match pvOf σ x, pvOf σ y with
    | some a, some b => out (evBin op T a b os)
    | _, _ => none
  | .unOp op _ x => match pvOf σ x with
    | some a => out (evUn op a os)
    | none => none
  | .convert S T x => match pvOf σ x, os with
    | some a, .cvt _ _ _ r :: os => some (⟨.p r, none, none⟩, os, [.cvt S T a r])
    | _, _ => none
  | .extract x i => match pvOf σ x with
    | some (.tup vs) => val vs[i]?
    | _ => none
  | .slice T x lo hi none => match pvOf σ x with
    | some a => match lo, hi with
      | none, none => none
      | some l, none => match pvOf σ l with | some l => out (evSlice Γ T a (some l) none os) | none => none
      | none, some h => match pvOf σ h with | some h => out (evSlice Γ T a none (some h) os) | none => none
      | some l, some h => match pvOf σ l, pvOf σ h with | some l, some h => out (evSlice Γ T a (some l) (some h) os) | _, _ => none
    | none => none
  | .index T x i => match pvOf σ x, pvOf σ i with
    | some a, some j => out (evIndex Γ T a j os)
    | _, _ => none
  | .indexAddr T x i => match lk T Γ, opd σ x, pvOf σ i with
    | some ty, some a, some (.v (.int _ n)) => match ty.kd, a with
      | 3, .p (.lst xs) => match lk ty.elem Γ, os with
        | some ety, .idx _ _ y :: os => bif Nat.beq y.length ety.size && !(Nat.beq ety.size 0) then some (⟨.p (.lptr y 0), none, none⟩, os, [.idx xs n y]) else none
        | _, _ => none
      | 2, .ptr b off => match lk ty.elem Γ, os with
        | some ety, .pr _ :: os => some (⟨.ptr b (off + n.toNat * ety.size), none, none⟩, os, [.pr (0 ≤ n ∧ n < ty.len)])
        | _, _ => none
      | 2, .p (.lptr cs off) => match lk ty.elem Γ, os with
        | some ety, .pr _ :: os => some (⟨.p (.lptr cs (off + n.toNat * ety.size)), none, none⟩, os, [.pr (0 ≤ n ∧ n < ty.len)])
        | _, _ => none
      | _, _ => none
    | _, _, _ => none
  | .makeFunc (.func f) first caps => match mapO (opd σ) caps.toList with
    | some l => match boxesOf l with
      | some bs => bif Nat.beq first.size 0 then some (⟨.fnp f bs, none, none⟩, os, []) else none
      | none => none
    | none => none
  | .call ⟨.builtin b, args, ats⟩ => match mapO (pvOf σ) args.toList with
    | some xs => out (evBuiltin Γ b ats o.type xs os)
    | none => none
  | .call ⟨.value f, args, _⟩ => match opd σ f, mapO (opd σ) args.toList, os with
    | some (.p (.fn g cs)), some l, .call _ _ r :: os => match handAll σ.boxes l with
      | some (xs, c) => bif !c || flat r then some (⟨.p r, none, none⟩, os, [.call g (xs ++ cs) r]) else none
      | none => none
    | some (.fnp g bs), some l, .call _ _ r :: os => match handAll σ.boxes l, handC σ.boxes bs with
      | some (xs, _), some cs => bif flat r then some (⟨.p r, none, none⟩, os, [.call g (xs ++ cs) r]) else none
      | _, _ => none
    | _, _, _ => none
  | _ => none

/-- Behind an operation: what it left, said otherwise. -/
def rewr (d : Nat) (r : Res) (os : List Obl) : Option (Res × List Obl × List Obl) :=
  match os, r with
  | .rb d' _ v :: os', ⟨.p (.v (.bool h)), bx, l⟩ => bif Nat.beq d d' then some (⟨.p (.v (.bool v)), bx, l⟩, os', [.rb d h v]) else some (r, os, [])
  | .re d' _ y :: os', ⟨.p x, bx, l⟩ => bif Nat.beq d d' then some (⟨.p y, bx, l⟩, os', [.re d x y]) else some (r, os, [])
  | _, _ => some (r, os, [])

def addRes (σ : St) (d : Nat) (r : Res) : St :=
  let σ' := put σ d r.av
  { σ' with boxes := (match r.box with | some cs => (d, cs) :: σ'.boxes | none => σ'.boxes),
            al := (match r.link with | some l => (d, l) :: σ'.al | none => σ'.al) }

end Go.Ev
namespace Go.Ev
open Go.RowKit

structure G where
  β : Nat → Option (Nat × Nat)
  hw : Nat → Nat

def RepA (g : G) (w : World) (val : Value) : AV → Prop
  | .p x => Rep g.hw w val x
  | .ptr b off => ∃ k base, g.β b = some (k, base) ∧ val = .pointer (some ⟨k, base + off, none⟩)
  | .fnp f bs => ∃ vs : List Value, val = .func (.func f) #[] vs.toArray ∧ vs.length = bs.length ∧
      ∀ (j : Nat) (v : Value) (b : Nat), vs[j]? = some v → bs[j]? = some b → ∃ k base, g.β b = some (k, base) ∧ v = .pointer (some ⟨k, base, none⟩)
  | .sl b off n _ => ∃ k base cap, g.β b = some (k, base) ∧ n ≤ cap ∧ val = .slice (some ⟨k, base + off, none⟩) n cap

def LocIs (g : G) (a : Act) (w : World) : Loc → Value → Prop
  | .t t, val => a.tmps.getD t undef = val
  | .b b c, val => ∃ k base, g.β b = some (k, base) ∧ w.cell? ⟨k, base + c, none⟩ = some val

/-- A list that the frame owns: the row is its own, and nothing is known behind its end. -/
def OwnV (P : Program) (B : Nat) (hw : Nat → Nat) (w : World) (E : TypeId) (val : Value) : Prop :=
  ∃ i n xs, P.info? E = some i ∧ w.ownsRow B E i.size val n xs ∧ ∀ k, val.ownBlock = some k → hw k = n * i.size

/-- A cell of a box: a value, or a Builder's first cell. -/
inductive RepB (β : Nat → Option (Nat × Nat)) (hw : Nat → Nat) (w : World) (k base j : Nat) (v : Value) : PV → Prop where
  | rep {y : PV} (h : Rep hw w v y) : RepB β hw w k base j v y
  | bld (u : Bool) (h0 : base + j = 0) (hs : w.shape? k = some (bldT, 2)) (hv : v = if u then .pointer (some ⟨k, 0, none⟩) else .pointer none) : RepB β hw w k base j v (.bld u)
  | bp (b off : Nat) (h : ∃ k' base', β b = some (k', base') ∧ v = .pointer (some ⟨k', base' + off, none⟩)) : RepB β hw w k base j v (.bp b off)
  | bs (b off n s : Nat) (h : ∃ k' base' cap, β b = some (k', base') ∧ n ≤ cap ∧ v = .slice (some ⟨k', base' + off, none⟩) n cap) : RepB β hw w k base j v (.bs b off n s)
structure BoxOk (g : G) (w : World) (k base : Nat) (cs : List PV) : Prop where
  cell : ∀ (j : Nat) (y : PV), cs[j]? = some y → ∃ v, w.cell? ⟨k, base + j, none⟩ = some v ∧ v.oneCell' = true ∧ w.frozen? ⟨k, base + j, none⟩ = false ∧ RepB g.β g.hw w k base j v y

structure Inv (P : Program) (B : Nat) (g : G) (σ : St) (a : Act) (w : World) : Prop where
  size : a.tmps.size = σ.n
  defers : a.defers = []
  tmp : ∀ t v, lk t σ.tmps = some v → t < σ.n ∧ RepA g w (a.tmps.getD t undef) v
  ptr : ∀ t b off, lk t σ.tmps = some (.ptr b off) → ∃ cs, lk b σ.boxes = some cs
  fnp : ∀ t f bs, lk t σ.tmps = some (.fnp f bs) → ∀ b ∈ bs, ∃ cs, lk b σ.boxes = some cs
  box : ∀ b cs, lk b σ.boxes = some cs → ∃ k base, g.β b = some (k, base) ∧ k < w.heap.size ∧ BoxOk g w k base cs ∧ (b ∉ σ.ro → g.hw k = 0) ∧ (b < σ.n → B ≤ k)
  inj : ∀ b b' cs cs' k base base', lk b σ.boxes = some cs → lk b' σ.boxes = some cs' → g.β b = some (k, base) → g.β b' = some (k, base') → b = b'
  hwlt : ∀ k, w.heap.size ≤ k → g.hw k = 0
  base : B ≤ w.heap.size
  glob : GlobIn B g.hw w
  own : ∀ l E, lkL l σ.own = some E → ∃ val, LocIs g a w l val ∧ OwnV P B g.hw w E val ∧
    ∀ k, val.ownBlock = some k → ∀ b cs base, lk b σ.boxes = some cs → g.β b ≠ some (k, base)
  ownt : ∀ l E, lkL l σ.own = some E → match l with | .t t => t < σ.n | .b b _ => ∃ cs, lk b σ.boxes = some cs
  owninj : ∀ l l' E E' val val' k, lkL l σ.own = some E → lkL l' σ.own = some E' → LocIs g a w l val → LocIs g a w l' val' → val.ownBlock = some k → val'.ownBlock = some k → l = l'
  al : ∀ t l, (t, l) ∈ σ.al → LocIs g a w l (a.tmps.getD t undef)
  alt : ∀ t b c, (t, .b b c) ∈ σ.al → ∃ cs, lk b σ.boxes = some cs
  sl : ∀ t b off n s, lk t σ.tmps = some (.sl b off n s) → ∃ cs, lk b σ.boxes = some cs
  ref : ∀ b cs, lk b σ.boxes = some cs → ∀ y ∈ cs, ∀ b', refP y = some b' → ∃ cs', lk b' σ.boxes = some cs'

/-- The world goes on: what lay there lies there. -/
structure Qt (h : Nat → Nat) (w : World) (h' : Nat → Nat) (w' : World) : Prop where
  below : Below w.heap.size w w'
  hw : ∀ k, k < w.heap.size → h' k = h k
  hwlt : ∀ k, w'.heap.size ≤ k → h' k = 0

theorem Qt.refl {h : Nat → Nat} {w : World} (hl : ∀ k, w.heap.size ≤ k → h k = 0) : Qt h w h w := ⟨Below.refl _ _, fun _ _ => rfl, hl⟩

theorem Qt.cell {h h' : Nat → Nat} {w w' : World} (q : Qt h w h' w') (k off : Nat) (hk : k < w.heap.size) : w'.cell? ⟨k, off, none⟩ = w.cell? ⟨k, off, none⟩ :=
  q.below.cell (p := ⟨k, off, none⟩) hk
theorem Qt.frozen {h h' : Nat → Nat} {w w' : World} (q : Qt h w h' w') (k off : Nat) (hk : k < w.heap.size) : w'.frozen? ⟨k, off, none⟩ = w.frozen? ⟨k, off, none⟩ :=
  q.below.frozen (p := ⟨k, off, none⟩) hk

theorem Qt.ext {h h' : Nat → Nat} {w w' : World} (hl : ∀ k, w.heap.size ≤ k → h k = 0) (q : Qt h w h' w') : Ext h w h' w' := by
  refine ⟨fun k off hh => ?_, fun k => ?_⟩
  · by_cases hk : k < w.heap.size
    · exact q.cell k off hk
    · rw [hl k (by omega)] at hh; omega
  · by_cases hk : k < w.heap.size
    · rw [q.hw k hk]; exact Nat.le_refl _
    · rw [hl k (by omega)]; omega

theorem Qt.trans {h1 h2 h3 : Nat → Nat} {a b c : World} (p : Qt h1 a h2 b) (q : Qt h2 b h3 c) : Qt h1 a h3 c :=
  ⟨p.below.trans (q.below.mono p.below.size), fun k hk => (q.hw k (Nat.lt_of_lt_of_le hk p.below.size)).trans (p.hw k hk), q.hwlt⟩

theorem lt_of_cell {w : World} {k off : Nat} {v : Value} (h : w.cell? ⟨k, off, none⟩ = some v) : k < w.heap.size := World.block_lt_of_cell? w ⟨k, off, none⟩ h

theorem RepB.mono {β β' : Nat → Option (Nat × Nat)} {hw hw' : Nat → Nat} {w w' : World} (hx : Ext hw w hw' w') {k base j : Nat} {v : Value} {y : PV} (hs : w'.shape? k = w.shape? k) (hβ : ∀ b, refP y = some b → β' b = β b) (h : RepB β hw w k base j v y) : RepB β' hw' w' k base j v y := by
  cases h with
  | rep h => exact .rep (h.mono hx)
  | bld u h0 h1 hv => exact .bld u h0 (hs.trans h1) hv
  | bp b off h => obtain ⟨k', base', h1, h2⟩ := h; exact .bp b off ⟨k', base', (hβ b rfl).trans h1, h2⟩
  | bs b off n s h => obtain ⟨k', base', cap, h1, h2⟩ := h; exact .bs b off n s ⟨k', base', cap, (hβ b rfl).trans h1, h2⟩
theorem RepB.plain {β : Nat → Option (Nat × Nat)} {hw : Nat → Nat} {w : World} {k base j : Nat} {v : Value} {y : PV} (h : RepB β hw w k base j v y) (hn : isBld y = false) : Rep hw w v y := by
  cases h with
  | rep h => exact h
  | bld u h0 _ _ => exact absurd hn (by simp [isBld])
  | bp _ _ _ => exact absurd hn (by simp [isBld])
  | bs _ _ _ _ _ => exact absurd hn (by simp [isBld])
theorem RepB.at {β : Nat → Option (Nat × Nat)} {hw : Nat → Nat} {w : World} {k base j base' j' : Nat} {v : Value} {y : PV} (h : RepB β hw w k base j v y) (e : base + j = base' + j') : RepB β hw w k base' j' v y := by
  cases h with
  | rep h => exact .rep h
  | bld u h0 h1 hv => exact .bld u (by omega) h1 hv
  | bp b off h => exact .bp b off h
  | bs b off n s h => exact .bs b off n s h
theorem rep_ref {hw : Nat → Nat} {w : World} {v : Value} {y : PV} (h : Rep hw w v y) : refP y = none := by cases h <;> rfl
theorem shape_block {w w' : World} {k : Nat} (h : w'.heap[k]? = w.heap[k]?) : w'.shape? k = w.shape? k := by simp [World.shape?, h]
theorem hd_plain : ∀ {cs : List PV} (_ : hdOk cs = true) {j : Nat} {y : PV} (_ : cs[j]? = some y), isBld y = false
  | [], _, j, y, hy => by simp at hy
  | x :: r, h, j, y, hy => by
    cases j with
    | zero =>
      have := Option.some.inj hy
      subst this
      cases x <;> first | rfl | exact absurd h (by simp [hdOk])
    | succ j =>
      refine hd_plain (cs := r) ?_ (j := j) (by simpa using hy)
      cases x <;> first | exact h | exact absurd h (by simp [hdOk])

theorem refsOf_mem : ∀ {cs : List PV} {y : PV} {b : Nat}, y ∈ cs → refP y = some b → b ∈ refsOf cs
  | [], _, _, h, _ => by simp at h
  | x :: r, y, b, h, hb => by
    rcases List.mem_cons.1 h with e | h
    · subst e
      cases y with
      | bp c off => have := Option.some.inj hb; subst this; exact List.mem_cons_self ..
      | bs c off n s => have := Option.some.inj hb; subst this; exact List.mem_cons_self ..
      | _ => exact absurd hb (by simp [refP])
    · have := refsOf_mem h hb
      cases x <;> first | exact this | exact List.mem_cons_of_mem _ this
theorem ref_plain {y : PV} (h : isBld y = false) : refP y = none := by cases y <;> first | rfl | exact absurd h (by simp [isBld])
theorem hd_ref {cs : List PV} (h : hdOk cs = true) {y : PV} (hy : y ∈ cs) : refP y = none := by
  obtain ⟨j, hj, rfl⟩ := List.getElem_of_mem hy
  exact ref_plain (hd_plain h (List.getElem?_eq_getElem hj))

theorem BoxOk.mono {g g' : G} {w w' : World} {k base : Nat} {cs : List PV} (hx : Ext g.hw w g'.hw w') (hc : ∀ off, w'.cell? ⟨k, off, none⟩ = w.cell? ⟨k, off, none⟩) (hf : ∀ off, w'.frozen? ⟨k, off, none⟩ = w.frozen? ⟨k, off, none⟩)
    (hs : w'.shape? k = w.shape? k) (hβ : ∀ y ∈ cs, ∀ b, refP y = some b → g'.β b = g.β b) (h : BoxOk g w k base cs) : BoxOk g' w' k base cs :=
  ⟨fun j y hy => let ⟨v, h1, h2, h3, h4⟩ := h.cell j y hy; ⟨v, (hc _).trans h1, h2, (hf _).trans h3, h4.mono hx hs (hβ y (List.mem_of_getElem? hy))⟩⟩

theorem BoxOk.plain {g : G} {w : World} {k base : Nat} {cs : List PV} (h : BoxOk g w k base cs) (hd : hdOk cs = true) (β' : Nat → Option (Nat × Nat)) : BoxOk ⟨β', g.hw⟩ w k base cs :=
  ⟨fun j y hy => let ⟨v, h1, h2, h3, h4⟩ := h.cell j y hy; ⟨v, h1, h2, h3, .rep (h4.plain (hd_plain hd hy))⟩⟩

theorem BoxOk.noref {g : G} {w : World} {k base : Nat} {cs : List PV} (h : BoxOk g w k base cs) (hn : ∀ y ∈ cs, ∀ b, refP y = some b → False) (β' : Nat → Option (Nat × Nat)) : BoxOk ⟨β', g.hw⟩ w k base cs :=
  ⟨fun j y hy => let ⟨v, h1, h2, h3, h4⟩ := h.cell j y hy; ⟨v, h1, h2, h3, h4.mono (Ext.refl _ _) rfl (fun b hb => (hn y (List.mem_of_getElem? hy) b hb).elim)⟩⟩

theorem RepA.mono {g g' : G} {w w' : World} (hx : Ext g.hw w g'.hw w') {val : Value} {x : AV} (hb : ∀ b, (∀ off, x ≠ .ptr b off) ∧ (∀ f bs, x = .fnp f bs → b ∉ bs) ∨ g'.β b = g.β b) (hs : ∀ b off n s, x = .sl b off n s → g'.β b = g.β b) (h : RepA g w val x) : RepA g' w' val x := by
  cases x with
  | p x => exact Rep.mono hx h
  | ptr b off =>
    obtain ⟨k, base, h1, h2⟩ := h
    rcases hb b with ⟨hn, _⟩ | he
    · exact absurd rfl (hn off)
    · exact ⟨k, base, he.trans h1, h2⟩
  | fnp f bs =>
    obtain ⟨vs, h1, h2, h3⟩ := h
    refine ⟨vs, h1, h2, fun j v b hv hb' => ?_⟩
    obtain ⟨k, base, h4, h5⟩ := h3 j v b hv hb'
    rcases hb b with ⟨_, hn⟩ | he
    · exact absurd (List.mem_of_getElem? hb') (hn f bs rfl)
    · exact ⟨k, base, he.trans h4, h5⟩
  | sl b off n s =>
    obtain ⟨k, base, cap, h1, h2⟩ := h
    exact ⟨k, base, cap, (hs b off n s rfl).trans h1, h2⟩

theorem OwnV.mono {P : Program} {B : Nat} {hw hw' : Nat → Nat} {w w' : World} {E : TypeId} {val : Value} (hb : ∀ k, val.ownBlock = some k → w'.heap[k]? = w.heap[k]? ∧ hw' k = hw k) (h : OwnV P B hw w E val) : OwnV P B hw' w' E val := by
  obtain ⟨i, n, xs, hi, ho, hf⟩ := h
  refine ⟨i, n, xs, hi, ⟨ho.1, ?_⟩, fun k hk => (hb k hk).2.trans (hf k hk)⟩
  rcases ho.2 with h | ⟨gb, cap, cur, rfl, hg, hh, r⟩
  · exact Or.inl h
  · exact Or.inr ⟨gb, cap, cur, rfl, hg, by rw [(hb gb rfl).1]; exact hh, r⟩

theorem lk_cons {α : Type} (k k' : Nat) (x : α) (l : List (Nat × α)) : lk k ((k', x) :: l) = if k = k' then some x else lk k l := by
  simp only [lk]
  by_cases h : k = k'
  · subst h; simp
  · have : Nat.beq k k' = false := by
      cases hh : Nat.beq k k' with
      | true => exact absurd (Nat.eq_of_beq_eq_true hh) h
      | false => rfl
    simp [this, h]

theorem Loc.eq_iff {a b : Loc} : a.eq b = true ↔ a = b := by
  cases a <;> cases b <;> simp [Loc.eq]

theorem lkL_cons {α : Type} (k k' : Loc) (x : α) (l : List (Loc × α)) : lkL k ((k', x) :: l) = if k = k' then some x else lkL k l := by
  simp only [lkL]
  by_cases h : k = k'
  · subst h; simp [Loc.eq_iff.2 rfl]
  · have : k.eq k' = false := by
      cases hh : k.eq k' with
      | true => exact absurd (Loc.eq_iff.1 hh) h
      | false => rfl
    simp [this, h]

theorem lkL_filter {α : Type} (p : Loc → Bool) (l : List (Loc × α)) (k : Loc) : lkL k (l.filter fun (x, _) => p x) = if p k = true then lkL k l else none := by
  induction l with
  | nil => simp [lkL]
  | cons hd tl ih =>
    obtain ⟨k', x⟩ := hd
    by_cases hp : p k' = true
    · rw [List.filter_cons_of_pos (by simpa using hp), lkL_cons, lkL_cons, ih]
      by_cases hk : k = k'
      · subst hk; simp [hp]
      · simp [hk]
    · rw [List.filter_cons_of_neg (by simpa using hp), ih, lkL_cons]
      by_cases hk : k = k'
      · subst hk; simp [hp]
      · simp [hk]
end Go.Ev
namespace Go.Ev
open Go.RowKit

/-! Types. -/
theorem mkTy_eq {kd : Nat} {i : TypeInfo} {z : Value} {fs : List (Nat × Nat)} {e n : Nat} {ty : Ty} (h : mkTy kd i z fs e n = some ty) :
    ty = ⟨kd, i.size, i.bytes, z.cells.toList.map cv, fs, e, n⟩ ∧ (∀ x ∈ z.cells.toList, x.oneCell' = true) ∧ z.cells.size = i.size := by
  unfold mkTy at h
  cases hb : (z.cells.toList.all Value.oneCell' && Nat.beq z.cells.size i.size) with
  | false => rw [hb] at h; exact absurd h (by simp)
  | true =>
    rw [hb] at h
    rw [Bool.and_eq_true] at hb
    exact ⟨(Option.some.inj h).symm, List.all_eq_true.1 hb.1, Nat.eq_of_beq_eq_true hb.2⟩

/-- What is told of a type, taken apart. -/
structure TyIs (P : Program) (T : TypeId) (ty : Ty) : Prop where
  info : ∃ i z, P.info? T = some i ∧ i.zero = some z ∧ ty.size = i.size ∧ ty.bytes = i.bytes ∧ ty.zero = z.cells.toList.map cv ∧ (∀ x ∈ z.cells.toList, x.oneCell' = true) ∧ z.cells.size = i.size
  under : (ty.kd = 1 ∧ ∃ fs, P.underlying T = some (.struct fs) ∧ ty.fields = fs.toList.map fun f => (f.offset, f.type)) ∨
    (ty.kd = 2 ∧ P.underlying T = some (.array ty.len ty.elem)) ∨
    (ty.kd = 3 ∧ P.underlying T = some (.slice ty.elem)) ∨
    (ty.kd = 4 ∧ P.underlying T = some .string) ∨
    (ty.kd = 0 ∧ ∃ d, P.underlying T = some d ∧ (match d with | .struct _ | .array _ _ => false | _ => true) = true)

theorem tyIs {P : Program} {T : TypeId} {ty : Ty} (h : tyOf P T = some ty) : TyIs P T ty := by
  unfold tyOf at h
  cases hi : P.info? T with
  | none => rw [hi] at h; exact absurd h (by simp)
  | some i =>
    rw [hi] at h
    simp only at h
    cases hz : i.zero with
    | none => rw [hz] at h; exact absurd h (by simp)
    | some z =>
      rw [hz] at h
      simp only at h
      have mk : ∀ {kd fs e n}, mkTy kd i z fs e n = some ty → (ty.kd = kd ∧ ty.fields = fs ∧ ty.elem = e ∧ ty.len = n) ∧
          ∃ i z, P.info? T = some i ∧ i.zero = some z ∧ ty.size = i.size ∧ ty.bytes = i.bytes ∧ ty.zero = z.cells.toList.map cv ∧ (∀ x ∈ z.cells.toList, x.oneCell' = true) ∧ z.cells.size = i.size := by
        intro kd fs e n hm
        obtain ⟨he, h1, h2⟩ := mkTy_eq hm
        subst he
        exact ⟨⟨rfl, rfl, rfl, rfl⟩, i, z, hi, hz, rfl, rfl, rfl, h1, h2⟩
      cases hu : P.underlying T with
      | none => rw [hu] at h; exact absurd h (by simp)
      | some d =>
        rw [hu] at h
        cases d with
        | struct fs => obtain ⟨⟨h1, h2, h3, h4⟩, h5⟩ := mk h; exact ⟨h5, .inl ⟨h1, fs, hu, h2⟩⟩
        | array n e => obtain ⟨⟨h1, h2, h3, h4⟩, h5⟩ := mk h; exact ⟨h5, .inr (.inl ⟨h1, by rw [h3, h4]; exact hu⟩)⟩
        | slice e => obtain ⟨⟨h1, h2, h3, h4⟩, h5⟩ := mk h; exact ⟨h5, .inr (.inr (.inl ⟨h1, by rw [h3]; exact hu⟩))⟩
        | string => obtain ⟨⟨h1, h2, h3, h4⟩, h5⟩ := mk h; exact ⟨h5, .inr (.inr (.inr (.inl ⟨h1, hu⟩)))⟩
        | _ => obtain ⟨⟨h1, h2, h3, h4⟩, h5⟩ := mk h; exact ⟨h5, .inr (.inr (.inr (.inr ⟨h1, _, hu, rfl⟩)))⟩

theorem run_sizeOf {P : Program} {T : TypeId} {ty : Ty} (h : TyIs P T ty) (w : World) : (sizeOf T).run P w = .ok ty.size w := by
  obtain ⟨i, z, hi, _, hs, _⟩ := h.info
  simp [sizeOf, typeInfo, hi, hs]

theorem agg_kd {ty : Ty} {n : Nat} (h : ty.kd = n) : ty.agg = (Nat.beq n 1 || Nat.beq n 2) := by unfold Ty.agg; rw [h]

theorem run_isAgg {P : Program} {T : TypeId} {ty : Ty} (h : TyIs P T ty) (w : World) : (isAgg T).run P w = .ok ty.agg w := by
  unfold isAgg
  rcases h.under with ⟨hk, fs, hu, _⟩ | ⟨hk, hu⟩ | ⟨hk, hu⟩ | ⟨hk, hu⟩ | ⟨hk, d, hu, hd⟩
  · rw [Sem.run_bind, run_underlying hu w, agg_kd hk]; rfl
  · rw [Sem.run_bind, run_underlying hu w, agg_kd hk]; rfl
  · rw [Sem.run_bind, run_underlying hu w, agg_kd hk]; rfl
  · rw [Sem.run_bind, run_underlying hu w, agg_kd hk]; rfl
  · rw [Sem.run_bind, run_underlying hu w, agg_kd hk]
    cases d <;> first | (simp at hd; done) | rfl

theorem run_zeroValue {P : Program} {T : TypeId} {ty : Ty} (h : TyIs P T ty) (w : World) :
    ∃ z : Value, (zeroValue T).run P w = .ok z w ∧ ty.zero = z.cells.toList.map cv ∧ (∀ x ∈ z.cells.toList, x.oneCell' = true) ∧ z.cells.size = ty.size := by
  obtain ⟨i, z, hi, hz, hs, _, h1, h2, h3⟩ := h.info
  exact ⟨z, by simp [zeroValue, typeInfo, hi, hz], h1, h2, by rw [hs, h3]⟩

/-! Constants. -/
theorem rep_cv (hw : Nat → Nat) (w : World) (v : Value) (h : v.oneCell' = true) : Rep hw w v (cv v) := by
  unfold cv
  split
  · rename_i b
    have : b = ⟨b.data.toList.toArray⟩ := by simp
    have hr := Rep.str (hw := hw) (w := w) b.data.toList
    rw [← this] at hr
    exact hr
  · exact .nil
  · exact .v _ h

theorem rep_cvO {hw : Nat → Nat} {w : World} {v : Value} {x : PV} (h : cvO v = some x) : Rep hw w v x := by
  unfold cvO at h
  split at h
  · rename_i cs
    cases hb : cs.toList.all Value.oneCell' with
    | false => rw [hb] at h; exact absurd h (by simp)
    | true =>
      rw [hb] at h
      have h1 := List.all_eq_true.1 hb
      have := Option.some.inj h
      subst this
      have e : (Value.agg cs) = .agg cs.toList.toArray := by simp
      rw [e]
      refine .agg cs.toList _ (by simp) (fun j x y hx hy => ?_) h1
      rw [List.getElem?_map, hx] at hy
      simp at hy
      subst hy
      exact rep_cv hw w x (h1 x (List.mem_of_getElem? hx))
  · exact absurd h (by simp)
  · rename_i h1 h2
    have := Option.some.inj h
    subst this
    refine rep_cv hw w v ?_
    cases v <;> first | rfl | exact absurd rfl (h1 _) | exact absurd rfl (h2 _)

theorem opd_sound {P : Program} {B : Nat} {g : G} {σ : St} {a : Act} {w : World} (hI : Inv P B g σ a w) {x : Operand} {av : AV} (h : opd σ x = some av) : RepA g w (a.eval x) av := by
  cases x with
  | tmp t => exact (hI.tmp t av h).2
  | const v =>
    simp only [opd] at h
    cases hc : cvO v with
    | none => rw [hc] at h; exact absurd h (by simp)
    | some y =>
      rw [hc] at h
      have := Option.some.inj h
      subst this
      exact rep_cvO hc
  | global y =>
    simp only [opd] at h
    split at h
    · rename_i cs hcs
      have := Option.some.inj h
      subst this
      exact (hI.glob.1 y cs hcs).1
    · exact absurd h (by simp)
  | func f =>
    have := Option.some.inj h
    subst this
    show Rep g.hw w (.func (.func f) #[] #[]) (.fn f [])
    exact .fn f [] [] rfl (fun j x y hx => by simp at hx)

theorem pvOf_opd {σ : St} {x : Operand} {v : PV} (h : pvOf σ x = some v) : opd σ x = some (.p v) := by
  unfold pvOf at h
  split at h
  · rename_i y hy; have := Option.some.inj h; subst this; exact hy
  · exact absurd h (by simp)

theorem pvOf_sound {P : Program} {B : Nat} {g : G} {σ : St} {a : Act} {w : World} (hI : Inv P B g σ a w) {x : Operand} {v : PV} (h : pvOf σ x = some v) : Rep g.hw w (a.eval x) v :=
  opd_sound hI (pvOf_opd h)

/-! Reading. -/
/-- Cells that lie there, as they are known. -/
def CellsAt (hw : Nat → Nat) (w : World) (k base : Nat) (cs : List PV) : Prop :=
  ∀ (j : Nat) (y : PV), cs[j]? = some y → ∃ v, w.cell? ⟨k, base + j, none⟩ = some v ∧ v.oneCell' = true ∧ (isBld y = false → Rep hw w v y)

theorem rd1_get {o : Option PV} {x : PV} (h : rd1 o = some x) : o = some x ∧ isBld x = false := by
  unfold rd1 at h
  split at h
  · exact absurd h (by simp)
  · exact absurd h (by simp)
  · exact absurd h (by simp)
  · rename_i h1 h2 h3
    subst h
    refine ⟨rfl, ?_⟩
    cases x <;> first | rfl | exact absurd rfl (h1 _) | exact absurd rfl (h2 _ _) | exact absurd rfl (h3 _ _ _ _)

theorem rd_sound {P : Program} {T : TypeId} {ty : Ty} (hT : TyIs P T ty) {hw : Nat → Nat} {w : World} {k base : Nat} {cs : List PV} (hc : CellsAt hw w k base cs) {off : Nat} {x : PV} (h : rd ty cs off = some x) :
    ∃ v, (loadVar T ⟨k, base + off, none⟩).run P w = .ok v w ∧ Rep hw w v x := by
  unfold rd at h
  cases hb : Nat.ble (off + ty.size) cs.length with
  | false => rw [hb] at h; exact absurd h (by simp)
  | true =>
    rw [hb] at h
    have hle := Nat.le_of_ble_eq_true hb
    simp only [cond_true] at h
    cases ha : ty.agg with
    | true =>
      rw [ha] at h
      simp only [cond_true] at h
      cases hd : hdOk ((cs.drop off).take ty.size) with
      | false => rw [hd] at h; exact absurd h (by simp)
      | true =>
      rw [hd] at h
      have := Option.some.inj h
      subst this
      have hcell : ∀ j, j < ty.size → ∃ v, w.cell? ⟨k, base + off + j, none⟩ = some v ∧ v.oneCell' = true ∧ ∀ y, cs[off + j]? = some y → Rep hw w v y := by
        intro j hj
        have hlt : off + j < cs.length := by omega
        obtain ⟨v, h1, h2, h3⟩ := hc (off + j) cs[off + j] (List.getElem?_eq_getElem hlt)
        refine ⟨v, by rw [Nat.add_assoc]; exact h1, h2, fun y hy => ?_⟩
        rw [List.getElem?_eq_getElem hlt] at hy
        have := Option.some.inj hy
        subst this
        refine h3 (hd_plain hd (j := j) ?_)
        rw [List.getElem?_take_of_lt hj, List.getElem?_drop]
        exact List.getElem?_eq_getElem hlt
      let f : Nat → Value := fun j => (w.cell? ⟨k, base + off + j, none⟩).getD undef
      have hf : ∀ j, j < ty.size → w.cell? ((⟨k, base + off, none⟩ : Addr).add j) = some (f j) := by
        intro j hj
        obtain ⟨v, h1, _⟩ := hcell j hj
        rw [Addr.add_lit]
        simp only [f, h1, Option.getD_some]
      refine ⟨.agg ((List.range ty.size).map f).toArray, ?_, ?_⟩
      · unfold loadVar
        rw [Sem.run_bind, run_isAgg hT w, Result.andThen_ok, ha]
        simp only [if_true]
        rw [Sem.run_bind, run_sizeOf hT w, Result.andThen_ok, Sem.run_bind, run_loadCells w _ ty.size f hf, Result.andThen_ok]
        rfl
      · refine .agg _ _ (by simp; omega) (fun j u y hu hy => ?_) (fun u hu => ?_)
        · rw [List.getElem?_map] at hu
          by_cases hj : j < ty.size
          · rw [List.getElem?_range hj] at hu
            simp at hu
            subst hu
            rw [List.getElem?_take_of_lt hj, List.getElem?_drop] at hy
            obtain ⟨v, h1, _, h3⟩ := hcell j hj
            simp only [f, h1, Option.getD_some]
            exact h3 y hy
          · rw [List.getElem?_eq_none (by simp; omega)] at hu
            exact absurd hu (by simp)
        · rw [List.mem_map] at hu
          obtain ⟨j, hj, rfl⟩ := hu
          obtain ⟨v, h1, h2, _⟩ := hcell j (List.mem_range.1 hj)
          simp only [f, h1, Option.getD_some]
          exact h2
    | false =>
      rw [ha] at h
      simp only [cond_false] at h
      cases hb1 : Nat.beq ty.size 1 with
      | false => rw [hb1] at h; exact absurd h (by simp)
      | true =>
        rw [hb1] at h
        simp only [cond_true] at h
        obtain ⟨h, hx⟩ := rd1_get h
        obtain ⟨v, h1, _, h3⟩ := hc off x h
        refine ⟨v, ?_, h3 hx⟩
        unfold loadVar
        rw [Sem.run_bind, run_isAgg hT w, Result.andThen_ok, ha]
        simp [h1]

theorem BoxOk.cells {g : G} {w : World} {k base : Nat} {cs : List PV} (h : BoxOk g w k base cs) : CellsAt g.hw w k base cs :=
  fun j y hy => let ⟨v, h1, h2, _, h4⟩ := h.cell j y hy; ⟨v, h1, h2, h4.plain⟩

theorem lptr_cells {hw : Nat → Nat} {w : World} {val : Value} {cs : List PV} {off : Nat} (h : Rep hw w val (.lptr cs off)) : ∃ k base, val = .pointer (some ⟨k, base + off, none⟩) ∧ CellsAt hw w k base cs := by
  cases h with
  | lptr cs blk base off c hc hr h1 hh =>
    refine ⟨blk, base, rfl, fun j y hy => ?_⟩
    have hj : j < cs.length := (List.getElem?_eq_some_iff.1 hy).1
    exact ⟨c j, hc j hj, h1 j hj, fun _ => hr j y hy⟩

theorem load_sound {P : Program} {Γ : List (Nat × Ty)} (hΓ : TyOk P Γ) {B : Nat} {g : G} {σ : St} {a : Act} {w : World} (hI : Inv P B g σ a w) {T : TypeId} {av : AV} {x : PV} {val : Value}
    (h : evLoad Γ σ.boxes T av = some x) (hv : RepA g w val av) : ∃ v, (Instr.loadAt T val).run P w = .ok v w ∧ Rep g.hw w v x := by
  unfold evLoad at h
  split at h
  · rename_i b off
    split at h
    · rename_i ty cs hty hcs
      obtain ⟨k, base, hb, rfl⟩ := hv
      obtain ⟨k', base', hb', _, hok, _⟩ := hI.box b cs hcs
      rw [hb] at hb'
      have := Option.some.inj hb'
      cases this
      obtain ⟨v, h1, h2⟩ := rd_sound (tyIs (hΓ T ty hty)) hok.cells h
      exact ⟨v, by simp [Instr.loadAt, Instr.sureAddr, h1], h2⟩
    · exact absurd h (by simp)
  · rename_i cs off
    split at h
    · rename_i ty hty
      obtain ⟨k, base, rfl, hc⟩ := lptr_cells hv
      obtain ⟨v, h1, h2⟩ := rd_sound (tyIs (hΓ T ty hty)) hc h
      exact ⟨v, by simp [Instr.loadAt, Instr.sureAddr, h1], h2⟩
    · exact absurd h (by simp)
  · exact absurd h (by simp)

/-- A part of cells side by side. -/
theorem part_sound {P : Program} {T : TypeId} {ty : Ty} (hT : TyIs P T ty) {hw : Nat → Nat} {w : World} {vs : List Value} {cs : List PV} (hl : vs.length = cs.length)
    (hr : ∀ (j : Nat) (x : Value) (y : PV), vs[j]? = some x → cs[j]? = some y → Rep hw w x y) (h1 : ∀ x ∈ vs, x.oneCell' = true) {off : Nat} {x : PV} (h : rd ty cs off = some x) :
    ∃ v, (part T vs.toArray off).run P w = .ok v w ∧ Rep hw w v x := by
  unfold rd at h
  cases hb : Nat.ble (off + ty.size) cs.length with
  | false => rw [hb] at h; exact absurd h (by simp)
  | true =>
    rw [hb] at h
    have hle := Nat.le_of_ble_eq_true hb
    simp only [cond_true] at h
    unfold part
    rw [Sem.run_bind, run_isAgg hT w, Result.andThen_ok]
    cases ha : ty.agg with
    | true =>
      rw [ha] at h
      simp only [cond_true] at h
      cases hd : hdOk ((cs.drop off).take ty.size) with
      | false => rw [hd] at h; exact absurd h (by simp)
      | true =>
      rw [hd] at h
      have := Option.some.inj h
      subst this
      simp only [if_true]
      rw [Sem.run_bind, run_sizeOf hT w, Result.andThen_ok]
      refine ⟨.agg ((vs.drop off).take ty.size).toArray, ?_, .agg _ _ (by simp; omega) (fun j u y hu hy => ?_) (fun u hu => h1 u (List.mem_of_mem_drop (List.mem_of_mem_take hu)))⟩
      · have e : vs.toArray.extract off (off + ty.size) = ((vs.drop off).take ty.size).toArray := by
          apply Array.ext'
          simp [Nat.add_sub_cancel_left]
        rw [e]
        rfl
      · by_cases hj : j < ty.size
        · rw [List.getElem?_take_of_lt hj, List.getElem?_drop] at hu hy
          exact hr _ _ _ hu hy
        · rw [List.getElem?_eq_none (by simp; omega)] at hu
          exact absurd hu (by simp)
    | false =>
      rw [ha] at h
      simp only [cond_false] at h
      cases hb1 : Nat.beq ty.size 1 with
      | false => rw [hb1] at h; exact absurd h (by simp)
      | true =>
        rw [hb1] at h
        simp only [cond_true] at h
        obtain ⟨h, _⟩ := rd1_get h
        have hlt : off < vs.length := by have := (List.getElem?_eq_some_iff.1 h).1; omega
        refine ⟨vs[off], ?_, hr off _ x (List.getElem?_eq_getElem hlt) h⟩
        simp [hlt]
end Go.Ev
namespace Go.Ev
open Go.RowKit

/-- Values, cell by cell, as they are known. -/
structure CellsRep (hw : Nat → Nat) (w : World) (vs : List Value) (cs : List PV) : Prop where
  len : vs.length = cs.length
  rep : ∀ (j : Nat) (x : Value) (y : PV), vs[j]? = some x → cs[j]? = some y → Rep hw w x y
  one : ∀ x ∈ vs, x.oneCell' = true

theorem Rep.cellsRep {hw : Nat → Nat} {w : World} {v : Value} {x : PV} (h : Rep hw w v x) (hx : x.cells ≠ []) : CellsRep hw w v.cells.toList x.cells := by
  have one : ∀ (v : Value) (x : PV), Rep hw w v x → v.oneCell' = true → CellsRep hw w [v] [x] := fun v x h h1 =>
    ⟨rfl, fun j a b ha hb => by
      cases j with
      | zero => simp at ha hb; subst ha; subst hb; exact h
      | succ j => simp at ha, fun a ha => by simp at ha; subst ha; exact h1⟩
  cases h with
  | v _ h1 =>
    have : v.cells = #[v] := by cases v <;> first | rfl | (simp [Value.oneCell'] at h1)
    simp only [PV.cells, this]
    exact one _ _ (.v v h1) h1
  | str l => exact one _ _ (.str l) rfl
  | nil => exact one _ _ .nil rfl
  | lnil => exact one _ _ .lnil rfl
  | lst xs blk off cap s c hcap hlen hc hr h1 hh => exact one _ _ (.lst xs blk off cap s c hcap hlen hc hr h1 hh) rfl
  | lptr cs blk base off c hc hr h1 hh => exact one _ _ (.lptr cs blk base off c hc hr h1 hh) rfl
  | agg vs cs hl hr h1 => exact ⟨by simpa [Value.cells, PV.cells] using hl, by simpa [Value.cells, PV.cells] using hr, by simpa [Value.cells] using h1⟩
  | tup vs cs hl hr => simp [PV.cells] at hx
  | fn f vs cs hl hr => exact one _ _ (.fn f vs cs hl hr) rfl

theorem CellsRep.mono {hw hw' : Nat → Nat} {w w' : World} (x : Ext hw w hw' w') {vs : List Value} {cs : List PV} (h : CellsRep hw w vs cs) : CellsRep hw' w' vs cs :=
  ⟨h.len, fun j a b ha hb => (h.rep j a b ha hb).mono x, h.one⟩

theorem CellsRep.zero {hw : Nat → Nat} {w : World} {vs : List Value} (h : ∀ x ∈ vs, x.oneCell' = true) : CellsRep hw w vs (vs.map cv) :=
  ⟨by simp, fun j x y hx hy => by
    rw [List.getElem?_map, hx] at hy
    simp at hy
    subst hy
    exact rep_cv hw w x (h x (List.mem_of_getElem? hx)), h⟩

theorem CellsRep.append {hw : Nat → Nat} {w : World} {vs vs' : List Value} {cs cs' : List PV} (h : CellsRep hw w vs cs) (h' : CellsRep hw w vs' cs') : CellsRep hw w (vs ++ vs') (cs ++ cs') :=
  ⟨by simp [h.len, h'.len], fun j x y hx hy => by
    rw [List.getElem?_append] at hx hy
    rw [h.len] at hx
    split at hx
    · rename_i hj; rw [if_pos hj] at hy; exact h.rep j x y hx hy
    · rename_i hj; rw [if_neg hj] at hy; exact h'.rep _ x y hx hy, fun x hx => by
    rcases List.mem_append.1 hx with hx | hx
    · exact h.one x hx
    · exact h'.one x hx⟩

theorem CellsRep.take {hw : Nat → Nat} {w : World} {vs : List Value} {cs : List PV} (h : CellsRep hw w vs cs) (n : Nat) : CellsRep hw w (vs.take n) (cs.take n) :=
  ⟨by simp [h.len], fun j x y hx hy => by
    rw [List.getElem?_take] at hx hy
    split at hx
    · rename_i hj; rw [if_pos hj] at hy; exact h.rep j x y hx hy
    · exact absurd hx (by simp), fun x hx => h.one x (List.mem_of_mem_take hx)⟩

theorem CellsRep.drop {hw : Nat → Nat} {w : World} {vs : List Value} {cs : List PV} (h : CellsRep hw w vs cs) (n : Nat) : CellsRep hw w (vs.drop n) (cs.drop n) :=
  ⟨by simp [h.len], fun j x y hx hy => by
    rw [List.getElem?_drop] at hx hy
    exact h.rep _ x y hx hy, fun x hx => h.one x (List.mem_of_mem_drop hx)⟩

theorem CellsRep.agg {hw : Nat → Nat} {w : World} {vs : List Value} {cs : List PV} (h : CellsRep hw w vs cs) : Rep hw w (.agg vs.toArray) (.agg cs) := .agg vs cs h.len h.rep h.one

theorem agg_cells {hw : Nat → Nat} {w : World} {v : Value} {cs : List PV} (h : Rep hw w v (.agg cs)) : ∃ vs, v = .agg vs.toArray ∧ CellsRep hw w vs cs := by
  cases h with
  | agg vs cs hl hr h1 => exact ⟨vs, rfl, hl, hr, h1⟩

theorem foldl_set (off : Nat) : ∀ (xs : List Value) (k : Nat) (arr : Array Value), off + k + xs.length ≤ arr.size →
    ((xs.zipIdx k).foldl (fun cs (x : Value × Nat) => cs.setIfInBounds (off + x.2) x.1) arr).toList = arr.toList.take (off + k) ++ xs ++ arr.toList.drop (off + k + xs.length)
  | [], k, arr, _ => by simp
  | v :: r, k, arr, h => by
    have ih := foldl_set off r (k + 1) (arr.setIfInBounds (off + k) v) (by simp at h ⊢; omega)
    simp only [List.zipIdx_cons, List.foldl_cons, ih, Array.toList_setIfInBounds]
    have e := list_seg_step arr.toList (off + k) v r (by simp at h ⊢; omega)
    simp only [List.length_cons]
    rw [← e]
    rfl

theorem fill_sound {hw : Nat → Nat} {w : World} {pl pl' : Nat → Option (Nat × Nat)} (hpl : ∀ i x, pl' i = some x → pl i = some x) :
    ∀ (ps : List (Nat × PV)) (vs : List (Nat × Value)) (cells : List Value) (cs : List PV) (r : List PV), CellsRep hw w cells cs →
      vs.length = ps.length → (∀ (j : Nat) (v : Nat × Value) (p : Nat × PV), vs[j]? = some v → ps[j]? = some p → v.1 = p.1 ∧ Rep hw w v.2 p.2) →
      fillS pl' cs ps = some r → ∃ out : List Value, Instr.fill pl cells.toArray vs = some out.toArray ∧ CellsRep hw w out r ∧ out.length = cells.length
  | [], [], cells, cs, r, hc, _, _, h => by
    have := Option.some.inj h
    subst this
    exact ⟨cells, rfl, hc, rfl⟩
  | (i, x) :: ps, (i', v) :: vs, cells, cs, r, hc, hl, hr, h => by
    obtain ⟨hi, hv⟩ := hr 0 (i', v) (i, x) rfl rfl
    simp only at hi hv
    subst hi
    unfold fillS at h
    cases hp : pl' i' with
    | none => rw [hp] at h; exact absurd h (by simp)
    | some q =>
      obtain ⟨off, size⟩ := q
      rw [hp] at h
      simp only at h
      cases hb : (Nat.beq x.cells.length size && Nat.ble (off + size) cs.length && !(Nat.beq size 0)) with
      | false => rw [hb] at h; exact absurd h (by simp)
      | true =>
        rw [hb] at h
        simp only [cond_true] at h
        simp only [Bool.and_eq_true, Bool.not_eq_true'] at hb
        obtain ⟨⟨hb1, hb2⟩, hb3⟩ := hb
        have e1 := Nat.eq_of_beq_eq_true hb1
        have e2 := Nat.le_of_ble_eq_true hb2
        have e3 : size ≠ 0 := fun h0 => by rw [h0] at hb3; exact absurd hb3 (by decide)
        have hvc := hv.cellsRep (by intro h0; rw [h0] at e1; exact e3 e1.symm)
        have hsz : v.cells.size = size := by have := hvc.len; rw [e1] at this; simpa using this
        have hlen : cells.length = cs.length := hc.len
        have hfold : (Array.foldl (fun cs (x : Value × Nat) => cs.setIfInBounds (off + x.2) x.1) cells.toArray v.cells.zipIdx) =
            (cells.take off ++ v.cells.toList ++ cells.drop (off + v.cells.toList.length)).toArray := by
          apply Array.ext'
          rw [← Array.foldl_toList]
          have := foldl_set off v.cells.toList 0 cells.toArray (by simp; omega)
          simpa using this
        have hnew : CellsRep hw w (cells.take off ++ v.cells.toList ++ cells.drop (off + v.cells.toList.length)) (lay cs off x.cells) := by
          unfold lay
          rw [List.append_assoc]
          refine (hc.take off).append (hvc.append ?_)
          rw [hvc.len]
          exact hc.drop _
        have hnl : (cells.take off ++ v.cells.toList ++ cells.drop (off + v.cells.toList.length)).length = cells.length := by
          simp
          omega
        obtain ⟨out, h1, h2, h3⟩ := fill_sound hpl ps vs _ _ r hnew (by simpa using hl) (fun j a b ha hb => hr (j + 1) a b ha hb) h
        refine ⟨out, ?_, h2, by rw [h3, hnl]⟩
        unfold Instr.fill
        rw [hpl _ _ hp]
        simp only [hsz]
        have : ¬ (off + size > cells.toArray.size) := by simp; omega
        simp only [ne_eq, not_true_eq_false, decide_false, Bool.false_or, this]
        rw [hfold]
        exact h1
  | [], _ :: _, _, _, _, _, hl, _, _ => by simp at hl
  | _ :: _, [], _, _, _, _, hl, _, _ => by simp at hl
end Go.Ev
namespace Go.Ev
open Go.RowKit

/-- Arguments, as they are known. -/
structure ArgsRep (hw : Nat → Nat) (w : World) (vs : List Value) (cs : List PV) : Prop where
  len : vs.length = cs.length
  rep : ∀ (j : Nat) (x : Value) (y : PV), vs[j]? = some x → cs[j]? = some y → Rep hw w x y

/-- A call of a Go function, or of one of the runtime's own, comes to a value. -/
def CallRes (P : Program) (f : FuncId) (vals : Array Value) (w : World) (K : Value → World → Prop) : Prop :=
  (∃ v w', (callFunc f vals).run P w = .ok (.value v) w' ∧ K v w') ∨
  (∃ f', (callFunc f vals).run P w = .ok (.enter f' vals) w ∧ Calls P f' vals w fun e w' => ∃ v, e = .returned v ∧ K v w')

theorem CallRes.mono {P : Program} {f : FuncId} {vals : Array Value} {w : World} {K K' : Value → World → Prop} (h : CallRes P f vals w K) (hk : ∀ v w', K v w' → K' v w') : CallRes P f vals w K' := by
  rcases h with ⟨v, w', h1, h2⟩ | ⟨f', h1, h2⟩
  · exact .inl ⟨v, w', h1, hk _ _ h2⟩
  · exact .inr ⟨f', h1, h2.mono fun e w' ⟨v, he, hv⟩ => ⟨v, he, hk _ _ hv⟩⟩

/-- WHAT A FUNCTION IS KNOWN TO DO: called with what is known so, in whatever memory, it returns what is known so; all that lay there lies there. -/
def Con (P : Program) (f : FuncId) (args : List PV) (r : PV) : Prop :=
  ∀ (hw : Nat → Nat) (w : World) (vals : List Value), (∀ k, w.heap.size ≤ k → hw k = 0) → GlobOk hw w → ArgsRep hw w vals args →
    CallRes P f vals.toArray w fun v w' => ∃ hw', Qt hw w hw' w' ∧ Rep hw' w' v r

/-- The same of a function that writes through its first argument, a pointer to cells. -/
def ConP (P : Program) (f : FuncId) (cs : List PV) (args : List PV) (r : PV) (cs' : List PV) : Prop :=
  ∀ (g : G) (w : World) (k base : Nat) (vals : List Value), (∀ k, w.heap.size ≤ k → g.hw k = 0) → GlobOk g.hw w → ArgsRep g.hw w vals args → k < w.heap.size → BoxOk g w k base cs → g.hw k = 0 →
    CallRes P f (.pointer (some ⟨k, base, none⟩) :: vals).toArray w fun v w' => ∃ hw',
      w'.os = w.os ∧ w'.tape = w.tape ∧ w'.output = w.output ∧ w.heap.size ≤ w'.heap.size ∧
      (∀ j, j < w.heap.size → j ≠ k → w'.heap[j]? = w.heap[j]?) ∧
      (∀ off, ¬ (base ≤ off ∧ off < base + cs.length) → w'.cell? ⟨k, off, none⟩ = w.cell? ⟨k, off, none⟩) ∧
      (∀ off, w'.frozen? ⟨k, off, none⟩ = w.frozen? ⟨k, off, none⟩) ∧
      (∀ j, j < w.heap.size → hw' j = g.hw j) ∧ (∀ j, w'.heap.size ≤ j → hw' j = 0) ∧
      BoxOk ⟨g.β, hw'⟩ w' k base cs' ∧ cs'.length = cs.length ∧ Rep hw' w' v r

/-- An operation comes to a value. -/
def OpRes (P : Program) (o : Oper) (a : Act) (w : World) (K : Value → World → Prop) : Prop :=
  (∃ v w', (execOp a.eval o).run P w = .ok (.value v) w' ∧ K v w') ∨
  (∃ v w', v = undef ∧ (execOp a.eval o).run P w = .ok .skip w' ∧ K v w') ∨
  (∃ f args w', (execOp a.eval o).run P w = .ok (.enter f args) w' ∧ Calls P f args w' fun e w'' => ∃ v, e = .returned v ∧ K v w'')

theorem OpRes.wp {P : Program} {o : Oper} {a : Act} {w : World} {K : Value → World → Prop} (h : OpRes P o a w K) {next : Act → World → Prop} {Q : Exit → Act → World → Prop}
    (hn : ∀ v w', K v w' → next (a.put o.dst v) w') : o.wp P a w next Q := by
  unfold Oper.wp
  rcases h with ⟨v, w', h1, h2⟩ | ⟨v, w', rfl, h1, h2⟩ | ⟨f, args, w', h1, h2⟩
  · rw [h1, Oper.upon_value]; exact hn _ _ h2
  · rw [h1, Oper.upon_skip]; exact hn _ _ h2
  · rw [h1, Oper.upon_enter]
    refine h2.mono fun e w'' ⟨v, he, hv⟩ => ?_
    subst he
    exact hn _ _ hv

theorem OpRes.mono {P : Program} {o : Oper} {a : Act} {w : World} {K K' : Value → World → Prop} (h : OpRes P o a w K) (hk : ∀ v w', K v w' → K' v w') : OpRes P o a w K' := by
  rcases h with ⟨v, w', h1, h2⟩ | ⟨v, w', h0, h1, h2⟩ | ⟨f, args, w', h1, h2⟩
  · exact .inl ⟨v, w', h1, hk _ _ h2⟩
  · exact .inr (.inl ⟨v, w', h0, h1, hk _ _ h2⟩)
  · exact .inr (.inr ⟨f, args, w', h1, h2.mono fun e w'' ⟨v, he, hv⟩ => ⟨v, he, hk _ _ hv⟩⟩)

/-! What is left to be shown, said. -/
/-- Codes, run in frames as they are known. (kd, the exit, the frame behind it.) -/
def exOk : Ex → Exit → Prop
  | .normal, .normal => True
  | .exit i, .exit j => i = j
  | .goto i, .goto j => i = j
  | .ret, .ret => True
  | _, _ => False

/-- The places that were lent: those of the boxes whose numbers are no slots. -/
def Lent (g : G) (σ : St) (k off : Nat) : Prop :=
  ∃ b cs base, σ.n ≤ b ∧ lk b σ.boxes = some cs ∧ g.β b = some (k, base) ∧ base ≤ off ∧ off < base + cs.length
def LentB (g : G) (σ : St) (k : Nat) : Prop := ∃ b cs base, σ.n ≤ b ∧ lk b σ.boxes = some cs ∧ g.β b = some (k, base)

/-- What the frame's own work leaves as it was: all that lay there, but for what was lent. -/
structure Fr (B : Nat) (g : G) (σ : St) (w : World) (g' : G) (σ' : St) (w' : World) : Prop where
  os : w'.os = w.os
  tape : w'.tape = w.tape
  output : w'.output = w.output
  size : w.heap.size ≤ w'.heap.size
  n : σ'.n = σ.n
  block : ∀ k, k < B → ¬ LentB g σ k → w'.heap[k]? = w.heap[k]?
  cell : ∀ k off, k < B → ¬ Lent g σ k off → w'.cell? ⟨k, off, none⟩ = w.cell? ⟨k, off, none⟩
  frozen : ∀ k off, k < B → w'.frozen? ⟨k, off, none⟩ = w.frozen? ⟨k, off, none⟩
  hw : ∀ k, k < B → ¬ LentB g σ k → g'.hw k = g.hw k
  par : ∀ b cs', σ.n ≤ b → lk b σ'.boxes = some cs' → ∃ cs, lk b σ.boxes = some cs ∧ cs.length = cs'.length ∧ g'.β b = g.β b
  ext : Ext g.hw w g'.hw w'

theorem Fr.refl {B : Nat} {g : G} {σ : St} {w : World} : Fr B g σ w g σ w :=
  ⟨rfl, rfl, rfl, Nat.le_refl _, rfl, fun _ _ _ => rfl, fun _ _ _ _ => rfl, fun _ _ _ => rfl, fun _ _ _ => rfl, fun _ cs' _ h => ⟨cs', h, rfl, rfl⟩, Ext.refl _ _⟩

theorem Fr.lent {B : Nat} {g g' : G} {σ σ' : St} {w w' : World} (h : Fr B g σ w g' σ' w') {k off : Nat} (hl : Lent g' σ' k off) : Lent g σ k off := by
  obtain ⟨b, cs, base, hn, hb, hk, h1, h2⟩ := hl
  rw [h.n] at hn
  obtain ⟨cs0, e1, e2, e3⟩ := h.par b cs hn hb
  exact ⟨b, cs0, base, hn, e1, by rw [← e3]; exact hk, h1, by omega⟩
theorem Fr.lentB {B : Nat} {g g' : G} {σ σ' : St} {w w' : World} (h : Fr B g σ w g' σ' w') {k : Nat} (hl : LentB g' σ' k) : LentB g σ k := by
  obtain ⟨b, cs, base, hn, hb, hk⟩ := hl
  rw [h.n] at hn
  obtain ⟨cs0, e1, e2, e3⟩ := h.par b cs hn hb
  exact ⟨b, cs0, base, hn, e1, by rw [← e3]; exact hk⟩

theorem Fr.trans {B : Nat} {g1 g2 g3 : G} {σ1 σ2 σ3 : St} {w1 w2 w3 : World} (h : Fr B g1 σ1 w1 g2 σ2 w2) (h' : Fr B g2 σ2 w2 g3 σ3 w3) : Fr B g1 σ1 w1 g3 σ3 w3 :=
  ⟨h'.os.trans h.os, h'.tape.trans h.tape, h'.output.trans h.output, Nat.le_trans h.size h'.size, h'.n.trans h.n,
   fun k hk hn => (h'.block k hk (fun hl => hn (h.lentB hl))).trans (h.block k hk hn),
   fun k off hk hn => (h'.cell k off hk (fun hl => hn (h.lent hl))).trans (h.cell k off hk hn),
   fun k off hk => (h'.frozen k off hk).trans (h.frozen k off hk),
   fun k hk hn => (h'.hw k hk (fun hl => hn (h.lentB hl))).trans (h.hw k hk hn),
   fun b cs hn hb => by
    obtain ⟨cs2, e1, e2, e3⟩ := h'.par b cs (by rw [h.n]; exact hn) hb
    obtain ⟨cs1, f1, f2, f3⟩ := h.par b cs2 hn e1
    exact ⟨cs1, f1, f2.trans e2, e3.trans f3⟩, h.ext.trans h'.ext⟩

/-- All that lay there lies there. -/
theorem Fr.of_qt {B : Nat} {g g' : G} {σ σ' : St} {w w' : World} (hl : ∀ k, w.heap.size ≤ k → g.hw k = 0) (hB : B ≤ w.heap.size) (q : Qt g.hw w g'.hw w') (hn : σ'.n = σ.n)
    (hp : ∀ b cs', σ.n ≤ b → lk b σ'.boxes = some cs' → ∃ cs, lk b σ.boxes = some cs ∧ cs.length = cs'.length ∧ g'.β b = g.β b) : Fr B g σ w g' σ' w' :=
  ⟨q.below.os, q.below.tape, q.below.output, q.below.size, hn, fun k hk _ => q.below.block k (by omega), fun k off hk _ => q.cell k off (by omega), fun k off hk => q.frozen k off (by omega),
   fun k hk _ => q.hw k (by omega), hp, q.ext hl⟩

def Tri (P : Program) (c : Code) (σ : St) (e : Ex) (σ' : St) : Prop :=
  ∀ B g a w, Inv P B g σ a w → c.wp P (fun ex a' w' => exOk e ex ∧ ∃ g', Inv P B g' σ' a' w' ∧ Fr B g σ w g' σ' w') a w

def Obl.holds (P : Program) : Obl → Prop
  | .call f args r => Con P f args r
  | .callp f cs args r cs' => ConP P f cs args r cs'
  | .rb _ b v => b = v
  | .re _ a b => a = b
  | .idx xs i x => 0 ≤ i ∧ xs[i.toNat]? = some x
  | .pr p => p
  | .bin op T x y r => ∀ hw w vx vy ox oy, Rep hw w vx x → Rep hw w vy y → ∃ v, (do eqGuard op T ox oy vx vy; binOp op T vx vy : Sem Value).run P w = .ok v w ∧ Rep hw w v r
  | .cvt S T x r => ∀ hw w vx, Rep hw w vx x → ∃ v, (convert S T vx).run P w = .ok v w ∧ Rep hw w v r
  | .un op x r => ∀ hw w vx, Rep hw w vx x → ∃ v, (Op.unary op vx).run P w = .ok v w ∧ Rep hw w v r
  | .blt b ats T args r => ∀ hw w vals cs, ArgsRep hw w vals args → ∃ v, (builtin b ats T cs vals.toArray).run P w = .ok (.value v) w ∧ Rep hw w v r
  | .tri _ c σ e σ' => Tri P c σ e σ'
  | .dk _ => True

def holdsAll (P : Program) (l : List Obl) : Prop := ∀ o ∈ l, o.holds P

/-! The operations that never panic, one by one. -/
section
variable {P : Program} {hw : Nat → Nat} {w : World}

theorem rep_v {v : Value} {x : Value} (h : Rep hw w v (.v x)) : v = x := by cases h; rfl
theorem rep_str {v : Value} {l : List UInt8} (h : Rep hw w v (.str l)) : v = .string ⟨l.toArray⟩ := by cases h; rfl

theorem bin_int {op : BinOp} {k : IntKind} {a b : Int} {r : PV} (h : intB op k a b = some r) (T : TypeId) (ox oy : Operand) :
    ∃ v, (do eqGuard op T ox oy (.int k a) (.int k b); binOp op T (.int k a) (.int k b) : Sem Value).run P w = .ok v w ∧ Rep hw w v r := by
  rw [eqGuard_at_int]
  cases op <;> simp only [intB, Option.some.injEq, reduceCtorEq] at h <;> (subst h; exact ⟨_, by simp [binOp, Op.intArith, Op.intCmp], .v _ rfl⟩)

theorem beq_ba (x y : List UInt8) : ((⟨x.toArray⟩ : ByteArray).toList == (⟨y.toArray⟩ : ByteArray).toList) = (x == y) := by rw [ByteArray.toList_mk, ByteArray.toList_mk]

theorem evBin_sound {op : BinOp} {T : TypeId} {x y : PV} {os os' ob : List Obl} {r : PV} (h : evBin op T x y os = some (r, os', ob)) (ho : holdsAll P ob) {vx vy : Value} (hx : Rep hw w vx x) (hy : Rep hw w vy y) (ox oy : Operand) :
    ∃ v, (do eqGuard op T ox oy vx vy; binOp op T vx vy : Sem Value).run P w = .ok v w ∧ Rep hw w v r := by
  unfold evBin at h
  split at h
  · rename_i r' os''
    injection h with h
    injection h with h1 h2
    injection h2 with h2 h3
    subst h1; subst h3
    exact ho (.bin op T x y r') (by simp) hw w vx vy ox oy hx hy
  · split at h
    · rename_i k a k' b
      split at h
      · rename_i p os2
        cases hk : decide (k = k') with
        | false => rw [hk] at h; exact absurd h (by simp)
        | true =>
          rw [hk] at h
          injection h with h
          injection h with h1 h2
          injection h2 with h2 h3
          subst h1; subst h3
          have hkk := of_decide_eq_true hk
          subst hkk
          have hb : b ≠ 0 := ho (.pr (b ≠ 0)) (by simp)
          rw [rep_v hx, rep_v hy, eqGuard_at_int]
          exact ⟨_, by simp [binOp, Op.intDiv, hb], .v _ rfl⟩
      · exact absurd h (by simp)
    · rename_i k a k' b
      split at h
      · rename_i p os2
        cases hk : decide (k = k') with
        | false => rw [hk] at h; exact absurd h (by simp)
        | true =>
          rw [hk] at h
          injection h with h
          injection h with h1 h2
          injection h2 with h2 h3
          subst h1; subst h3
          have hkk := of_decide_eq_true hk
          subst hkk
          have hb : b ≠ 0 := ho (.pr (b ≠ 0)) (by simp)
          rw [rep_v hx, rep_v hy, eqGuard_at_int]
          exact ⟨_, by simp [binOp, Op.intDiv, hb], .v _ rfl⟩
      · exact absurd h (by simp)
    · rename_i k a k' b
      split at h
      · rename_i p os2
        injection h with h
        injection h with h1 h2
        injection h2 with h2 h3
        subst h1; subst h3
        have hb : 0 ≤ b := ho (.pr (0 ≤ b)) (by simp)
        have hb' : ¬ b < 0 := by omega
        rw [rep_v hx, rep_v hy, eqGuard_at_int]
        exact ⟨_, by simp [binOp, Op.shift, hb'], .v _ rfl⟩
      · exact absurd h (by simp)
    · rename_i k a k' b
      split at h
      · rename_i p os2
        injection h with h
        injection h with h1 h2
        injection h2 with h2 h3
        subst h1; subst h3
        have hb : 0 ≤ b := ho (.pr (0 ≤ b)) (by simp)
        have hb' : ¬ b < 0 := by omega
        rw [rep_v hx, rep_v hy, eqGuard_at_int]
        exact ⟨_, by simp [binOp, Op.shift, hb'], .v _ rfl⟩
      · exact absurd h (by simp)
    · rename_i k a k' b _ _ _ _
      cases hk : decide (k = k') with
      | false => rw [hk] at h; exact absurd h (by simp)
      | true =>
        rw [hk] at h
        simp only [cond_true] at h
        split at h
        · rename_i r' hr
          injection h with h
          injection h with h1 h2
          injection h2 with h2 h3
          subst h1; subst h3
          have hkk := of_decide_eq_true hk
          subst hkk
          rw [rep_v hx, rep_v hy]
          exact bin_int hr T ox oy
        · exact absurd h (by simp)
    · rename_i a b
      split at h
      · rename_i p os2
        injection h with h
        injection h with h1 h2
        injection h2 with h2 h3
        subst h1; subst h3
        have hb : a.length + b.length ≤ 9223372036854775807 := ho (.pr (a.length + b.length ≤ 9223372036854775807)) (by simp)
        rw [rep_str hx, rep_str hy, eqGuard_at_string]
        refine ⟨.string ⟨(a ++ b).toArray⟩, ?_, .str _⟩
        rw [Sem.run_bind, Sem.run_pure, Result.andThen_ok, binOp_string_add, run_string_add_sum _ _ _ (by show a.toArray.size + b.toArray.size ≤ _; simpa using hb), ByteArray.mk_append_mk]
      · exact absurd h (by simp)
    · rename_i a b
      injection h with h
      injection h with h1 h2
      injection h2 with h2 h3
      subst h1; subst h3
      rw [rep_str hx, rep_str hy, eqGuard_at_string]
      exact ⟨_, by rw [Sem.run_bind, Sem.run_pure, Result.andThen_ok, binOp_string_eql, beq_ba]; rfl, .v _ rfl⟩
    · rename_i a b
      injection h with h
      injection h with h1 h2
      injection h2 with h2 h3
      subst h1; subst h3
      rw [rep_str hx, rep_str hy, eqGuard_at_string]
      exact ⟨_, by rw [Sem.run_bind, Sem.run_pure, Result.andThen_ok, binOp_string_neq, beq_ba]; rfl, .v _ rfl⟩
    · exact absurd h (by simp)

theorem evUn_sound {op : UnOp} {x : PV} {os os' ob : List Obl} {r : PV} (h : evUn op x os = some (r, os', ob)) (ho : holdsAll P ob) {vx : Value} (hx : Rep hw w vx x) :
    ∃ v, (Op.unary op vx).run P w = .ok v w ∧ Rep hw w v r := by
  unfold evUn at h
  split at h
  · rename_i r' os''
    injection h with h
    injection h with h1 h2
    injection h2 with h2 h3
    subst h1; subst h3
    exact ho (.un op x r') (by simp) hw w vx hx
  · split at h
    · injection h with h
      injection h with h1 h2
      injection h2 with h2 h3
      subst h1; subst h3
      rw [rep_v hx]
      exact ⟨_, rfl, .v _ rfl⟩
    · injection h with h
      injection h with h1 h2
      injection h2 with h2 h3
      subst h1; subst h3
      rw [rep_v hx]
      exact ⟨_, rfl, .v _ rfl⟩
    · exact absurd h (by simp)
end
end Go.Ev
namespace Go.Ev
open Go.RowKit
section
variable {P : Program} {hw : Nat → Nat} {w : World}

theorem args1 {vals : List Value} {x : PV} (h : ArgsRep hw w vals [x]) : ∃ v, vals = [v] ∧ Rep hw w v x := by
  obtain ⟨hl, hr⟩ := h
  match vals, hl with
  | [v], _ => exact ⟨v, rfl, hr 0 v x rfl rfl⟩

theorem argsCons {vals : List Value} {x : PV} {xs : List PV} (h : ArgsRep hw w vals (x :: xs)) : ∃ v vs, vals = v :: vs ∧ Rep hw w v x ∧ ArgsRep hw w vs xs := by
  obtain ⟨hl, hr⟩ := h
  match vals, hl with
  | v :: vs, hl => exact ⟨v, vs, rfl, hr 0 v x rfl rfl, ⟨by simpa using hl, fun j a b ha hb => hr (j + 1) a b ha hb⟩⟩

theorem intsOf_sound {k : IntKind} : ∀ {r : List PV} {l : List Int} {vals : List Value}, intsOf k r = some l → ArgsRep hw w vals r → vals = l.map (.int k)
  | [], l, vals, h, ha => by
    have := Option.some.inj h
    subst this
    have := ha.len
    simpa using this
  | x :: r, l, vals, h, ha => by
    unfold intsOf at h
    split at h
    · rename_i heq; exact absurd heq (by simp)
    · rename_i k' n r' heq
      injection heq with e1 e2
      subst e1; subst e2
      cases hk : decide (k = k') with
      | false => rw [hk] at h; exact absurd h (by simp)
      | true =>
        rw [hk] at h
        have hkk := of_decide_eq_true hk
        subst hkk
        simp only [cond_true] at h
        split at h
        · rename_i l' hl
          have := Option.some.inj h
          subst this
          obtain ⟨v, vs, rfl, hv, hvs⟩ := argsCons ha
          rw [rep_v hv, intsOf_sound hl hvs]
          rfl
        · exact absurd h (by simp)
    · exact absurd h (by simp)

theorem foldl_max (k : IntKind) : ∀ (l : List Int) (n : Int), (List.foldlM Builtin.max2 (Value.int k n) (l.map (.int k))).run P w = .ok (.int k (l.foldl imax n)) w
  | [], n => rfl
  | m :: l, n => by
    have := foldl_max k l (imax n m)
    simp only [List.map_cons, List.foldlM_cons, List.foldl_cons, Sem.run_bind]
    simp only [Builtin.max2, Sem.run_pure, Result.andThen_ok]
    exact this
theorem foldl_min (k : IntKind) : ∀ (l : List Int) (n : Int), (List.foldlM Builtin.min2 (Value.int k n) (l.map (.int k))).run P w = .ok (.int k (l.foldl imin n)) w
  | [], n => rfl
  | m :: l, n => by
    have := foldl_min k l (imin n m)
    simp only [List.map_cons, List.foldlM_cons, List.foldl_cons, Sem.run_bind]
    simp only [Builtin.min2, Sem.run_pure, Result.andThen_ok]
    exact this

theorem lst_len {v : Value} {xs : List (List PV)} (h : Rep hw w v (.lst xs)) : ∃ a cap, v = .slice a xs.length cap := by
  cases h with
  | lnil => exact ⟨none, 0, rfl⟩
  | lst xs blk off cap s c hcap hlen hc hr h1 hh => exact ⟨_, cap, rfl⟩

theorem kd_under {T : TypeId} {ty : Ty} (h : TyIs P T ty) : (ty.kd = 2 → P.underlying T = some (.array ty.len ty.elem)) ∧ (ty.kd = 3 → P.underlying T = some (.slice ty.elem)) ∧ (ty.kd = 4 → P.underlying T = some .string) := by
  rcases h.under with ⟨hk, _⟩ | ⟨hk, hu⟩ | ⟨hk, hu⟩ | ⟨hk, hu⟩ | ⟨hk, _⟩ <;> simp_all

theorem kd1 {T : TypeId} {ty : Ty} (h : TyIs P T ty) (hk : ty.kd = 1) : ∃ fs, P.underlying T = some (.struct fs) ∧ ty.fields = fs.toList.map fun f => (f.offset, f.type) := by
  rcases h.under with ⟨_, h⟩ | ⟨hk', _⟩ | ⟨hk', _⟩ | ⟨hk', _⟩ | ⟨hk', _⟩
  · exact h
  all_goals (rw [hk] at hk'; exact absurd hk' (by decide))

theorem evBuiltin_sound {Γ : List (Nat × Ty)} (hΓ : TyOk P Γ) {b : Builtin} {ats : Array TypeId} {T : TypeId} {xs : List PV} {os os' ob : List Obl} {r : PV}
    (h : evBuiltin Γ b ats T xs os = some (r, os', ob)) (ho : holdsAll P ob) {vals : List Value} (ha : ArgsRep hw w vals xs) (cs : Array Bool) :
    ∃ v, (builtin b ats T cs vals.toArray).run P w = .ok (.value v) w ∧ Rep hw w v r := by
  unfold evBuiltin at h
  split at h
  · rename_i r' os''
    injection h with h
    injection h with h1 h2
    injection h2 with h2 h3
    subst h1; subst h3
    exact ho (.blt b ats T xs r') (by simp) hw w vals cs ha
  · split at h
    · rename_i x
      obtain ⟨v, rfl, hv⟩ := args1 ha
      split at h
      · rename_i t hat
        have hat' : ats = #[t] := by rw [← Array.toArray_toList (xs := ats), hat]
        subst hat'
        split at h
        · rename_i ty hty
          have hT := tyIs (hΓ t ty hty)
          obtain ⟨hk2, hk3, hk4⟩ := kd_under hT
          have done : ∀ (n : Int), (Builtin.len_ #[t] T #[v]).run P w = .ok (goInt n) w → some (PV.v (Value.int .i64 n), os, ([] : List Obl)) = some (r, os', ob) →
              ∃ v_1, (builtin .len #[t] T cs [v].toArray).run P w = .ok (.value v_1) w ∧ Rep hw w v_1 r := by
            intro n hn he
            injection he with he
            injection he with h1 h2
            subst h1
            exact ⟨goInt n, by simp [builtin, hn], .v _ rfl⟩
          split at h
          · rename_i l hk
            refine done _ ?_ h
            rw [rep_str hv]
            simp [Builtin.len_, run_underlying (hk4 hk), ByteArray.size_mk']
          · rename_i l hk
            refine done _ ?_ h
            obtain ⟨a, cap, rfl⟩ := lst_len hv
            simp [Builtin.len_, run_underlying (hk3 hk)]
          · rename_i hk
            refine done _ ?_ h
            cases hv
            simp [Builtin.len_, run_underlying (hk3 hk)]
          · rename_i hk
            refine done _ ?_ h
            simp [Builtin.len_, run_underlying (hk2 hk)]
          · exact absurd h (by simp)
        · exact absurd h (by simp)
      · exact absurd h (by simp)
    · rename_i k n r'
      split at h
      · rename_i l hl
        injection h with h
        injection h with h1 h2
        subst h1
        obtain ⟨v, vs, rfl, hv, hvs⟩ := argsCons ha
        rw [rep_v hv, intsOf_sound hl hvs]
        refine ⟨_, ?_, .v _ rfl⟩
        simp [builtin, Builtin.max_, foldl_max]
      · exact absurd h (by simp)
    · rename_i k n r'
      split at h
      · rename_i l hl
        injection h with h
        injection h with h1 h2
        subst h1
        obtain ⟨v, vs, rfl, hv, hvs⟩ := argsCons ha
        rw [rep_v hv, intsOf_sound hl hvs]
        refine ⟨_, ?_, .v _ rfl⟩
        simp [builtin, Builtin.min_, foldl_min]
      · exact absurd h (by simp)
    · exact absurd h (by simp)

/-- A part of a list lies where it lies. -/
theorem sliced_rep {v : Value} {xs : List (List PV)} (h : Rep hw w v (.lst xs)) {ety : Nat} {i j : Nat} (hij : i ≤ j) (hj : j ≤ xs.length) (hs : ∀ (k : Nat) (x : List PV), xs[k]? = some x → x.length = ety) :
    ∃ a len cap, v = .slice a len cap ∧ len = xs.length ∧ j ≤ cap ∧ Rep hw w (sliced a i j cap ety) (.lst ((xs.drop i).take (j - i))) := by
  cases h with
  | lnil =>
    have hj0 : j = 0 := by simpa using hj
    subst hj0
    have hi0 : i = 0 := by omega
    subst hi0
    exact ⟨none, 0, 0, rfl, rfl, Nat.le_refl _, by simpa [sliced] using (Rep.lnil : Rep hw w _ _)⟩
  | lst xs blk off cap s c hcap hlen hc hr h1 hh =>
    refine ⟨_, _, cap, rfl, rfl, by omega, ?_⟩
    have hlen' : ((xs.drop i).take (j - i)).length = j - i := by simp; omega
    by_cases hx : xs.length = 0
    · have hn : xs = [] := List.eq_nil_of_length_eq_zero hx
      subst hn
      have hj0 : j = 0 := by simpa using hj
      subst hj0
      have hi0 : i = 0 := by omega
      subst hi0
      unfold sliced
      have key := Rep.lst (hw := hw) (w := w) [] blk off cap s c (Nat.zero_le _) hlen (fun i j hi => by simp at hi) hr (fun i j hi => by simp at hi) hh
      by_cases hcz : cap = 0
      · subst hcz; simpa using key
      · have : ¬ cap = 0 := hcz
        simpa [this, Addr.add] using key
    · have hse : s = ety := by
        have h0 : 0 < xs.length := by omega
        have := hlen 0 xs[0] (List.getElem?_eq_getElem h0)
        rw [← this, hs 0 xs[0] (List.getElem?_eq_getElem h0)]
      subst hse
      have getk : ∀ (k : Nat) (x : List PV), ((xs.drop i).take (j - i))[k]? = some x → xs[i + k]? = some x ∧ k < j - i := by
        intro k x hk
        rw [List.getElem?_take] at hk
        split at hk
        · rename_i hlt; rw [List.getElem?_drop] at hk; exact ⟨hk, hlt⟩
        · exact absurd hk (by simp)
      unfold sliced
      by_cases hci : cap = i
      · have hij' : i = j := by omega
        have e0 : j - i = 0 := by omega
        have key := Rep.lst (hw := hw) (w := w) [] blk off 0 s c (Nat.le_refl _) (fun k x hk => by simp at hk) (fun k q hk => by simp at hk) (fun k q x y hk => by simp at hk) (fun k q hk => by simp at hk) (by simp; exact Nat.le_trans (Nat.le_add_right _ _) hh)
        rw [e0]
        subst hci
        simpa using key
      · rw [if_neg hci, Option.map_some, Addr.add_lit]
        have key := Rep.lst (hw := hw) (w := w) ((xs.drop i).take (j - i)) blk (off + i * s) (cap - i) s (fun k q => c (i + k) q) (by rw [hlen']; omega)
          (fun k x hk => hlen _ x (getk k x hk).1)
          (fun k q hk hq => by
            rw [hlen'] at hk
            have := hc (i + k) q (by omega) hq
            rw [Nat.add_mul] at this
            rw [show off + i * s + (k * s + q) = off + (i * s + k * s + q) by omega]
            exact this)
          (fun k q x y hk hq => hr (i + k) q x y (getk k x hk).1 hq)
          (fun k q hk hq => h1 (i + k) q (by rw [hlen'] at hk; omega) hq)
          (by
            rw [hlen']
            have : i * s + (j - i) * s = j * s := by rw [← Nat.add_mul]; congr 1; omega
            have h2 : j * s ≤ xs.length * s := Nat.mul_le_mul_right s hj
            omega)
        rw [hlen'] at key
        exact key

theorem elem_of {T e : TypeId} (h : P.underlying T = some (.slice e)) : P.elem T = e := by simp [Program.elem, h]
theorem elem_arr {T e : TypeId} {n : Nat} (h : P.underlying T = some (.array n e)) : P.elem T = e ∧ P.arrayLen T = n := by simp [Program.elem, Program.arrayLen, h]
end
end Go.Ev
namespace Go.Ev
open Go.RowKit
section
variable {P : Program} {hw : Nat → Nat} {w : World}

theorem str_slice {T : TypeId} (hT : P.underlying T = some .string) (l : List UInt8) (a b : Nat) {lo hi : Option Value}
    (h : (Instr.sliceBounds false l.length l.length lo hi none).run P w = .ok (a, b, l.length) w) :
    (Instr.sliceAt T (.string ⟨l.toArray⟩) lo hi none).run P w = .ok (.string ⟨((l.drop a).take (b - a)).toArray⟩) w := by
  rw [run_sliceAt_string _ _ _ _ _ _ hT]
  have hs : (⟨l.toArray⟩ : ByteArray).size = l.length := by show l.toArray.size = _; simp
  simp only [Instr.slice, Sem.run_bind, run_underlying hT, Result.andThen_ok, Option.isSome_none, Bool.false_eq_true, if_false, hs, h, Sem.run_pure]
  rw [ByteArray.extract_mk]

def OptRep (hw : Nat → Nat) (w : World) : Option PV → Option Value → Prop
  | none, none => True
  | some p, some q => Rep hw w q p
  | _, _ => False

theorem evSlice_sound {Γ : List (Nat × Ty)} (hΓ : TyOk P Γ) {T : TypeId} {x : PV} {lo hi : Option PV} {os os' ob : List Obl} {r : PV}
    (h : evSlice Γ T x lo hi os = some (r, os', ob)) (ho : holdsAll P ob) {v : Value} {vlo vhi : Option Value} (hv : Rep hw w v x)
    (hlo : OptRep hw w lo vlo) (hhi : OptRep hw w hi vhi) :
    ∃ u, (Instr.sliceAt T v vlo vhi none).run P w = .ok u w ∧ Rep hw w u r := by
  unfold evSlice at h
  split at h
  · rename_i ty p os2 hty
    have hT := tyIs (hΓ T ty hty)
    obtain ⟨hk2, hk3, hk4⟩ := kd_under hT
    have lov : ∀ {k : IntKind} {n : Int}, lo = some (.v (.int k n)) → vlo = some (.int k n) := by
      intro k n e
      subst e
      cases vlo with
      | none => exact hlo.elim
      | some q => rw [rep_v hlo]
    have lon : lo = none → vlo = none := by
      intro e
      subst e
      cases vlo with
      | none => rfl
      | some q => exact hlo.elim
    have hiv : ∀ {k : IntKind} {n : Int}, hi = some (.v (.int k n)) → vhi = some (.int k n) := by
      intro k n e
      subst e
      cases vhi with
      | none => exact hhi.elim
      | some q => rw [rep_v hhi]
    have hin : hi = none → vhi = none := by
      intro e
      subst e
      cases vhi with
      | none => rfl
      | some q => exact hhi.elim
    split at h
    · rename_i l k a k' b hk
      injection h with h
      injection h with h1 h2
      injection h2 with h2 h3
      subst h1; subst h3
      obtain ⟨q1, q2, q3⟩ : 0 ≤ a ∧ a ≤ b ∧ b ≤ l.length := ho (.pr _) (by simp)
      rw [rep_str hv, lov rfl, hiv rfl]
      refine ⟨_, str_slice (hk4 hk) l a.toNat b.toNat ?_, .str _⟩
      have eb : (b.toNat : Int) = b := Int.toNat_of_nonneg (by omega)
      have hb0 : 0 ≤ b := by omega
      simp [Instr.sliceBounds, run_sliceBound, *]
    · rename_i l k a hk
      injection h with h
      injection h with h1 h2
      injection h2 with h2 h3
      subst h1; subst h3
      obtain ⟨q1, q2⟩ : 0 ≤ a ∧ a ≤ l.length := ho (.pr _) (by simp)
      rw [rep_str hv, lov rfl, hin rfl]
      have hs := str_slice (P := P) (w := w) (hk4 hk) l a.toNat l.length (lo := some (.int k a)) (hi := none) (by simp [Instr.sliceBounds, run_sliceBound, *])
      have e : (l.drop a.toNat).take (l.length - a.toNat) = l.drop a.toNat := List.take_of_length_le (by simp)
      rw [e] at hs
      exact ⟨_, hs, .str _⟩
    · rename_i l k b hk
      injection h with h
      injection h with h1 h2
      injection h2 with h2 h3
      subst h1; subst h3
      obtain ⟨q1, q2⟩ : 0 ≤ b ∧ b ≤ l.length := ho (.pr _) (by simp)
      rw [rep_str hv, lon rfl, hiv rfl]
      exact ⟨_, str_slice (hk4 hk) l 0 b.toNat (by simp [Instr.sliceBounds, run_sliceBound, *]), .str _⟩
    · rename_i lo hi l hk
      have hu := hk3 hk
      have he := elem_of hu
      split at h
      · rename_i ety k a k' b hety
        injection h with h
        injection h with h1 h2
        injection h2 with h2 h3
        subst h1; subst h3
        obtain ⟨q1, q2, q3, q4⟩ : 0 ≤ a ∧ a ≤ b ∧ b ≤ l.length ∧ Lens ety.size l := ho (.pr _) (by simp)
        obtain ⟨ad, len, cap, rfl, rfl, hcap, hrep⟩ := sliced_rep (i := a.toNat) (j := b.toNat) (ety := ety.size) hv (by omega) (by omega) (fun k x hx => q4 x (List.mem_of_getElem? hx))
        rw [lov rfl, hiv rfl, run_sliceAt_slice _ _ _ _ _ _ (by rw [he]; exact hu), run_slice_lh _ _ _ _ _ (by rw [he]; exact hu) _ _ _ _ q1 q2 (by omega), he, run_sizeOf (tyIs (hΓ _ _ hety))]
        exact ⟨_, rfl, hrep⟩
      · rename_i ety k a hety
        injection h with h
        injection h with h1 h2
        injection h2 with h2 h3
        subst h1; subst h3
        obtain ⟨q1, q2, q4⟩ : 0 ≤ a ∧ a ≤ l.length ∧ Lens ety.size l := ho (.pr _) (by simp)
        obtain ⟨ad, len, cap, rfl, rfl, hcap, hrep⟩ := sliced_rep (i := a.toNat) (j := l.length) (ety := ety.size) hv (by omega) (by omega) (fun k x hx => q4 x (List.mem_of_getElem? hx))
        have e : (l.drop a.toNat).take (l.length - a.toNat) = l.drop a.toNat := List.take_of_length_le (by simp)
        rw [e] at hrep
        rw [lov rfl, hin rfl, run_sliceAt_slice _ _ _ _ _ _ (by rw [he]; exact hu), run_slice_l _ _ _ _ _ (by rw [he]; exact hu) _ _ q1 q2, he, run_sizeOf (tyIs (hΓ _ _ hety))]
        exact ⟨_, rfl, hrep⟩
      · rename_i ety k b hety
        injection h with h
        injection h with h1 h2
        injection h2 with h2 h3
        subst h1; subst h3
        obtain ⟨q1, q2, q4⟩ : 0 ≤ b ∧ b ≤ l.length ∧ Lens ety.size l := ho (.pr _) (by simp)
        obtain ⟨ad, len, cap, rfl, rfl, hcap, hrep⟩ := sliced_rep (i := 0) (j := b.toNat) (ety := ety.size) hv (by omega) (by omega) (fun k x hx => q4 x (List.mem_of_getElem? hx))
        rw [lon rfl, hiv rfl, run_sliceAt_slice _ _ _ _ _ _ (by rw [he]; exact hu), run_slice_h _ _ _ _ _ (by rw [he]; exact hu) _ _ q1 (by omega), he, run_sizeOf (tyIs (hΓ _ _ hety))]
        exact ⟨_, rfl, by simpa using hrep⟩
      · exact absurd h (by simp)
    · exact absurd h (by simp)
  · exact absurd h (by simp)

theorem chunk_get (s : Nat) : ∀ (n : Nat) (l : List PV) (i : Nat) (x : List PV), (chunk s n l)[i]? = some x → i < n ∧ x = (l.drop (i * s)).take s
  | 0, l, i, x, h => by simp [chunk] at h
  | n + 1, l, 0, x, h => by simp [chunk] at h; exact ⟨by omega, by simp [h]⟩
  | n + 1, l, i + 1, x, h => by
    simp only [chunk, List.getElem?_cons_succ] at h
    obtain ⟨h1, h2⟩ := chunk_get s n (l.drop s) i x h
    refine ⟨by omega, ?_⟩
    rw [h2, List.drop_drop]
    congr 2
    rw [Nat.succ_mul]; omega
theorem chunk_len (s : Nat) : ∀ (n : Nat) (l : List PV), (chunk s n l).length = n
  | 0, _ => rfl
  | n + 1, l => by simp [chunk, chunk_len s n]

theorem rd_whole {T : TypeId} {ty : Ty} (hT : TyIs P T ty) {vs : List Value} {cs : List PV} (hc : CellsRep hw w vs cs) {off : Nat} (hle : off + ty.size ≤ cs.length) {x : PV} (h : rd ty ((cs.drop off).take ty.size) 0 = some x) :
    ∃ v, (part T vs.toArray off).run P w = .ok v w ∧ Rep hw w v x := by
  refine part_sound hT hc.len hc.rep hc.one (off := off) ?_
  unfold rd at h ⊢
  have e1 : Nat.ble (0 + ty.size) ((cs.drop off).take ty.size).length = true := by simp; omega
  have e2 : Nat.ble (off + ty.size) cs.length = true := by simpa using hle
  rw [e1] at h
  rw [e2]
  simp only [cond_true] at h ⊢
  cases ha : ty.agg with
  | true =>
    rw [ha] at h
    simp only [cond_true, List.drop_zero, List.take_take, Nat.min_self] at h ⊢
    exact h
  | false =>
    rw [ha] at h
    simp only [cond_false] at h ⊢
    cases hb : Nat.beq ty.size 1 with
    | false => rw [hb] at h; exact absurd h (by simp)
    | true =>
      rw [hb] at h
      have h1 := Nat.eq_of_beq_eq_true hb
      simp only [cond_true, h1] at h ⊢
      simpa using h

theorem evIndex_sound {Γ : List (Nat × Ty)} (hΓ : TyOk P Γ) {T : TypeId} {x i : PV} {os os' ob : List Obl} {r : PV}
    (h : evIndex Γ T x i os = some (r, os', ob)) (ho : holdsAll P ob) {v j : Value} (hv : Rep hw w v x) (hj : Rep hw w j i) :
    ∃ u, (Instr.index T v j).run P w = .ok u w ∧ Rep hw w u r := by
  unfold evIndex at h
  split at h
  · rename_i ty k n hty
    have hT := tyIs (hΓ T ty hty)
    obtain ⟨hk2, hk3, hk4⟩ := kd_under hT
    rw [rep_v hj]
    split at h
    · rename_i l p os2 hk
      injection h with h
      injection h with h1 h2
      injection h2 with h2 h3
      subst h1; subst h3
      obtain ⟨q1, q2⟩ : 0 ≤ n ∧ n < l.length := ho (.pr _) (by simp)
      rw [rep_str hv, run_index_string _ _ _ _ _ (hk4 hk)]
      have hs : (⟨l.toArray⟩ : ByteArray).size = l.length := by show l.toArray.size = _; simp
      rw [dif_pos ⟨q1, by rw [hs]; exact q2⟩]
      refine ⟨_, rfl, ?_⟩
      have e : ((⟨l.toArray⟩ : ByteArray)[n.toNat]'(by rw [hs]; omega)) = l.getD n.toNat 0 := by
        show l.toArray[n.toNat]'_ = _
        have : n.toNat < l.length := by omega
        simp [this]
      rw [e]
      exact .v _ rfl
    · rename_i cs xs m y os2 hk
      split at h
      · rename_i ety hety
        cases hb : (Nat.beq cs.length (ty.len * ety.size) && !(Nat.beq ety.size 0)) with
        | false => rw [hb] at h; exact absurd h (by simp)
        | true =>
          rw [hb] at h
          simp only [cond_true] at h
          rw [Bool.and_eq_true] at hb
          have hl := Nat.eq_of_beq_eq_true hb.1
          split at h
          · rename_i r' hr
            cases hb2 : Nat.beq y.length ety.size with
            | false => rw [hb2] at h; exact absurd h (by simp)
            | true =>
              rw [hb2] at h
              simp only [cond_true] at h
              injection h with h
              injection h with h1 h2
              injection h2 with h2 h3
              subst h1; subst h3
              obtain ⟨q1, q2⟩ : 0 ≤ n ∧ (chunk ety.size ty.len cs)[n.toNat]? = some y := ho (.idx _ _ _) (by simp)
              obtain ⟨c1, c2⟩ := chunk_get _ _ _ _ _ q2
              obtain ⟨vs, rfl, hc⟩ := agg_cells hv
              have hle : n.toNat * ety.size + ety.size ≤ cs.length := by
                rw [hl, ← Nat.succ_mul]
                exact Nat.mul_le_mul_right _ c1
              have hET := tyIs (hΓ _ _ hety)
              subst c2
              obtain ⟨u, h1, h2⟩ := rd_whole hET hc hle hr
              have hn : n < ty.len := by omega
              exact ⟨u, by simp [Instr.index, asIntOf, run_underlying (hk2 hk), q1, hn, run_sizeOf hET, h1], h2⟩
          · exact absurd h (by simp)
      · exact absurd h (by simp)
    · exact absurd h (by simp)
  · exact absurd h (by simp)

/-- A field's place. -/
theorem field_info {Γ : List (Nat × Ty)} (hΓ : TyOk P Γ) {T : TypeId} {f off : Nat} {fty : Ty} (h : evField Γ T f = some (off, fty)) :
    ∃ fs fd, P.underlying T = some (.struct fs) ∧ fs[f]? = some fd ∧ fd.offset = off ∧ TyIs P fd.type fty ∧ fty.size ≠ 0 := by
  unfold evField at h
  split at h
  · rename_i sz by_ z fs e n hty
    obtain ⟨fs', hu, hf⟩ := kd1 (tyIs (hΓ T _ hty)) rfl
    split at h
    · rename_i o ft hfs
      split at h
      · rename_i fty' hft
        cases hb : Nat.beq fty'.size 0 with
        | true => rw [hb] at h; exact absurd h (by simp)
        | false =>
          rw [hb] at h
          simp only [cond_false] at h
          injection h with h
          injection h with h1 h2
          subst h1; subst h2
          simp only at hf
          rw [hf, List.getElem?_map] at hfs
          cases hg : fs'.toList[f]? with
          | none => rw [hg] at hfs; exact absurd hfs (by simp)
          | some fd =>
            rw [hg] at hfs
            simp only [Option.map_some, Option.some.injEq, Prod.mk.injEq] at hfs
            refine ⟨fs', fd, hu, by simpa using hg, hfs.1, ?_, fun h0 => by rw [h0] at hb; exact absurd hb (by decide)⟩
            rw [hfs.2]
            exact tyIs (hΓ _ _ hft)
      · exact absurd h (by simp)
    · exact absurd h (by simp)
  · exact absurd h (by simp)

theorem field_sound {Γ : List (Nat × Ty)} (hΓ : TyOk P Γ) {T : TypeId} {f off : Nat} {fty : Ty} (h : evField Γ T f = some (off, fty)) {v : Value} {cs : List PV} (hv : Rep hw w v (.agg cs)) {x : PV} (hr : rd fty cs off = some x) :
    ∃ u, (Instr.field T v f).run P w = .ok u w ∧ Rep hw w u x := by
  obtain ⟨fs, fd, hu, hf, ho, hT, _⟩ := field_info hΓ h
  obtain ⟨vs, rfl, hc⟩ := agg_cells hv
  obtain ⟨u, h1, h2⟩ := part_sound hT hc.len hc.rep hc.one hr
  refine ⟨u, ?_, h2⟩
  simp [Instr.field, run_underlying hu, hf, asAgg, ho, h1]

theorem fieldAddr_run {Γ : List (Nat × Ty)} (hΓ : TyOk P Γ) {T : TypeId} {f off : Nat} {fty : Ty} (h : evField Γ T f = some (off, fty)) (k b : Nat) :
    (Instr.fieldAt T (.pointer (some ⟨k, b, none⟩)) f).run P w = .ok (.pointer (some ⟨k, b + off, none⟩)) w := by
  obtain ⟨fs, fd, hu, hf, ho, hT, hz⟩ := field_info hΓ h
  simp [Instr.fieldAt, run_underlying hu, hf, Instr.sureAddr, fieldPlace, run_sizeOf hT, hz, ho, Addr.add_lit]
end
end Go.Ev
namespace Go.Ev
open Go.RowKit

structure PRes (g : G) (σ : St) (a : Act) (w : World) (o : Oper) (res : Res) (v : Value) (w' : World) (g' : G) : Prop where
  qt : Qt g.hw w g'.hw w'
  rep : RepA g' w' v res.av
  noBox : res.box = none → g'.β = g.β
  box : ∀ cs, res.box = some cs → ∃ d k, o.dst = some d ∧ lk d σ.boxes = none ∧ res.av = .ptr d 0 ∧ (∀ b, b ≠ d → g'.β b = g.β b) ∧ g'.β d = some (k, 0) ∧
    w.heap.size ≤ k ∧ k < w'.heap.size ∧ BoxOk g' w' k 0 cs ∧ g'.hw k = 0 ∧ ∀ y ∈ cs, refP y = none
  link : ∀ l, res.link = some l → LocIs g a w l v
  ptr : res.box = none → (∀ b off, res.av = .ptr b off → ∃ cs, lk b σ.boxes = some cs) ∧ (∀ f bs, res.av = .fnp f bs → ∀ b ∈ bs, ∃ cs, lk b σ.boxes = some cs) ∧ (∀ b off n s, res.av = .sl b off n s → ∃ cs, lk b σ.boxes = some cs)

section
variable {P : Program} {B : Nat} {g g' : G} {σ : St} {a : Act} {w w' : World} {o : Oper} {res : Res} {v : Value}

theorem PRes.beta (h : PRes g σ a w o res v w' g') {b : Nat} (hb : ∃ cs, lk b σ.boxes = some cs) : g'.β b = g.β b := by
  cases hx : res.box with
  | none => rw [h.noBox hx]
  | some cs =>
    obtain ⟨d, k, _, hn, _, hoth, _⟩ := h.box cs hx
    obtain ⟨cs', hb⟩ := hb
    exact hoth b (fun e => by rw [e, hn] at hb; exact absurd hb (by simp))

theorem getD_set_same {arr : Array Value} {d : Nat} (h : d < arr.size) (v : Value) : (arr.setIfInBounds d v).getD d undef = v := by
  simp [h]
theorem getD_set_other {arr : Array Value} {d t : Nat} (h : t ≠ d) (v : Value) : (arr.setIfInBounds d v).getD t undef = arr.getD t undef := by
  simp only [Array.getD_eq_getD_getElem?, Array.getElem?_setIfInBounds]
  rw [if_neg (fun e => h e.symm)]

theorem LocIs.go (hI : Inv P B g σ a w) (h : PRes g σ a w o res v w' g') {d : Nat} {l : Loc} (hl : ∀ t, l = .t t → t ≠ d) (hb : ∀ b c, l = .b b c → ∃ cs, lk b σ.boxes = some cs) {val : Value} :
    LocIs g' (a.put (some d) v) w' l val ↔ LocIs g a w l val := by
  cases l with
  | t t =>
    show (a.tmps.setIfInBounds d v).getD t undef = val ↔ _
    rw [getD_set_other (hl t rfl)]
    rfl
  | b b c =>
    obtain ⟨cs, hcs⟩ := hb b c rfl
    obtain ⟨k, base, hk, hlt, _⟩ := hI.box b cs hcs
    show (∃ k base, g'.β b = some (k, base) ∧ w'.cell? ⟨k, base + c, none⟩ = some val) ↔ ∃ k base, g.β b = some (k, base) ∧ w.cell? ⟨k, base + c, none⟩ = some val
    rw [h.beta ⟨cs, hcs⟩]
    constructor
    · rintro ⟨k', base', h1, h2⟩
      rw [hk] at h1
      have := Option.some.inj h1
      cases this
      exact ⟨k, base, hk, by rw [← h.qt.cell k _ hlt]; exact h2⟩
    · rintro ⟨k', base', h1, h2⟩
      rw [hk] at h1
      have := Option.some.inj h1
      cases this
      exact ⟨k, base, hk, by rw [h.qt.cell k _ hlt]; exact h2⟩

theorem own_block_lt {E : TypeId} {val : Value} (h : OwnV P B g.hw w E val) : ∀ k, val.ownBlock = some k → k < w.heap.size ∧ B ≤ k := by
  obtain ⟨i, n, xs, _, ho, _⟩ := h
  intro k hk
  have := ho.lt k hk
  exact ⟨this.2, this.1⟩

theorem OwnV.qt (q : Qt g.hw w g'.hw w') {E : TypeId} {val : Value} (h : OwnV P B g.hw w E val) : OwnV P B g'.hw w' E val :=
  h.mono fun k hk => ⟨q.below.block k (own_block_lt h k hk).1, q.hw k (own_block_lt h k hk).1⟩

theorem boxes_addRes {d : Nat} (b : Nat) : lk b (addRes σ d res).boxes = (match res.box with | some cs => if b = d then some cs else lk b σ.boxes | none => lk b σ.boxes) := by
  unfold addRes
  cases res.box with
  | none => rfl
  | some cs => exact lk_cons b d cs σ.boxes

theorem tmps_addRes {d : Nat} (t : Nat) : lk t (addRes σ d res).tmps = if t = d then some res.av else lk t σ.tmps := lk_cons t d res.av σ.tmps

theorem own_addRes {d : Nat} (l : Loc) : lkL l (addRes σ d res).own = if l = .t d then none else lkL l σ.own := by
  show lkL l (σ.own.filter fun (l, _) => !(l.eq (.t d))) = _
  rw [lkL_filter (fun l => !(l.eq (.t d)))]
  by_cases h : l = .t d
  · subst h; simp [Loc.eq_iff.2 rfl]
  · have : l.eq (.t d) = false := by
      cases hh : l.eq (.t d) with
      | true => exact absurd (Loc.eq_iff.1 hh) h
      | false => rfl
    simp [this, h]

theorem al_addRes {d : Nat} {t : Nat} {l : Loc} (h : (t, l) ∈ (addRes σ d res).al) : (t = d ∧ res.link = some l) ∨ (t ≠ d ∧ l ≠ .t d ∧ (t, l) ∈ σ.al) := by
  have old : ∀ {t l}, (t, l) ∈ σ.al.filter (fun (t, l) => !(Nat.beq t d) && !(l.eq (.t d))) → t ≠ d ∧ l ≠ .t d ∧ (t, l) ∈ σ.al := by
    intro t l hm
    rw [List.mem_filter] at hm
    obtain ⟨h1, h2⟩ := hm
    simp only [Bool.and_eq_true, Bool.not_eq_true'] at h2
    refine ⟨fun e => by rw [e] at h2; simp at h2, fun e => by rw [e, Loc.eq_iff.2 rfl] at h2; simp at h2, h1⟩
  unfold addRes at h
  cases hl : res.link with
  | none => rw [hl] at h; exact .inr (old h)
  | some l' =>
    rw [hl] at h
    rcases List.mem_cons.1 h with h | h
    · cases h; exact .inl ⟨rfl, rfl⟩
    · exact .inr (old h)

theorem addRes_inv (hI : Inv P B g σ a w) (h : PRes g σ a w o res v w' g') {d : Nat} (ho : o.dst = some d) (hd : d < σ.n) (hlk : ∀ l, res.link = some l → l ≠ .t d ∧ ∀ b c, l = .b b c → ∃ cs, lk b σ.boxes = some cs) :
    Inv P B g' (addRes σ d res) (a.put (some d) v) w' := by
  have hx := h.qt.ext hI.hwlt
  have hnew : ∀ cs, res.box = some cs → ∃ k, lk d σ.boxes = none ∧ res.av = .ptr d 0 ∧ g'.β d = some (k, 0) ∧ w.heap.size ≤ k ∧ k < w'.heap.size ∧ BoxOk g' w' k 0 cs ∧ g'.hw k = 0 ∧ ∀ y ∈ cs, refP y = none := by
    intro cs hc
    obtain ⟨d', k, h1, h2, h3, h4, h5, h6, h7, h8, h9, h10⟩ := h.box cs hc
    rw [ho] at h1
    have := Option.some.inj h1
    subst this
    exact ⟨k, h2, h3, h5, h6, h7, h8, h9, h10⟩
  have oldbox : ∀ b cs, lk b σ.boxes = some cs → lk b (addRes σ d res).boxes = some cs := by
    intro b cs hb
    rw [boxes_addRes]
    cases hr : res.box with
    | none => exact hb
    | some cs' =>
      obtain ⟨k, hn, _⟩ := hnew cs' hr
      have : b ≠ d := fun e => by rw [e, hn] at hb; exact absurd hb (by simp)
      simp [this, hb]
  have boxcase : ∀ b cs, lk b (addRes σ d res).boxes = some cs → lk b σ.boxes = some cs ∨ (b = d ∧ res.box = some cs) := by
    intro b cs hb
    rw [boxes_addRes] at hb
    cases hr : res.box with
    | none => rw [hr] at hb; exact .inl hb
    | some cs' =>
      rw [hr] at hb
      simp only at hb
      split at hb
      · rename_i e; exact .inr ⟨e, hb⟩
      · exact .inl hb
  have locs : ∀ l E, lkL l σ.own = some E → ∀ b c, l = .b b c → ∃ cs, lk b σ.boxes = some cs := by
    intro l E hl b c e
    have := hI.ownt l E hl
    subst e
    exact this
  refine ⟨?_, hI.defers, ?_, ?_, ?_, ?_, ?_, h.qt.hwlt, Nat.le_trans hI.base h.qt.below.size, hI.glob.mono hx (fun _ _ hy => h.qt.below.block _ (hI.glob.1.lt hy)), ?_, ?_, ?_, ?_, ?_, ?_, ?_⟩
  · show (a.tmps.setIfInBounds d v).size = σ.n
    simp [hI.size]
  · intro t av ht
    rw [tmps_addRes] at ht
    split at ht
    · rename_i e
      subst e
      have := Option.some.inj ht
      subst this
      refine ⟨hd, ?_⟩
      show RepA g' w' ((a.tmps.setIfInBounds t v).getD t undef) res.av
      rw [getD_set_same (by rw [hI.size]; exact hd)]
      exact h.rep
    · rename_i hne
      obtain ⟨h1, h2⟩ := hI.tmp t av ht
      refine ⟨h1, ?_⟩
      show RepA g' w' ((a.tmps.setIfInBounds d v).getD t undef) av
      rw [getD_set_other hne]
      refine h2.mono hx (fun b => ?_) (fun b off n s e => by subst e; exact h.beta (hI.sl t b off n s ht))
      cases av with
      | p x => exact .inl ⟨fun _ => by simp, fun _ _ => by simp⟩
      | ptr b' off =>
        by_cases e : b = b'
        · subst e; exact .inr (h.beta (hI.ptr t b off ht))
        · exact .inl ⟨fun off' => by simp; intro e'; exact absurd e'.symm e, fun _ _ => by simp⟩
      | sl b' off n s => exact .inl ⟨fun _ => by simp, fun _ _ => by simp⟩
      | fnp f bs =>
        by_cases e : b ∈ bs
        · exact .inr (h.beta (hI.fnp t f bs ht b e))
        · exact .inl ⟨fun _ => by simp, fun f' bs' e' => by cases e'; exact e⟩
  · intro t b off ht
    rw [tmps_addRes] at ht
    split at ht
    · have := Option.some.inj ht
      cases hr : res.box with
      | none =>
        obtain ⟨cs, hcs⟩ := (h.ptr hr).1 b off this
        exact ⟨cs, oldbox b cs hcs⟩
      | some cs =>
        obtain ⟨k, _, h3, _⟩ := hnew cs hr
        rw [h3] at this
        cases this
        exact ⟨cs, by rw [boxes_addRes, hr]; simp⟩
    · obtain ⟨cs, hcs⟩ := hI.ptr t b off ht
      exact ⟨cs, oldbox b cs hcs⟩
  · intro t f bs ht b hb
    rw [tmps_addRes] at ht
    split at ht
    · have := Option.some.inj ht
      cases hr : res.box with
      | none =>
        obtain ⟨cs, hcs⟩ := (h.ptr hr).2.1 f bs this b hb
        exact ⟨cs, oldbox b cs hcs⟩
      | some cs =>
        obtain ⟨k, _, h3, _⟩ := hnew cs hr
        rw [h3] at this
        exact absurd this (by simp)
    · obtain ⟨cs, hcs⟩ := hI.fnp t f bs ht b hb
      exact ⟨cs, oldbox b cs hcs⟩
  · intro b cs hb
    rcases boxcase b cs hb with hb | ⟨rfl, hr⟩
    · obtain ⟨k, base, h1, h2, h3, h4, h5⟩ := hI.box b cs hb
      exact ⟨k, base, by rw [h.beta ⟨cs, hb⟩]; exact h1, Nat.lt_of_lt_of_le h2 h.qt.below.size, h3.mono hx (fun off => h.qt.cell k off h2) (fun off => h.qt.frozen k off h2) (shape_block (h.qt.below.block k h2)) (fun y hy b' hb' => h.beta (hI.ref b cs hb y hy b' hb')),
        fun hro => by rw [h.qt.hw k h2]; exact h4 hro, h5⟩
    · obtain ⟨k, _, _, h5, h6, h7, h8, h9⟩ := hnew cs hr
      exact ⟨k, 0, h5, h7, h8, fun _ => h9.1, fun _ => Nat.le_trans hI.base h6⟩
  · intro b b' cs cs' k base base' hb hb' h1 h2
    rcases boxcase b cs hb with hq | ⟨hbd, hr⟩ <;> rcases boxcase b' cs' hb' with hq' | ⟨hbd', hr'⟩
    · rw [h.beta ⟨cs, hq⟩] at h1
      rw [h.beta ⟨cs', hq'⟩] at h2
      exact hI.inj b b' cs cs' k base base' hq hq' h1 h2
    · subst hbd'
      obtain ⟨k', _, _, h5, h6, _⟩ := hnew cs' hr'
      rw [h5] at h2
      have e1 := Option.some.inj h2
      cases e1
      rw [h.beta ⟨cs, hq⟩] at h1
      obtain ⟨k2, base2, h3, h4, _⟩ := hI.box b cs hq
      rw [h1] at h3
      have e2 := Option.some.inj h3
      cases e2
      omega
    · subst hbd
      obtain ⟨k', _, _, h5, h6, _⟩ := hnew cs hr
      rw [h5] at h1
      have e1 := Option.some.inj h1
      cases e1
      rw [h.beta ⟨cs', hq'⟩] at h2
      obtain ⟨k2, base2, h3, h4, _⟩ := hI.box b' cs' hq'
      rw [h2] at h3
      have e2 := Option.some.inj h3
      cases e2
      omega
    · rw [hbd, hbd']
  · intro l E hl
    rw [own_addRes] at hl
    split at hl
    · exact absurd hl (by simp)
    · rename_i hne
      obtain ⟨val, h1, h2, h3⟩ := hI.own l E hl
      refine ⟨val, (LocIs.go hI h (fun t e => fun e' => hne (by rw [e, e'])) (locs l E hl)).2 h1, h2.qt h.qt, fun k hk b cs base hb => ?_⟩
      rcases boxcase b cs hb with hb | ⟨rfl, hr⟩
      · rw [h.beta ⟨cs, hb⟩]; exact h3 k hk b cs base hb
      · obtain ⟨k', _, _, h5, h6, _⟩ := hnew cs hr
        rw [h5]
        intro e
        have := Option.some.inj e
        cases this
        have := (own_block_lt h2 k hk).1
        omega
  · intro l E hl
    rw [own_addRes] at hl
    split at hl
    · exact absurd hl (by simp)
    · have := hI.ownt l E hl
      cases l with
      | t t => exact this
      | b b c => obtain ⟨cs, hcs⟩ := this; exact ⟨cs, oldbox b cs hcs⟩
  · intro l l' E E' val val' k hl hl' h1 h2 h3 h4
    rw [own_addRes] at hl hl'
    split at hl
    · exact absurd hl (by simp)
    · rename_i hne
      split at hl'
      · exact absurd hl' (by simp)
      · rename_i hne'
        exact hI.owninj l l' E E' val val' k hl hl' ((LocIs.go hI h (fun t e => fun e' => hne (by rw [e, e'])) (locs l E hl)).1 h1) ((LocIs.go hI h (fun t e => fun e' => hne' (by rw [e, e'])) (locs l' E' hl')).1 h2) h3 h4
  · intro t l hm
    rcases al_addRes hm with ⟨rfl, hr⟩ | ⟨hne, hne', hm⟩
    · obtain ⟨q1, q2⟩ := hlk l hr
      show LocIs g' (a.put (some t) v) w' l ((a.tmps.setIfInBounds t v).getD t undef)
      rw [getD_set_same (by rw [hI.size]; exact hd)]
      exact (LocIs.go hI h (fun t' e => fun e' => q1 (by rw [e, e'])) q2).2 (h.link l hr)
    · show LocIs g' (a.put (some d) v) w' l ((a.tmps.setIfInBounds d v).getD t undef)
      rw [getD_set_other hne]
      exact (LocIs.go hI h (fun t' e => fun e' => hne' (by rw [e, e'])) (fun b c e => by subst e; exact hI.alt t b c hm)).2 (hI.al t l hm)
  · intro t b c hm
    rcases al_addRes hm with ⟨_, hr⟩ | ⟨_, _, hm⟩
    · obtain ⟨cs, hcs⟩ := (hlk _ hr).2 b c rfl
      exact ⟨cs, oldbox b cs hcs⟩
    · obtain ⟨cs, hcs⟩ := hI.alt t b c hm
      exact ⟨cs, oldbox b cs hcs⟩
  · intro t b off n s ht
    rw [tmps_addRes] at ht
    split at ht
    · have := Option.some.inj ht
      cases hr : res.box with
      | none =>
        obtain ⟨cs, hcs⟩ := (h.ptr hr).2.2 b off n s this
        exact ⟨cs, oldbox b cs hcs⟩
      | some cs =>
        obtain ⟨k, _, h3, _⟩ := hnew cs hr
        rw [h3] at this
        exact absurd this (by simp)
    · obtain ⟨cs, hcs⟩ := hI.sl t b off n s ht
      exact ⟨cs, oldbox b cs hcs⟩
  · intro b cs hb y hy b' hb'
    rcases boxcase b cs hb with hq | ⟨_, hr⟩
    · obtain ⟨cs', hcs'⟩ := hI.ref b cs hq y hy b' hb'
      exact ⟨cs', oldbox b' cs' hcs'⟩
    · obtain ⟨_, _, _, _, _, _, _, _, h10⟩ := hnew cs hr
      rw [h10 y hy] at hb'
      exact absurd hb' (by simp)
end
end Go.Ev
namespace Go.Ev
open Go.RowKit
section
variable {P : Program} {B : Nat} {g : G} {σ : St} {a : Act} {w : World} {o : Oper}

/-- A value, nothing made. -/
theorem here (hI : Inv P B g σ a w) {v : Value} {av : AV} {link : Option Loc} (hr : (execOp a.eval o).run P w = .ok (.value v) w) (hrep : RepA g w v av) (hlink : ∀ l, link = some l → LocIs g a w l v)
    (hp : (∀ b off, av = .ptr b off → ∃ cs, lk b σ.boxes = some cs) ∧ (∀ f bs, av = .fnp f bs → ∀ b ∈ bs, ∃ cs, lk b σ.boxes = some cs) ∧ (∀ b off n s, av = .sl b off n s → ∃ cs, lk b σ.boxes = some cs)) :
    OpRes P o a w fun v w' => ∃ g', PRes g σ a w o ⟨av, none, link⟩ v w' g' :=
  .inl ⟨v, w, hr, g, ⟨Qt.refl hI.hwlt, hrep, fun _ => rfl, fun _ h => absurd h (by simp), hlink, fun _ => hp⟩⟩

theorem hereP (hI : Inv P B g σ a w) {v : Value} {x : PV} (hr : (execOp a.eval o).run P w = .ok (.value v) w) (hrep : Rep g.hw w v x) :
    OpRes P o a w fun v w' => ∃ g', PRes g σ a w o ⟨.p x, none, none⟩ v w' g' :=
  here hI hr hrep (fun _ h => absurd h (by simp)) ⟨fun _ _ h => absurd h (by simp), fun _ _ h => absurd h (by simp), fun _ _ _ _ h => absurd h (by simp)⟩

/-- A new box. -/
theorem newBox (hI : Inv P B g σ a w) {d : Nat} (ho : o.dst = some d) (hd : lk d σ.boxes = none) {T : TypeId} {vs : List Value} {cs : List PV} (hc : CellsRep g.hw w vs cs ∨ cs = [])
    (hr : (execOp a.eval o).run P w = .ok (.value (.pointer (some ⟨w.heap.size, 0, none⟩))) (w.alloc (.cells vs.toArray T))) :
    OpRes P o a w fun v w' => ∃ g', PRes g σ a w o ⟨.ptr d 0, some cs, none⟩ v w' g' := by
  have q : Qt g.hw w g.hw (w.alloc (.cells vs.toArray T)) :=
    ⟨(Below.refl _ _).alloc (Nat.le_refl _) _, fun _ _ => rfl, fun k hk => hI.hwlt k (by simp at hk; omega)⟩
  refine .inl ⟨_, _, hr, ⟨fun b => if b = d then some (w.heap.size, 0) else g.β b, g.hw⟩, ⟨q, ⟨w.heap.size, 0, by simp, rfl⟩, fun h => absurd h (by simp), ?_, fun _ h => absurd h (by simp), fun h => absurd h (by simp)⟩⟩
  intro cs' e
  have := Option.some.inj e
  subst this
  refine ⟨d, w.heap.size, ho, hd, rfl, fun b hb => by simp [hb], by simp, Nat.le_refl _, by simp, ⟨fun j y hy => ?_⟩, hI.hwlt _ (Nat.le_refl _), fun y hy => ?_⟩
  rotate_left
  · obtain ⟨j, hj, rfl⟩ := List.getElem_of_mem hy
    rcases hc with hc | hc
    · exact rep_ref (hc.rep j _ _ (List.getElem?_eq_getElem (l := vs) (i := j) (by rw [hc.len]; exact hj)) (List.getElem?_eq_getElem hj))
    · subst hc; simp at hj
  rcases hc with hc | hc
  · have hj : j < vs.length := by rw [hc.len]; exact (List.getElem?_eq_some_iff.1 hy).1
    refine ⟨vs[j], ?_, hc.one _ (List.getElem_mem hj), ?_, .rep ((hc.rep j vs[j] y (List.getElem?_eq_getElem hj) hy).mono (q.ext hI.hwlt))⟩
    · rw [Nat.zero_add, World.cell?_alloc_new]; simp [hj]
    · rw [Nat.zero_add, World.frozen?_alloc_new]
  · subst hc; simp at hy

theorem mapO_get {α β : Type} {f : α → Option β} : ∀ {l : List α} {r : List β}, mapO f l = some r → l.length = r.length ∧ ∀ (j : Nat) (x : α) (y : β), l[j]? = some x → r[j]? = some y → f x = some y
  | [], r, h => by have := Option.some.inj h; subst this; exact ⟨rfl, fun j x y hx => by simp at hx⟩
  | x :: l, r, h => by
    unfold mapO at h
    split at h
    · rename_i y r' h1 h2
      have := Option.some.inj h
      subst this
      obtain ⟨e1, e2⟩ := mapO_get h2
      refine ⟨by simp [e1], fun j u v hu hv => ?_⟩
      cases j with
      | zero => simp at hu hv; subst hu; subst hv; exact h1
      | succ j => exact e2 j u v (by simpa using hu) (by simpa using hv)
    · exact absurd h (by simp)

theorem szs_get {Γ : List (Nat × Ty)} : ∀ {fs : List (Nat × Nat)} {r : List (Nat × Nat)}, szs Γ fs = some r → fs.length = r.length ∧ ∀ (j : Nat) (x y : Nat × Nat), fs[j]? = some x → r[j]? = some y → ∃ ty, lk x.2 Γ = some ty ∧ y = (x.1, ty.size)
  | [], r, h => by have := Option.some.inj h; subst this; exact ⟨rfl, fun j x y hx => by simp at hx⟩
  | (off, t) :: fs, r, h => by
    unfold szs at h
    split at h
    · rename_i ty r' h1 h2
      have := Option.some.inj h
      subst this
      obtain ⟨e1, e2⟩ := szs_get h2
      refine ⟨by simp [e1], fun j u v hu hv => ?_⟩
      cases j with
      | zero => simp at hu hv; subst hu; subst hv; exact ⟨ty, h1, rfl⟩
      | succ j => exact e2 j u v (by simpa using hu) (by simpa using hv)
    · exact absurd h (by simp)

theorem run_mapM {α β : Type} (f : α → Sem β) (gf : α → β) : ∀ (l : List α) (w : World), (∀ x ∈ l, (f x).run P w = .ok (gf x) w) → (l.mapM f).run P w = .ok (l.map gf) w
  | [], w, _ => by simp
  | x :: l, w, h => by
    simp only [List.mapM_cons, Sem.run_bind, h x (by simp), Result.andThen_ok, run_mapM f gf l w (fun y hy => h y (by simp [hy])), Sem.run_pure, List.map_cons]

theorem evBuild_sound {Γ : List (Nat × Ty)} (hΓ : TyOk P Γ) {hw : Nat → Nat} {T : TypeId} {ps : List (Nat × PV)} {x : PV} (h : evBuild Γ T ps = some x) {vs : List (Nat × Value)} (hl : vs.length = ps.length)
    (hr : ∀ (j : Nat) (v : Nat × Value) (p : Nat × PV), vs[j]? = some v → ps[j]? = some p → v.1 = p.1 ∧ Rep hw w v.2 p.2) :
    ∃ v, (Instr.build T vs.toArray).run P w = .ok v w ∧ Rep hw w v x := by
  unfold evBuild at h
  split at h
  · rename_i sz by_ zc fs e n hty
    have hT := tyIs (hΓ T _ hty)
    obtain ⟨fs', hu, hf⟩ := kd1 hT rfl
    obtain ⟨z, hz, hzc, h1, _⟩ := run_zeroValue hT w
    split at h
    · rename_i pl hpl
      split at h
      · rename_i cs hcs
        have := Option.some.inj h
        subst this
        obtain ⟨e1, e2⟩ := szs_get hpl
        simp only at hf hzc
        have hfl : fs.length = fs'.size := by rw [hf]; simp
        have hszf : ∀ fd ∈ fs'.toList, ∃ fty, TyIs P fd.type fty := by
          intro fd hfd
          obtain ⟨j, hj⟩ := List.getElem?_of_mem hfd
          have hj' : fs[j]? = some (fd.offset, fd.type) := by rw [hf, List.getElem?_map, hj]; rfl
          have hlt : j < pl.length := by rw [← e1]; exact (List.getElem?_eq_some_iff.1 hj').1
          obtain ⟨fty, hfty, _⟩ := e2 j _ pl[j] hj' (List.getElem?_eq_getElem hlt)
          exact ⟨fty, tyIs (hΓ _ _ hfty)⟩
        let sz : Field → Nat := fun fd => ((P.info? fd.type).map (·.size)).getD 0
        have hsz : ∀ fd fty, TyIs P fd.type fty → sz fd = fty.size := by
          intro fd fty ht
          obtain ⟨i, z, hi, _, hs, _⟩ := ht.info
          simp only [sz, hi, hs, Option.map_some, Option.getD_some]
        have hmap : (fs'.mapM (m := Sem) fun f => do pure (f.offset, ← sizeOf f.type)).run P w = .ok (fs'.map fun fd => (fd.offset, sz fd)) w := by
          rw [Array.mapM_eq_mapM_toList, Sem.run_map, run_mapM _ (fun fd => (fd.offset, sz fd)) _ w (fun fd hfd => ?_), Result.andThen_ok]
          · congr 1
            apply Array.ext'
            simp
          · obtain ⟨fty, hft⟩ := hszf fd hfd
            simp [run_sizeOf hft, hsz fd fty hft]
        have hpl' : ∀ (i : Nat) (q : Nat × Nat), pl[i]? = some q → (fs'.map fun fd => (fd.offset, sz fd))[i]? = some q := by
          intro i q hq
          have hlt : i < fs.length := by rw [e1]; exact (List.getElem?_eq_some_iff.1 hq).1
          obtain ⟨fty, hfty, hqe⟩ := e2 i fs[i] q (List.getElem?_eq_getElem hlt) hq
          have hlt' : i < fs'.size := by omega
          have hfi : fs[i] = (fs'[i].offset, fs'[i].type) := by simp [hf]
          rw [hfi] at hfty hqe
          simp only [Array.getElem?_map, Array.getElem?_eq_getElem hlt', Option.map_some]
          rw [hqe, hsz _ _ (tyIs (hΓ _ _ hfty))]
        rw [hzc] at hcs
        obtain ⟨out, f1, f2, _⟩ := fill_sound (hw := hw) (w := w) hpl' ps vs z.cells.toList _ cs (CellsRep.zero h1) hl hr hcs
        refine ⟨.agg out.toArray, ?_, f2.agg⟩
        unfold Instr.build
        have f1' : Instr.fill (fun x => (fs'.map fun fd => (fd.offset, sz fd))[x]?) z.cells vs = some out.toArray := by
          rw [Array.toArray_toList] at f1
          exact f1
        simp only [Sem.run_bind, hz, Result.andThen_ok, run_underlying hu, hmap]
        rw [f1']
        rfl
      · exact absurd h (by simp)
    · exact absurd h (by simp)
  · rename_i sz by_ zc fs e n hty
    have hT := tyIs (hΓ T _ hty)
    obtain ⟨hk2, _, _⟩ := kd_under hT
    have hu := hk2 rfl
    obtain ⟨z, hz, hzc, h1, _⟩ := run_zeroValue hT w
    split at h
    · rename_i ety hety
      split at h
      · rename_i cs hcs
        have := Option.some.inj h
        subst this
        simp only at hu hzc
        rw [hzc] at hcs
        obtain ⟨out, f1, f2, _⟩ := fill_sound (hw := hw) (w := w) (pl := fun i => some (i * ety.size, ety.size)) (fun i q hq => hq) ps vs z.cells.toList _ cs (CellsRep.zero h1) hl hr hcs
        refine ⟨.agg out.toArray, ?_, f2.agg⟩
        have f1' : Instr.fill (fun i => some (i * ety.size, ety.size)) z.cells vs = some out.toArray := by simpa using f1
        unfold Instr.build
        simp [hz, run_underlying hu, run_sizeOf (tyIs (hΓ _ _ hety)), f1']
      · exact absurd h (by simp)
    · exact absurd h (by simp)
  · exact absurd h (by simp)
end
end Go.Ev
namespace Go.Ev
open Go.RowKit
section
variable {P : Program} {B : Nat} {g : G} {σ : St} {a : Act} {w : World} {o : Oper}

theorem qt_alloc {hw hw' : Nat → Nat} {w : World} (hl : ∀ k, w.heap.size ≤ k → hw k = 0) (hh : ∀ k, k ≠ w.heap.size → hw' k = hw k) (ob : Obj) : Qt hw w hw' (w.alloc ob) :=
  ⟨(Below.refl _ _).alloc (Nat.le_refl _) _, fun k hk => hh k (by omega), fun k hk => by rw [hh k (by simp at hk; omega)]; exact hl k (by simp at hk; omega)⟩

theorem newRow_rep {hw : Nat → Nat} {w : World} (hl : ∀ k, w.heap.size ≤ k → hw k = 0) {vs rest : List Value} {cs : List PV} (hc : CellsRep hw w vs cs) {n s cap : Nat} (hn : cs.length = n * s) (hcap : n ≤ cap) (E : TypeId) :
    Rep (fun k => if k = w.heap.size then n * s else hw k) (w.alloc (.cells (vs ++ rest).toArray E)) (.slice (some ⟨w.heap.size, 0, none⟩) n cap) (.lst (chunk s n cs)) := by
  have q : Qt hw w (fun k => if k = w.heap.size then n * s else hw k) (w.alloc (.cells (vs ++ rest).toArray E)) := qt_alloc hl (fun k hk => by simp [hk]) _
  have hx := q.ext hl
  have getv : ∀ i j, i < n → j < s → i * s + j < vs.length := by
    intro i j hi hj
    rw [hc.len, hn]
    have := seg_lt (off := 0) hi hj
    omega
  have key := Rep.lst (hw := fun k => if k = w.heap.size then n * s else hw k) (w := w.alloc (.cells (vs ++ rest).toArray E)) (chunk s n cs) w.heap.size 0 cap s (fun i j => vs.getD (i * s + j) undef)
    (by rw [chunk_len]; exact hcap)
    (fun i x hx => by
      obtain ⟨h1, h2⟩ := chunk_get _ _ _ _ _ hx
      rw [h2]
      have : (i + 1) * s ≤ n * s := Nat.mul_le_mul_right s h1
      rw [Nat.succ_mul] at this
      simp; omega)
    (fun i j hi hj => by
      rw [chunk_len] at hi
      have := getv i j hi hj
      rw [Nat.zero_add, World.cell?_alloc_new]
      simp [List.getElem?_append_left this, this])
    (fun i j x y hx' hy => by
      obtain ⟨h1, h2⟩ := chunk_get _ _ _ _ _ hx'
      subst h2
      rw [List.getElem?_take] at hy
      split at hy
      · rename_i hj
        rw [List.getElem?_drop] at hy
        have := getv i j h1 hj
        simp only [List.getD_eq_getElem?_getD, List.getElem?_eq_getElem this, Option.getD_some]
        exact (hc.rep _ _ y (List.getElem?_eq_getElem this) hy).mono hx
      · exact absurd hy (by simp))
    (fun i j hi hj => by
      rw [chunk_len] at hi
      have := getv i j hi hj
      simp only [List.getD_eq_getElem?_getD, List.getElem?_eq_getElem this, Option.getD_some]
      exact hc.one _ (List.getElem_mem this))
    (by rw [chunk_len]; simp)
  rw [chunk_len] at key
  exact key

theorem reps_len (n : Nat) (z : List PV) : (reps n z).length = n * z.length := by
  induction n with
  | zero => simp [reps]
  | succ n ih => simp [reps, ih, Nat.succ_mul]; omega

def repsV : Nat → List Value → List Value
  | 0, _ => []
  | n + 1, z => z ++ repsV n z

theorem reps_rep {hw : Nat → Nat} {w : World} {vs : List Value} (h1 : ∀ x ∈ vs, x.oneCell' = true) : ∀ n, CellsRep hw w (repsV n vs) (reps n (vs.map cv))
  | 0 => ⟨rfl, fun j x y hx => by simp [repsV] at hx, fun x hx => by simp [repsV] at hx⟩
  | n + 1 => (CellsRep.zero h1).append (reps_rep h1 n)

theorem repsV_len (n : Nat) (z : List Value) : (repsV n z).length = n * z.length := by
  induction n with
  | zero => simp [repsV]
  | succ n ih => simp [repsV, ih, Nat.succ_mul]; omega

theorem repsV_get (z : List Value) (hz : 0 < z.length) : ∀ (n j : Nat), j < n * z.length → (repsV n z)[j]? = z[j % z.length]?
  | 0, j, h => by simp at h
  | n + 1, j, h => by
    simp only [repsV]
    by_cases hj : j < z.length
    · rw [List.getElem?_append_left hj, Nat.mod_eq_of_lt hj]
    · have hge : z.length ≤ j := by omega
      rw [List.getElem?_append_right hge, repsV_get z hz n (j - z.length) (by rw [Nat.succ_mul] at h; omega), ← Nat.mod_eq_sub_mod hge]

theorem range_reps {z : Array Value} (hz : 0 < z.size) (n : Nat) : ((Array.range (n * z.size)).map fun i => z[i % z.size]!) = (repsV n z.toList).toArray := by
  apply Array.ext'
  apply List.ext_getElem?
  intro j
  simp only [Array.toList_map, Array.toList_range, List.getElem?_map]
  by_cases hj : j < n * z.size
  · rw [List.getElem?_range hj, repsV_get z.toList (by simpa using hz) n j (by simpa using hj)]
    have hm : j % z.size < z.size := Nat.mod_lt _ hz
    simp [hm]
  · rw [List.getElem?_eq_none (by simp; omega), List.getElem?_eq_none (by rw [repsV_len]; simp; omega)]
    rfl

theorem evBuildSlice_sound {Γ : List (Nat × Ty)} (hΓ : TyOk P Γ) {hw : Nat → Nat} {T : TypeId} {n : Nat} {ps : List (Nat × PV)} {x : PV} (h : evBuildSlice Γ T n ps = some x) (hl0 : ∀ k, w.heap.size ≤ k → hw k = 0)
    {vs : List (Nat × Value)} (hl : vs.length = ps.length) (hr : ∀ (j : Nat) (v : Nat × Value) (p : Nat × PV), vs[j]? = some v → ps[j]? = some p → v.1 = p.1 ∧ Rep hw w v.2 p.2) :
    ∃ v w' hw', (Instr.buildSlice T n vs.toArray).run P w = .ok v w' ∧ Qt hw w hw' w' ∧ Rep hw' w' v x := by
  unfold evBuildSlice at h
  split at h
  · rename_i sz by_ zc fs e m hty
    have hT := tyIs (hΓ T _ hty)
    obtain ⟨_, hk3, _⟩ := kd_under hT
    have hu := hk3 rfl
    simp only at hu
    split at h
    · rename_i ety hety
      have hET := tyIs (hΓ _ _ hety)
      cases hb : (Nat.beq ety.size 0 || Nat.ble 16777216 (n * ety.size) || !(Nat.beq ety.zero.length ety.size)) with
      | true => rw [hb] at h; exact absurd h (by simp)
      | false =>
        rw [hb] at h
        simp only [cond_false] at h
        simp only [Bool.or_eq_false_iff, Bool.not_eq_false'] at hb
        obtain ⟨⟨hb1, hb2⟩, hb3⟩ := hb
        have hs0 : ety.size ≠ 0 := fun h0 => by rw [h0] at hb1; exact absurd hb1 (by decide)
        have hn : n * ety.size < 16777216 := by
          rcases Nat.lt_or_ge (n * ety.size) 16777216 with h | h
          · exact h
          · rw [Nat.ble_eq_true_of_le h] at hb2; exact absurd hb2 (by simp)
        split at h
        · rename_i cs hcs
          have := Option.some.inj h
          subst this
          obtain ⟨z, hz, hzc, h1, hzs⟩ := run_zeroValue hET w
          rw [hzc] at hcs
          obtain ⟨out, f1, f2, f3⟩ := fill_sound (hw := hw) (w := w) (pl := fun i => some (i * ety.size, ety.size)) (fun i q hq => hq) ps vs (repsV n z.cells.toList) _ cs (reps_rep h1 n) hl hr hcs
          have hol : out.length = n * ety.size := by rw [f3, repsV_len]; simp [hzs]
          refine ⟨_, w.alloc (.cells out.toArray e), fun k => if k = w.heap.size then n * ety.size else hw k, ?_, qt_alloc hl0 (fun k hk => by simp [hk]) _, by
            have := newRow_rep hl0 f2 (rest := []) (n := n) (s := ety.size) (cap := n) (by rw [← f2.len, hol]) (Nat.le_refl _) e
            rw [List.append_nil] at this
            exact this⟩
          have hnot : ¬ (n * ety.size > 2 ^ 24) := by omega
          unfold Instr.buildSlice
          simp only [Sem.run_bind, run_underlying hu, Result.andThen_ok, run_sizeOf hET, hnot, if_false]
          by_cases h0 : n * ety.size = 0
          · have hn0 : n = 0 := by
              rcases Nat.mul_eq_zero.1 h0 with h | h
              · exact h
              · exact absurd h hs0
            subst hn0
            have f1' : Instr.fill (fun i => some (i * ety.size, ety.size)) #[] vs = some out.toArray := f1
            have e0 : (Array.range 0).map (fun i => (#[] : Array Value)[i % (#[] : Array Value).size]!) = #[] := by apply Array.ext'; simp
            simp only [Nat.zero_mul, if_true, pure_bind, e0]
            rw [f1']
            rfl
          · have hzp : 0 < z.cells.size := by omega
            have e1 := range_reps hzp n
            rw [hzs] at e1
            simp only [h0, if_false, Sem.run_bind, hz, Result.andThen_ok, Sem.run_pure, hzs, e1]
            have f1' : Instr.fill (fun i => some (i * ety.size, ety.size)) (repsV n z.cells.toList).toArray vs = some out.toArray := f1
            rw [f1']
            simp [newRow]
        · exact absurd h (by simp)
    · exact absurd h (by simp)
  · exact absurd h (by simp)
end
end Go.Ev
namespace Go.Ev
open Go.RowKit
section
variable {P : Program} {B : Nat} {g : G} {σ : St} {a : Act} {w : World} {o : Oper}

theorem flat1_rep {h1 h2 : Nat → Nat} {w1 w2 : World} {v : Value} {x : PV} (hf : flat1 x = true) (h : Rep h1 w1 v x) : Rep h2 w2 v x := by
  cases h with
  | v _ h1 => exact .v v h1
  | str l => exact .str l
  | _ => simp [flat1] at hf

theorem flatAgg_rep {h1 h2 : Nat → Nat} {w1 w2 : World} {v : Value} {cs : List PV} (hf : cs.all flat1 = true) (h : Rep h1 w1 v (.agg cs)) : Rep h2 w2 v (.agg cs) := by
  obtain ⟨vs, rfl, hc⟩ := agg_cells h
  exact .agg vs cs hc.len (fun j x y hx hy => flat1_rep (List.all_eq_true.1 hf y (List.mem_of_getElem? hy)) (hc.rep j x y hx hy)) hc.one

theorem flat_rep {h1 h2 : Nat → Nat} {w1 w2 : World} {v : Value} {x : PV} (hf : flat x = true) (h : Rep h1 w1 v x) : Rep h2 w2 v x := by
  cases x with
  | v y => exact flat1_rep rfl h
  | str l => exact flat1_rep rfl h
  | agg cs => exact flatAgg_rep hf h
  | tup vs =>
    cases h with
    | tup vv cs hl hr =>
      refine .tup vv vs hl (fun j x y hx hy => ?_)
      have hy' := List.all_eq_true.1 hf y (List.mem_of_getElem? hy)
      have hr' := hr j x y hx hy
      cases y with
      | v z => exact flat1_rep rfl hr'
      | str l => exact flat1_rep rfl hr'
      | agg cs => exact flatAgg_rep hy' hr'
      | _ => simp at hy'
  | nil => simp [flat] at hf
  | lst xs => simp [flat] at hf
  | lptr cs off => simp [flat] at hf
  | fn f cs => simp [flat] at hf
  | bld u => simp [flat] at hf
  | bp _ _ => simp [flat] at hf
  | bs _ _ _ _ => simp [flat] at hf

theorem nilLst_rep {hw : Nat → Nat} {w : World} {v : Value} {x : PV} (h : Rep hw w v x) : Rep hw w v (nilLst x) := by
  cases h with
  | nil => exact .lnil
  | v _ h1 => exact .v v h1
  | str l => exact .str l
  | lnil => exact .lnil
  | lst xs blk off cap s c hcap hlen hc hr h1 hh => exact .lst xs blk off cap s c hcap hlen hc hr h1 hh
  | lptr cs blk base off c hc hr h1 hh => exact .lptr cs blk base off c hc hr h1 hh
  | agg vs cs hl hr h1 => exact .agg vs cs hl hr h1
  | tup vs cs hl hr => exact .tup vs cs hl hr
  | fn f vs cs hl hr => exact .fn f vs cs hl hr

theorem norm_rep {hw : Nat → Nat} {w : World} {v : Value} {x : PV} (h : Rep hw w v x) : Rep hw w v (norm x) := h

/-- A bound that covers all boxes. -/
def cover (g : G) : List (Nat × List PV) → Nat
  | [] => 0
  | (b, cs) :: r => (match g.β b with | some (_, base) => base + cs.length | none => 0) + cover g r

theorem cover_ge {g : G} : ∀ {bx : List (Nat × List PV)} {b : Nat} {cs : List PV} {k base : Nat}, lk b bx = some cs → g.β b = some (k, base) → base + cs.length ≤ cover g bx
  | [], _, _, _, _, h, _ => by simp [lk] at h
  | (b', cs') :: r, b, cs, k, base, h, hb => by
    rw [lk_cons] at h
    unfold cover
    split at h
    · rename_i e
      have := Option.some.inj h
      subst this; subst e
      rw [hb]
      simp only
      omega
    · have := cover_ge h hb
      omega

theorem box_lptr {N : Nat} (hI : Inv P B g σ a w) (hN : cover g σ.boxes ≤ N) {b off : Nat} {cs : List PV} (hb : lk b σ.boxes = some cs) (hd : hdOk cs = true) {v : Value} (hv : RepA g w v (.ptr b off)) :
    Rep (fun k => if k < w.heap.size then g.hw k + N else 0) w v (.lptr cs off) := by
  obtain ⟨k, base, hk, rfl⟩ := hv
  obtain ⟨k', base', hk', hlt, hok, _⟩ := hI.box b cs hb
  rw [hk] at hk'
  have := Option.some.inj hk'
  cases this
  have hx : Ext g.hw w (fun k => if k < w.heap.size then g.hw k + N else 0) w := ⟨fun _ _ _ => rfl, fun j => by
    by_cases hj : j < w.heap.size
    · simp [hj]
    · rw [hI.hwlt j (by omega)]; exact Nat.zero_le _⟩
  have hcell : ∀ j, j < cs.length → ∃ v, w.cell? ⟨k, base + j, none⟩ = some v ∧ v.oneCell' = true ∧ ∀ y, cs[j]? = some y → Rep g.hw w v y := by
    intro j hj
    obtain ⟨v, h1, h2, _, h4⟩ := hok.cell j cs[j] (List.getElem?_eq_getElem hj)
    refine ⟨v, h1, h2, fun y hy => ?_⟩
    rw [List.getElem?_eq_getElem hj] at hy
    have := Option.some.inj hy
    subst this
    exact h4.plain (hd_plain hd (List.getElem?_eq_getElem hj))
  refine .lptr cs k base off (fun j => (w.cell? ⟨k, base + j, none⟩).getD undef) (fun j hj => ?_) (fun j y hy => ?_) (fun j hj => ?_) ?_
  · obtain ⟨v, h1, _⟩ := hcell j hj; rw [h1]; rfl
  · have hj := (List.getElem?_eq_some_iff.1 hy).1
    obtain ⟨v, h1, _, h3⟩ := hcell j hj
    rw [h1]
    exact (h3 y hy).mono hx
  · obtain ⟨v, h1, h2, _⟩ := hcell j hj; rw [h1]; exact h2
  · simp only [hlt, if_true]
    have := cover_ge (bx := σ.boxes) hb hk
    omega

theorem handC_get : ∀ {bx : List (Nat × List PV)} {bs : List Nat} {l : List PV}, handC bx bs = some l → bs.length = l.length ∧ ∀ (j b : Nat) (y : PV), bs[j]? = some b → l[j]? = some y → ∃ cs, lk b bx = some cs ∧ hdOk cs = true ∧ y = .lptr cs 0
  | _, [], l, h => by have := Option.some.inj h; subst this; exact ⟨rfl, fun j b y hb => by simp at hb⟩
  | bx, b :: bs, l, h => by
    unfold handC at h
    split at h
    · rename_i cs l' h1 h2
      cases hd : hdOk cs with
      | false => rw [hd] at h; exact absurd h (by simp)
      | true =>
      rw [hd] at h
      have := Option.some.inj h
      subst this
      obtain ⟨e1, e2⟩ := handC_get h2
      refine ⟨by simp [e1], fun j c y hc hy => ?_⟩
      cases j with
      | zero => simp at hc hy; subst hc; subst hy; exact ⟨cs, h1, hd, rfl⟩
      | succ j => exact e2 j c y (by simpa using hc) (by simpa using hy)
    · exact absurd h (by simp)

theorem caps_rep {N : Nat} (hI : Inv P B g σ a w) (hN : cover g σ.boxes ≤ N) {bs : List Nat} {l : List PV} (h : handC σ.boxes bs = some l) {vs : List Value} (hl : vs.length = bs.length)
    (hv : ∀ (j : Nat) (v : Value) (b : Nat), vs[j]? = some v → bs[j]? = some b → ∃ k base, g.β b = some (k, base) ∧ v = .pointer (some ⟨k, base, none⟩)) :
    ArgsRep (fun k => if k < w.heap.size then g.hw k + N else 0) w vs l := by
  obtain ⟨e1, e2⟩ := handC_get h
  refine ⟨by omega, fun j x y hx hy => ?_⟩
  have hj : j < bs.length := by have := (List.getElem?_eq_some_iff.1 hx).1; omega
  obtain ⟨cs, hcs, hd, rfl⟩ := e2 j bs[j] y (List.getElem?_eq_getElem hj) hy
  obtain ⟨k, base, h1, h2⟩ := hv j x bs[j] hx (List.getElem?_eq_getElem hj)
  exact box_lptr hI hN hcs hd ⟨k, base, h1, by rw [h2]; rfl⟩

/-- What is handed on, with the boxes that are looked into covered. -/
theorem hand_rep {N : Nat} (hI : Inv P B g σ a w) (hN : cover g σ.boxes ≤ N) {av : AV} {x : PV} {c : Bool} (h : hand σ.boxes av = some (x, c)) {v : Value} (hv : RepA g w v av) :
    Rep (fun k => if k < w.heap.size then g.hw k + N else 0) w v x := by
  have hx : Ext g.hw w (fun k => if k < w.heap.size then g.hw k + N else 0) w := ⟨fun _ _ _ => rfl, fun j => by
    by_cases hj : j < w.heap.size
    · simp [hj]
    · rw [hI.hwlt j (by omega)]; exact Nat.zero_le _⟩
  cases av with
  | p y =>
    have := Option.some.inj h
    cases this
    exact (norm_rep hv).mono hx
  | ptr b off =>
    unfold hand at h
    split at h
    · rename_i e; exact absurd e (by simp)
    · rename_i b' off' e
      cases e
      split at h
      · rename_i cs hcs
        cases hd : hdOk cs with
        | false => rw [hd] at h; exact absurd h (by simp)
        | true =>
        rw [hd] at h
        have := Option.some.inj h
        cases this
        exact box_lptr hI hN hcs hd hv
      · exact absurd h (by simp)
    · rename_i e; exact absurd e (by simp)
    · rename_i e; exact absurd e (by simp)
  | sl b off n s =>
    unfold hand at h
    split at h
    · rename_i e; exact absurd e (by simp)
    · rename_i e; exact absurd e (by simp)
    · rename_i e; exact absurd e (by simp)
    · exact absurd h (by simp)
  | fnp f bs =>
    unfold hand at h
    split at h
    · rename_i e; exact absurd e (by simp)
    · rename_i e; exact absurd e (by simp)
    · rename_i f' bs' e
      cases e
      split at h
      · rename_i l hl
        have := Option.some.inj h
        cases this
        obtain ⟨vs, rfl, h1, h2⟩ := hv
        have := caps_rep hI hN hl h1 h2
        exact .fn f vs l this.len this.rep
      · exact absurd h (by simp)
    · rename_i e; exact absurd e (by simp)

theorem handAll_get : ∀ {bx : List (Nat × List PV)} {l : List AV} {xs : List PV} {c : Bool}, handAll bx l = some (xs, c) → l.length = xs.length ∧ ∀ (j : Nat) (av : AV) (x : PV), l[j]? = some av → xs[j]? = some x → ∃ d, hand bx av = some (x, d) ∧ (c = false → d = false)
  | _, [], xs, c, h => by have := Option.some.inj h; cases this; exact ⟨rfl, fun j b y hb => by simp at hb⟩
  | bx, av :: l, xs, c, h => by
    unfold handAll at h
    split at h
    · rename_i x d xs' c' h1 h2
      have := Option.some.inj h
      cases this
      obtain ⟨e1, e2⟩ := handAll_get h2
      refine ⟨by simp [e1], fun j u y hu hy => ?_⟩
      cases j with
      | zero => simp at hu hy; subst hu; subst hy; exact ⟨d, h1, fun hc => by simp at hc; exact hc.1⟩
      | succ j =>
        obtain ⟨d', h3, h4⟩ := e2 j u y (by simpa using hu) (by simpa using hy)
        exact ⟨d', h3, fun hc => h4 (by simp at hc; exact hc.2)⟩
    · exact absurd h (by simp)

theorem ArgsRep.append {hw : Nat → Nat} {w : World} {vs vs' : List Value} {cs cs' : List PV} (h : ArgsRep hw w vs cs) (h' : ArgsRep hw w vs' cs') : ArgsRep hw w (vs ++ vs') (cs ++ cs') :=
  ⟨by simp [h.len, h'.len], fun j x y hx hy => by
    rw [List.getElem?_append] at hx hy
    rw [h.len] at hx
    split at hx
    · rename_i hj; rw [if_pos hj] at hy; exact h.rep j x y hx hy
    · rename_i hj; rw [if_neg hj] at hy; exact h'.rep _ x y hx hy⟩

theorem callRes_op {f : FuncId} {vals : Array Value} {K : Value → World → Prop} (h : CallRes P f vals w K) (hr : ∀ r, (callFunc f vals).run P w = r → (execOp a.eval o).run P w = r) : OpRes P o a w K := by
  rcases h with ⟨v, w', h1, h2⟩ | ⟨f', h1, h2⟩
  · exact .inl ⟨v, w', hr _ h1, h2⟩
  · exact .inr (.inr ⟨f', vals, w, hr _ h1, h2⟩)

theorem cover_glob (hI : Inv P B g σ a w) (N : Nat) : GlobOk (fun k => if k < w.heap.size then g.hw k + N else 0) w :=
  hI.glob.1.mono ⟨fun _ _ _ => rfl, fun j => by
    by_cases hj : j < w.heap.size
    · simp [hj]
    · rw [hI.hwlt j (by omega)]; exact Nat.zero_le _⟩ (fun _ _ _ => rfl)

/-- A call whose arguments look into boxes: what comes back leads nowhere. -/
theorem call_flat {f : FuncId} {vals : List Value} {xs : List PV} {r : PV} (hc : Con P f xs r) (hf : flat r = true) {N : Nat}
    (ha : ArgsRep (fun k => if k < w.heap.size then g.hw k + N else 0) w vals xs) (hgl : GlobOk (fun k => if k < w.heap.size then g.hw k + N else 0) w) :
    CallRes P f vals.toArray w fun v w' => ∃ g', PRes g σ a w o ⟨.p r, none, none⟩ v w' g' := by
  refine (hc _ w vals (fun k hk => by simp; omega) hgl ha).mono fun v w' ⟨hw', q, hr⟩ => ?_
  refine ⟨⟨g.β, fun k => if k < w.heap.size then g.hw k else hw' k⟩, ⟨q.below, fun k hk => by simp [hk], fun k hk => ?_⟩, flat_rep hf hr, fun _ => rfl, fun _ h => absurd h (by simp), fun _ h => absurd h (by simp),
    fun _ => ⟨fun _ _ h => absurd h (by simp), fun _ _ h => absurd h (by simp), fun _ _ _ _ h => absurd h (by simp)⟩⟩
  have := q.below.size
  have h1 : ¬ k < w.heap.size := by omega
  simp only [h1, if_false]
  exact q.hwlt k hk

theorem call_any (hI : Inv P B g σ a w) {f : FuncId} {vals : List Value} {xs : List PV} {r : PV} (hc : Con P f xs r) (ha : ArgsRep g.hw w vals xs) :
    CallRes P f vals.toArray w fun v w' => ∃ g', PRes g σ a w o ⟨.p r, none, none⟩ v w' g' :=
  (hc _ w vals hI.hwlt hI.glob.1 ha).mono fun _ _ ⟨hw', q, hr⟩ => ⟨⟨g.β, hw'⟩, q, hr, fun _ => rfl, fun _ h => absurd h (by simp), fun _ h => absurd h (by simp),
    fun _ => ⟨fun _ _ h => absurd h (by simp), fun _ _ h => absurd h (by simp), fun _ _ _ _ h => absurd h (by simp)⟩⟩

theorem call_sound (hI : Inv P B g σ a w) {l : List AV} {vals : List Value} (hl : vals.length = l.length) (hv : ∀ (j : Nat) (v : Value) (av : AV), vals[j]? = some v → l[j]? = some av → RepA g w v av)
    {xs : List PV} {c : Bool} (hh : handAll σ.boxes l = some (xs, c)) {cs : List PV} {cvs : List Value} (hcaps : ArgsRep g.hw w cvs cs) {f : FuncId} {r : PV} (hc : Con P f (xs ++ cs) r) (hf : (!c || flat r) = true) :
    CallRes P f (vals ++ cvs).toArray w fun v w' => ∃ g', PRes g σ a w o ⟨.p r, none, none⟩ v w' g' := by
  obtain ⟨e1, e2⟩ := handAll_get hh
  have getl : ∀ {j : Nat} {v : Value}, vals[j]? = some v → ∃ av, l[j]? = some av := by
    intro j v hj
    have : j < l.length := by have := (List.getElem?_eq_some_iff.1 hj).1; omega
    exact ⟨_, List.getElem?_eq_getElem this⟩
  cases c with
  | false =>
    refine call_any hI hc (ArgsRep.append ⟨by omega, fun j x y hx hy => ?_⟩ hcaps)
    obtain ⟨av, hav⟩ := getl hx
    obtain ⟨d, h3, h4⟩ := e2 j av y hav hy
    have hd := h4 rfl
    subst hd
    have hr := hv j x av hx hav
    cases av with
    | p z =>
      have := Option.some.inj h3
      cases this
      exact norm_rep hr
    | ptr b off =>
      unfold hand at h3
      split at h3
      · rename_i e; exact absurd e (by simp)
      · split at h3
        · rename_i cs0 _
          cases hd : hdOk cs0 <;> rw [hd] at h3 <;> exact absurd h3 (by simp)
        · exact absurd h3 (by simp)
      · rename_i e; exact absurd e (by simp)
      · rename_i e; exact absurd e (by simp)
    | sl b off n s =>
      unfold hand at h3
      split at h3
      · rename_i e; exact absurd e (by simp)
      · rename_i e; exact absurd e (by simp)
      · rename_i e; exact absurd e (by simp)
      · exact absurd h3 (by simp)
    | fnp f bs =>
      unfold hand at h3
      split at h3
      · rename_i e; exact absurd e (by simp)
      · rename_i e; exact absurd e (by simp)
      · split at h3
        · exact absurd h3 (by simp)
        · exact absurd h3 (by simp)
      · rename_i e; exact absurd e (by simp)
  | true =>
    have hx : Ext g.hw w (fun k => if k < w.heap.size then g.hw k + cover g σ.boxes else 0) w := ⟨fun _ _ _ => rfl, fun j => by
      by_cases hj : j < w.heap.size
      · simp [hj]
      · rw [hI.hwlt j (by omega)]; exact Nat.zero_le _⟩
    refine call_flat hc (by simpa using hf) (N := cover g σ.boxes) (ArgsRep.append ⟨by omega, fun j x y hx hy => ?_⟩ ⟨hcaps.len, fun j x y h1 h2 => (hcaps.rep j x y h1 h2).mono hx⟩) (cover_glob hI _)
    obtain ⟨av, hav⟩ := getl hx
    obtain ⟨d, h3, _⟩ := e2 j av y hav hy
    exact hand_rep hI (Nat.le_refl _) h3 (hv j x av hx hav)

theorem callp_sound (hI : Inv P B g σ a w) {l : List AV} {vals : List Value} (hl : vals.length = l.length) (hv : ∀ (j : Nat) (v : Value) (av : AV), vals[j]? = some v → l[j]? = some av → RepA g w v av)
    {xs : List PV} {c : Bool} (hh : handAll σ.boxes l = some (xs, c)) {bs : List Nat} {cs : List PV} (hb : handC σ.boxes bs = some cs) {cvs : List Value} (hcl : cvs.length = bs.length)
    (hcv : ∀ (j : Nat) (v : Value) (b : Nat), cvs[j]? = some v → bs[j]? = some b → ∃ k base, g.β b = some (k, base) ∧ v = .pointer (some ⟨k, base, none⟩)) {f : FuncId} {r : PV} (hc : Con P f (xs ++ cs) r) (hf : flat r = true) :
    CallRes P f (vals ++ cvs).toArray w fun v w' => ∃ g', PRes g σ a w o ⟨.p r, none, none⟩ v w' g' := by
  obtain ⟨e1, e2⟩ := handAll_get hh
  refine call_flat hc hf (N := cover g σ.boxes) (ArgsRep.append ⟨by omega, fun j x y hx hy => ?_⟩ (caps_rep hI (Nat.le_refl _) hb hcl hcv)) (cover_glob hI _)
  have hj : j < l.length := by have := (List.getElem?_eq_some_iff.1 hx).1; omega
  obtain ⟨d, h3, _⟩ := e2 j l[j] y (List.getElem?_eq_getElem hj) hy
  exact hand_rep hI (Nat.le_refl _) h3 (hv j x l[j] hx (List.getElem?_eq_getElem hj))
end
end Go.Ev
