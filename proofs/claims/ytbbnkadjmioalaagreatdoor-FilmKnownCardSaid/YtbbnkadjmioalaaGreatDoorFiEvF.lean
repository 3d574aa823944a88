/- A logic of frames, written for these claims: what a function is known to do is said of what is known of its arguments, in whatever memory; an evaluator of the program's code in that logic, and its soundness. (Part EvF.) -/
import Derived.Test.YtbbnkadjmioalaaGreatDoorFiEvE
import Derived.ChangeKeysEq
import Derived.Lib.SlTrimSet
import Derived.Lib.Repeat
import Derived.Lib.ItoaNum
import Derived.Lib.Atoi
import Derived.Lib.Bytealg
import Derived.Laws.StandIn
import Derived.Lib.LaidTab
import Derived.Deep.DeepHandedRow
import Derived.Shelf.Strings.Builder1
namespace Go.Ev
open Go.RowKit

def vEq : Value → Value → Bool
  | .int k a, .int k' b => decide (k = k') && decide (a = b)
  | .bool a, .bool b => a == b
  | _, _ => false
def sEq : List UInt8 → List UInt8 → Bool
  | [], [] => true
  | a :: r, b :: s => Nat.beq a.toNat b.toNat && sEq r s
  | _, _ => false
mutual
def pvEq : PV → PV → Bool
  | .v x, y => match y with | .v y => vEq x y | _ => false
  | .str l, y => match y with | .str m => sEq l m | _ => false
  | .nil, y => match y with | .nil => true | _ => false
  | .lst xs, y => match y with | .lst ys => pvEqLL xs ys | _ => false
  | .agg xs, y => match y with | .agg ys => pvEqL xs ys | _ => false
  | .tup xs, y => match y with | .tup ys => pvEqL xs ys | _ => false
  | .lptr _ _, _ => false
  | .fn _ _, _ => false
  | .bld _, _ => false
  | .bp _ _, _ => false
  | .bs _ _ _ _, _ => false
def pvEqL : List PV → List PV → Bool
  | [], l => match l with | [] => true | _ => false
  | x :: r, l => match l with | y :: s => pvEq x y && pvEqL r s | [] => false
def pvEqLL : List (List PV) → List (List PV) → Bool
  | [], l => match l with | [] => true | _ => false
  | x :: r, l => match l with | y :: s => pvEqL x y && pvEqLL r s | [] => false
end

theorem vEq_ok {x y : Value} (h : vEq x y = true) : x = y := by
  unfold vEq at h
  split at h
  · rw [Bool.and_eq_true] at h; rw [of_decide_eq_true h.1, of_decide_eq_true h.2]
  · simp at h; rw [h]
  · exact absurd h (by simp)
theorem sEq_ok : ∀ {x y : List UInt8}, sEq x y = true → x = y
  | [], [], _ => rfl
  | a :: r, b :: s, h => by
    unfold sEq at h
    rw [Bool.and_eq_true] at h
    rw [UInt8.toNat_inj.1 (Nat.eq_of_beq_eq_true h.1), sEq_ok h.2]
  | [], _ :: _, h => by simp [sEq] at h
  | _ :: _, [], h => by simp [sEq] at h
mutual
theorem pvEq_ok : ∀ (x y : PV), pvEq x y = true → x = y
  | .v x, y, h => by
    simp only [pvEq] at h
    split at h
    · rw [vEq_ok h]
    · exact absurd h (by simp)
  | .str l, y, h => by
    simp only [pvEq] at h
    split at h
    · rw [sEq_ok h]
    · exact absurd h (by simp)
  | .nil, y, h => by
    simp only [pvEq] at h
    split at h
    · rfl
    · exact absurd h (by simp)
  | .lst xs, y, h => by
    simp only [pvEq] at h
    split at h
    · rw [pvEqLL_ok xs _ h]
    · exact absurd h (by simp)
  | .agg xs, y, h => by
    simp only [pvEq] at h
    split at h
    · rw [pvEqL_ok xs _ h]
    · exact absurd h (by simp)
  | .tup xs, y, h => by
    simp only [pvEq] at h
    split at h
    · rw [pvEqL_ok xs _ h]
    · exact absurd h (by simp)
  | .lptr _ _, _, h => by simp only [pvEq] at h; exact absurd h (by simp)
  | .fn _ _, _, h => by simp only [pvEq] at h; exact absurd h (by simp)
  | .bld _, _, h => by simp only [pvEq] at h; exact absurd h (by simp)
  | .bp _ _, _, h => by simp only [pvEq] at h; exact absurd h (by simp)
  | .bs _ _ _ _, _, h => by simp only [pvEq] at h; exact absurd h (by simp)
theorem pvEqL_ok : ∀ (x y : List PV), pvEqL x y = true → x = y
  | [], y, h => by
    simp only [pvEqL] at h
    split at h
    · rfl
    · exact absurd h (by simp)
  | x :: r, l, h => by
    simp only [pvEqL] at h
    split at h
    · rename_i y s
      rw [Bool.and_eq_true] at h
      rw [pvEq_ok x y h.1, pvEqL_ok r s h.2]
    · exact absurd h (by simp)
theorem pvEqLL_ok : ∀ (x y : List (List PV)), pvEqLL x y = true → x = y
  | [], y, h => by
    simp only [pvEqLL] at h
    split at h
    · rfl
    · exact absurd h (by simp)
  | x :: r, l, h => by
    simp only [pvEqLL] at h
    split at h
    · rename_i y s
      rw [Bool.and_eq_true] at h
      rw [pvEqL_ok x y h.1, pvEqLL_ok r s h.2]
    · exact absurd h (by simp)
end

/-- Calls that were shown by themselves. -/
abbrev Tab := List (Nat × List PV × PV)
def tabLk (f : Nat) (args : List PV) : Tab → Option PV
  | [] => none
  | (g, zs, r) :: t => bif Nat.beq f g && pvEqL args zs then some r else tabLk f args t
def TabOk (P : Program) (t : Tab) : Prop := ∀ f args r, tabLk f args t = some r → Con P f args r
theorem tabOk_nil {P : Program} : TabOk P [] := fun f args r h => by simp [tabLk] at h
theorem tabOk_cons {P : Program} {f : Nat} {args : List PV} {r : PV} {t : Tab} (h : Con P f args r) (ht : TabOk P t) : TabOk P ((f, args, r) :: t) := fun g zs q hq => by
  unfold tabLk at hq
  cases hb : (Nat.beq g f && pvEqL zs args) with
  | false => rw [hb] at hq; exact ht g zs q hq
  | true =>
    rw [hb] at hq
    have := Option.some.inj hq
    subst this
    rw [Bool.and_eq_true] at hb
    rw [Nat.eq_of_beq_eq_true hb.1, pvEqL_ok _ _ hb.2]
    exact h

/-- .. by functions. -/
abbrev Tab2 := List (Nat × Tab)
def tab2Lk (f : Nat) (args : List PV) (t : Tab2) : Option PV := match lk f t with
  | some l => tabLk f args l
  | none => none
def Tab2Ok (P : Program) (t : Tab2) : Prop := ∀ f args r, tab2Lk f args t = some r → Con P f args r
theorem tab2Ok_nil {P : Program} : Tab2Ok P [] := fun f args r h => by simp [tab2Lk, lk] at h
theorem tab2Ok_cons {P : Program} {f : Nat} {l : Tab} {t : Tab2} (h : TabOk P l) (ht : Tab2Ok P t) : Tab2Ok P ((f, l) :: t) := fun g zs q hq => by
  unfold tab2Lk at hq
  rw [lk_cons] at hq
  by_cases e : g = f
  · rw [if_pos e] at hq
    exact h _ _ _ hq
  · rw [if_neg e] at hq
    exact ht _ _ _ hq

/-- The same, with calls that are known. -/
def exFT (E : Env) (tab : Tab2) (n : Nat) : Nat → CallF × CallP × CallI
  | 0 => (fun _ _ => none, fun _ _ _ => none, fun _ _ _ => none)
  | d + 1 =>
    (fun f args => bif has f E.libs then fOut (E.lib f args) else match tab2Lk f args tab with
      | some r => some r
      | none => match lk f E.fns with
      | some fn => match fn.body with
        | some c => bif Nat.ble args.length fn.ntmps then
            match fStA (initSt fn.ntmps args) fun σ => exCodeF E.Γ (RR2 E (exFT E tab n d).1) (TT E (exFT E tab n d).1 (exFT E tab n d).2.1 (exFT E tab n d).2.2) n none c σ with
            | some (e, σ') => bif isOut e then
                match evRes E.Γ σ' fn.results.toList with
                | some r => fOut (some (oneOf r))
                | none => none
              else none
            | none => none
          else none
        | none => none
      | none => none,
     fun f cs args => match lk f E.fns with
      | some fn => match fn.body with
        | some c => bif Nat.ble (args.length + 1) fn.ntmps then
            match fStA (initStP fn.ntmps cs args) fun σ => exCodeF E.Γ (RR2 E (exFT E tab n d).1) (TT E (exFT E tab n d).1 (exFT E tab n d).2.1 (exFT E tab n d).2.2) n none c σ with
            | some (e, σ') => bif isOut e && !(has fn.ntmps σ'.ro) then
                match evRes E.Γ σ' fn.results.toList, lk fn.ntmps σ'.boxes with
                | some r, some cs' => bif hdOk cs && hdOk cs' then fSp cs' fun cs' => fPV (oneOf r) fun r => some (r, cs') else none
                | _, _ => none
              else none
            | none => none
          else none
        | none => none
      | none => none,
     fun f σ args => match lk f E.fns with
      | some fn => match fn.body with
        | some c => bif Nat.ble args.length fn.ntmps then
            match fStA (inlSt fn.ntmps σ args) fun σ => exCodeF E.Γ (RR2 E (exFT E tab n d).1) (TT E (exFT E tab n d).1 (exFT E tab n d).2.1 (exFT E tab n d).2.2) n none c σ with
            | some (e, σc) => bif isOut e && (allIn (bkBx fn.ntmps σc.boxes) σ.tmps && noRefs σc.boxes) then
                match evRes E.Γ σc fn.results.toList with
                | some r => fStS (outSt fn.ntmps σ σc) fun σ' => fPV (oneOf r) fun r => some (r, σ')
                | none => none
              else none
            | none => none
          else none
        | none => none
      | none => none)

theorem exFT_ok {P : Program} {E : Env} (hE : EnvOk P E) {tab : Tab2} (ht : Tab2Ok P tab) (n : Nat) : ∀ d, CallOk P (exFT E tab n d).1 ∧ CallPOk P (exFT E tab n d).2.1 ∧ CallIOk P (exFT E tab n d).2.2
  | 0 => ⟨fun f args r h => absurd h (by simp [exFT]), fun f cs args r cs' h => absurd h (by simp [exFT]), fun f σ args r σ' h => absurd h (by simp [exFT])⟩
  | d + 1 => by
    obtain ⟨h1, h2, h3⟩ := exFT_ok hE ht n d
    have hR := RR2_ok hE h1
    have hT := TT_ok hE h1 h2 h3
    refine ⟨fun f args r h => ?_, fun f cs args r cs' h => ?_, fun f σ args r σ' h => ?_⟩
    · simp only [exFT, fStA_eq, exCodeF_eq, fOut_eq] at h
      cases hlib : has f E.libs with
      | true => rw [hlib] at h; exact hE.lib f args r h
      | false =>
      rw [hlib] at h
      simp only [cond_false] at h
      split at h
      · rename_i r0 hr0
        have := Option.some.inj h
        subst this
        exact ht _ _ _ hr0
      · split at h
        · rename_i fn hfn
          obtain ⟨k1, k2⟩ := hE.fns f fn hfn
          split at h
          · rename_i c hc
            cases hb : Nat.ble args.length fn.ntmps with
            | false => rw [hb] at h; exact absurd h (by simp)
            | true =>
              rw [hb] at h
              simp only [cond_true] at h
              split at h
              · rename_i e σ' he
                cases ho : isOut e with
                | false => rw [ho] at h; exact absurd h (by simp)
                | true =>
                  rw [ho] at h
                  simp only [cond_true] at h
                  split at h
                  · rename_i r0 hr
                    have := Option.some.inj h
                    subst this
                    exact con_of hE.Γ k2 k1 hc hb ((exCode_sound hE.Γ hE.mixed hR hT n).1 c _ _ _ he).1 ho hr
                  · exact absurd h (by simp)
              · exact absurd h (by simp)
          · exact absurd h (by simp)
        · exact absurd h (by simp)
    · simp only [exFT, fStA_eq, exCodeF_eq, fSp_eq, fPV_eq] at h
      split at h
      · rename_i fn hfn
        obtain ⟨k1, k2⟩ := hE.fns f fn hfn
        split at h
        · rename_i c hc
          cases hb : Nat.ble (args.length + 1) fn.ntmps with
          | false => rw [hb] at h; exact absurd h (by simp)
          | true =>
            rw [hb] at h
            simp only [cond_true] at h
            split at h
            · rename_i e σ' he
              cases ho : (isOut e && !(has fn.ntmps σ'.ro)) with
              | false => rw [ho] at h; exact absurd h (by simp)
              | true =>
                rw [ho] at h
                simp only [cond_true] at h
                rw [Bool.and_eq_true] at ho
                split at h
                · rename_i r0 cs0 hr hcs
                  cases hd : (hdOk cs && hdOk cs0) with
                  | false => rw [hd] at h; exact absurd h (by simp)
                  | true =>
                    rw [hd] at h
                    rw [Bool.and_eq_true] at hd
                    have := Option.some.inj h
                    cases this
                    exact conP_of hE.Γ k2 k1 hc hb ((exCode_sound hE.Γ hE.mixed hR hT n).1 c _ _ _ he).1 ho.1 hr hcs (by simpa using ho.2) hd.1 hd.2
                · exact absurd h (by simp)
            · exact absurd h (by simp)
        · exact absurd h (by simp)
      · exact absurd h (by simp)
    · simp only [exFT, fStA_eq, fStS_eq, exCodeF_eq, fPV_eq] at h
      split at h
      · rename_i fn hfn
        obtain ⟨k1, k2⟩ := hE.fns f fn hfn
        split at h
        · rename_i c hc
          cases hb : Nat.ble args.length fn.ntmps with
          | false => rw [hb] at h; exact absurd h (by simp)
          | true =>
            rw [hb] at h
            simp only [cond_true] at h
            split at h
            · rename_i e σc he
              cases ho : (isOut e && (allIn (bkBx fn.ntmps σc.boxes) σ.tmps && noRefs σc.boxes)) with
              | false => rw [ho] at h; exact absurd h (by simp)
              | true =>
                rw [ho] at h
                simp only [cond_true] at h
                rw [Bool.and_eq_true, Bool.and_eq_true] at ho
                split at h
                · rename_i r0 hr
                  have := Option.some.inj h
                  cases this
                  exact inl_of hE.Γ k2 k1 hc hb ((exCode_sound hE.Γ hE.mixed hR hT n).1 c _ _ _ he).1 ho.1 hr ho.2.1 ho.2.2
                · exact absurd h (by simp)
            · exact absurd h (by simp)
        · exact absurd h (by simp)
      · exact absurd h (by simp)
end Go.Ev
namespace Go.Ev
open Go.RowKit

def shF (P : Program) (g : TypeId → List Nat → Bool) : List Field → Nat → List Nat → Bool
  | [], _, sh => sh.isEmpty
  | f :: fs, i, sh => (f.name != "_") && Nat.beq f.offset i && (match P.info? f.type with
    | some inf => Nat.ble inf.size sh.length && g f.type (sh.take inf.size) && shF P g fs (i + inf.size) (sh.drop inf.size)
    | none => false)
def shA (g : List Nat → Bool) (s : Nat) : Nat → List Nat → Bool
  | 0, sh => sh.isEmpty
  | n + 1, sh => Nat.ble s sh.length && g (sh.take s) && shA g s n (sh.drop s)
/-- The cells of a type, laid side by side. -/
def shB (P : Program) : Nat → TypeId → List Nat → Bool
  | 0, _, _ => false
  | d + 1, T, sh => match P.underlying T with
    | some (.int _) => (match sh with | [0] => true | _ => false)
    | some .bool => (match sh with | [1] => true | _ => false)
    | some .string => (match sh with | [2] => true | _ => false)
    | some (.complex _) => (match sh with | [3] => true | _ => false)
    | some (.struct fs) => (match P.info? T with | some i => Nat.beq i.size sh.length | none => false) && !(P.stoodInHeld T) && shF P (shB P d) fs.toList 0 sh
    | some (.array n e) => (match P.info? T, P.info? e with | some i, some j => Nat.beq i.size sh.length && shA (shB P d e) j.size n sh | _, _ => false)
    | _ => false

section
variable {P : Program} {hw : Nat → Nat} {w : World}

theorem eqCells_len : ∀ {sh : List Nat} {xs ys : List PV} {b : Bool}, eqCells sh xs ys = some b → xs.length = sh.length ∧ ys.length = sh.length := by
  intro sh
  induction sh with
  | nil =>
    intro xs ys b h
    cases xs <;> cases ys <;> simp [eqCells] at h
    exact ⟨rfl, rfl⟩
  | cons s sh ih =>
    intro xs ys b h
    unfold eqCells at h
    split at h
    · rename_i e; exact absurd e (by simp)
    · rename_i e
      cases e
      split at h
      · rename_i c hc
        obtain ⟨h1, h2⟩ := ih hc
        exact ⟨by simp [h1], by simp [h2]⟩
      · exact absurd h (by rw [Bool.cond_self]; simp)
    · rename_i e
      cases e
      split at h
      · rename_i c hc
        obtain ⟨h1, h2⟩ := ih hc
        exact ⟨by simp [h1], by simp [h2]⟩
      · exact absurd h (by simp)
    · rename_i e
      cases e
      split at h
      · rename_i c hc
        obtain ⟨h1, h2⟩ := ih hc
        exact ⟨by simp [h1], by simp [h2]⟩
      · exact absurd h (by simp)
    · rename_i e
      cases e
      split at h
      · rename_i c hc
        obtain ⟨h1, h2⟩ := ih hc
        exact ⟨by simp [h1], by simp [h2]⟩
      · exact absurd h (by rw [Bool.cond_self]; simp)
    · exact absurd h (by simp)

/-- One cell, then the others. -/
theorem eqCells_cons {s : Nat} {sh : List Nat} {x y : PV} {r q : List PV} {b : Bool} (h : eqCells (s :: sh) (x :: r) (y :: q) = some b) : ∃ b1 b2, eqCells [s] [x] [y] = some b1 ∧ eqCells sh r q = some b2 ∧ b = (b1 && b2) := by
  unfold eqCells at h
  split at h
  · rename_i e; exact absurd e (by simp)
  · rename_i sh' k a r' k' a' r'' e1 e2 e3
    cases e1; cases e2; cases e3
    cases hk : decide (k = k') with
    | false => rw [hk] at h; exact absurd h (by simp)
    | true =>
      rw [hk] at h
      simp only [cond_true] at h
      split at h
      · rename_i c hc
        exact ⟨a == a', c, by simp [eqCells, hk], hc, (Option.some.inj h).symm⟩
      · exact absurd h (by simp)
  · rename_i sh' a r' a' r'' e1 e2 e3
    cases e1; cases e2; cases e3
    split at h
    · rename_i c hc
      exact ⟨a == a', c, by simp [eqCells], hc, (Option.some.inj h).symm⟩
    · exact absurd h (by simp)
  · rename_i sh' a r' a' r'' e1 e2 e3
    cases e1; cases e2; cases e3
    split at h
    · rename_i c hc
      exact ⟨a == a', c, by simp [eqCells], hc, (Option.some.inj h).symm⟩
    · exact absurd h (by simp)
  · rename_i sh' k a b0 r' k' a' b' r'' e1 e2 e3
    cases e1; cases e2; cases e3
    cases hk : decide (k = k') with
    | false => rw [hk] at h; exact absurd h (by simp)
    | true =>
      rw [hk] at h
      simp only [cond_true] at h
      split at h
      · rename_i c hc
        exact ⟨Op.floatEq k a a' && Op.floatEq k b0 b', c, by simp [eqCells, hk], hc, (Option.some.inj h).symm⟩
      · exact absurd h (by simp)
  · exact absurd h (by simp)

theorem eqCells_join {s : Nat} {sh : List Nat} {x y : PV} {r q : List PV} {b1 b2 : Bool} (h1 : eqCells [s] [x] [y] = some b1) (h2 : eqCells sh r q = some b2) : eqCells (s :: sh) (x :: r) (y :: q) = some (b1 && b2) := by
  unfold eqCells at h1
  split at h1
  · rename_i e _ _; exact absurd e (by simp)
  · rename_i sh' k a r' k' a' r'' e1 e2 e3
    cases e1; cases e2; cases e3
    cases hk : decide (k = k') with
    | false => rw [hk] at h1; exact absurd h1 (by simp)
    | true =>
      rw [hk] at h1
      simp only [cond_true, eqCells] at h1
      have := Option.some.inj h1
      simp only [Bool.and_true] at this
      subst this
      simp [eqCells, hk, h2]
  · rename_i sh' a r' a' r'' e1 e2 e3
    cases e1; cases e2; cases e3
    simp only [eqCells] at h1
    have := Option.some.inj h1
    simp only [Bool.and_true] at this
    subst this
    simp [eqCells, h2]
  · rename_i sh' a r' a' r'' e1 e2 e3
    cases e1; cases e2; cases e3
    simp only [eqCells] at h1
    have := Option.some.inj h1
    simp only [Bool.and_true] at this
    subst this
    simp [eqCells, h2]
  · rename_i sh' k a b0 r' k' a' b' r'' e1 e2 e3
    cases e1; cases e2; cases e3
    cases hk : decide (k = k') with
    | false => rw [hk] at h1; exact absurd h1 (by simp)
    | true =>
      rw [hk] at h1
      simp only [cond_true, eqCells] at h1
      have := Option.some.inj h1
      simp only [Bool.and_true] at this
      subst this
      simp [eqCells, hk, h2]
  · exact absurd h1 (by simp)

theorem eqCells_split : ∀ {n : Nat} {sh : List Nat} {xs ys : List PV} {b : Bool}, n ≤ sh.length → eqCells sh xs ys = some b →
    ∃ b1 b2, eqCells (sh.take n) (xs.take n) (ys.take n) = some b1 ∧ eqCells (sh.drop n) (xs.drop n) (ys.drop n) = some b2 ∧ b = (b1 && b2)
  | 0, sh, xs, ys, b, _, h => ⟨true, b, by simp [eqCells], by simpa using h, by simp⟩
  | n + 1, [], xs, ys, b, hn, _ => by simp at hn
  | n + 1, s :: sh, xs, ys, b, hn, h => by
    obtain ⟨hx, hy⟩ := eqCells_len h
    cases xs with
    | nil => simp at hx
    | cons x r =>
      cases ys with
      | nil => simp at hy
      | cons y q =>
        obtain ⟨b1, b2, h1, h2, rfl⟩ := eqCells_cons h
        obtain ⟨c1, c2, h3, h4, rfl⟩ := eqCells_split (n := n) (by simpa using hn) h2
        refine ⟨b1 && c1, c2, ?_, by simpa using h4, by rw [Bool.and_assoc]⟩
        simp only [List.take_succ_cons]
        exact eqCells_join h1 h3

theorem ArgsRep.seg {vs : List Value} {xs : List PV} (h : ArgsRep hw w vs xs) (off n : Nat) : ArgsRep hw w ((vs.drop off).take n) ((xs.drop off).take n) :=
  ⟨by simp [h.len], fun j x y hx hy => by
    rw [List.getElem?_take] at hx hy
    split at hx
    · rename_i hj
      rw [if_pos hj] at hy
      rw [List.getElem?_drop] at hx hy
      exact h.rep _ x y hx hy
    · exact absurd hx (by simp)⟩

def DeepOk (P : Program) (D : Nat) (T : TypeId) (sh : List Nat) : Prop :=
  ∀ (hw : Nat → Nat) (w : World) (vs us : List Value) (xs ys : List PV) (off : Nat) (b : Bool), ArgsRep hw w vs xs → ArgsRep hw w us ys → eqCells sh ((xs.drop off).take sh.length) ((ys.drop off).take sh.length) = some b →
    ∃ p q, (part T vs.toArray off).run P w = .ok p w ∧ (part T us.toArray off).run P w = .ok q w ∧ (Op.equalIn D T p q).run P w = .ok b w

theorem eqFields_deep {D : Nat} {g : TypeId → List Nat → Bool} (hg : ∀ T sh, g T sh = true → DeepOk P D T sh) {vs us : List Value} {xs ys : List PV} (hx : ArgsRep hw w vs xs) (hy : ArgsRep hw w us ys) :
    ∀ {fs : List Field} {sh : List Nat} {i : Nat} {b : Bool}, shF P g fs i sh = true → eqCells sh (xs.drop i) (ys.drop i) = some b → (Op.eqFields D vs.toArray us.toArray fs).run P w = .ok b w
  | [], sh, i, b, hs, h => by
    unfold shF at hs
    cases sh with
    | cons _ _ => simp at hs
    | nil =>
      generalize xs.drop i = l at *
      generalize ys.drop i = m at *
      cases l <;> cases m <;> simp [eqCells] at h
      subst h
      simp [Op.eqFields]
  | f :: fs, sh, i, b, hs, h => by
    unfold shF at hs
    simp only [Bool.and_eq_true] at hs
    obtain ⟨⟨h1, h2⟩, h3⟩ := hs
    have hname : f.name ≠ "_" := by simpa using h1
    have hoff := Nat.eq_of_beq_eq_true h2
    split at h3
    · rename_i inf hinf
      simp only [Bool.and_eq_true] at h3
      obtain ⟨⟨h4, h5⟩, h6⟩ := h3
      have hle := Nat.le_of_ble_eq_true h4
      obtain ⟨b1, b2, e1, e2, rfl⟩ := eqCells_split hle h
      have hl : (sh.take inf.size).length = inf.size := by simp; omega
      obtain ⟨p, q, p1, p2, p3⟩ := hg _ _ h5 hw w vs us xs ys i b1 hx hy (by rw [hl]; exact e1)
      rw [List.drop_drop, List.drop_drop] at e2
      unfold Op.eqFields
      rw [if_pos hname, hoff]
      simp only [Sem.run_bind, p1, p2, p3, Result.andThen_ok]
      cases b1 with
      | false => rfl
      | true =>
        simp only [Bool.not_true, Bool.false_eq_true, if_false]
        rw [eqFields_deep hg hx hy h6 e2]
        rfl
    · exact absurd h3 (by simp)

theorem eqItems_deep {D : Nat} {T : TypeId} {s : Nat} {g : List Nat → Bool} (hg : ∀ sh, g sh = true → DeepOk P D T sh) {vs us : List Value} {xs ys : List PV} (hx : ArgsRep hw w vs xs) (hy : ArgsRep hw w us ys) :
    ∀ {n : Nat} {sh : List Nat} {i : Nat} {b : Bool}, shA g s n sh = true → eqCells sh (xs.drop (i * s)) (ys.drop (i * s)) = some b → (Op.eqItems D T s vs.toArray us.toArray (List.range' i n)).run P w = .ok b w
  | 0, sh, i, b, hs, h => by
    unfold shA at hs
    cases sh with
    | cons _ _ => simp at hs
    | nil =>
      generalize xs.drop (i * s) = l at *
      generalize ys.drop (i * s) = m at *
      cases l <;> cases m <;> simp [eqCells] at h
      subst h
      simp [Op.eqItems]
  | n + 1, sh, i, b, hs, h => by
    unfold shA at hs
    simp only [Bool.and_eq_true] at hs
    obtain ⟨⟨h4, h5⟩, h6⟩ := hs
    have hle := Nat.le_of_ble_eq_true h4
    obtain ⟨b1, b2, e1, e2, rfl⟩ := eqCells_split hle h
    have hl : (sh.take s).length = s := by simp; omega
    obtain ⟨p, q, p1, p2, p3⟩ := hg _ h5 hw w vs us xs ys (i * s) b1 hx hy (by rw [hl]; exact e1)
    rw [List.drop_drop, List.drop_drop] at e2
    rw [List.range'_succ]
    unfold Op.eqItems
    simp only [Sem.run_bind, p1, p2, p3, Result.andThen_ok]
    cases b1 with
    | false => rfl
    | true =>
      simp only [Bool.not_true, Bool.false_eq_true, if_false]
      rw [eqItems_deep hg hx hy (i := i + 1) h6 (by rw [Nat.succ_mul]; exact e2)]
      rfl

theorem part_agg {T : TypeId} {i : TypeInfo} (hi : P.info? T = some i) (ha : (isAgg T).run P w = .ok true w) (vs : List Value) (off : Nat) : (part T vs.toArray off).run P w = .ok (.agg ((vs.drop off).take i.size).toArray) w := by
  unfold part
  have hs : (sizeOf T).run P w = .ok i.size w := by simp [sizeOf, typeInfo, hi]
  rw [Sem.run_bind, ha, Result.andThen_ok, if_pos rfl, Sem.run_bind, hs, Result.andThen_ok]
  have e : vs.toArray.extract off (off + i.size) = ((vs.drop off).take i.size).toArray := by
    apply Array.ext'
    simp [Nat.add_sub_cancel_left]
  rw [e]
  rfl

theorem eq1_int {x y : PV} {b : Bool} (h : eqCells [0] [x] [y] = some b) : ∃ k a a', x = .v (.int k a) ∧ y = .v (.int k a') ∧ (a == a') = b := by
  cases x with
  | v vx => cases vx with
    | int k a => cases y with
      | v vy => cases vy with
        | int k' a' =>
          simp only [eqCells, Bool.and_true] at h
          cases hk : decide (k = k') with
          | false => rw [hk] at h; exact absurd h (by simp)
          | true =>
            rw [hk] at h
            have := of_decide_eq_true hk
            subst this
            exact ⟨k, a, a', rfl, rfl, Option.some.inj h⟩
        | _ => simp [eqCells] at h
      | _ => simp [eqCells] at h
    | _ => simp [eqCells] at h
  | _ => simp [eqCells] at h
theorem eq1_bool {x y : PV} {b : Bool} (h : eqCells [1] [x] [y] = some b) : ∃ a a', x = .v (.bool a) ∧ y = .v (.bool a') ∧ (a == a') = b := by
  cases x with
  | v vx => cases vx with
    | bool a => cases y with
      | v vy => cases vy with
        | bool a' =>
          simp only [eqCells, Bool.and_true] at h
          exact ⟨a, a', rfl, rfl, Option.some.inj h⟩
        | _ => simp [eqCells] at h
      | _ => simp [eqCells] at h
    | _ => simp [eqCells] at h
  | _ => simp [eqCells] at h
theorem eq1_str {x y : PV} {b : Bool} (h : eqCells [2] [x] [y] = some b) : ∃ a a', x = .str a ∧ y = .str a' ∧ (a == a') = b := by
  cases x with
  | str a => cases y with
    | str a' =>
      simp only [eqCells, Bool.and_true] at h
      exact ⟨a, a', rfl, rfl, Option.some.inj h⟩
    | _ => simp [eqCells] at h
  | _ => simp [eqCells] at h
theorem eq1_cx {x y : PV} {b : Bool} (h : eqCells [3] [x] [y] = some b) : ∃ k a c a' c', x = .v (.complex k a c) ∧ y = .v (.complex k a' c') ∧ (Op.floatEq k a a' && Op.floatEq k c c') = b := by
  cases x with
  | v vx => cases vx with
    | complex k a c => cases y with
      | v vy => cases vy with
        | complex k' a' c' =>
          simp only [eqCells, Bool.and_true] at h
          cases hk : decide (k = k') with
          | false => rw [hk] at h; exact absurd h (by simp)
          | true =>
            rw [hk] at h
            have := of_decide_eq_true hk
            subst this
            exact ⟨k, a, c, a', c', rfl, rfl, Option.some.inj h⟩
        | _ => simp [eqCells] at h
      | _ => simp [eqCells] at h
    | _ => simp [eqCells] at h
  | _ => simp [eqCells] at h

theorem deep_of : ∀ (d : Nat) (T : TypeId) (sh : List Nat), shB P d T sh = true → ∀ D, d ≤ D → DeepOk P D T sh
  | 0, T, sh, h, _, _ => by simp [shB] at h
  | d + 1, T, sh, h, D, hD => by
    intro hw w vs us xs ys off b hx hy he
    obtain ⟨D, rfl⟩ : ∃ D', D = D' + 1 := ⟨D - 1, by omega⟩
    have ih : ∀ T sh, shB P d T sh = true → DeepOk P D T sh := fun T sh hs => deep_of d T sh hs D (by omega)
    have one : ∀ {s : Nat} {ds : TypeDesc}, sh = [s] → P.underlying T = some ds → isPlainD ds = true → ∃ p q x y, vs[off]? = some p ∧ us[off]? = some q ∧ Rep hw w p x ∧ Rep hw w q y ∧ eqCells [s] [x] [y] = some b ∧ (part T vs.toArray off).run P w = .ok p w ∧ (part T us.toArray off).run P w = .ok q w := by
      intro s ds e hu hp
      subst e
      obtain ⟨l1, l2⟩ := eqCells_len he
      simp only [List.length_singleton] at l1 l2 he
      have g1 : off < xs.length := by simp at l1; omega
      have g2 : off < ys.length := by simp at l2; omega
      have k1 : off < vs.length := by rw [hx.len]; exact g1
      have k2 : off < us.length := by rw [hy.len]; exact g2
      have t1 : (xs.drop off).take 1 = [xs[off]] := by rw [List.drop_eq_getElem_cons g1]; rfl
      have t2 : (ys.drop off).take 1 = [ys[off]] := by rw [List.drop_eq_getElem_cons g2]; rfl
      rw [t1, t2] at he
      exact ⟨vs[off], us[off], xs[off], ys[off], List.getElem?_eq_getElem k1, List.getElem?_eq_getElem k2, hx.rep off _ _ (List.getElem?_eq_getElem k1) (List.getElem?_eq_getElem g1), hy.rep off _ _ (List.getElem?_eq_getElem k2) (List.getElem?_eq_getElem g2), he,
        part_plain hu hp (List.getElem?_eq_getElem k1) w, part_plain hu hp (List.getElem?_eq_getElem k2) w⟩
    unfold shB at h
    split at h
    · rename_i k0 hu
      split at h
      · obtain ⟨p, q, x, y, _, _, r1, r2, e, p1, p2⟩ := one rfl hu rfl
        obtain ⟨k, c, c', rfl, rfl, rfl⟩ := eq1_int e
        exact ⟨p, q, p1, p2, by rw [rep_v r1, rep_v r2, run_equalIn_int w D T k k0 c c' hu]⟩
      · exact absurd h (by simp)
    · rename_i hu
      split at h
      · obtain ⟨p, q, x, y, _, _, r1, r2, e, p1, p2⟩ := one rfl hu rfl
        obtain ⟨c, c', rfl, rfl, rfl⟩ := eq1_bool e
        exact ⟨p, q, p1, p2, by rw [rep_v r1, rep_v r2, run_equalIn_bool' w D T c c' hu]⟩
      · exact absurd h (by simp)
    · rename_i hu
      split at h
      · obtain ⟨p, q, x, y, _, _, r1, r2, e, p1, p2⟩ := one rfl hu rfl
        obtain ⟨c, c', rfl, rfl, rfl⟩ := eq1_str e
        exact ⟨p, q, p1, p2, by rw [rep_str r1, rep_str r2, run_equalIn_string w D T _ _ hu, beq_ba]⟩
      · exact absurd h (by simp)
    · rename_i k0 hu
      split at h
      · obtain ⟨p, q, x, y, _, _, r1, r2, e, p1, p2⟩ := one rfl hu rfl
        obtain ⟨k, c1, c2, c1', c2', rfl, rfl, rfl⟩ := eq1_cx e
        exact ⟨p, q, p1, p2, by rw [rep_v r1, rep_v r2]; simp [Op.equalIn, run_underlying hu]⟩
      · exact absurd h (by simp)
    · rename_i fs hu
      simp only [Bool.and_eq_true, Bool.not_eq_true'] at h
      obtain ⟨⟨h1, h2⟩, h3⟩ := h
      split at h1
      · rename_i i hi
        have hsz := Nat.eq_of_beq_eq_true h1
        have ha : (isAgg T).run P w = .ok true w := by simp [isAgg, run_underlying hu]
        have hf : P.fieldsOf T = fs := by simp [Program.fieldsOf, hu]
        refine ⟨_, _, part_agg hi ha vs off, part_agg hi ha us off, ?_⟩
        rw [run_equalIn_struct w D T _ _ (by rw [hf]; exact hu) h2, hf]
        refine eqFields_deep (hw := hw) ih (hx.seg off i.size) (hy.seg off i.size) h3 ?_
        simp only [List.drop_zero]
        rw [hsz]
        exact he
      · exact absurd h1 (by simp)
    · rename_i n e0 hu
      split at h
      · rename_i i j hi hj
        rw [Bool.and_eq_true] at h
        have hsz := Nat.eq_of_beq_eq_true h.1
        have ha : (isAgg T).run P w = .ok true w := by simp [isAgg, run_underlying hu]
        refine ⟨_, _, part_agg hi ha vs off, part_agg hi ha us off, ?_⟩
        have hc : P.cellsOf e0 = j.size := by simp [Program.cellsOf, hj]
        rw [run_equalIn_array w D _ _ hu hj, hc, List.range_eq_range']
        refine eqItems_deep (hw := hw) (fun sh hs => ih e0 sh hs) (hx.seg off i.size) (hy.seg off i.size) h.2 ?_
        simp only [Nat.zero_mul, List.drop_zero]
        rw [hsz]
        exact he
      · exact absurd h (by simp)
    · exact absurd h (by simp)

/-- Structs, arrays: values are the same if their cells are. -/
theorem eqOk_deep {T : TypeId} {sh : List Nat} (hg : P.eqGuardType P.depth T = false) {d : Nat} (hd : Nat.ble d 10000 = true) (ha : ∀ w, (isAgg T).run P w = .ok true w) {i : TypeInfo} (hi : P.info? T = some i) (hn : i.size = sh.length) (hs : shB P d T sh = true) : EqOk P T sh :=
  ⟨hg, fun hw w vs us xs ys b hx hy h => by
    obtain ⟨l1, l2⟩ := eqCells_len h
    obtain ⟨p, q, p1, p2, p3⟩ := deep_of d T sh hs 10000 (Nat.le_of_ble_eq_true hd) hw w vs us xs ys 0 b hx hy (by
      simp only [List.drop_zero]
      rw [List.take_of_length_le (by omega), List.take_of_length_le (by omega)]
      exact h)
    rw [part_agg hi (ha w)] at p1 p2
    simp only [List.drop_zero] at p1 p2
    rw [List.take_of_length_le (by rw [hx.len]; omega)] at p1
    rw [List.take_of_length_le (by rw [hy.len]; omega)] at p2
    injection p1 with p1 _
    injection p2 with p2 _
    subst p1; subst p2
    exact p3⟩
end
end Go.Ev
namespace Go.Ev
open Go.RowKit

/-! Functions of the library, by what they are proved to compute. -/
def shortB (n : Nat) (l : List UInt8) : Bool := Nat.ble l.length n
def asciiB (l : List UInt8) : Bool := l.all fun b => Nat.blt b.toNat 128
def libTrim : List PV → Option PV
  | [.str s, .str c] => bif shortB 4000000000 s && shortB 4000000000 c && asciiB c then some (.str (Lib.trimS s c)) else none
  | _ => none
def libTrimRight : List PV → Option PV
  | [.str s, .str c] => bif shortB 4000000000 s && shortB 4000000000 c && asciiB c then some (.str (Lib.trimRightS s c)) else none
  | _ => none
def libRepeat : List PV → Option PV
  | [.str s, .v (.int .i64 (.ofNat n))] => bif Nat.ble n 4000000000 && Nat.ble (s.length * n) 4000000000 then some (.str (Lib.repeatL s n)) else none
  | _ => none
/-- Decimal digits. -/
def digs : Nat → Nat → List UInt8
  | 0, _ => []
  | k + 1, u => bif Nat.blt u 10 then [UInt8.ofNat (48 + u)] else digs k (u / 10) ++ [UInt8.ofNat (48 + u % 10)]
def libItoa : List PV → Option PV
  | [.v (.int .i64 (.ofNat n))] => bif Nat.blt n 9223372036854775808 then some (.str (digs 20 n)) else none
  | [.v (.int .i64 (.negSucc n))] => bif Nat.blt n 9223372036854775808 then some (.str (45 :: digs 20 (n + 1))) else none
  | _ => none
def libAtoi : List PV → Option PV
  | [.str s] => bif shortB 18 s then (match Lib.atoi s with | some n => some (.tup [.v (.int .i64 n), .v .nilIface]) | none => none) else none
  | _ => none
def ixB (c : UInt8) : List UInt8 → Nat → Int
  | [], _ => -1
  | b :: l, k => bif Nat.beq b.toNat c.toNat then .ofNat k else ixB c l (k + 1)
def libIndexByte : List PV → Option PV
  | [.str s, .v (.int .u8 c)] => some (.v (.int .i64 (ixB c.toNat.toUInt8 s 0)))
  | _ => none

section
variable {P : Program}

theorem ixB_eq (c : UInt8) : ∀ (l : List UInt8) (k : Nat), ixB c l k = if Lib.indexByte l c = -1 then -1 else Lib.indexByte l c + k
  | [], k => rfl
  | b :: l, k => by
    unfold ixB Lib.indexByte
    cases hb : Nat.beq b.toNat c.toNat with
    | true =>
      have : b = c := UInt8.toNat_inj.1 (Nat.eq_of_beq_eq_true hb)
      subst this
      simp
    | false =>
      have hne : (b == c) = false := by
        rw [beq_eq_false_iff_ne]
        intro e
        subst e
        simp at hb
      rw [hne, cond_false, ixB_eq c l (k + 1)]
      have := Lib.indexByte_ge l c
      by_cases h : Lib.indexByte l c = -1
      · simp [h]
      · have h1 : (Lib.indexByte l c == -1) = false := beq_eq_false_iff_ne.2 h
        rw [if_neg h, h1]
        simp only [Bool.false_eq_true, if_false]
        rw [if_neg (by omega)]
        omega

/-- What a package-level variable holds. -/
theorem glob_var {hw : Nat → Nat} {w : World} (hg : GlobOk hw w) {x : Nat} {vs : List Value} (hx : lk x glTab = some (vs.map PV.v)) {name : String} (hn : P.globalNamed name = some x) : w.var? P name = some vs.toArray := by
  obtain ⟨hr, _, arr, t, fr, e, hs⟩ := hg x _ hx
  obtain ⟨k, base, hp, hc⟩ := lptr_cells hr
  injection hp with hp
  injection hp with hp
  injection hp with e1 e2
  subst e1
  have hb : base = 0 := by omega
  subst hb
  have : arr = vs.toArray := by
    apply Array.ext'
    apply List.ext_getElem?
    intro j
    by_cases hj : j < vs.length
    · obtain ⟨v, h1, _, h3⟩ := hc j (.v vs[j]) (by simp [hj])
      simp only [World.cell?, e, Nat.zero_add] at h1
      rw [rep_v (h3 rfl)] at h1
      simp only [Array.getElem?_toList, List.getElem?_eq_getElem hj]
      exact h1
    · have h1 : arr.size ≤ j := by rw [hs]; simp; omega
      rw [List.getElem?_eq_none (by simpa using h1), List.getElem?_eq_none (by simpa using hj)]
  subst this
  simp only [World.var?, hn, Option.bind_some, e]

theorem libIndexByte_ok {f : FuncId} (hx : ∀ args w, (callFunc f args).run P w = ((Extern.BytealgIndexByte.indexByte args).run P w).andThen fun v w' => .ok (.value v) w') :
    ∀ args r, libIndexByte args = some r → Con P f args r := by
  intro args r hr
  unfold libIndexByte at hr
  split at hr
  · rename_i s c
    have := Option.some.inj hr
    subst this
    intro hw w vals hl _ ha
    obtain ⟨v, u, rfl, h1, h2⟩ := args_two ha
    rw [rep_str h1, rep_v h2]
    have e : ixB c.toNat.toUInt8 s 0 = Lib.indexByte s c.toNat.toUInt8 := by
      rw [ixB_eq]
      split
      · rename_i h; exact h.symm
      · simp
    rw [e]
    refine .inl ⟨_, w, ?_, hw, Qt.refl hl, .v _ rfl⟩
    rw [hx]
    have := Lib.run_indexByteString (P := P) ⟨s.toArray⟩ c w
    rw [this]
    rfl
  · exact absurd hr (by simp)

def FltsOk (P : Program) (l : List (Nat × FloatKind)) : Prop := ∀ T k, lk T l = some k → P.underlying T = some (.float k)
theorem fltsOk_nil : FltsOk P [] := fun T k h => by simp [lk] at h
theorem fltsOk_cons {T : TypeId} {k : FloatKind} {l : List (Nat × FloatKind)} (h : P.underlying T = some (.float k)) (hr : FltsOk P l) : FltsOk P ((T, k) :: l) := fun T' k' h' => by
  rw [lk_cons] at h'
  split at h'
  · rename_i e
    have := Option.some.inj h'
    subst this; subst e
    exact h
  · exact hr T' k' h'
def IfcsOk (P : Program) (l : List Nat) : Prop := ∀ T, has T l = true → ∃ ms, P.underlying T = some (.interface ms)
theorem ifcsOk_nil : IfcsOk P [] := fun T h => by simp [has] at h
theorem ifcsOk_cons {T : TypeId} {ms : Array (String × TypeId)} {l : List Nat} (h : P.underlying T = some (.interface ms)) (hr : IfcsOk P l) : IfcsOk P (T :: l) := fun T' h' => by
  unfold has at h'
  rw [Bool.or_eq_true] at h'
  rcases h' with h' | h'
  · rw [Nat.eq_of_beq_eq_true h']; exact ⟨ms, h⟩
  · exact hr T' h'
/-- The library's functions, one by one. -/
def LibOk (P : Program) (lib : Nat → List PV → Option PV) : Prop := ∀ f args r, lib f args = some r → Con P f args r
theorem libOk_nil : LibOk P (fun _ _ => none) := fun f args r h => absurd h (by simp)
theorem libOk_cons {f : Nat} {g : List PV → Option PV} {lib : Nat → List PV → Option PV} (h : ∀ args r, g args = some r → Con P f args r) (hr : LibOk P lib) : LibOk P (fun k args => bif Nat.beq k f then g args else lib k args) := fun k args r h' => by
  cases hb : Nat.beq k f with
  | true =>
    simp only [hb, cond_true] at h'
    have := Nat.eq_of_beq_eq_true hb
    subst this
    exact h args r h'
  | false =>
    simp only [hb, cond_false] at h'
    exact hr k args r h'

theorem con_of_calls {f : FuncId} {args : List PV} {r : PV} (vals : List Value) (v : Value) (hv : ∀ hw w l, ArgsRep hw w l args → l = vals) (hr : ∀ hw w, Rep hw w v r)
    (hc : ∀ args w, (callFunc f args).run P w = .ok (.enter f args) w) (h : ∀ hw w, GlobOk hw w → Calls P f vals.toArray w fun e w' => e = .returned v ∧ Below w.heap.size w w') : Con P f args r := by
  intro hw w l hl hgl ha
  have := hv hw w l ha
  subst this
  refine .inr ⟨f, hc _ _, (h hw w hgl).mono fun e w' ⟨he, hb⟩ => ⟨v, he, fun k => if k < w.heap.size then hw k else 0, ⟨hb, fun k hk => by simp [hk], fun k hk => ?_⟩, hr _ _⟩⟩
  have := hb.size
  have : ¬ k < w.heap.size := by omega
  simp [this]

theorem str1 {hw : Nat → Nat} {w : World} {s : List UInt8} {l : List Value} (h : ArgsRep hw w l [.str s]) : l = [.string ⟨s.toArray⟩] := by
  obtain ⟨v, rfl, h1⟩ := args_one h
  rw [rep_str h1]
theorem str2 {hw : Nat → Nat} {w : World} {s c : List UInt8} {l : List Value} (h : ArgsRep hw w l [.str s, .str c]) : l = [.string ⟨s.toArray⟩, .string ⟨c.toArray⟩] := by
  obtain ⟨v, u, rfl, h1, h2⟩ := args_two h
  rw [rep_str h1, rep_str h2]
theorem int1 {hw : Nat → Nat} {w : World} {x : Value} {l : List Value} (h : ArgsRep hw w l [.v x]) : l = [x] := by
  obtain ⟨v, rfl, h1⟩ := args_one h
  rw [rep_v h1]
theorem str_int {hw : Nat → Nat} {w : World} {s : List UInt8} {x : Value} {l : List Value} (h : ArgsRep hw w l [.str s, .v x]) : l = [.string ⟨s.toArray⟩, x] := by
  obtain ⟨v, u, rfl, h1, h2⟩ := args_two h
  rw [rep_str h1, rep_v h2]

theorem size_mk (l : List UInt8) : (⟨l.toArray⟩ : ByteArray).size = l.length := by show l.toArray.size = _; simp

theorem ascii_get {c : List UInt8} (h : asciiB c = true) : ∀ (j : Nat) b, c[j]? = some b → b.toNat < 128 := fun j b hb => by
  have := List.all_eq_true.1 h b (List.mem_of_getElem? hb)
  exact Nat.le_of_ble_eq_true this

theorem trim_ok {f : FuncId} {g : List UInt8 → List UInt8 → List UInt8} (hc : ∀ args w, (callFunc f args).run P w = .ok (.enter f args) w)
    (h : ∀ (s c : ByteArray) (w : World), s.size ≤ 9223372036854775807 → c.size < 4294967281 → (∀ (j : Nat) b, c.data.toList[j]? = some b → b.toNat < 128) →
      Calls P f #[.string s, .string c] w fun e w' => e = .returned (.string ⟨(g s.data.toList c.data.toList).toArray⟩) ∧ Below w.heap.size w w') {s c : List UInt8}
    (hb : (shortB 4000000000 s && shortB 4000000000 c && asciiB c) = true) : Con P f [.str s, .str c] (.str (g s c)) := by
  simp only [Bool.and_eq_true] at hb
  obtain ⟨⟨h1, h2⟩, h3⟩ := hb
  have h1 := Nat.le_of_ble_eq_true h1
  have h2 := Nat.le_of_ble_eq_true h2
  exact con_of_calls [.string ⟨s.toArray⟩, .string ⟨c.toArray⟩] (.string ⟨(g s c).toArray⟩) (fun _ _ _ ha => str2 ha) (fun _ _ => .str _) hc fun _ w _ =>
    h ⟨s.toArray⟩ ⟨c.toArray⟩ w (by rw [size_mk]; omega) (by rw [size_mk]; omega) (by simpa using ascii_get h3)

theorem libTrim_ok {f : FuncId} (hc : ∀ args w, (callFunc f args).run P w = .ok (.enter f args) w)
    (h : ∀ (s c : ByteArray) (w : World), s.size ≤ 9223372036854775807 → c.size < 4294967281 → (∀ (j : Nat) b, c.data.toList[j]? = some b → b.toNat < 128) →
      Calls P f #[.string s, .string c] w fun e w' => e = .returned (.string ⟨(Lib.trimS s.data.toList c.data.toList).toArray⟩) ∧ Below w.heap.size w w') :
    ∀ args r, libTrim args = some r → Con P f args r := by
  intro args r hr
  unfold libTrim at hr
  split at hr
  · rename_i s c
    cases hb : (shortB 4000000000 s && shortB 4000000000 c && asciiB c) with
    | false => rw [hb] at hr; exact absurd hr (by simp)
    | true =>
      rw [hb] at hr
      have := Option.some.inj hr
      subst this
      exact trim_ok hc h hb
  · exact absurd hr (by simp)
theorem libTrimRight_ok {f : FuncId} (hc : ∀ args w, (callFunc f args).run P w = .ok (.enter f args) w)
    (h : ∀ (s c : ByteArray) (w : World), s.size ≤ 9223372036854775807 → c.size < 4294967281 → (∀ (j : Nat) b, c.data.toList[j]? = some b → b.toNat < 128) →
      Calls P f #[.string s, .string c] w fun e w' => e = .returned (.string ⟨(Lib.trimRightS s.data.toList c.data.toList).toArray⟩) ∧ Below w.heap.size w w') :
    ∀ args r, libTrimRight args = some r → Con P f args r := by
  intro args r hr
  unfold libTrimRight at hr
  split at hr
  · rename_i s c
    cases hb : (shortB 4000000000 s && shortB 4000000000 c && asciiB c) with
    | false => rw [hb] at hr; exact absurd hr (by simp)
    | true =>
      rw [hb] at hr
      have := Option.some.inj hr
      subst this
      exact trim_ok hc h hb
  · exact absurd hr (by simp)
theorem libRepeat_ok {f : FuncId} (hc : ∀ args w, (callFunc f args).run P w = .ok (.enter f args) w)
    (h : ∀ (s : ByteArray) (c : Nat) (w : World), c ≤ 9223372036854775807 → s.size * c ≤ 140737488355328 →
      Calls P f #[.string s, .int .i64 c] w fun e w' => e = .returned (.string ⟨(Lib.repeatL s.data.toList c).toArray⟩) ∧ Below w.heap.size w w') :
    ∀ args r, libRepeat args = some r → Con P f args r := by
  intro args r hr
  unfold libRepeat at hr
  split at hr
  · rename_i s n
    cases hb : (Nat.ble n 4000000000 && Nat.ble (s.length * n) 4000000000) with
    | false => rw [hb] at hr; exact absurd hr (by simp)
    | true =>
      rw [hb] at hr
      have := Option.some.inj hr
      subst this
      rw [Bool.and_eq_true] at hb
      have h1 := Nat.le_of_ble_eq_true hb.1
      have h2 := Nat.le_of_ble_eq_true hb.2
      exact con_of_calls [.string ⟨s.toArray⟩, .int .i64 (.ofNat n)] (.string ⟨(Lib.repeatL s n).toArray⟩) (fun _ _ _ ha => str_int ha) (fun _ _ => .str _) hc fun _ w _ =>
        h ⟨s.toArray⟩ n w (by omega) (by rw [size_mk]; omega)
  · exact absurd hr (by simp)

theorem digs_eq : ∀ (k u : Nat), u < 10 ^ k → 0 < k → digs k u = Lib.decDigits u
  | 0, u, h, h0 => absurd h0 (by omega)
  | k + 1, u, h, _ => by
    rw [Lib.decDigits]
    unfold digs
    by_cases hu : u < 10
    · have : Nat.blt u 10 = true := Nat.ble_eq_true_of_le hu
      rw [this, dif_pos hu]
      rfl
    · have hf : Nat.blt u 10 = false := by
        cases hb : Nat.blt u 10 with
        | false => rfl
        | true => exact absurd (Nat.le_of_ble_eq_true hb) hu
      rw [hf, dif_neg hu]
      cases k with
      | zero => simp at h; omega
      | succ k => 
        have : u / 10 < 10 ^ (k + 1) := by
          rw [Nat.div_lt_iff_lt_mul (by omega)]
          rw [Nat.pow_succ] at h
          exact h
        rw [digs_eq (k + 1) (u / 10) this (by omega)]
        rfl
theorem libItoa_ok {f : FuncId} (hc : ∀ args w, (callFunc f args).run P w = .ok (.enter f args) w)
    (h : ∀ (n : Int) (hw : Nat → Nat) (w : World), -9223372036854775808 ≤ n → n ≤ 9223372036854775807 → GlobOk hw w →
      Calls P f #[.int .i64 n] w fun e w' => e = .returned (.string ⟨(Lib.itoa n).toArray⟩) ∧ Below w.heap.size w w') :
    ∀ args r, libItoa args = some r → Con P f args r := by
  intro args r hr
  unfold libItoa at hr
  split at hr
  · rename_i n
    cases hb : Nat.blt n 9223372036854775808 with
    | false => rw [hb] at hr; exact absurd hr (by simp)
    | true =>
      rw [hb] at hr
      have := Option.some.inj hr
      subst this
      have h1 : n < 9223372036854775808 := Nat.le_of_ble_eq_true hb
      have e : digs 20 n = Lib.itoa (.ofNat n) := by
        rw [digs_eq 20 n (by omega) (by omega)]
        simp [Lib.itoa]
      rw [e]
      exact con_of_calls [.int .i64 (.ofNat n)] (.string ⟨(Lib.itoa (.ofNat n)).toArray⟩) (fun _ _ _ ha => int1 ha) (fun _ _ => .str _) hc fun hw w hg =>
        h (.ofNat n) hw w (Int.le_trans (by decide) (Int.natCast_nonneg n)) (show (n : Int) ≤ 9223372036854775807 by omega) hg
  · rename_i n
    cases hb : Nat.blt n 9223372036854775808 with
    | false => rw [hb] at hr; exact absurd hr (by simp)
    | true =>
      rw [hb] at hr
      have := Option.some.inj hr
      subst this
      have h1 : n < 9223372036854775808 := Nat.le_of_ble_eq_true hb
      have e : 45 :: digs 20 (n + 1) = Lib.itoa (.negSucc n) := by
        rw [digs_eq 20 (n + 1) (by omega) (by omega)]
        simp [Lib.itoa]
      rw [e]
      exact con_of_calls [.int .i64 (.negSucc n)] (.string ⟨(Lib.itoa (.negSucc n)).toArray⟩) (fun _ _ _ ha => int1 ha) (fun _ _ => .str _) hc fun hw w hg =>
        h (.negSucc n) hw w (by omega) (by omega) hg
  · exact absurd hr (by simp)
theorem libAtoi_ok {f : FuncId} (hc : ∀ args w, (callFunc f args).run P w = .ok (.enter f args) w)
    (h : ∀ (s : ByteArray) (n : Int) (w : World), s.size ≤ 18 → Lib.atoi s.data.toList = some n →
      Calls P f #[.string s] w fun e w' => e = .returned (.tuple #[.int .i64 n, .nilIface]) ∧ Below w.heap.size w w') :
    ∀ args r, libAtoi args = some r → Con P f args r := by
  intro args r hr
  unfold libAtoi at hr
  split at hr
  · rename_i s
    cases hb : shortB 18 s with
    | false => rw [hb] at hr; exact absurd hr (by simp)
    | true =>
      rw [hb] at hr
      simp only [cond_true] at hr
      split at hr
      · rename_i n hn
        have := Option.some.inj hr
        subst this
        refine con_of_calls [.string ⟨s.toArray⟩] (.tuple #[.int .i64 n, .nilIface]) (fun _ _ _ ha => str1 ha) (fun _ _ => ?_) hc fun _ w _ =>
          h ⟨s.toArray⟩ n w (by rw [size_mk]; exact Nat.le_of_ble_eq_true hb) hn
        exact .tup [.int .i64 n, .nilIface] _ rfl fun j x y hx hy => by
          cases j with
          | zero => cases hx; cases hy; exact .v _ rfl
          | succ j => cases j with
            | zero => cases hx; cases hy; exact .v _ rfl
            | succ j => simp at hx
      · exact absurd hr (by simp)
  · exact absurd hr (by simp)
end
end Go.Ev
namespace Go.Ev
open Go.RowKit

section
variable {P : Program} {W : World}

/-- What a row's list tells of a variable. -/
theorem laid_var : ∀ {l : List (String × DataW Unit)}, (∃ ps, DataW.LaidVars P W l ps) → ∀ {n : String} {d : DataW Unit}, (n, d) ∈ l →
    ∃ g t cs fuel p, P.globalNamed n = some g ∧ (P.globals[g]?).map (·.type) = some t ∧ W.var? P n = some cs ∧ DataW.trod (fun _ => ()) P W 0 (fun _ => true) false fuel t cs.toList = some (d, p)
  | [], _, n, d, hm => by simp at hm
  | (n0, d0) :: r, ⟨ps, h⟩, n, d, hm => by
    obtain ⟨g', t', cs, fuel, p, q, hg', ht', hvar, hd, hr, _⟩ := h
    rcases List.mem_cons.1 hm with e | hm
    · cases e
      exact ⟨g', t', cs, fuel, p, hg', ht', hvar, hd⟩
    · exact laid_var ⟨q, hr⟩ hm

/-- An array of texts that reads so holds them, cell for cell. -/
theorem cells_of_texts {w : World} {sp : Nat → Bool} {fuel : Nat} {t e : TypeId} {n : Nat} {cs : List Value} {zs : List (List UInt8)} {p : List MemPlace}
    (ht : P.underlying t = some (.array n e)) (he : P.underlying e = some .string) (hce : P.cellsOf e = 1) (hct : P.cellsOf t = n)
    (h : DataW.trod (fun _ => ()) P w 0 sp false fuel t cs = some (.agg (zs.map fun z => .lit (.string z)), p)) : cs = zs.map fun z => Value.string ⟨z.toArray⟩ := by
  cases fuel with
  | zero => simp [DataW.trod] at h
  | succ fuel =>
    simp only [DataW.trod, ht, hce, hct, Nat.mul_one] at h
    split at h
    · rename_i hl
      obtain ⟨xs, hm, hx⟩ := Option.map_eq_some_iff.1 h
      have hxs : xs.map (·.1) = zs.map fun z => (DataW.lit (.string z) : DataW Unit) := by
        have := congrArg Prod.fst hx
        simpa using this
      have hxl : xs.length = n := by simpa using Lib.mapM_length hm
      have hzl : zs.length = n := by
        have := congrArg List.length hxs
        simp at this
        omega
      apply List.ext_getElem?
      intro i
      by_cases hi : i < n
      · obtain ⟨b, hb, hf⟩ := Lib.mapM_at hm i i (by simp [hi])
        obtain ⟨s, hc, rfl, _⟩ := DataW.trod_string he hf
        have h1 : cs[i]? = some (.string s) := by
          have := congrArg (·[0]?) hc
          simpa [List.getElem?_take, List.getElem?_drop] using this
        have h2 : (xs.map (·.1))[i]? = some (DataW.lit (.string s.data.toList) : DataW Unit) := by simp [hb]
        rw [hxs] at h2
        simp only [List.getElem?_map, Option.map_eq_some_iff, DataW.lit.injEq, Lit.string.injEq] at h2
        obtain ⟨z', hz', e'⟩ := h2
        have : s = ⟨z'.toArray⟩ := by
          obtain ⟨⟨l⟩⟩ := s
          simp at e'
          rw [e']
        rw [h1, List.getElem?_map, hz', this]
        rfl
      · rw [List.getElem?_eq_none (by omega), List.getElem?_eq_none (by simp; omega)]
    · cases h

/-- A variable's block, as it lies. -/
theorem block_of_var {n : String} {g : Nat} {cs : Array Value} (hg : P.globalNamed n = some g) (h : W.var? P n = some cs) : ∃ t fr, W.heap[g]? = some (.cells cs t fr) := by
  simp only [World.var?, hg, Option.bind_some] at h
  split at h
  · rename_i c t fr hc
    cases h
    exact ⟨t, fr, hc⟩
  · exact absurd h (by simp)
theorem ints_of_laid {l : List (String × DataW Unit)} (h : ∃ ps, DataW.LaidVars P W l ps) {n : String} {k : IntKind} {zs : List Int} (hm : (n, Lib.tabData k zs) ∈ l) {g : Nat} {t e : TypeId} {m : Nat}
    (hg : P.globalNamed n = some g) (hty : (P.globals[g]?).map (·.type) = some t) (ht : P.underlying t = some (.array m e)) (he : P.underlying e = some (.int k)) (hce : P.cellsOf e = 1) (hct : P.cellsOf t = m) :
    ∃ t fr, W.heap[g]? = some (.cells (zs.map fun z => Value.int k z).toArray t fr) := by
  obtain ⟨g', t', cs, fuel, p, hg', ht', hvar, hd⟩ := laid_var h hm
  obtain rfl := Option.some.inj (hg.symm.trans hg')
  obtain rfl := Option.some.inj (hty.symm.trans ht')
  have := Lib.cells_of_tab ht he hce hct hd
  have e2 : cs = (zs.map fun z => Value.int k z).toArray := by
    apply Array.ext'
    simpa using this
  subst e2
  exact block_of_var hg hvar
theorem texts_of_laid {l : List (String × DataW Unit)} (h : ∃ ps, DataW.LaidVars P W l ps) {n : String} {zs : List (List UInt8)} (hm : (n, (.agg (zs.map fun z => .lit (.string z)) : DataW Unit)) ∈ l) {g : Nat} {t e : TypeId} {m : Nat}
    (hg : P.globalNamed n = some g) (hty : (P.globals[g]?).map (·.type) = some t) (ht : P.underlying t = some (.array m e)) (he : P.underlying e = some .string) (hce : P.cellsOf e = 1) (hct : P.cellsOf t = m) :
    ∃ t fr, W.heap[g]? = some (.cells (zs.map fun z => Value.string ⟨z.toArray⟩).toArray t fr) := by
  obtain ⟨g', t', cs, fuel, p, hg', ht', hvar, hd⟩ := laid_var h hm
  obtain rfl := Option.some.inj (hg.symm.trans hg')
  obtain rfl := Option.some.inj (hty.symm.trans ht')
  have := cells_of_texts ht he hce hct hd
  have e2 : cs = (zs.map fun z => Value.string ⟨z.toArray⟩).toArray := by
    apply Array.ext'
    simpa using this
  subst e2
  exact block_of_var hg hvar
end
end Go.Ev
namespace Go.Ev
open Go Go.RowKit Go.Shelf Go.Proofs

section
variable {P : Program} {ρ : Ren}

theorem ccOk_of (L : Lays.n240 P ρ) (X : Builder.X72 P ρ) (he : ρ.t 72 = bldT) (hc : ∀ args w, (callFunc (ρ.f 240) args).run P w = .ok (.enter (ρ.f 240) args) w) : CCOk P (ρ.f 240) :=
  ⟨hc, fun b w h0 hs hf => Any.Builder_copyCheck_fresh L X b w h0 (by rw [he]; exact hs) hf, fun b w h0 => Any.Builder_copyCheck_used L X b w h0⟩

set_option maxHeartbeats 1000000 in
set_option maxRecDepth 100000 in
theorem bstr_some (L : Lays.n169 P ρ) (X : Builder.Extra P ρ) (b g cap cells : Nat) (l : List UInt8) (w : World) (c0 : w.cell? ⟨b, 1, none⟩ = some (.slice (some ⟨g, 0, none⟩) l.length cap)) (hsh : w.shape? g = some (ρ.t 5, cells)) (h0 : l ≠ []) (hnc : l.length ≤ cap) (hn : l.length ≤ cells) (hm : l.length ≤ maxLen)
    (hcell : ∀ (j : Nat) (x : UInt8), l[j]? = some x → w.cell? ⟨g, j, none⟩ = some (.int .u8 x.toNat)) :
    Calls P (ρ.f 169) #[.pointer (some ⟨b, 0, none⟩)] w fun e w' => e = .returned (.string ⟨l.toArray⟩) ∧ w' = w.drew.freeze ⟨g, 0, none⟩ l.length := by
  have hl0 : l.length ≠ 0 := by simpa using h0
  have c1 : w.drew.cell? ⟨b, 1, none⟩ = some (.slice (some ⟨g, 0, none⟩) l.length cap) := c0
  have hSD : (Builtin.unsafeSliceData_ #[(ρ.t 37)] (ρ.t 127) #[.slice (some ⟨g, 0, none⟩) l.length cap]).run P w.drew = .ok (.pointer (some ⟨g, 0, none⟩)) w.drew :=
    Lib.run_unsafeSliceData_row _ _ _ _ _ _ (by omega)
  have hUS : (Builtin.unsafeString_ #[(ρ.t 127), (ρ.t 3)] (ρ.t 9) #[.pointer (some ⟨g, 0, none⟩), .int .i64 l.length]).run P w.drew = .ok (.string ⟨l.toArray⟩) (w.drew.freeze ⟨g, 0, none⟩ l.length) := by
    refine Lib.run_unsafeString_row w.drew (ρ.t 127) (ρ.t 3) (ρ.t 9) (ρ.t 5) L.t127 X.cellsByte g cells hsh l h0 hn (by unfold maxLen at hm; omega) ?_
    intro j x hx
    rw [Addr.add_lit, Nat.zero_add]
    exact hcell j x hx
  have mixed := L.mixed
  have t72 := L.t72; have a72 := L.a72; have z72 := L.z72; have v72 := L.v72; have u72 := run_underlying L.t72
  have t70 := L.t70; have a70 := L.a70; have z70 := L.z70; have v70 := L.v70; have u70 := run_underlying L.t70
  have t37 := L.t37; have a37 := L.a37; have z37 := L.z37; have v37 := L.v37; have u37 := run_underlying L.t37
  have t127 := L.t127; have a127 := L.a127; have z127 := L.z127; have v127 := L.v127; have u127 := run_underlying L.t127
  have t3 := L.t3; have a3 := L.a3; have z3 := L.z3; have v3 := L.v3; have u3 := run_underlying L.t3
  have t9 := L.t9; have a9 := L.a9; have z9 := L.z9; have v9 := L.v9; have u9 := run_underlying L.t9
  have t5 := X.t5; have a5 := X.a5; have z5 := X.z5; have v5 := X.v5; have u5 := run_underlying X.t5
  go_enter L.f169, Body.n169_ntmps ρ
  go_wp2
  go_region_o
  all_goals (go_wp2; go_ret; exact ⟨rfl, rfl⟩)

set_option maxHeartbeats 2000000 in
set_option maxRecDepth 100000 in
theorem bstr_none (L : Lays.n169 P ρ) (X : Builder.Extra P ρ) (b : Nat) (w : World) (c0 : w.cell? ⟨b, 1, none⟩ = some (.slice none 0 0)) :
    Calls P (ρ.f 169) #[.pointer (some ⟨b, 0, none⟩)] w fun e w' => e = .returned (.string ⟨#[]⟩) ∧ w' = w.drew := by
  have hUS := Any.unsafeString_none L X
  have c1 : w.drew.cell? ⟨b, 1, none⟩ = some (.slice none 0 0) := c0
  have hSD : (Builtin.unsafeSliceData_ #[(ρ.t 37)] (ρ.t 127) #[.slice none 0 0]).run P w.drew = .ok (.pointer none) w.drew := rfl
  have mixed := L.mixed
  have t72 := L.t72; have a72 := L.a72; have z72 := L.z72; have v72 := L.v72; have u72 := run_underlying L.t72
  have t70 := L.t70; have a70 := L.a70; have z70 := L.z70; have v70 := L.v70; have u70 := run_underlying L.t70
  have t37 := L.t37; have a37 := L.a37; have z37 := L.z37; have v37 := L.v37; have u37 := run_underlying L.t37
  have t127 := L.t127; have a127 := L.a127; have z127 := L.z127; have v127 := L.v127; have u127 := run_underlying L.t127
  have t3 := L.t3; have a3 := L.a3; have z3 := L.z3; have v3 := L.v3; have u3 := run_underlying L.t3
  have t9 := L.t9; have a9 := L.a9; have z9 := L.z9; have v9 := L.v9; have u9 := run_underlying L.t9
  have t5 := X.t5; have a5 := X.a5; have z5 := X.z5; have v5 := X.v5; have u5 := run_underlying X.t5
  go_enter L.f169, Body.n169_ntmps ρ
  go_wp2
  go_region_o
  all_goals (go_wp2; go_ret; exact ⟨rfl, rfl⟩)

theorem bstrOk_of (L : Lays.n169 P ρ) (X : Builder.Extra P ρ) (hc : ∀ args w, (callFunc (ρ.f 169) args).run P w = .ok (.enter (ρ.f 169) args) w) : BStrOk P (ρ.f 169) (ρ.t 5) ∧ ∃ i, P.info? (ρ.t 5) = some i ∧ i.size = 1 := by
  obtain ⟨i0, hi, _, hz1, _⟩ := info_parts X.infoByte
  exact ⟨⟨hc, bstr_some L X, bstr_none L X⟩, i0, hi, hz1⟩

def CCsOk (P : Program) (l : List Nat) : Prop := ∀ f, has f l = true → CCOk P f
theorem ccsOk_nil : CCsOk P [] := fun f h => by simp [has] at h
theorem ccsOk_cons {f : Nat} {l : List Nat} (h : CCOk P f) (hr : CCsOk P l) : CCsOk P (f :: l) := fun f' h' => by
  rcases List.mem_cons.1 (has_iff.1 h') with e | hm
  · rw [e]; exact h
  · exact hr f' (has_iff.2 hm)
def BStrsOk (P : Program) (l : List (Nat × Nat)) : Prop := ∀ f e, lk f l = some e → BStrOk P f e ∧ ∃ i, P.info? e = some i ∧ i.size = 1
theorem bstrsOk_nil : BStrsOk P [] := fun f e h => by simp [lk] at h
theorem bstrsOk_cons {f e : Nat} {l : List (Nat × Nat)} (h : BStrOk P f e ∧ ∃ i, P.info? e = some i ∧ i.size = 1) (hr : BStrsOk P l) : BStrsOk P ((f, e) :: l) := fun f' e' h' => by
  rw [lk_cons] at h'
  split at h'
  · rename_i hf
    have := Option.some.inj h'
    subst this; subst hf
    exact h
  · exact hr f' e' h'
end
end Go.Ev
namespace Go.Ev
open Go.RowKit

section
variable {P : Program}

/-- math.archTrunc, of what is a number. -/
def libTrunc : List PV → Option PV
  | [.v (.float .f64 x)] => match FloatKind.f64.decode x with
    | .nan _ _ => none
    | d => some (.v (.float .f64 (FloatKind.f64.encode (d.integral .zero))))
  | _ => none

theorem libTrunc_ok {f : FuncId} (hx : ∀ args w, (callFunc f args).run P w = ((Extern.MathFloor.toIntegral "math.archTrunc" .zero args).run P w).andThen fun v w' => .ok (.value v) w') :
    ∀ args r, libTrunc args = some r → Con P f args r := by
  intro args r hr
  unfold libTrunc at hr
  split at hr
  · rename_i x
    intro hw w vals hl _ ha
    obtain ⟨v, rfl, h1⟩ := args_one ha
    rw [rep_v h1]
    split at hr
    · exact absurd hr (by simp)
    · rename_i d hd hn
      have := Option.some.inj hr
      subst this
      refine .inl ⟨_, w, ?_, hw, Qt.refl hl, .v _ rfl⟩
      rw [hx]
      have : (Extern.MathFloor.toIntegral "math.archTrunc" .zero #[.float .f64 x]).run P w = .ok (.float .f64 (FloatKind.f64.encode ((FloatKind.f64.decode x).integral .zero))) w := by
        show ((match FloatKind.f64.decode x with
          | .nan s t =>
            if FloatKind.f64.format.quiet t = t then pure (Value.float .f64 x) else do
            let kept ← choose (.extern "math.Floor,Ceil,Trunc,RoundToEven.signallingNaN kept" 2)
            pure (.float .f64 (if kept == 1 then x else FloatKind.f64.encode (.nan s (FloatKind.f64.format.quiet t))))
          | d => pure (.float .f64 (FloatKind.f64.encode (d.integral .zero))) : Sem Value)).run P w = _
        split
        · rename_i s t h; exact absurd h (hn s t)
        · rfl
      rw [show ([Value.float .f64 x] : List Value).toArray = #[.float .f64 x] from rfl, this]
      rfl
  · exact absurd hr (by simp)
end
end Go.Ev
