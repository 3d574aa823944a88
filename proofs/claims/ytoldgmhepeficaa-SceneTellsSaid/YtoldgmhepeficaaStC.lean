/- A logic of frames, its evaluator for values known in part, and what the functions that the law reaches are shown to do: written for this claim. Part C. -/
import Derived.Test.YtoldgmhepeficaaStB
import Derived.ChangeKeysEq
import Derived.Lib.SlTrimSet
import Derived.Lib.Repeat
import Derived.Lib.ItoaNum
import Derived.Lib.Atoi
import Derived.Lib.Bytealg
import Derived.Laws.StandIn
import Derived.Lib.LaidTab
import Derived.Deep.DeepHandedRow
import Derived.Shelf.Strings.Builder1
import Derived.Test.YtoldgmhepeficaaChecked
set_option linter.all false
namespace Go.Ev
open Go.RowKit
def shF (P : Program) (g : TypeId → List Nat → Bool) : List Field → Nat → List Nat → Bool
  | [], _, sh => sh.isEmpty
  | f :: fs, i, sh => (f.name != "_") && Nat.beq f.offset i && (match P.info? f.type with
    | some inf => Nat.ble inf.size sh.length && g f.type (sh.take inf.size) && shF P g fs (i + inf.size) (sh.drop inf.size)
    | none => false)
def shA (g : List Nat → Bool) (s : Nat) : Nat → List Nat → Bool
  | 0, sh => sh.isEmpty
  | n + 1, sh => Nat.ble s sh.length && g (sh.take s) && shA g s n (sh.drop s)
def shB (P : Program) : Nat → TypeId → List Nat → Bool
  | 0, _, _ => false
  | d + 1, T, sh => match P.underlying T with
    | some (.int _) => (match sh with | [0] => true | _ => false)
    | some .bool => (match sh with | [1] => true | _ => false)
    | some .string => (match sh with | [2] => true | _ => false)
    | some (.complex _) => (match sh with | [3] => true | _ => false)
    | some (.struct fs) => (match P.info? T with | some i => Nat.beq i.size sh.length | none => false) && !(P.stoodInHeld T) && shF P (shB P d) fs.toList 0 sh
    | some (.array n e) => (match P.info? T, P.info? e with | some i, some j => Nat.beq i.size sh.length && shA (shB P d e) j.size n sh | _, _ => false)
    | _ => false
section
variable {P : Program} {hw : Nat → Nat} {w : World}
theorem eqCells_len : ∀ {sh : List Nat} {xs ys : List PV} {b : Bool}, eqCells sh xs ys = some b → xs.length = sh.length ∧ ys.length = sh.length := by
  intro sh
  induction sh with
  | nil =>
    intro xs ys b h
    cases xs <;> cases ys <;> simp [eqCells] at h
    exact ⟨rfl, rfl⟩
  | cons s sh ih =>
    intro xs ys b h
    unfold eqCells at h
    split at h
    · rename_i e; exact absurd e (by simp)
    · rename_i e
      cases e
      split at h
      · rename_i c hc
        obtain ⟨h1, h2⟩ := ih hc
        exact ⟨by simp [h1], by simp [h2]⟩
      · exact absurd h (by rw [Bool.cond_self]; simp)
    · rename_i e
      cases e
      split at h
      · rename_i c hc
        obtain ⟨h1, h2⟩ := ih hc
        exact ⟨by simp [h1], by simp [h2]⟩
      · exact absurd h (by simp)
    · rename_i e
      cases e
      split at h
      · rename_i c hc
        obtain ⟨h1, h2⟩ := ih hc
        exact ⟨by simp [h1], by simp [h2]⟩
      · exact absurd h (by simp)
    · rename_i e
      cases e
      split at h
      · rename_i c hc
        obtain ⟨h1, h2⟩ := ih hc
        exact ⟨by simp [h1], by simp [h2]⟩
      · exact absurd h (by rw [Bool.cond_self]; simp)
    · exact absurd h (by simp)
theorem eqCells_cons {s : Nat} {sh : List Nat} {x y : PV} {r q : List PV} {b : Bool} (h : eqCells (s :: sh) (x :: r) (y :: q) = some b) : ∃ b1 b2, eqCells [s] [x] [y] = some b1 ∧ eqCells sh r q = some b2 ∧ b = (b1 && b2) := by
  unfold eqCells at h
  split at h
  · rename_i e; exact absurd e (by simp)
  · rename_i sh' k a r' k' a' r'' e1 e2 e3
    cases e1; cases e2; cases e3
    cases hk : decide (k = k') with
    | false => rw [hk] at h; exact absurd h (by simp)
    | true =>
      rw [hk] at h
      simp only [cond_true] at h
      split at h
      · rename_i c hc
        exact ⟨a == a', c, by simp [eqCells, hk], hc, (Option.some.inj h).symm⟩
      · exact absurd h (by simp)
  · rename_i sh' a r' a' r'' e1 e2 e3
    cases e1; cases e2; cases e3
    split at h
    · rename_i c hc
      exact ⟨a == a', c, by simp [eqCells], hc, (Option.some.inj h).symm⟩
    · exact absurd h (by simp)
  · rename_i sh' a r' a' r'' e1 e2 e3
    cases e1; cases e2; cases e3
    split at h
    · rename_i c hc
      exact ⟨a == a', c, by simp [eqCells], hc, (Option.some.inj h).symm⟩
    · exact absurd h (by simp)
  · rename_i sh' k a b0 r' k' a' b' r'' e1 e2 e3
    cases e1; cases e2; cases e3
    cases hk : decide (k = k') with
    | false => rw [hk] at h; exact absurd h (by simp)
    | true =>
      rw [hk] at h
      simp only [cond_true] at h
      split at h
      · rename_i c hc
        exact ⟨Op.floatEq k a a' && Op.floatEq k b0 b', c, by simp [eqCells, hk], hc, (Option.some.inj h).symm⟩
      · exact absurd h (by simp)
  · exact absurd h (by simp)
theorem eqCells_join {s : Nat} {sh : List Nat} {x y : PV} {r q : List PV} {b1 b2 : Bool} (h1 : eqCells [s] [x] [y] = some b1) (h2 : eqCells sh r q = some b2) : eqCells (s :: sh) (x :: r) (y :: q) = some (b1 && b2) := by
  unfold eqCells at h1
  split at h1
  · rename_i e _ _; exact absurd e (by simp)
  · rename_i sh' k a r' k' a' r'' e1 e2 e3
    cases e1; cases e2; cases e3
    cases hk : decide (k = k') with
    | false => rw [hk] at h1; exact absurd h1 (by simp)
    | true =>
      rw [hk] at h1
      simp only [cond_true, eqCells] at h1
      have := Option.some.inj h1
      simp only [Bool.and_true] at this
      subst this
      simp [eqCells, hk, h2]
  · rename_i sh' a r' a' r'' e1 e2 e3
    cases e1; cases e2; cases e3
    simp only [eqCells] at h1
    have := Option.some.inj h1
    simp only [Bool.and_true] at this
    subst this
    simp [eqCells, h2]
  · rename_i sh' a r' a' r'' e1 e2 e3
    cases e1; cases e2; cases e3
    simp only [eqCells] at h1
    have := Option.some.inj h1
    simp only [Bool.and_true] at this
    subst this
    simp [eqCells, h2]
  · rename_i sh' k a b0 r' k' a' b' r'' e1 e2 e3
    cases e1; cases e2; cases e3
    cases hk : decide (k = k') with
    | false => rw [hk] at h1; exact absurd h1 (by simp)
    | true =>
      rw [hk] at h1
      simp only [cond_true, eqCells] at h1
      have := Option.some.inj h1
      simp only [Bool.and_true] at this
      subst this
      simp [eqCells, hk, h2]
  · exact absurd h1 (by simp)
theorem eqCells_split : ∀ {n : Nat} {sh : List Nat} {xs ys : List PV} {b : Bool}, n ≤ sh.length → eqCells sh xs ys = some b →
    ∃ b1 b2, eqCells (sh.take n) (xs.take n) (ys.take n) = some b1 ∧ eqCells (sh.drop n) (xs.drop n) (ys.drop n) = some b2 ∧ b = (b1 && b2)
  | 0, sh, xs, ys, b, _, h => ⟨true, b, by simp [eqCells], by simpa using h, by simp⟩
  | n + 1, [], xs, ys, b, hn, _ => by simp at hn
  | n + 1, s :: sh, xs, ys, b, hn, h => by
    obtain ⟨hx, hy⟩ := eqCells_len h
    cases xs with
    | nil => simp at hx
    | cons x r =>
      cases ys with
      | nil => simp at hy
      | cons y q =>
        obtain ⟨b1, b2, h1, h2, rfl⟩ := eqCells_cons h
        obtain ⟨c1, c2, h3, h4, rfl⟩ := eqCells_split (n := n) (by simpa using hn) h2
        refine ⟨b1 && c1, c2, ?_, by simpa using h4, by rw [Bool.and_assoc]⟩
        simp only [List.take_succ_cons]
        exact eqCells_join h1 h3
theorem ArgsRep.seg {vs : List Value} {xs : List PV} (h : ArgsRep hw w vs xs) (off n : Nat) : ArgsRep hw w ((vs.drop off).take n) ((xs.drop off).take n) :=
  ⟨by simp [h.len], fun j x y hx hy => by
    rw [List.getElem?_take] at hx hy
    split at hx
    · rename_i hj
      rw [if_pos hj] at hy
      rw [List.getElem?_drop] at hx hy
      exact h.rep _ x y hx hy
    · exact absurd hx (by simp)⟩
def DeepOk (P : Program) (D : Nat) (T : TypeId) (sh : List Nat) : Prop :=
  ∀ (hw : Nat → Nat) (w : World) (vs us : List Value) (xs ys : List PV) (off : Nat) (b : Bool), ArgsRep hw w vs xs → ArgsRep hw w us ys → eqCells sh ((xs.drop off).take sh.length) ((ys.drop off).take sh.length) = some b →
    ∃ p q, (part T vs.toArray off).run P w = .ok p w ∧ (part T us.toArray off).run P w = .ok q w ∧ (Op.equalIn D T p q).run P w = .ok b w
theorem eqFields_deep {D : Nat} {g : TypeId → List Nat → Bool} (hg : ∀ T sh, g T sh = true → DeepOk P D T sh) {vs us : List Value} {xs ys : List PV} (hx : ArgsRep hw w vs xs) (hy : ArgsRep hw w us ys) :
    ∀ {fs : List Field} {sh : List Nat} {i : Nat} {b : Bool}, shF P g fs i sh = true → eqCells sh (xs.drop i) (ys.drop i) = some b → (Op.eqFields D vs.toArray us.toArray fs).run P w = .ok b w
  | [], sh, i, b, hs, h => by
    unfold shF at hs
    cases sh with
    | cons _ _ => simp at hs
    | nil =>
      generalize xs.drop i = l at *
      generalize ys.drop i = m at *
      cases l <;> cases m <;> simp [eqCells] at h
      subst h
      simp [Op.eqFields]
  | f :: fs, sh, i, b, hs, h => by
    unfold shF at hs
    simp only [Bool.and_eq_true] at hs
    obtain ⟨⟨h1, h2⟩, h3⟩ := hs
    have hname : f.name ≠ "_" := by simpa using h1
    have hoff := Nat.eq_of_beq_eq_true h2
    split at h3
    · rename_i inf hinf
      simp only [Bool.and_eq_true] at h3
      obtain ⟨⟨h4, h5⟩, h6⟩ := h3
      have hle := Nat.le_of_ble_eq_true h4
      obtain ⟨b1, b2, e1, e2, rfl⟩ := eqCells_split hle h
      have hl : (sh.take inf.size).length = inf.size := by simp; omega
      obtain ⟨p, q, p1, p2, p3⟩ := hg _ _ h5 hw w vs us xs ys i b1 hx hy (by rw [hl]; exact e1)
      rw [List.drop_drop, List.drop_drop] at e2
      unfold Op.eqFields
      rw [if_pos hname, hoff]
      simp only [Sem.run_bind, p1, p2, p3, Result.andThen_ok]
      cases b1 with
      | false => rfl
      | true =>
        simp only [Bool.not_true, Bool.false_eq_true, if_false]
        rw [eqFields_deep hg hx hy h6 e2]
        rfl
    · exact absurd h3 (by simp)
theorem eqItems_deep {D : Nat} {T : TypeId} {s : Nat} {g : List Nat → Bool} (hg : ∀ sh, g sh = true → DeepOk P D T sh) {vs us : List Value} {xs ys : List PV} (hx : ArgsRep hw w vs xs) (hy : ArgsRep hw w us ys) :
    ∀ {n : Nat} {sh : List Nat} {i : Nat} {b : Bool}, shA g s n sh = true → eqCells sh (xs.drop (i * s)) (ys.drop (i * s)) = some b → (Op.eqItems D T s vs.toArray us.toArray (List.range' i n)).run P w = .ok b w
  | 0, sh, i, b, hs, h => by
    unfold shA at hs
    cases sh with
    | cons _ _ => simp at hs
    | nil =>
      generalize xs.drop (i * s) = l at *
      generalize ys.drop (i * s) = m at *
      cases l <;> cases m <;> simp [eqCells] at h
      subst h
      simp [Op.eqItems]
  | n + 1, sh, i, b, hs, h => by
    unfold shA at hs
    simp only [Bool.and_eq_true] at hs
    obtain ⟨⟨h4, h5⟩, h6⟩ := hs
    have hle := Nat.le_of_ble_eq_true h4
    obtain ⟨b1, b2, e1, e2, rfl⟩ := eqCells_split hle h
    have hl : (sh.take s).length = s := by simp; omega
    obtain ⟨p, q, p1, p2, p3⟩ := hg _ h5 hw w vs us xs ys (i * s) b1 hx hy (by rw [hl]; exact e1)
    rw [List.drop_drop, List.drop_drop] at e2
    rw [List.range'_succ]
    unfold Op.eqItems
    simp only [Sem.run_bind, p1, p2, p3, Result.andThen_ok]
    cases b1 with
    | false => rfl
    | true =>
      simp only [Bool.not_true, Bool.false_eq_true, if_false]
      rw [eqItems_deep hg hx hy (i := i + 1) h6 (by rw [Nat.succ_mul]; exact e2)]
      rfl
theorem part_agg {T : TypeId} {i : TypeInfo} (hi : P.info? T = some i) (ha : (isAgg T).run P w = .ok true w) (vs : List Value) (off : Nat) : (part T vs.toArray off).run P w = .ok (.agg ((vs.drop off).take i.size).toArray) w := by
  unfold part
  have hs : (sizeOf T).run P w = .ok i.size w := by simp [sizeOf, typeInfo, hi]
  rw [Sem.run_bind, ha, Result.andThen_ok, if_pos rfl, Sem.run_bind, hs, Result.andThen_ok]
  have e : vs.toArray.extract off (off + i.size) = ((vs.drop off).take i.size).toArray := by
    apply Array.ext'
    simp [Nat.add_sub_cancel_left]
  rw [e]
  rfl
theorem eq1_int {x y : PV} {b : Bool} (h : eqCells [0] [x] [y] = some b) : ∃ k a a', x = .v (.int k a) ∧ y = .v (.int k a') ∧ (a == a') = b := by
  cases x with
  | v vx => cases vx with
    | int k a => cases y with
      | v vy => cases vy with
        | int k' a' =>
          simp only [eqCells, Bool.and_true] at h
          cases hk : decide (k = k') with
          | false => rw [hk] at h; exact absurd h (by simp)
          | true =>
            rw [hk] at h
            have := of_decide_eq_true hk
            subst this
            exact ⟨k, a, a', rfl, rfl, Option.some.inj h⟩
        | _ => simp [eqCells] at h
      | _ => simp [eqCells] at h
    | _ => simp [eqCells] at h
  | _ => simp [eqCells] at h
theorem eq1_bool {x y : PV} {b : Bool} (h : eqCells [1] [x] [y] = some b) : ∃ a a', x = .v (.bool a) ∧ y = .v (.bool a') ∧ (a == a') = b := by
  cases x with
  | v vx => cases vx with
    | bool a => cases y with
      | v vy => cases vy with
        | bool a' =>
          simp only [eqCells, Bool.and_true] at h
          exact ⟨a, a', rfl, rfl, Option.some.inj h⟩
        | _ => simp [eqCells] at h
      | _ => simp [eqCells] at h
    | _ => simp [eqCells] at h
  | _ => simp [eqCells] at h
theorem eq1_str {x y : PV} {b : Bool} (h : eqCells [2] [x] [y] = some b) : ∃ a a', x = .str a ∧ y = .str a' ∧ (a == a') = b := by
  cases x with
  | str a => cases y with
    | str a' =>
      simp only [eqCells, Bool.and_true] at h
      exact ⟨a, a', rfl, rfl, Option.some.inj h⟩
    | _ => simp [eqCells] at h
  | _ => simp [eqCells] at h
theorem eq1_cx {x y : PV} {b : Bool} (h : eqCells [3] [x] [y] = some b) : ∃ k a c a' c', x = .v (.complex k a c) ∧ y = .v (.complex k a' c') ∧ (Op.floatEq k a a' && Op.floatEq k c c') = b := by
  cases x with
  | v vx => cases vx with
    | complex k a c => cases y with
      | v vy => cases vy with
        | complex k' a' c' =>
          simp only [eqCells, Bool.and_true] at h
          cases hk : decide (k = k') with
          | false => rw [hk] at h; exact absurd h (by simp)
          | true =>
            rw [hk] at h
            have := of_decide_eq_true hk
            subst this
            exact ⟨k, a, c, a', c', rfl, rfl, Option.some.inj h⟩
        | _ => simp [eqCells] at h
      | _ => simp [eqCells] at h
    | _ => simp [eqCells] at h
  | _ => simp [eqCells] at h
theorem deep_of : ∀ (d : Nat) (T : TypeId) (sh : List Nat), shB P d T sh = true → ∀ D, d ≤ D → DeepOk P D T sh
  | 0, T, sh, h, _, _ => by simp [shB] at h
  | d + 1, T, sh, h, D, hD => by
    intro hw w vs us xs ys off b hx hy he
    obtain ⟨D, rfl⟩ : ∃ D', D = D' + 1 := ⟨D - 1, by omega⟩
    have ih : ∀ T sh, shB P d T sh = true → DeepOk P D T sh := fun T sh hs => deep_of d T sh hs D (by omega)
    have one : ∀ {s : Nat} {ds : TypeDesc}, sh = [s] → P.underlying T = some ds → isPlainD ds = true → ∃ p q x y, vs[off]? = some p ∧ us[off]? = some q ∧ Rep hw w p x ∧ Rep hw w q y ∧ eqCells [s] [x] [y] = some b ∧ (part T vs.toArray off).run P w = .ok p w ∧ (part T us.toArray off).run P w = .ok q w := by
      intro s ds e hu hp
      subst e
      obtain ⟨l1, l2⟩ := eqCells_len he
      simp only [List.length_singleton] at l1 l2 he
      have g1 : off < xs.length := by simp at l1; omega
      have g2 : off < ys.length := by simp at l2; omega
      have k1 : off < vs.length := by rw [hx.len]; exact g1
      have k2 : off < us.length := by rw [hy.len]; exact g2
      have t1 : (xs.drop off).take 1 = [xs[off]] := by rw [List.drop_eq_getElem_cons g1]; rfl
      have t2 : (ys.drop off).take 1 = [ys[off]] := by rw [List.drop_eq_getElem_cons g2]; rfl
      rw [t1, t2] at he
      exact ⟨vs[off], us[off], xs[off], ys[off], List.getElem?_eq_getElem k1, List.getElem?_eq_getElem k2, hx.rep off _ _ (List.getElem?_eq_getElem k1) (List.getElem?_eq_getElem g1), hy.rep off _ _ (List.getElem?_eq_getElem k2) (List.getElem?_eq_getElem g2), he,
        part_plain hu hp (List.getElem?_eq_getElem k1) w, part_plain hu hp (List.getElem?_eq_getElem k2) w⟩
    unfold shB at h
    split at h
    · rename_i k0 hu
      split at h
      · obtain ⟨p, q, x, y, _, _, r1, r2, e, p1, p2⟩ := one rfl hu rfl
        obtain ⟨k, c, c', rfl, rfl, rfl⟩ := eq1_int e
        exact ⟨p, q, p1, p2, by rw [rep_v r1, rep_v r2, run_equalIn_int w D T k k0 c c' hu]⟩
      · exact absurd h (by simp)
    · rename_i hu
      split at h
      · obtain ⟨p, q, x, y, _, _, r1, r2, e, p1, p2⟩ := one rfl hu rfl
        obtain ⟨c, c', rfl, rfl, rfl⟩ := eq1_bool e
        exact ⟨p, q, p1, p2, by rw [rep_v r1, rep_v r2, run_equalIn_bool' w D T c c' hu]⟩
      · exact absurd h (by simp)
    · rename_i hu
      split at h
      · obtain ⟨p, q, x, y, _, _, r1, r2, e, p1, p2⟩ := one rfl hu rfl
        obtain ⟨c, c', rfl, rfl, rfl⟩ := eq1_str e
        exact ⟨p, q, p1, p2, by rw [rep_str r1, rep_str r2, run_equalIn_string w D T _ _ hu, beq_ba]⟩
      · exact absurd h (by simp)
    · rename_i k0 hu
      split at h
      · obtain ⟨p, q, x, y, _, _, r1, r2, e, p1, p2⟩ := one rfl hu rfl
        obtain ⟨k, c1, c2, c1', c2', rfl, rfl, rfl⟩ := eq1_cx e
        exact ⟨p, q, p1, p2, by rw [rep_v r1, rep_v r2]; simp [Op.equalIn, run_underlying hu]⟩
      · exact absurd h (by simp)
    · rename_i fs hu
      simp only [Bool.and_eq_true, Bool.not_eq_true'] at h
      obtain ⟨⟨h1, h2⟩, h3⟩ := h
      split at h1
      · rename_i i hi
        have hsz := Nat.eq_of_beq_eq_true h1
        have ha : (isAgg T).run P w = .ok true w := by simp [isAgg, run_underlying hu]
        have hf : P.fieldsOf T = fs := by simp [Program.fieldsOf, hu]
        refine ⟨_, _, part_agg hi ha vs off, part_agg hi ha us off, ?_⟩
        rw [run_equalIn_struct w D T _ _ (by rw [hf]; exact hu) h2, hf]
        refine eqFields_deep (hw := hw) ih (hx.seg off i.size) (hy.seg off i.size) h3 ?_
        simp only [List.drop_zero]
        rw [hsz]
        exact he
      · exact absurd h1 (by simp)
    · rename_i n e0 hu
      split at h
      · rename_i i j hi hj
        rw [Bool.and_eq_true] at h
        have hsz := Nat.eq_of_beq_eq_true h.1
        have ha : (isAgg T).run P w = .ok true w := by simp [isAgg, run_underlying hu]
        refine ⟨_, _, part_agg hi ha vs off, part_agg hi ha us off, ?_⟩
        have hc : P.cellsOf e0 = j.size := by simp [Program.cellsOf, hj]
        rw [run_equalIn_array w D _ _ hu hj, hc, List.range_eq_range']
        refine eqItems_deep (hw := hw) (fun sh hs => ih e0 sh hs) (hx.seg off i.size) (hy.seg off i.size) h.2 ?_
        simp only [Nat.zero_mul, List.drop_zero]
        rw [hsz]
        exact he
      · exact absurd h (by simp)
    · exact absurd h (by simp)
theorem eqOk_deep {T : TypeId} {sh : List Nat} (hg : P.eqGuardType P.depth T = false) {d : Nat} (hd : Nat.ble d 10000 = true) (ha : ∀ w, (isAgg T).run P w = .ok true w) {i : TypeInfo} (hi : P.info? T = some i) (hn : i.size = sh.length) (hs : shB P d T sh = true) : EqOk P T sh :=
  ⟨hg, fun hw w vs us xs ys b hx hy h => by
    obtain ⟨l1, l2⟩ := eqCells_len h
    obtain ⟨p, q, p1, p2, p3⟩ := deep_of d T sh hs 10000 (Nat.le_of_ble_eq_true hd) hw w vs us xs ys 0 b hx hy (by
      simp only [List.drop_zero]
      rw [List.take_of_length_le (by omega), List.take_of_length_le (by omega)]
      exact h)
    rw [part_agg hi (ha w)] at p1 p2
    simp only [List.drop_zero] at p1 p2
    rw [List.take_of_length_le (by rw [hx.len]; omega)] at p1
    rw [List.take_of_length_le (by rw [hy.len]; omega)] at p2
    injection p1 with p1 _
    injection p2 with p2 _
    subst p1; subst p2
    exact p3⟩
end
end Go.Ev
namespace Go.Ev
open Go.RowKit
section
variable {P : Program}
def FltsOk (P : Program) (l : List (Nat × FloatKind)) : Prop := ∀ T k, lk T l = some k → P.underlying T = some (.float k)
theorem fltsOk_nil : FltsOk P [] := fun T k h => by simp [lk] at h
def IfcsOk (P : Program) (l : List Nat) : Prop := ∀ T, has T l = true → ∃ ms, P.underlying T = some (.interface ms)
theorem ifcsOk_nil : IfcsOk P [] := fun T h => by simp [has] at h
def LibOk (P : Program) (lib : Nat → List PV → Option PV) : Prop := ∀ f args r, lib f args = some r → Con P f args r
theorem libOk_nil : LibOk P (fun _ _ => none) := fun f args r h => absurd h (by simp)
end
end Go.Ev
namespace Go.Ev
open Go.RowKit
section
variable {P : Program} {W : World}
end
end Go.Ev
namespace Go.Ev
open Go Go.RowKit Go.Shelf Go.Proofs
section
variable {P : Program} {ρ : Ren}
def CCsOk (P : Program) (l : List Nat) : Prop := ∀ f, has f l = true → CCOk P f
theorem ccsOk_nil : CCsOk P [] := fun f h => by simp [has] at h
def BStrsOk (P : Program) (l : List (Nat × Nat)) : Prop := ∀ f e, lk f l = some e → BStrOk P f e ∧ ∃ i, P.info? e = some i ∧ i.size = 1
theorem bstrsOk_nil : BStrsOk P [] := fun f e h => by simp [lk] at h
end
end Go.Ev
namespace Go.Ev
open Go.RowKit
section
variable {P : Program}
end
end Go.Ev
namespace Go.Ev
open Go.RowKit
def alls : List Prop → Prop → Prop
  | [], X => X
  | p :: r, X => p ∧ alls r X
def AllP (l : List Prop) : Prop := ∀ p ∈ l, p
theorem alls_get : ∀ {l : List Prop} {X : Prop}, alls l X → AllP l ∧ X
  | [], _, h => ⟨fun _ h => absurd h (by simp), h⟩
  | p :: r, _, h => ⟨fun q hq => by rcases List.mem_cons.1 hq with e | hq; exact e ▸ h.1; exact (alls_get h.2).1 q hq, (alls_get h.2).2⟩
section forces
universe u
variable {α : Sort u}
def sVal (v : Value) (k : Value → α) : α := match v with
  | .int kd i => k (.int kd i)
  | .bool b => k (.bool b)
  | .complex kd a b => k (.complex kd a b)
  | .float kd a => k (.float kd a)
  | x => k x
theorem sVal_eq (v : Value) (k : Value → α) : sVal v k = k v := by cases v <;> rfl
def sCell (x : PV) (k : PV → α) : α := match x with
  | .v x => sVal x fun x => k (.v x)
  | x => k x
theorem sCell_eq (x : PV) (k : PV → α) : sCell x k = k x := by cases x <;> simp only [sCell, sVal_eq]
def sCells : List PV → (List PV → α) → α
  | [], k => k []
  | x :: r, k => sCell x fun x => sCells r fun r => k (x :: r)
theorem sCells_eq : ∀ (l : List PV) (k : List PV → α), sCells l k = k l
  | [], _ => rfl
  | x :: r, k => by simp only [sCells, sCell_eq]; rw [sCells_eq r]
def sPart (x : PV) (k : PV → α) : α := match x with
  | .v x => sVal x fun x => k (.v x)
  | .agg cs => sCells cs fun cs => k (.agg cs)
  | x => k x
theorem sPart_eq (x : PV) (k : PV → α) : sPart x k = k x := by cases x <;> simp only [sPart, sVal_eq, sCells_eq]
def sParts : List PV → (List PV → α) → α
  | [], k => k []
  | x :: r, k => sPart x fun x => sParts r fun r => k (x :: r)
theorem sParts_eq : ∀ (l : List PV) (k : List PV → α), sParts l k = k l
  | [], _ => rfl
  | x :: r, k => by simp only [sParts, sPart_eq]; rw [sParts_eq r]
def sPV (x : PV) (k : PV → α) : α := match x with
  | .v x => sVal x fun x => k (.v x)
  | .agg cs => sCells cs fun cs => k (.agg cs)
  | .tup cs => sParts cs fun cs => k (.tup cs)
  | .lptr cs off => sCells cs fun cs => k (.lptr cs off)
  | .bld u => fB u fun u => k (.bld u)
  | .bp b off => fN b fun b => fN off fun off => k (.bp b off)
  | .bs b off n s => fN b fun b => fN off fun off => fN n fun n => fN s fun s => k (.bs b off n s)
  | .str l => k (.str l)
  | .nil => k .nil
  | .lst xs => k (.lst xs)
  | .fn f cs => fN f fun f => k (.fn f cs)
theorem sPV_eq (x : PV) (k : PV → α) : sPV x k = k x := by cases x <;> simp only [sPV, sVal_eq, sCells_eq, sParts_eq, fN_eq, fB_eq]
def sAV (a : AV) (k : AV → α) : α := match a with
  | .p x => sPV x fun x => k (.p x)
  | .ptr b off => fN b fun b => k (.ptr b off)
  | .fnp f bs => fN f fun f => fNs bs fun bs => k (.fnp f bs)
  | .sl b off n s => fN b fun b => fN s fun s => k (.sl b off n s)
theorem sAV_eq (x : AV) (k : AV → α) : sAV x k = k x := by cases x <;> simp only [sAV, sPV_eq, fN_eq, fNs_eq]
def sTmA : List (Nat × AV) → (List (Nat × AV) → α) → α
  | [], k => k []
  | (t, v) :: r, k => fN t fun t => sAV v fun v => sTmA r fun r => k ((t, v) :: r)
theorem sTmA_eq : ∀ (l : List (Nat × AV)) (k : List (Nat × AV) → α), sTmA l k = k l
  | [], _ => rfl
  | (t, v) :: r, k => by simp only [sTmA, fN_eq, sAV_eq]; rw [sTmA_eq r]
def slB : List (Nat × AV) → List Nat
  | [] => []
  | (_, v) :: r => match v with
    | .sl b _ _ _ => b :: slB r
    | _ => slB r
def sCellsK (sk : Bool) (l : List PV) (k : List PV → α) : α := bif sk then k l else sCells l k
theorem sCellsK_eq (sk : Bool) (l : List PV) (k : List PV → α) : sCellsK sk l k = k l := by cases sk <;> simp only [sCellsK, cond_true, cond_false, sCells_eq]
def sBxA (sk : List Nat) : List (Nat × List PV) → (List (Nat × List PV) → α) → α
  | [], k => k []
  | (t, v) :: r, k => fN t fun t => sCellsK (has t sk) v fun v => sBxA sk r fun r => k ((t, v) :: r)
theorem sBxA_eq (sk : List Nat) : ∀ (l : List (Nat × List PV)) (k : List (Nat × List PV) → α), sBxA sk l k = k l
  | [], _ => rfl
  | (t, v) :: r, k => by simp only [sBxA, fN_eq, sCellsK_eq]; rw [sBxA_eq sk r]
def sTm1 (l : List (Nat × AV)) (k : List (Nat × AV) → α) : α := match l with
  | [] => k []
  | (t, v) :: r => fN t fun t => sAV v fun v => fTop r fun r => k ((t, v) :: r)
theorem sTm1_eq (l : List (Nat × AV)) (k : List (Nat × AV) → α) : sTm1 l k = k l := by
  cases l <;> simp only [sTm1, fN_eq, sAV_eq, fTop_eq]
def sBx1 (sk : List Nat) (l : List (Nat × List PV)) (k : List (Nat × List PV) → α) : α := match l with
  | [] => k []
  | (t, v) :: r => fN t fun t => sCellsK (has t sk) v fun v => fTop r fun r => k ((t, v) :: r)
theorem sBx1_eq (sk : List Nat) (l : List (Nat × List PV)) (k : List (Nat × List PV) → α) : sBx1 sk l k = k l := by
  cases l <;> simp only [sBx1, fN_eq, sCellsK_eq, fTop_eq]
def sStA (σ : St) (k : St → α) : α := match σ with
  | ⟨n, tm, bx, ro, ow, al⟩ => fN n fun n => sTmA tm fun tm => sBxA (slB tm) bx fun bx => fNs ro fun ro => fOw ow fun ow => fAl al fun al => k ⟨n, tm, bx, ro, ow, al⟩
theorem sStA_eq (σ : St) (k : St → α) : sStA σ k = k σ := by cases σ; simp only [sStA, fN_eq, sTmA_eq, sBxA_eq, fNs_eq, fOw_eq, fAl_eq]
def sAVs (a : AV) (k : AV → α) : α := match a with
  | .ptr b off => fN b fun b => k (.ptr b off)
  | .sl b off n s => fN b fun b => fN s fun s => k (.sl b off n s)
  | .p x => fAVs (.p x) k
  | .fnp f bs => fAVs (.fnp f bs) k
theorem sAVs_eq (a : AV) (k : AV → α) : sAVs a k = k a := by cases a <;> simp only [sAVs, fN_eq, fAVs_eq]
def sTmS : List (Nat × AV) → (List (Nat × AV) → α) → α
  | [], k => k []
  | (t, v) :: r, k => fN t fun t => sAVs v fun v => sTmS r fun r => k ((t, v) :: r)
theorem sTmS_eq : ∀ (l : List (Nat × AV)) (k : List (Nat × AV) → α), sTmS l k = k l
  | [], _ => rfl
  | (t, v) :: r, k => by simp only [sTmS, fN_eq, sAVs_eq]; rw [sTmS_eq r]
def sStS (σ : St) (k : St → α) : α := match σ with
  | ⟨n, tm, bx, ro, ow, al⟩ => fN n fun n => sTmS tm fun tm => fBxS bx fun bx => fNs ro fun ro => fOw ow fun ow => fAl al fun al => k ⟨n, tm, bx, ro, ow, al⟩
theorem sStS_eq (σ : St) (k : St → α) : sStS σ k = k σ := by cases σ; simp only [sStS, fN_eq, sTmS_eq, fBxS_eq, fNs_eq, fOw_eq, fAl_eq]
def sSt1 (mem : Bool) (σ : St) (k : St → α) : α := match σ with
  | ⟨n, tm, bx, ro, ow, al⟩ => fN n fun n => sTm1 tm fun tm => (bif mem then sBx1 (slB tm) bx else fTop bx) fun bx => fTop ro fun ro => fOw ow fun ow => fAl al fun al => k ⟨n, tm, bx, ro, ow, al⟩
theorem sSt1_eq (mem : Bool) (σ : St) (k : St → α) : sSt1 mem σ k = k σ := by
  cases σ; cases mem <;> simp only [sSt1, fN_eq, sTm1_eq, cond_true, cond_false, sBx1_eq, fTop_eq, fOw_eq, fAl_eq]
def sEn (e : En) (k : En → α) : α := match e with
  | ⟨i, tm, bx, ln⟩ => fN i fun i =>
    (match tm with
     | none => fun (k : Option (Nat × AV) → α) => k none
     | some (t, v) => fun k => fN t fun t => sAV v fun v => k (some (t, v))) fun tm =>
    (match bx with
     | none => fun (k : Option (Nat × List PV) → α) => k none
     | some (t, v) => fun k => fN t fun t => sCells v fun v => k (some (t, v))) fun bx =>
    (match ln with
     | none => fun (k : Option (Nat × Loc) → α) => k none
     | some (t, v) => fun k => fN t fun t => fLoc v fun v => k (some (t, v))) fun ln => k ⟨i, tm, bx, ln⟩
theorem sEn_eq (e : En) (k : En → α) : sEn e k = k e := by
  obtain ⟨i, tm, bx, ln⟩ := e
  rcases tm with _ | ⟨t, v⟩ <;> rcases bx with _ | ⟨b, cs⟩ <;> rcases ln with _ | ⟨l, x⟩ <;> simp only [sEn, fN_eq, sAV_eq, sCells_eq, fLoc_eq]
end forces
abbrev RSy := Nat → St → Oper → Option (Res × List Prop)
abbrev TSy := Nat → St → Oper → Option (St × List Prop)
def isGd (ops : List Oper) (j : Nat) : Bool := ops.any fun o => match o.guard with
  | some (i, _) => Nat.beq i j
  | none => false
def splitE (gd : Bool) (e : En) (K : En → Prop) : Prop := match gd with
  | false => K e
  | true => match e with
    | ⟨i, some (d, .p (.v (.bool h))), bx, ln⟩ => (match h with
      | true => K ⟨i, some (d, .p (.v (.bool true))), bx, ln⟩
      | false => K ⟨i, some (d, .p (.v (.bool false))), bx, ln⟩)
    | e => K e
theorem splitE_get {gd : Bool} {e : En} {K : En → Prop} (h : splitE gd e K) : K e := by
  cases gd with
  | false => exact h
  | true =>
    unfold splitE at h
    simp only at h
    split at h
    · split at h <;> exact h
    · exact h
def splitS (gd : Bool) (σ : St) (K : St → Prop) : Prop := match gd with
  | false => K σ
  | true => match σ with
    | ⟨n, (d, .p (.v (.bool h))) :: r, bx, ro, ow, al⟩ => (match h with
      | true => K ⟨n, (d, .p (.v (.bool true))) :: r, bx, ro, ow, al⟩
      | false => K ⟨n, (d, .p (.v (.bool false))) :: r, bx, ro, ow, al⟩)
    | σ => K σ
theorem splitS_get {gd : Bool} {σ : St} {K : St → Prop} (h : splitS gd σ K) : K σ := by
  cases gd with
  | false => exact h
  | true =>
    unfold splitS at h
    simp only at h
    split at h
    · split at h <;> exact h
    · exact h
def guardK (σ : St) (ops : List Oper) (o : Oper) (run skip : Prop) : Prop :=
  match evGuard σ ops o with
  | some true => run
  | some false => skip
  | none => False
theorem guardK_get {σ : St} {ops : List Oper} {o : Oper} {run skip : Prop} (h : guardK σ ops o run skip) : (evGuard σ ops o = some true ∧ run) ∨ (evGuard σ ops o = some false ∧ skip) := by
  unfold guardK at h
  split at h
  · exact .inl ⟨by assumption, h⟩
  · exact .inr ⟨by assumption, h⟩
  · exact h.elim
def tailsK (T : TSy) (ops : List Oper) : List Oper → Nat → St → (St → Prop) → Prop
  | [], _, σ, K => K σ
  | o :: r, j, σ, K => guardK σ ops o
      (match T j σ o with
       | some (σ1, ps) => alls ps (sSt1 (isMem o.op) σ1 fun σ1 => splitS (isGd ops j) σ1 fun σ1 => tailsK T ops r (j + 1) σ1 K)
       | none => False)
      (match o.dst with
       | some d => sSt1 false (skipT σ d) fun σ => tailsK T ops r (j + 1) σ K
       | none => tailsK T ops r (j + 1) σ K)
def TSub (T : TSy) (T0 : Nat → St → Oper → Option St) : Prop := ∀ j σ o σ1 ps, T j σ o = some (σ1, ps) → AllP ps → T0 j σ o = some σ1
def RSub (R : RSy) (R0 : Nat → St → Oper → Option Res) : Prop := ∀ j τ o r ps, R j τ o = some (r, ps) → AllP ps → R0 j τ o = some r
theorem tailsK_get {T : TSy} {T0 : Nat → St → Oper → Option St} (hT : TSub T T0) {ops : List Oper} {K : St → Prop} : ∀ {l : List Oper} {j : Nat} {σ : St}, tailsK T ops l j σ K → ∃ σ', K σ' ∧ tails T0 ops l j σ = some σ'
  | [], j, σ, h => ⟨σ, h, rfl⟩
  | o :: r, j, σ, h => by
    unfold tailsK at h
    unfold tails
    rcases guardK_get h with ⟨hg, h⟩ | ⟨hg, h⟩
    · rw [hg]
      split at h
      · rename_i σ1 ps h1
        obtain ⟨h2, h3⟩ := alls_get h
        rw [sSt1_eq] at h3
        obtain ⟨σ', h4, h5⟩ := tailsK_get hT (splitS_get h3)
        exact ⟨σ', h4, by simp only [hT _ _ _ _ _ h1 h2]; exact h5⟩
      · exact h.elim
    · rw [hg]
      split at h
      · rename_i d hd
        rw [sSt1_eq] at h
        obtain ⟨σ', h4, h5⟩ := tailsK_get hT h
        exact ⟨σ', h4, by simp only [hd]; exact h5⟩
      · rename_i hd
        obtain ⟨σ', h4, h5⟩ := tailsK_get hT h
        exact ⟨σ', h4, by simp only [hd]; exact h5⟩
def freeOpK (Γ : List (Nat × Ty)) (R : RSy) (ops : List Oper) (cls : List Nat) (ws : List (Nat × Nat)) (D Src : List Nat) (β : St) (A : List En) (j : Nat) (o : Oper) (K : En → Prop) : Prop :=
  sStS (tau ws cls A β j (nthN cls j) (looksOf ops o)) fun τ =>
  guardK τ ops o
    (match o.op, o.dst with
     | .store T p x, none => match evStore Γ τ T p x with
       | some σ' => match σ'.boxes with
         | (b, cs) :: _ => bif memB j b ws && srcOk Src x then K ⟨j, none, some (b, cs), none⟩ else False
         | [] => False
       | none => False
     | _, some d => match R j τ o with
       | some (r, ps) => alls ps (match r.box with
         | none => K ⟨j, some (d, r.av), none, lnOf D ws d r.link⟩
         | some cs => bif memB j d ws && isNone (lk d β.boxes) && ws.all (fun (s, b) => !(Nat.beq b d) || Nat.ble j s) then K ⟨j, some (d, r.av), some (d, cs), lnOf D ws d r.link⟩ else False)
       | none => False
     | _, none => match R j τ o with
       | some (r, ps) => alls ps (bif isNone r.box then K ⟨j, none, none, none⟩ else False)
       | none => False)
    (K ⟨j, skE τ.n o.dst, none, none⟩)
theorem freeOpK_get {Γ : List (Nat × Ty)} {R : RSy} {R0 : Nat → St → Oper → Option Res} (hR : RSub R R0) {ops : List Oper} {cls : List Nat} {ws : List (Nat × Nat)} {D Src : List Nat} {β : St} {A : List En} {j : Nat} {o : Oper} {K : En → Prop}
    (h : freeOpK Γ R ops cls ws D Src β A j o K) : ∃ e, K e ∧ freeOp Γ R0 ops cls ws D Src β A j o = some e := by
  unfold freeOpK at h
  rw [sStS_eq] at h
  unfold freeOp
  simp only
  generalize tau ws cls A β j (nthN cls j) (looksOf ops o) = τ at h ⊢
  have key1 : ∀ (o : Oper) (d : Nat), (match R j τ o with
       | some (r, ps) => alls ps (match r.box with
         | none => K ⟨j, some (d, r.av), none, lnOf D ws d r.link⟩
         | some cs => bif memB j d ws && isNone (lk d β.boxes) && ws.all (fun (s, b) => !(Nat.beq b d) || Nat.ble j s) then K ⟨j, some (d, r.av), some (d, cs), lnOf D ws d r.link⟩ else False)
       | none => False) → ∃ e, K e ∧ (match R0 j τ o with
      | some r => match r.box with
        | none => some (⟨j, some (d, r.av), none, lnOf D ws d r.link⟩ : En)
        | some cs => bif memB j d ws && isNone (lk d β.boxes) && ws.all (fun (s, b) => !(Nat.beq b d) || Nat.ble j s) then some ⟨j, some (d, r.av), some (d, cs), lnOf D ws d r.link⟩ else none
      | none => none) = some e := by
    intro o d h
    split at h
    · rename_i r ps h1
      obtain ⟨h2, h3⟩ := alls_get h
      have hr := hR _ _ _ _ _ h1 h2
      simp only [hr]
      split at h3
      · exact ⟨_, h3, rfl⟩
      · rename_i cs hbx
        cases hb : (memB j d ws && isNone (lk d β.boxes) && ws.all (fun (s, b) => !(Nat.beq b d) || Nat.ble j s)) with
        | false => rw [hb] at h3; exact h3.elim
        | true =>
          rw [hb] at h3
          exact ⟨_, h3, rfl⟩
    · exact h.elim
  have key0 : ∀ (o : Oper), (match R j τ o with
       | some (r, ps) => alls ps (bif isNone r.box then K ⟨j, none, none, none⟩ else False)
       | none => False) → ∃ e, K e ∧ (match R0 j τ o with
      | some r => bif isNone r.box then some (⟨j, none, none, none⟩ : En) else none
      | none => none) = some e := by
    intro o h
    split at h
    · rename_i r ps h1
      obtain ⟨h2, h3⟩ := alls_get h
      have hr := hR _ _ _ _ _ h1 h2
      simp only [hr]
      cases hb : isNone r.box with
      | false => rw [hb] at h3; exact h3.elim
      | true =>
        rw [hb] at h3
        exact ⟨_, h3, rfl⟩
    · exact h.elim
  rcases guardK_get h with ⟨hg, h⟩ | ⟨hg, h⟩
  · simp only [hg]
    clear hg
    obtain ⟨dst, op, type, pos, after, guard⟩ := o
    cases op with
    | store T p x =>
      cases dst with
      | some d => exact key1 _ d h
      | none =>
        simp only at h ⊢
        split at h
        · rename_i σ' hs
          simp only [hs]
          split at h
          · rename_i b cs _ hbx
            simp only [hbx]
            cases hb : (memB j b ws && srcOk Src x) with
            | false => rw [hb] at h; exact h.elim
            | true =>
              rw [hb] at h
              exact ⟨_, h, rfl⟩
          · exact h.elim
        · exact h.elim
    | _ =>
      cases dst with
      | some d => exact key1 _ d h
      | none => exact key0 _ h
  · simp only [hg]
    exact ⟨_, h, rfl⟩
def freesK (Γ : List (Nat × Ty)) (R : RSy) (ops : List Oper) (cls : List Nat) (ws : List (Nat × Nat)) (D Src : List Nat) (β : St) : List Oper → Nat → List En → (List En → Prop) → Prop
  | [], _, A, K => K A
  | o :: r, j, A, K => freeOpK Γ R ops cls ws D Src β A j o fun e => sEn e fun e => splitE (isGd ops j) e fun e => freesK Γ R ops cls ws D Src β r (j + 1) (e :: A) K
theorem freesK_get {Γ : List (Nat × Ty)} {R : RSy} {R0 : Nat → St → Oper → Option Res} (hR : RSub R R0) {ops : List Oper} {cls : List Nat} {ws : List (Nat × Nat)} {D Src : List Nat} {β : St} {K : List En → Prop} : ∀ {l : List Oper} {j : Nat} {A : List En},
    freesK Γ R ops cls ws D Src β l j A K → ∃ A', K A' ∧ frees Γ R0 ops cls ws D Src β l j A = some A'
  | [], j, A, h => ⟨A, h, rfl⟩
  | o :: r, j, A, h => by
    unfold freesK at h
    obtain ⟨e, h1, h2⟩ := freeOpK_get hR h
    rw [sEn_eq] at h1
    obtain ⟨A', h3, h4⟩ := freesK_get hR (splitE_get h1)
    exact ⟨A', h3, by unfold frees; rw [h2]; exact h4⟩
def evDrawK (Γ : List (Nat × Ty)) (R : RSy) (T : TSy) (ops : List Oper) (σ : St) (ws : List (Nat × Nat)) (K : St → Prop) : Prop :=
  fNs (clsOf ops []) fun cls => fN (tailFrom cls ops.length) fun k => fNs (dstsOf (ops.take k)) fun D => fNs (srcsOf (ops.take k)) fun Src => fWs ws fun ws =>
  bif depsOk ops 0 && nodupB D && ordW cls ws then
    sStS (clearD D Src ws σ) fun β => freesK Γ R ops cls ws D Src β (ops.take k) 0 [] fun A => sStS (finSt β A) fun σ => tailsK T ops (ops.drop k) k σ K
  else False
def evRegK (Γ : List (Nat × Ty)) (R : RSy) (T : TSy) (ops : Array Oper) (d : Bool) (σ : St) (K : St → Prop) : Prop :=
  match d with
  | true => let l := ops.toList
    evDrawK Γ R T l σ (wsOf l σ (l.take (tailFrom (clsOf l []) l.length)) 0) K
  | false => tailsK T ops.toList ops.toList 0 σ K
theorem evRegK_get {Γ : List (Nat × Ty)} {R : RSy} {R0 : Nat → St → Oper → Option Res} (hR : RSub R R0) {T : TSy} {T0 : Nat → St → Oper → Option St} (hT : TSub T T0) {ops : Array Oper} {d : Bool} {σ : St} {K : St → Prop}
    (h : evRegK Γ R T ops d σ K) : ∃ σ', K σ' ∧ evReg Γ R0 T0 ops d σ = some σ' := by
  cases d with
  | false => exact tailsK_get hT h
  | true =>
    simp only [evRegK, evDrawK, fNs_eq, fN_eq, fWs_eq, sStS_eq] at h
    simp only [evReg, evDraw]
    cases hb : (depsOk ops.toList 0 && nodupB (dstsOf (ops.toList.take (tailFrom (clsOf ops.toList []) ops.toList.length))) && ordW (clsOf ops.toList []) (wsOf ops.toList σ (ops.toList.take (tailFrom (clsOf ops.toList []) ops.toList.length)) 0)) with
    | false => rw [hb] at h; exact h.elim
    | true =>
      rw [hb] at h
      simp only [cond_true] at h ⊢
      obtain ⟨A, h1, h2⟩ := freesK_get hR h
      obtain ⟨σ', h3, h4⟩ := tailsK_get hT h1
      exact ⟨σ', h3, by rw [h2]; exact h4⟩
def idOf : Code → Nat
  | .region id _ _ => id + 1
  | .seq x y => match idOf x with
    | 0 => idOf y
    | k => k
  | .cond _ x y => match idOf x with
    | 0 => idOf y
    | k => k
  | .block _ c => idOf c
  | .loop c => idOf c
  | .scope c => idOf c
  | _ => 0
def loopsOf : Code → List Code
  | .seq x y => loopsOf x ++ loopsOf y
  | .cond _ x y => loopsOf x ++ loopsOf y
  | .block _ c => loopsOf c
  | .loop c => c :: loopsOf c
  | .scope c => loopsOf c
  | _ => []
theorem loops_label : ∀ {s : Code} {l : Nat} {rest : Code}, findLabel s l = some rest → ∀ b ∈ loopsOf rest, b ∈ loopsOf s
  | .seq x y, l, rest, h, b, hb => by
    unfold findLabel at h
    split at h
    · rename_i r1 h1
      have := Option.some.inj h
      subst this
      simp only [loopsOf, List.mem_append] at hb ⊢
      rcases hb with hb | hb
      · exact .inl (loops_label h1 b hb)
      · exact .inr hb
    · simp only [loopsOf, List.mem_append]
      exact .inr (loops_label h b hb)
  | .label k, l, rest, h, b, hb => by
    unfold findLabel at h
    split at h
    · have := Option.some.inj h
      subst this
      exact absurd hb (by simp [loopsOf])
    · exact absurd h (by simp)
  | .skip, _, _, h, _, _ => absurd h (by simp [findLabel])
  | .region _ _ _, _, _, h, _, _ => absurd h (by simp [findLabel])
  | .cond _ _ _, _, _, h, _, _ => absurd h (by simp [findLabel])
  | .block _ _, _, _, h, _, _ => absurd h (by simp [findLabel])
  | .loop _, _, _, h, _, _ => absurd h (by simp [findLabel])
  | .rangeFunc _ _ _ _, _, _, h, _, _ => absurd h (by simp [findLabel])
  | .exit _, _, _, h, _, _ => absurd h (by simp [findLabel])
  | .scope _, _, _, h, _, _ => absurd h (by simp [findLabel])
  | .goto _, _, _, h, _, _ => absurd h (by simp [findLabel])
  | .ret, _, _, h, _, _ => absurd h (by simp [findLabel])
  | .refuse _, _, _, h, _, _ => absurd h (by simp [findLabel])
abbrev LSum := St → (Ex → St → Prop) → Prop
def LsOk (P : Program) (b : Code) (S : LSum) : Prop := ∀ σ K, S σ K → ∃ e σ', K e σ' ∧ Tri P (.loop b) σ e σ'
def sxCode (Γ : List (Nat × Ty)) (R : RSy) (T : TSy) (LS : List (Nat × LSum)) : Nat → Option Code → Code → St → (Ex → St → Prop) → Prop
  | 0, _, _, _, _ => False
  | n + 1, some s, c, σ, K => sStS (clean (newsOf s) σ) fun σ => sxCode Γ R T LS n none c σ fun e σ1 => match e with
    | .goto l => match findLabel s l with
      | some rest => sxCode Γ R T LS n (some s) rest σ1 K
      | none => False
    | e => K e σ1
  | n + 1, none, c, σ, K => match c with
    | .scope s => sxCode Γ R T LS n (some s) s σ K
    | .skip => K .normal σ
    | .label _ => K .normal σ
    | .exit i => K (.exit i) σ
    | .goto i => K (.goto i) σ
    | .ret => K .ret σ
    | .region _ ops d => evRegK Γ R T ops d σ fun σ' => K .normal σ'
    | .seq x y => sxCode Γ R T LS n none x σ fun e σ1 => match e with
      | .normal => sxCode Γ R T LS n none y σ1 K
      | e => K e σ1
    | .cond c x y => match pvOf σ c with
      | some (.v (.bool b)) => (match b with
        | true => sxCode Γ R T LS n none x σ K
        | false => sxCode Γ R T LS n none y σ K)
      | _ => False
    | .block id c => sxCode Γ R T LS n none c σ fun e σ1 => match e with
      | .exit i => (match Nat.beq i id with
        | true => K .normal σ1
        | false => K (.exit i) σ1)
      | e => K e σ1
    | .loop c => match lk (idOf c) LS with
      | some S => S σ fun e σ1 => sStA σ1 fun σ1 => K e σ1
      | none => sStS (clean (newsOf c) σ) fun σ => sxCode Γ R T LS n none c σ fun e σ1 => match e with
        | .normal => sxCode Γ R T LS n none (.loop c) σ1 K
        | e => K e σ1
    | _ => False
section
variable {P : Program} {B : Nat} {g : G} {σ τ : St} {a : Act} {w : World}
theorem sxCode_sound {Γ : List (Nat × Ty)} (hΓ : TyOk P Γ) (hm : P.follows .mixedOrders = true) {R : RSy} {R0 : Nat → St → Oper → Option Res} (hRS : RSub R R0) (hR : ∀ j τ o r, R0 j τ o = some r → QuietOk P τ o r)
    {T : TSy} {T0 : Nat → St → Oper → Option St} (hTS : TSub T T0) (hT : ∀ j σ o σ', T0 j σ o = some σ' → ∀ B g a w, Inv P B g σ a w → Goes P B g σ a w o σ') {LS : List (Nat × LSum)} :
    ∀ (n : Nat), (∀ (c : Code) (σ : St) (K : Ex → St → Prop), (∀ b ∈ loopsOf c, ∀ S, lk (idOf b) LS = some S → LsOk P b S) → sxCode Γ R T LS n none c σ K → ∃ e σ', K e σ' ∧ Tri P c σ e σ' ∧ ∀ b, c = .loop b → lk (idOf b) LS = none → ∃ k, TriL P k b σ e σ') ∧
      ∀ (s c : Code) (σ : St) (K : Ex → St → Prop), (∀ b ∈ loopsOf s, ∀ S, lk (idOf b) LS = some S → LsOk P b S) → (∀ b ∈ loopsOf c, ∀ S, lk (idOf b) LS = some S → LsOk P b S) → sxCode Γ R T LS n (some s) c σ K → ∃ e σ', K e σ' ∧ ∃ k, TriS P s k c σ e σ' := by
  intro n
  induction n with
  | zero => exact ⟨fun c σ K _ h => h.elim, fun s c σ K _ _ h => h.elim⟩
  | succ n ih =>
    refine ⟨?_, fun s c σ K hs hc h => ?_⟩
    rotate_left
    · simp only [sxCode, sStS_eq] at h
      obtain ⟨e, σ1, h1, h2, _⟩ := ih.1 _ _ _ hc h
      have out : (∀ l, e ≠ .goto l) → K e σ1 → ∃ e σ', K e σ' ∧ ∃ k, TriS P s k c σ e σ' := fun hne hk => ⟨e, σ1, hk, 1, triS_out hne (tri_clean h2)⟩
      cases e with
      | goto l =>
        simp only at h1
        split at h1
        · rename_i rest hf
          obtain ⟨e', σ', k1, k, k2⟩ := ih.2 s rest σ1 K hs (fun b hb => hs b (loops_label hf b hb)) h1
          exact ⟨e', σ', k1, k + 1, triS_jump (tri_clean h2) hf k2⟩
        · exact h1.elim
      | normal => exact out (fun l => by simp) h1
      | exit i => exact out (fun l => by simp) h1
      | ret => exact out (fun l => by simp) h1
    intro c σ K hl h
    cases c with
    | skip => exact ⟨_, _, h, fun B g a w hI => wp_skip ⟨trivial, g, hI, Fr.refl⟩, fun b hb => absurd hb (by simp)⟩
    | label l => exact ⟨_, _, h, fun B g a w hI => wp_label ⟨trivial, g, hI, Fr.refl⟩, fun b hb => absurd hb (by simp)⟩
    | exit i => exact ⟨_, _, h, fun B g a w hI => wp_exit ⟨rfl, g, hI, Fr.refl⟩, fun b hb => absurd hb (by simp)⟩
    | goto i => exact ⟨_, _, h, fun B g a w hI => wp_goto ⟨rfl, g, hI, Fr.refl⟩, fun b hb => absurd hb (by simp)⟩
    | ret => exact ⟨_, _, h, fun B g a w hI => wp_ret ⟨trivial, g, hI, Fr.refl⟩, fun b hb => absurd hb (by simp)⟩
    | region id ops d =>
      obtain ⟨σ', h1, h2⟩ := evRegK_get hRS hTS (K := fun σ' => K .normal σ') h
      exact ⟨_, _, h1, evReg_sound hΓ hm hR hT h2, fun b hb => absurd hb (by simp)⟩
    | seq x y =>
      simp only [sxCode] at h
      obtain ⟨e, σ1, h1, h2, _⟩ := ih.1 x σ _ (fun b hb => hl b (by simp [loopsOf, hb])) h
      have out : e ≠ .normal → K e σ1 → ∃ e σ', K e σ' ∧ Tri P (.seq x y) σ e σ' ∧ ∀ b, Code.seq x y = .loop b → lk (idOf b) LS = none → ∃ k, TriL P k b σ e σ' := fun hne hk => ⟨e, σ1, hk, tri_seq_out hne h2, fun b hb => absurd hb (by simp)⟩
      cases e with
      | normal =>
        obtain ⟨e', σ', k1, k2, _⟩ := ih.1 y σ1 _ (fun b hb => hl b (by simp [loopsOf, hb])) h1
        exact ⟨e', σ', k1, tri_seq h2 k2, fun b hb => absurd hb (by simp)⟩
      | exit i => exact out (by simp) h1
      | goto l => exact out (by simp) h1
      | ret => exact out (by simp) h1
    | cond c x y =>
      simp only [sxCode] at h
      split at h
      · rename_i b hb
        cases b with
        | true =>
          obtain ⟨e, σ1, h1, h2, _⟩ := ih.1 x σ _ (fun b hb => hl b (by simp [loopsOf, hb])) h
          exact ⟨e, σ1, h1, tri_cond hb h2, fun b hb => absurd hb (by simp)⟩
        | false =>
          obtain ⟨e, σ1, h1, h2, _⟩ := ih.1 y σ _ (fun b hb => hl b (by simp [loopsOf, hb])) h
          exact ⟨e, σ1, h1, tri_cond hb h2, fun b hb => absurd hb (by simp)⟩
      · exact h.elim
    | block id c =>
      simp only [sxCode] at h
      obtain ⟨e, σ1, h1, h2, _⟩ := ih.1 c σ _ hl h
      cases e with
      | exit i =>
        have ht := tri_block_exit (id := id) h2
        simp only at h1
        cases hb : Nat.beq i id with
        | true => rw [hb] at h1 ht; exact ⟨_, _, h1, ht, fun b hb => absurd hb (by simp)⟩
        | false => rw [hb] at h1 ht; exact ⟨_, _, h1, ht, fun b hb => absurd hb (by simp)⟩
      | normal => exact ⟨_, _, h1, tri_block h2 (fun i => by simp), fun b hb => absurd hb (by simp)⟩
      | goto l => exact ⟨_, _, h1, tri_block h2 (fun i => by simp), fun b hb => absurd hb (by simp)⟩
      | ret => exact ⟨_, _, h1, tri_block h2 (fun i => by simp), fun b hb => absurd hb (by simp)⟩
    | loop c =>
      simp only [sxCode] at h
      split at h
      · rename_i S hS
        obtain ⟨e, σ1, h1, h2⟩ := hl c (by simp [loopsOf]) S hS _ _ h
        rw [sStA_eq] at h1
        exact ⟨e, σ1, h1, h2, fun b hb hn => by cases hb; rw [hS] at hn; exact absurd hn (by simp)⟩
      · rename_i hS
        rw [sStS_eq] at h
        obtain ⟨e, σ1, h1, h2, _⟩ := ih.1 c _ _ (fun b hb => hl b (by simp [loopsOf, hb])) h
        have out : e ≠ .normal → K e σ1 → ∃ e σ', K e σ' ∧ Tri P (.loop c) σ e σ' ∧ ∀ b, Code.loop c = .loop b → lk (idOf b) LS = none → ∃ k, TriL P k b σ e σ' := fun hne hk =>
          have ht : TriL P 1 c σ e σ1 := triL_out hne (tri_clean h2)
          ⟨e, σ1, hk, tri_loop ht, fun b hb _ => by cases hb; exact ⟨1, ht⟩⟩
        cases e with
        | normal =>
          obtain ⟨e', σ', k1, _, k3⟩ := ih.1 (.loop c) σ1 K hl h1
          obtain ⟨k, k4⟩ := k3 c rfl hS
          have ht : TriL P (k + 1) c σ e' σ' := triL_round (tri_clean h2) k4
          exact ⟨e', σ', k1, tri_loop ht, fun b hb _ => by cases hb; exact ⟨k + 1, ht⟩⟩
        | exit i => exact out (by simp) h1
        | goto l => exact out (by simp) h1
        | ret => exact out (by simp) h1
    | scope c =>
      simp only [sxCode] at h
      obtain ⟨e, σ', h1, k, h2⟩ := ih.2 c c σ K hl hl h
      exact ⟨e, σ', h1, tri_scope h2, fun b hb => absurd hb (by simp)⟩
    | rangeFunc f ps q c => exact (show False from h).elim
    | refuse w => exact (show False from h).elim
end
end Go.Ev
namespace Go.Ev
open Go.RowKit
def intOf : PV → Int
  | .v (.int _ n) => n
  | _ => 0
def boolOf : PV → Bool
  | .v (.bool b) => b
  | _ => false
def strOf : PV → List UInt8
  | .str l => l
  | _ => []
def lstOf : PV → List (List PV)
  | .lst l => l
  | _ => []
def reOf : PV → Nat
  | .v (.complex _ a _) => a
  | _ => 0
def imOf : PV → Nat
  | .v (.complex _ _ b) => b
  | _ => 0
def eta1 (z p : PV) : PV := match z with
  | .v (.int k _) => .v (.int k (intOf p))
  | .v (.bool _) => .v (.bool (boolOf p))
  | .v (.complex k _ _) => .v (.complex k (reOf p) (imOf p))
  | .str _ => .str (strOf p)
  | .nil => .lst (lstOf p)
  | _ => p
def etaL : List PV → List PV → List PV
  | [], _ => []
  | z :: zs, ps => eta1 z (ps.headD .nil) :: etaL zs ps.tail
def fltS (op : BinOp) (x y : Value) : Option (Value × List Prop) :=
  match x, y with
  | .float k a, .float k' b => bif decide (k = k') then (match op with
    | .eql => some (.bool (k.format.order a b == some .eq), [])
    | .neq => some (.bool (k.format.order a b != some .eq), [])
    | .lss => some (.bool (k.format.order a b == some .lt), [])
    | .leq => some (.bool (k.format.order a b == some .lt || k.format.order a b == some .eq), [])
    | .gtr => some (.bool (k.format.order a b == some .gt), [])
    | .geq => some (.bool (k.format.order a b == some .gt || k.format.order a b == some .eq), [])
    | .add => some (.float k ((k.format.add a b).getD 0), [k.format.add a b = some ((k.format.add a b).getD 0)])
    | .sub => some (.float k ((k.format.sub a b).getD 0), [k.format.sub a b = some ((k.format.sub a b).getD 0)])
    | .mul => some (.float k ((k.format.mul a b).getD 0), [k.format.mul a b = some ((k.format.mul a b).getD 0)])
    | _ => none) else none
  | .complex k a b, .complex k' c d => bif decide (k = k') then (match op with
    | .eql => some (.bool (k.format.order a c == some .eq && k.format.order b d == some .eq), [])
    | .neq => some (.bool (!(k.format.order a c == some .eq && k.format.order b d == some .eq)), [])
    | .add => some (.complex k ((k.format.add a c).getD 0) ((k.format.add b d).getD 0), [k.format.add a c = some ((k.format.add a c).getD 0), k.format.add b d = some ((k.format.add b d).getD 0)])
    | .sub => some (.complex k ((k.format.sub a c).getD 0) ((k.format.sub b d).getD 0), [k.format.sub a c = some ((k.format.sub a c).getD 0), k.format.sub b d = some ((k.format.sub b d).getD 0)])
    | _ => none) else none
  | _, _ => none
def noP (x : Option PV) : Option (PV × List Prop) := match x with
  | some r => some (r, [])
  | none => none
def sInt (op : BinOp) (k : IntKind) (a b : Int) : Option (PV × List Prop) :=
  match op with
  | .quo => some (.v (.int k (k.wrap (a.tdiv b))), [b ≠ 0])
  | .rem => some (.v (.int k (a.tmod b)), [b ≠ 0])
  | .shl => some (.v (.int k (k.wrap (a * 2 ^ min b.toNat k.bits))), [0 ≤ b])
  | .shr => some (.v (.int k (a.fdiv (2 ^ min b.toNat k.bits))), [0 ≤ b])
  | op => match bitsB op k a b with
    | some r => some (r, [])
    | none => noP (intB op k a b)
def sBin (E : Env) (op : BinOp) (T : TypeId) (x y : PV) : Option (PV × List Prop) :=
  match x, y with
  | .v (.int k a), .v (.int k' b) => match op with
    | .shl => sInt .shl k a b
    | .shr => sInt .shr k a b
    | op => bif decide (k = k') then sInt op k a b else none
  | .v (.bool a), .v (.bool b) => bif has T E.bools then noP (boolB op a b) else none
  | .agg xs, .agg ys => match lk T E.eqs with
    | some sh => match eqCells sh xs ys with
      | some b => match op with
        | .eql => some (.v (.bool b), [])
        | .neq => some (.v (.bool (!b)), [])
        | _ => none
      | none => none
    | none => none
  | .v a, .v b => match fltS op a b with
    | some (r, ps) => some (.v r, ps)
    | none => none
  | .str a, .str b => match op with
    | .add => some (.str (a ++ b), [a.length + b.length ≤ 9223372036854775807])
    | .eql => some (.v (.bool (a == b)), [])
    | .neq => some (.v (.bool (!(a == b))), [])
    | _ => none
  | _, _ => none
def sIndex (Γ : List (Nat × Ty)) (T : TypeId) (x i : PV) : Option (PV × List Prop) :=
  match lk T Γ, i with
  | some ty, .v (.int _ n) => match ty.kd, x with
    | 4, .str l => some (.v (.int .u8 ((l.getD n.toNat 0).toNat : Int)), [0 ≤ n ∧ n < l.length])
    | 2, .agg cs => match lk ty.elem Γ with
      | some ety => bif Nat.beq cs.length (ty.len * ety.size) && !(Nat.beq ety.size 0) then
          (match rd ety (etaL ety.zero ((chunk ety.size ty.len cs).getD n.toNat [])) 0 with
          | some r => bif Nat.beq (etaL ety.zero ((chunk ety.size ty.len cs).getD n.toNat [])).length ety.size then some (r, [0 ≤ n ∧ (chunk ety.size ty.len cs)[n.toNat]? = some (etaL ety.zero ((chunk ety.size ty.len cs).getD n.toNat []))]) else none
          | none => none)
        else none
      | none => none
    | _, _ => none
  | _, _ => none
def sIndexAddr (Γ : List (Nat × Ty)) (T : TypeId) (x : AV) (i : PV) : Option (AV × List Prop) :=
  match lk T Γ, i with
  | some ty, .v (.int _ n) => match ty.kd, x with
    | 3, .p (.lst xs) => match lk ty.elem Γ with
      | some ety => bif Nat.beq (etaL ety.zero (xs.getD n.toNat [])).length ety.size && !(Nat.beq ety.size 0) then some (.p (.lptr (etaL ety.zero (xs.getD n.toNat [])) 0), [0 ≤ n ∧ xs[n.toNat]? = some (etaL ety.zero (xs.getD n.toNat []))]) else none
      | none => none
    | 2, .ptr b off => match lk ty.elem Γ with
      | some ety => some (.ptr b (off + n.toNat * ety.size), [0 ≤ n ∧ n < ty.len])
      | none => none
    | 2, .p (.lptr cs off) => match lk ty.elem Γ with
      | some ety => some (.p (.lptr cs (off + n.toNat * ety.size)), [0 ≤ n ∧ n < ty.len])
      | none => none
    | _, _ => none
  | _, _ => none
def sSlice (Γ : List (Nat × Ty)) (T : TypeId) (x : PV) (lo hi : Option PV) : Option (PV × List Prop) :=
  match lk T Γ with
  | some ty => match ty.kd, x, lo, hi with
    | 4, .str l, some (.v (.int _ a)), some (.v (.int _ b)) => some (.str ((l.drop a.toNat).take (b.toNat - a.toNat)), [0 ≤ a ∧ a ≤ b ∧ b ≤ l.length])
    | 4, .str l, some (.v (.int _ a)), none => some (.str (l.drop a.toNat), [0 ≤ a ∧ a ≤ l.length])
    | 4, .str l, none, some (.v (.int _ b)) => some (.str (l.take b.toNat), [0 ≤ b ∧ b ≤ l.length])
    | 3, .lst l, lo, hi => match lk ty.elem Γ, lo, hi with
      | some ety, some (.v (.int _ a)), some (.v (.int _ b)) => some (.lst ((l.drop a.toNat).take (b.toNat - a.toNat)), [0 ≤ a ∧ a ≤ b ∧ b ≤ l.length ∧ Lens ety.size l])
      | some ety, some (.v (.int _ a)), none => some (.lst (l.drop a.toNat), [0 ≤ a ∧ a ≤ l.length ∧ Lens ety.size l])
      | some ety, none, some (.v (.int _ b)) => some (.lst (l.take b.toNat), [0 ≤ b ∧ b ≤ l.length ∧ Lens ety.size l])
      | _, _, _ => none
    | _, _, _, _ => none
  | none => none
def sCvt (E : Env) (S T : TypeId) (x : PV) : Option (PV × List Prop) :=
  match x with
  | .v (.int _ n) => noP (cvtInt E S T n)
  | .v (.float s b) => match lk T E.ints, lk S E.flts with
    | some k, some _ => some (.v (.int k (((s.decode b).toInt .zero).getD 0)), [(s.decode b).toInt .zero = some (((s.decode b).toInt .zero).getD 0), k.min ≤ ((s.decode b).toInt .zero).getD 0, ((s.decode b).toInt .zero).getD 0 ≤ k.max])
    | _, _ => none
  | .lst xs => bif isBytes E S && isText E T then some (.str ((bytesOf xs).getD []), [bytesOf xs = some ((bytesOf xs).getD [])]) else none
  | .nil => bif isBytes E S && isText E T then some (.str [], []) else none
  | .str l => bif isText E S && isText E T then some (.str l, []) else none
  | _ => none
def sMake (Γ : List (Nat × Ty)) (T : TypeId) (l c : PV) : Option (PV × List Prop) :=
  match lk T Γ, l, c with
  | some ty, .v (.int _ n), .v (.int _ m) => bif Nat.beq ty.kd 3 then
      match lk ty.elem Γ with
      | some ety => bif Nat.beq ety.size 0 || !(Nat.beq ety.zero.length ety.size) then none else some (.lst (chunk ety.size n.toNat (reps n.toNat ety.zero)), [n = m, 0 ≤ n, n.toNat * ety.size < 16777216, n.toNat * ety.bytes < 16777216])
      | none => none
    else none
  | _, _, _ => none
abbrev CallS := Nat → List PV → Option (PV × List Prop)
open Classical in
noncomputable def CH (C : CallS) : CallF := fun f args => match C f args with
  | some (r, ps) => if AllP ps then some r else none
  | none => none
def CSOk (P : Program) (C : CallS) : Prop := ∀ f args r ps, C f args = some (r, ps) → AllP ps → Con P f args r
theorem CH_ok {P : Program} {C : CallS} (h : CSOk P C) : CallOk P (CH C) := fun f args r hr => by
  unfold CH at hr
  split at hr
  · rename_i r' ps h1
    split at hr
    · rename_i hp
      have := Option.some.inj hr
      subst this
      exact h _ _ _ _ h1 hp
    · exact absurd hr (by simp)
  · exact absurd hr (by simp)
def sCall (C : CallS) (σ : St) (f : Operand) (args : List Operand) : Option (PV × List Prop) :=
  match opd σ f, mapO (opd σ) args with
  | some (.p (.fn g cs)), some l => match handAll σ.boxes l with
    | some (xs, c) => match C g (xs ++ cs) with
      | some (r, ps) => bif !c || flat r then some (r, ps) else none
      | none => none
    | none => none
  | some (.fnp g bs), some l => match handAll σ.boxes l, handC σ.boxes bs with
    | some (xs, _), some cs => match C g (xs ++ cs) with
      | some (r, ps) => bif flat r then some (r, ps) else none
      | none => none
    | _, _ => none
  | _, _ => none
def plainS (σ : St) (o : Oper) (x : Option (PV × List Prop)) : Option (Res × List Prop) :=
  match o.dst, x with
  | some d, some (x, ps) => bif Nat.blt d σ.n then some (⟨.p x, none, none⟩, ps) else none
  | _, _ => none
def noR (x : Option Res) : Option (Res × List Prop) := match x with
  | some r => some (r, [])
  | none => none
def noCall : CallF := fun _ _ => none
def RSym (E : Env) (C : CallS) (j : Nat) (σ : St) (o : Oper) : Option (Res × List Prop) :=
  match o.op with
  | .binOp op T x y _ => match isNilC y with
    | true => noR (RR E noCall j σ o)
    | false => match pvOf σ x, pvOf σ y with
      | some a, some b => plainS σ o (sBin E op T a b)
      | _, _ => none
  | .pick c x y => match pvOf σ c, pvOf σ x, pvOf σ y with
    | some (.v (.bool true)), some a, _ => plainS σ o (some (a, []))
    | some (.v (.bool false)), _, some b => plainS σ o (some (b, []))
    | _, _, _ => none
  | .index T x i => match pvOf σ x, pvOf σ i with
    | some (.agg _), some _ => noR (RR E noCall j σ o)
    | some a, some j => plainS σ o (sIndex E.Γ T a j)
    | _, _ => none
  | .indexAddr T x i => match opd σ x, pvOf σ i, o.dst with
    | some a, some j, some d => match sIndexAddr E.Γ T a j with
      | some (r, ps) => bif Nat.blt d σ.n then some (⟨r, none, none⟩, ps) else none
      | none => none
    | _, _, _ => none
  | .slice T x lo hi none => match pvOf σ x with
    | some a => match lo, hi with
      | none, none => none
      | some l, none => match pvOf σ l with | some l => plainS σ o (sSlice E.Γ T a (some l) none) | none => none
      | none, some h => match pvOf σ h with | some h => plainS σ o (sSlice E.Γ T a none (some h)) | none => none
      | some l, some h => match pvOf σ l, pvOf σ h with | some l, some h => plainS σ o (sSlice E.Γ T a (some l) (some h)) | _, _ => none
    | none => none
  | .slice _ _ _ _ (some _) => none
  | .convert S T x => match pvOf σ x with
    | some (.str l) => match bytesS E S T l with
      | some r => plainS σ o (some (r, []))
      | none => plainS σ o (sCvt E S T (.str l))
    | some a => plainS σ o (sCvt E S T a)
    | none => none
  | .makeSlice T l c => match pvOf σ l, pvOf σ c with
    | some l, some c => plainS σ o (sMake E.Γ T l c)
    | _, _ => none
  | .call ⟨.value f, args, _⟩ => plainS σ o (sCall C σ f args.toList)
  | _ => noR (RR E noCall j σ o)
section
variable {P : Program} {σ : St} {o : Oper}
theorem plainS_get {x : Option (PV × List Prop)} {r : Res} {ps : List Prop} (h : plainS σ o x = some (r, ps)) : ∃ d y, o.dst = some d ∧ x = some (y, ps) ∧ Nat.blt d σ.n = true ∧ r = ⟨.p y, none, none⟩ := by
  unfold plainS at h
  split at h
  · rename_i d y q hd
    cases hb : Nat.blt d σ.n with
    | false => rw [hb] at h; exact absurd h (by simp)
    | true =>
      rw [hb] at h
      have := Option.some.inj h
      cases this
      exact ⟨d, y, hd, rfl, hb, rfl⟩
  · exact absurd h (by simp)
theorem RRgen_of {E : Env} {call : CallF} {os ob : List Obl} {d : Nat} {r : Res} (h1 : autoQ E call σ o = some os) (h2 : evPure E.Γ σ o os = some (r, [], ob)) (hd : o.dst = some d) (hb : Nat.blt d σ.n = true) (hl : linkOk d r.link = true) :
    RRgen E call σ o = some r := by
  unfold RRgen
  rw [h1]
  simp only [evQuiet, h2, hd]
  have : rewr d r [] = some (r, [], []) := rfl
  rw [this]
  simp only [hb, hl, Bool.and_self, cond_true]
theorem flt_same {op : BinOp} {x y r : Value} {ps : List Prop} (h : fltS op x y = some (r, ps)) (hp : AllP ps) : fltB op x y = some r := by
  unfold fltS at h
  unfold fltB
  split at h
  · rename_i k a k' b
    simp only
    cases hk : decide (k = k') with
    | false => rw [hk] at h; exact absurd h (by simp)
    | true =>
      rw [hk] at h
      simp only [cond_true] at h ⊢
      cases op <;> first
        | (have := Option.some.inj h; cases this; rfl)
        | (have := Option.some.inj h; cases this
           have hq := hp _ (List.mem_cons_self ..)
           rw [hq]
           simp)
        | exact absurd h (by simp)
  · rename_i k a b k' c d
    simp only
    cases hk : decide (k = k') with
    | false => rw [hk] at h; exact absurd h (by simp)
    | true =>
      rw [hk] at h
      simp only [cond_true] at h ⊢
      cases op <;> first
        | (have := Option.some.inj h; cases this; rfl)
        | (have := Option.some.inj h; cases this
           have hq := hp _ (List.mem_cons_self ..)
           have hq2 := hp _ (List.mem_cons_of_mem _ (List.mem_cons_self ..))
           rw [hq, hq2]
           simp)
        | exact absurd h (by simp)
  · exact absurd h (by simp)
theorem one {p : Prop} {l : List Prop} (h : AllP (p :: l)) : p := h _ (List.mem_cons_self ..)
theorem sBin_auto {E : Env} {op : BinOp} {T : TypeId} {x y r : PV} {ps : List Prop} (h : sBin E op T x y = some (r, ps)) (hp : AllP ps) :
    ∃ os ob, autoBin E op T x y = some os ∧ evBin op T x y os = some (r, [], ob) := by
  unfold sBin at h
  split at h
  · rename_i k a k' b
    split at h
    · have := Option.some.inj h; cases this
      have hb : decide (0 ≤ b) = true := by simpa using one hp
      exact ⟨[.pr True], _, by simp [autoBin, hb], by simp [evBin]; rfl⟩
    · have := Option.some.inj h; cases this
      have hb : decide (0 ≤ b) = true := by simpa using one hp
      exact ⟨[.pr True], _, by simp [autoBin, hb], by simp [evBin]; rfl⟩
    rename_i n1 n2
    cases hk : decide (k = k') with
    | false => rw [hk] at h; exact absurd h (by simp)
    | true =>
      rw [hk] at h
      simp only [cond_true] at h
      have ek := of_decide_eq_true hk
      subst ek
      cases op with
      | shl => exact (n1 rfl).elim
      | shr => exact (n2 rfl).elim
      | quo =>
        have := Option.some.inj h; cases this
        have hb : (b == 0) = false := by simpa using one hp
        exact ⟨[.pr True], _, by simp [autoBin, hb], by simp [evBin]; rfl⟩
      | rem =>
        have := Option.some.inj h; cases this
        have hb : (b == 0) = false := by simpa using one hp
        exact ⟨[.pr True], _, by simp [autoBin, hb], by simp [evBin]; rfl⟩
      | _ =>
        simp only [sInt] at h
        split at h
        · rename_i r0 hr0
          have := Option.some.inj h; cases this
          exact ⟨[.bin _ T (.v (.int k a)) (.v (.int k b)) r], _, by simp only [autoBin, hr0, decide_true, cond_true]; rfl, by simp only [evBin]; rfl⟩
        · rename_i hr0
          unfold noP at h
          split at h
          · rename_i r0 hr1
            have := Option.some.inj h; cases this
            exact ⟨[], [], by simp only [autoBin, hr0], by simp only [evBin, decide_true, cond_true, hr1]⟩
          · exact absurd h (by simp)
  · rename_i a b
    cases hb : has T E.bools with
    | false => rw [hb] at h; exact absurd h (by simp)
    | true =>
      rw [hb] at h
      simp only [cond_true] at h
      cases hr : boolB op a b with
      | none => rw [hr] at h; exact absurd h (by simp [noP])
      | some r0 =>
        rw [hr] at h
        have := Option.some.inj h; cases this
        exact ⟨[.bin op T (.v (.bool a)) (.v (.bool b)) r], _, by simp only [autoBin, hb, hr, cond_true], by simp only [evBin]; rfl⟩
  · rename_i xs ys
    split at h
    · rename_i sh hsh
      split at h
      · rename_i b hb
        split at h
        · have := Option.some.inj h; cases this
          exact ⟨[.bin .eql T (.agg xs) (.agg ys) (.v (.bool b))], _, by simp only [autoBin, hsh, hb], by simp only [evBin]; rfl⟩
        · have := Option.some.inj h; cases this
          exact ⟨[.bin .neq T (.agg xs) (.agg ys) (.v (.bool (!b)))], _, by simp only [autoBin, hsh, hb], by simp only [evBin]; rfl⟩
        · exact absurd h (by simp)
      · exact absurd h (by simp)
    · exact absurd h (by simp)
  · rename_i a b h1 h2
    split at h
    · rename_i r0 q hr
      have := Option.some.inj h; cases this
      have hf := flt_same hr hp
      refine ⟨[.bin op T (.v a) (.v b) (.v r0)], _, ?_, by simp [evBin]; rfl⟩
      unfold autoBin
      split
      · rename_i k a' k' b' e1 e2; cases e1; cases e2; exact (h1 _ _ _ _ rfl rfl).elim
      · rename_i a' b' e1 e2; cases e1; cases e2; exact (h2 _ _ rfl rfl).elim
      · rename_i e1 e2; cases e1
      · rename_i a' b' _ _ e1 e2; cases e1; cases e2; rw [hf]
      · rename_i e1 e2; cases e1
      · rename_i _ _ hh _; exact (hh _ _ rfl rfl).elim
    · exact absurd h (by simp)
  · rename_i a b
    split at h
    · have := Option.some.inj h; cases this
      have hb : Nat.ble (a.length + b.length) 9223372036854775807 = true := by simpa using one hp
      exact ⟨[.pr True], _, by simp [autoBin, hb], by simp [evBin]; rfl⟩
    · have := Option.some.inj h; cases this
      exact ⟨[], [], by simp [autoBin], by simp [evBin]⟩
    · have := Option.some.inj h; cases this
      exact ⟨[], [], by simp [autoBin], by simp [evBin]⟩
    · exact absurd h (by simp)
  · exact absurd h (by simp)
end
end Go.Ev
namespace Go.Ev
open Go.RowKit
section
variable {P : Program} {σ : St} {o : Oper}
theorem noR_get {x : Option Res} {r : Res} {ps : List Prop} (h : noR x = some (r, ps)) : x = some r ∧ ps = [] := by
  unfold noR at h
  split at h
  · have := Option.some.inj h
    cases this
    exact ⟨rfl, rfl⟩
  · exact absurd h (by simp)
theorem RSym_RR {E : Env} {C : CallS} : RSub (RSym E C) (RR E (CH C)) := by
  intro j τ o r ps h hp
  obtain ⟨dst, op, type, pos, after, guard⟩ := o
  unfold RSym at h
  cases op with
  | binOp op T x y yT =>
    simp only at h
    split at h
    · rename_i hn
      obtain ⟨h1, _⟩ := noR_get h
      simp only [RR, hn] at h1 ⊢
      exact h1
    · rename_i hn
      split at h
      · rename_i a b ha hb
        obtain ⟨d, y0, hd, hs, hlt, rfl⟩ := plainS_get h
        simp only at hd
        subst hd
        obtain ⟨os, ob, h1, h2⟩ := sBin_auto hs hp
        simp only [RR, hn]
        exact RRgen_of (os := os) (ob := ob) (by simp only [autoQ, ha, hb, h1]) (by simp only [evPure, ha, hb, h2]) rfl hlt rfl
      · exact absurd h (by simp)
  | pick c x y =>
    simp only at h
    split at h
    · rename_i a hc hx
      obtain ⟨d, y0, hd, hs, hlt, rfl⟩ := plainS_get h
      simp only at hd
      subst hd
      cases hs
      simp only [RR]
      exact RRgen_of (os := []) (ob := []) (by simp only [autoQ]) (by simp only [evPure, hc, hx]) rfl hlt rfl
    · rename_i a hc hx
      obtain ⟨d, y0, hd, hs, hlt, rfl⟩ := plainS_get h
      simp only at hd
      subst hd
      cases hs
      simp only [RR]
      exact RRgen_of (os := []) (ob := []) (by simp only [autoQ]) (by simp only [evPure, hc, hx]) rfl hlt rfl
    · exact absurd h (by simp)
  | index T x i =>
    simp only at h
    split at h
    · exact (noR_get h).1
    · rename_i a b hna ha hb
      obtain ⟨d, y0, hd, hs, hlt, rfl⟩ := plainS_get h
      simp only at hd
      subst hd
      simp only [RR]
      unfold sIndex at hs
      split at hs
      · rename_i ty k n hty
        split at hs
        · rename_i l hk
          have := Option.some.inj hs
          cases this
          have hq := one hp
          exact RRgen_of (os := [.pr True]) (ob := _) (by simp only [autoQ, ha, hb, autoIndex, hty, hk]; simp [hq.1, hq.2]) (by simp only [evPure, ha, hb, evIndex, hty, hk]; rfl) rfl hlt rfl
        · rename_i cs hk
          split at hs
          · rename_i ety hety
            generalize hy : etaL ety.zero ((chunk ety.size ty.len cs).getD n.toNat []) = y at hs
            cases hb2 : (Nat.beq cs.length (ty.len * ety.size) && !(Nat.beq ety.size 0)) with
            | false => rw [hb2] at hs; exact absurd hs (by simp)
            | true =>
              rw [hb2] at hs
              simp only [cond_true] at hs
              split at hs
              · rename_i r0 hr0
                cases hb3 : Nat.beq y.length ety.size with
                | false => rw [hb3] at hs; exact absurd hs (by simp)
                | true =>
                  rw [hb3] at hs
                  have := Option.some.inj hs
                  cases this
                  have hq := one hp
                  exact RRgen_of (os := [.idx [] 0 y]) (ob := _) (by simp only [autoQ, ha, hb, autoIndex, hty, hk, hety, hq.2]; simp [hq.1]) (by simp only [evPure, ha, hb, evIndex, hty, hk, hety, hb2, cond_true, hr0, hb3]; rfl) rfl hlt rfl
              · exact absurd hs (by simp)
          · exact absurd hs (by simp)
        · exact absurd hs (by simp)
      · exact absurd hs (by simp)
    · exact absurd h (by simp)
  | indexAddr T x i =>
    simp only at h
    split at h
    · rename_i a b d ha hb
      split at h
      · rename_i r0 q hs
        cases hlt : Nat.blt d τ.n with
        | false => rw [hlt] at h; exact absurd h (by simp)
        | true =>
          rw [hlt] at h
          have := Option.some.inj h
          cases this
          simp only [RR]
          unfold sIndexAddr at hs
          split at hs
          · rename_i ty k n hty
            split at hs
            · rename_i xs hk
              split at hs
              · rename_i ety hety
                generalize hy : etaL ety.zero (xs.getD n.toNat []) = y at hs
                cases hb2 : (Nat.beq y.length ety.size && !(Nat.beq ety.size 0)) with
                | false => rw [hb2] at hs; exact absurd hs (by simp)
                | true =>
                  rw [hb2] at hs
                  have := Option.some.inj hs
                  cases this
                  have hq := one hp
                  exact RRgen_of (os := [.idx [] 0 y]) (ob := _) (by simp only [autoQ, ha, hb, autoIndexAddr, hty, hk, hq.2]; simp [hq.1]) (by simp only [evPure, ha, hb, hty, hk, hety, hb2, cond_true]; rfl) rfl hlt rfl
              · exact absurd hs (by simp)
            · rename_i b0 off hk
              split at hs
              · rename_i ety hety
                have := Option.some.inj hs
                cases this
                have hq := one hp
                exact RRgen_of (os := [.pr True]) (ob := _) (by simp only [autoQ, ha, hb, autoIndexAddr, hty, hk]; simp [hq.1, hq.2]) (by simp only [evPure, ha, hb, hty, hk, hety]; rfl) rfl hlt rfl
              · exact absurd hs (by simp)
            · rename_i cs off hk
              split at hs
              · rename_i ety hety
                have := Option.some.inj hs
                cases this
                have hq := one hp
                exact RRgen_of (os := [.pr True]) (ob := _) (by simp only [autoQ, ha, hb, autoIndexAddr, hty, hk]; simp [hq.1, hq.2]) (by simp only [evPure, ha, hb, hty, hk, hety]; rfl) rfl hlt rfl
              · exact absurd hs (by simp)
            · exact absurd hs (by simp)
          · exact absurd hs (by simp)
      · exact absurd h (by simp)
    · exact absurd h (by simp)
  | slice T x lo hi mx =>
    have key : ∀ (a : PV) (l h' : Option PV) (y0 : PV), sSlice E.Γ T a l h' = some (y0, ps) → ∃ ob, autoSlice E.Γ T a l h' = some [.pr True] ∧ evSlice E.Γ T a l h' [.pr True] = some (y0, [], ob) := by
      intro a l h' y0 hs
      have lens : ∀ {n : Nat} {l : List (List PV)}, Lens n l → lensB n l = true := fun hl => List.all_eq_true.2 fun x hx => by simpa using hl x hx
      unfold sSlice at hs
      split at hs
      · rename_i ty hty
        split at hs
        · rename_i hk
          have := Option.some.inj hs; cases this
          have hq := one hp
          exact ⟨_, by simp only [autoSlice, hty, hk]; simp [hq.1, hq.2], by simp only [evSlice, hty, hk]; rfl⟩
        · rename_i hk
          have := Option.some.inj hs; cases this
          have hq := one hp
          exact ⟨_, by simp only [autoSlice, hty, hk]; simp [hq.1, hq.2], by simp only [evSlice, hty, hk]; rfl⟩
        · rename_i hk
          have := Option.some.inj hs; cases this
          have hq := one hp
          exact ⟨_, by simp only [autoSlice, hty, hk]; simp [hq.1, hq.2], by simp only [evSlice, hty, hk]; rfl⟩
        · rename_i l0 hk
          split at hs
          · rename_i ety hety
            have := Option.some.inj hs; cases this
            have hq := one hp
            exact ⟨_, by simp only [autoSlice, hty, hk, hety]; simp [hq.1, hq.2.1, hq.2.2.1, lens hq.2.2.2], by simp only [evSlice, hty, hk, hety]; rfl⟩
          · rename_i ety hety
            have := Option.some.inj hs; cases this
            have hq := one hp
            exact ⟨_, by simp only [autoSlice, hty, hk, hety]; simp [hq.1, hq.2.1, lens hq.2.2], by simp only [evSlice, hty, hk, hety]; rfl⟩
          · rename_i ety hety
            have := Option.some.inj hs; cases this
            have hq := one hp
            exact ⟨_, by simp only [autoSlice, hty, hk, hety]; simp [hq.1, hq.2.1, lens hq.2.2], by simp only [evSlice, hty, hk, hety]; rfl⟩
          · exact absurd hs (by simp)
        · exact absurd hs (by simp)
      · exact absurd hs (by simp)
    cases mx with
    | some m => exact absurd h (by simp)
    | none =>
      simp only at h
      split at h
      · rename_i a ha
        simp only [RR]
        split at h
        · exact absurd h (by simp)
        · rename_i l
          split at h
          · rename_i pl hl
            obtain ⟨d, y0, hd, hs, hlt, rfl⟩ := plainS_get h
            simp only at hd; subst hd
            obtain ⟨ob, h1, h2⟩ := key _ _ _ _ hs
            exact RRgen_of (os := [.pr True]) (ob := ob) (by simp only [autoQ, ha, hl, h1]) (by simp only [evPure, ha, hl, h2]) rfl hlt rfl
          · exact absurd h (by simp)
        · rename_i l
          split at h
          · rename_i pl hl
            obtain ⟨d, y0, hd, hs, hlt, rfl⟩ := plainS_get h
            simp only at hd; subst hd
            obtain ⟨ob, h1, h2⟩ := key _ _ _ _ hs
            exact RRgen_of (os := [.pr True]) (ob := ob) (by simp only [autoQ, ha, hl, h1]) (by simp only [evPure, ha, hl, h2]) rfl hlt rfl
          · exact absurd h (by simp)
        · rename_i l m
          split at h
          · rename_i pl pm hl hm
            obtain ⟨d, y0, hd, hs, hlt, rfl⟩ := plainS_get h
            simp only at hd; subst hd
            obtain ⟨ob, h1, h2⟩ := key _ _ _ _ hs
            exact RRgen_of (os := [.pr True]) (ob := ob) (by simp only [autoQ, ha, hl, hm, h1]) (by simp only [evPure, ha, hl, hm, h2]) rfl hlt rfl
          · exact absurd h (by simp)
      · exact absurd h (by simp)
  | convert S T x =>
    have key : ∀ (a y0 : PV), sCvt E S T a = some (y0, ps) → autoCvt E S T a = some y0 := by
      intro a y0 hs
      unfold sCvt at hs
      unfold autoCvt
      split at hs
      · unfold noP at hs
        split at hs
        · rename_i r0 hr0
          have := Option.some.inj hs; cases this
          simp only [hr0]
        · exact absurd hs (by simp)
      · rename_i s b
        split at hs
        · rename_i k s0 hk hs0
          have := Option.some.inj hs; cases this
          have h1 := one hp
          have h2 := hp _ (List.mem_cons_of_mem _ (List.mem_cons_self ..))
          have h3 := hp _ (List.mem_cons_of_mem _ (List.mem_cons_of_mem _ (List.mem_cons_self ..)))
          simp only [cvtFlt, hk, hs0]
          generalize ((s.decode b).toInt .zero).getD 0 = z at h1 h2 h3
          rw [h1]
          simp [h2, h3]
        · exact absurd hs (by simp)
      · rename_i xs
        cases hb : (isBytes E S && isText E T) with
        | false => rw [hb] at hs; exact absurd hs (by simp)
        | true =>
          rw [hb] at hs
          have := Option.some.inj hs; cases this
          have h1 := one hp
          generalize (bytesOf xs).getD [] = z at h1
          simp only [cvtLst, hb, cond_true, h1]
      · cases hb : (isBytes E S && isText E T) with
        | false => rw [hb] at hs; exact absurd hs (by simp)
        | true =>
          rw [hb] at hs
          have := Option.some.inj hs; cases this
          simp only [hb, cond_true]
      · cases hb : (isText E S && isText E T) with
        | false => rw [hb] at hs; exact absurd hs (by simp)
        | true =>
          rw [hb] at hs
          have := Option.some.inj hs; cases this
          simp only [hb, cond_true]
      · exact absurd hs (by simp)
    have gen : ∀ (a y0 : PV) (d : Nat), pvOf τ x = some a → sCvt E S T a = some (y0, ps) → Nat.blt d τ.n = true → RRgen E (CH C) τ ⟨some d, .convert S T x, type, pos, after, guard⟩ = some ⟨.p y0, none, none⟩ := by
      intro a y0 d ha hs hlt
      exact RRgen_of (os := [.cvt S T a y0]) (ob := _) (by simp only [autoQ, ha, key a y0 hs]) (by simp only [evPure, ha]; rfl) rfl hlt rfl
    simp only at h
    split at h
    · rename_i l hx
      split at h
      · rename_i r0 hr0
        obtain ⟨d, y0, hd, hs, hlt, rfl⟩ := plainS_get h
        simp only at hd; subst hd
        cases hs
        simp only [RR, hx, hr0, plainR, hlt, cond_true]
      · rename_i hr0
        obtain ⟨d, y0, hd, hs, hlt, rfl⟩ := plainS_get h
        simp only at hd; subst hd
        simp only [RR, hx, hr0]
        exact gen _ _ _ hx hs hlt
    · rename_i a hne hx
      obtain ⟨d, y0, hd, hs, hlt, rfl⟩ := plainS_get h
      simp only at hd; subst hd
      unfold RR
      simp only
      split
      · rename_i l hl
        rw [hx] at hl
        exact (hne l (Option.some.inj hl)).elim
      · exact gen _ _ _ hx hs hlt
    · exact absurd h (by simp)
  | makeSlice T l c =>
    simp only at h
    split at h
    · rename_i pl pc hl hc
      obtain ⟨d, y0, hd, hs, hlt, rfl⟩ := plainS_get h
      simp only at hd; subst hd
      simp only [RR, hl, hc]
      unfold sMake at hs
      split at hs
      · rename_i ty k n k' m hty
        cases hk : Nat.beq ty.kd 3 with
        | false => rw [hk] at hs; exact absurd hs (by simp)
        | true =>
          rw [hk] at hs
          simp only [cond_true] at hs
          split at hs
          · rename_i ety hety
            cases hb : (Nat.beq ety.size 0 || !(Nat.beq ety.zero.length ety.size)) with
            | true => rw [hb] at hs; exact absurd hs (by simp)
            | false =>
              rw [hb] at hs
              have := Option.some.inj hs; cases this
              have h1 := one hp
              subst h1
              have h2 := hp _ (List.mem_cons_of_mem _ (List.mem_cons_self ..))
              have h3 := hp _ (List.mem_cons_of_mem _ (List.mem_cons_of_mem _ (List.mem_cons_self ..)))
              have h4 := hp _ (List.mem_cons_of_mem _ (List.mem_cons_of_mem _ (List.mem_cons_of_mem _ (List.mem_cons_self ..))))
              rw [Bool.or_eq_false_iff] at hb
              have e3 : Nat.ble 16777216 (n.toNat * ety.size) = false := by
                cases hh : Nat.ble 16777216 (n.toNat * ety.size) with
                | false => rfl
                | true => have := Nat.le_of_ble_eq_true hh; omega
              have e4 : Nat.ble 16777216 (n.toNat * ety.bytes) = false := by
                cases hh : Nat.ble 16777216 (n.toNat * ety.bytes) with
                | false => rfl
                | true => have := Nat.le_of_ble_eq_true hh; omega
              simp only [plainR, makeS, hty, hk, hety, hb.1, hb.2, e3, e4, h2, decide_true, Bool.and_self, cond_true, Bool.or_self, cond_false, hlt]
          · exact absurd hs (by simp)
      · exact absurd hs (by simp)
    · exact absurd h (by simp)
  | call c =>
    obtain ⟨callee, args, ats⟩ := c
    cases callee with
    | value f =>
      simp only at h
      obtain ⟨d, y0, hd, hs, hlt, rfl⟩ := plainS_get h
      simp only at hd; subst hd
      simp only [RR]
      have ch : ∀ g xs, C g xs = some (y0, ps) → CH C g xs = some y0 := by
        intro g xs hg
        unfold CH
        rw [hg]
        simp only [hp, if_true]
      unfold sCall at hs
      split at hs
      · rename_i g0 cs l hf hl
        split at hs
        · rename_i xs c hh
          split at hs
          · rename_i r0 q hr0
            cases hb : (!c || flat r0) with
            | false => rw [hb] at hs; exact absurd hs (by simp)
            | true =>
              rw [hb] at hs
              have := Option.some.inj hs; cases this
              exact RRgen_of (os := [.call 0 [] y0]) (ob := _) (by simp only [autoQ, autoCall, hf, hl, hh, ch _ _ hr0]) (by simp only [evPure, hf, hl, hh, hb, cond_true]; rfl) rfl hlt rfl
          · exact absurd hs (by simp)
        · exact absurd hs (by simp)
      · rename_i g0 bs l hf hl
        split at hs
        · rename_i xs c cs hh hcs
          split at hs
          · rename_i r0 q hr0
            cases hb : flat r0 with
            | false => rw [hb] at hs; exact absurd hs (by simp)
            | true =>
              rw [hb] at hs
              have := Option.some.inj hs; cases this
              exact RRgen_of (os := [.call 0 [] y0]) (ob := _) (by simp only [autoQ, autoCall, hf, hl, hh, hcs, ch _ _ hr0]) (by simp only [evPure, hf, hl, hh, hcs, hb, cond_true]; rfl) rfl hlt rfl
          · exact absurd hs (by simp)
        · exact absurd hs (by simp)
      · exact absurd hs (by simp)
    | _ =>
      obtain ⟨h1, _⟩ := noR_get h
      exact h1
  | _ =>
    obtain ⟨h1, _⟩ := noR_get h
    exact h1
theorem RSub2 {E : Env} {C : CallS} : RSub (RSym E C) (RR2 E (CH C)) := fun j τ o r ps h hp => by
  unfold RR2
  rw [RSym_RR j τ o r ps h hp]
end
end Go.Ev
namespace Go.Ev
open Go.RowKit
def sStore (Γ : List (Nat × Ty)) (σ : St) (T : TypeId) (p x : Operand) : Option (St × List Prop) :=
  match opd σ p, pvOf σ x, lk T Γ with
  | some (.ptr b off), some v, some ty => match lk b σ.boxes with
    | some cs => bif Nat.beq v.cells.length ty.size && !(Nat.beq ty.size 0) && !(has b σ.ro) then
        match x with
        | .tmp t => match lkL (.t t) σ.own with
          | some E => some (wrBox (dropOwn σ (.t t)) b off v.cells cs [(.b b off, E)], [off + ty.size ≤ cs.length])
          | none => some (wrBox σ b off v.cells cs [], [off + ty.size ≤ cs.length])
        | _ => some (wrBox σ b off v.cells cs [], [off + ty.size ≤ cs.length])
      else none
    | none => none
  | _, _, _ => none
theorem sStore_ev {Γ : List (Nat × Ty)} {σ : St} {T : TypeId} {p x : Operand} {σ' : St} {ps : List Prop} (h : sStore Γ σ T p x = some (σ', ps)) (hp : AllP ps) : evStore Γ σ T p x = some σ' := by
  unfold sStore at h
  unfold evStore
  split at h
  · rename_i b off v ty h1 h2 h3
    simp only [h1, h2, h3]
    split at h
    · rename_i cs h4
      simp only [h4]
      cases hb : (Nat.beq v.cells.length ty.size && !(Nat.beq ty.size 0) && !(has b σ.ro)) with
      | false => rw [hb] at h; exact absurd h (by simp)
      | true =>
        rw [hb, cond_true] at h
        have key : off + ty.size ≤ cs.length → (Nat.beq v.cells.length ty.size && Nat.ble (off + ty.size) cs.length && !(Nat.beq ty.size 0) && !(has b σ.ro)) = true := by
          intro hle
          simp only [Bool.and_eq_true] at hb ⊢
          exact ⟨⟨⟨hb.1.1, Nat.ble_eq_true_of_le hle⟩, hb.1.2⟩, hb.2⟩
        have fin : ∀ {s0 : St}, some (s0, [off + ty.size ≤ cs.length]) = some (σ', ps) → off + ty.size ≤ cs.length ∧ s0 = σ' := by
          intro s0 e
          have e := Option.some.inj e
          have e1 := congrArg Prod.fst e
          have e2 := congrArg Prod.snd e
          simp only at e1 e2
          subst e2
          exact ⟨hp _ List.mem_cons_self, e1⟩
        split at h
        · split at h
          · rename_i t E h5
            obtain ⟨f1, f2⟩ := fin h
            rw [key f1, cond_true]
            simp only [h5, f2]
          · rename_i t h5
            obtain ⟨f1, f2⟩ := fin h
            rw [key f1, cond_true]
            simp only [h5, f2]
        · rename_i hx
          obtain ⟨f1, f2⟩ := fin h
          rw [key f1, cond_true]
          split
          · rename_i t
            exact absurd rfl (hx t)
          · rw [f2]
    · exact absurd h (by simp)
  · exact absurd h (by simp)
def slIdx (E : Env) (σ : St) (o : Oper) : Option (Res × List Prop) :=
  match o.dst, o.op with
  | some d, .indexAddr T x i => match lk T E.Γ, opd σ x, pvOf σ i with
    | some ty, some (.sl b off n s), some (.v (.int _ m)) => match lk ty.elem E.Γ with
      | some ety => bif Nat.blt d σ.n && Nat.beq ty.kd 3 && Nat.beq ety.size s then some (⟨.ptr b (off + m.toNat * s), none, none⟩, [0 ≤ m ∧ m < n]) else none
      | none => none
    | _, _, _ => none
  | _, _ => none
theorem slIdx_RRA {E : Env} {σ : St} {o : Oper} {r : Res} {ps : List Prop} (h : slIdx E σ o = some (r, ps)) (hp : AllP ps) : RRA E σ o = some r := by
  obtain ⟨dst, op, type, pos, after, guard⟩ := o
  unfold slIdx at h
  split at h
  · rename_i d T x i hd ho
    simp only at hd ho
    subst hd; subst ho
    split at h
    · rename_i ty b off n s k m h1 h2 h3
      split at h
      · rename_i ety h4
        cases hb : (Nat.blt d σ.n && Nat.beq ty.kd 3 && Nat.beq ety.size s) with
        | false => rw [hb] at h; exact absurd h (by simp)
        | true =>
          rw [hb] at h
          have h := Option.some.inj h
          have e1 := congrArg Prod.fst h
          have e2 := congrArg Prod.snd h
          simp only at e1 e2
          subst e2; subst e1
          have hm := hp _ List.mem_cons_self
          simp only [Bool.and_eq_true] at hb
          unfold RRA
          simp only [h1, h2, h3, h4, hb.1.1, hb.1.2, hb.2, decide_eq_true hm.1, decide_eq_true hm.2, cond_true, Bool.and_self]
      · exact absurd h (by simp)
    · exact absurd h (by simp)
  · exact absurd h (by simp)
theorem RR_sl {E : Env} {call : CallF} {j : Nat} {σ : St} {dst : Option Tmp} {T : TypeId} {x i : Operand} {ty' : TypeId} {pos : String} {after : Array Edge} {gd : Option (Nat × Bool)} {b off n s : Nat} (h : opd σ x = some (.sl b off n s)) :
    RR E call j σ ⟨dst, .indexAddr T x i, ty', pos, after, gd⟩ = none := by
  simp only [RR, RRgen]
  split
  · rename_i os hos
    have : evQuiet E.Γ σ ⟨dst, .indexAddr T x i, ty', pos, after, gd⟩ os = none := by
      unfold evQuiet
      have e : evPure E.Γ σ ⟨dst, .indexAddr T x i, ty', pos, after, gd⟩ os = none := by
        simp only [evPure, h]
        cases lk T E.Γ with
        | none => rfl
        | some t => cases pvOf σ i with
          | none => rfl
          | some y =>
            split
            · rename_i h1 h2 h3
              cases h2
              split <;> simp_all
            · rfl
      rw [e]
    rw [this]
  · rfl
theorem slIdx_RR2 {E : Env} {call : CallF} {j : Nat} {σ : St} {o : Oper} {r : Res} {ps : List Prop} (h : slIdx E σ o = some (r, ps)) (hp : AllP ps) : RR2 E call j σ o = some r := by
  have h2 := slIdx_RRA h hp
  obtain ⟨dst, op, type, pos, after, guard⟩ := o
  unfold slIdx at h
  split at h
  · rename_i d T x i hd ho
    simp only at hd ho
    subst hd; subst ho
    split at h
    · rename_i ty b off n s k m h1 h3 h4
      unfold RR2
      rw [RR_sl h3]
      exact h2
    · exact absurd h (by simp)
  · exact absurd h (by simp)
def slLen (E : Env) (σ : St) (o : Oper) : Option (Res × List Prop) :=
  match o.op with
  | .call ⟨.builtin .len, args, _⟩ => match args.toList with
    | [x] => match opd σ x with
      | some (.sl _ _ _ _) => match RRA E σ o with
        | some r => some (r, [])
        | none => none
      | _ => none
    | _ => none
  | _ => none
theorem slLen_RR2 {E : Env} {call : CallF} {j : Nat} {σ : St} {o : Oper} {r : Res} {ps : List Prop} (h : slLen E σ o = some (r, ps)) : RR2 E call j σ o = some r := by
  obtain ⟨dst, op, type, pos, after, guard⟩ := o
  unfold slLen at h
  split at h
  · rename_i args ats ho
    simp only at ho
    subst ho
    split at h
    · rename_i x hx
      split at h
      · rename_i b off n s h1
        split at h
        · rename_i r' h2
          have h := Option.some.inj h
          have e1 := congrArg Prod.fst h
          simp only at e1
          subst e1
          have hr : RR E call j σ ⟨dst, .call ⟨.builtin .len, args, ats⟩, type, pos, after, guard⟩ = none := by
            have hm : mapO (pvOf σ) args.toList = none := by
              rw [hx]
              simp only [mapO, pvOf, h1]
            simp only [RR, RRgen]
            split
            · rename_i os hos
              have : evQuiet E.Γ σ ⟨dst, .call ⟨.builtin .len, args, ats⟩, type, pos, after, guard⟩ os = none := by
                unfold evQuiet
                have e : evPure E.Γ σ ⟨dst, .call ⟨.builtin .len, args, ats⟩, type, pos, after, guard⟩ os = none := by
                  simp only [evPure, hm]
                rw [e]
              rw [this]
            · rfl
          unfold RR2
          rw [hr]
          exact h2
        · exact absurd h (by simp)
      · exact absurd h (by simp)
    · exact absurd h (by simp)
  · exact absurd h (by simp)
def RSym2 (E : Env) (C : CallS) (j : Nat) (σ : St) (o : Oper) : Option (Res × List Prop) :=
  match slIdx E σ o with
  | some r => some r
  | none => match slLen E σ o with
    | some r => some r
    | none => RSym E C j σ o
def isSlB (σ : St) (p : Operand) : Bool := match opd σ p with
  | some (.ptr b _) => σ.tmps.any fun (_, v) => match v with | .sl b' _ _ _ => Nat.beq b' b | _ => false
  | _ => false
theorem RSub3 {E : Env} {C : CallS} : RSub (RSym2 E C) (RR2 E (CH C)) := by
  intro j τ o r ps h hp
  unfold RSym2 at h
  split at h
  · rename_i q hq
    cases Option.some.inj h
    exact slIdx_RR2 hq hp
  · split at h
    · rename_i q hq
      cases Option.some.inj h
      exact slLen_RR2 hq
    · exact RSub2 j τ o r ps h hp
end Go.Ev
namespace Go.Ev
open Go.RowKit
variable {P : Program}
def ConO (P : Program) (f : FuncId) (args : List PV) (E : TypeId) (r : PV) : Prop :=
  ∀ (hw : Nat → Nat) (w : World) (vals : List Value), (∀ k, w.heap.size ≤ k → hw k = 0) → GlobOk hw w → ArgsRep hw w vals args →
    CallRes P f vals.toArray w fun v w' => ∃ hw', Qt hw w hw' w' ∧ Rep hw' w' v r ∧ OwnV P w.heap.size hw' w' E v
def ownOf (σ : St) (t : Nat) : Option Nat := match lkL (.t t) σ.own with
  | some E => some E
  | none => match lk t σ.al with
    | some l => lkL l σ.own
    | none => none
theorem ownOf_get {B : Nat} {g : G} {σ : St} {a : Act} {w : World} (hI : Inv P B g σ a w) {t E : Nat} (h : ownOf σ t = some E) : OwnV P B g.hw w E (a.tmps.getD t undef) := by
  unfold ownOf at h
  split at h
  · rename_i E' hE
    cases Option.some.inj h
    obtain ⟨val, k1, k2, _⟩ := hI.own _ _ hE
    have k1 : a.tmps.getD t undef = val := k1
    rw [k1]; exact k2
  · split at h
    · rename_i l hl
      obtain ⟨val, k1, k2, _⟩ := hI.own _ _ h
      rw [locIs_fun (hI.al t l (lk_mem hl)) k1]; exact k2
    · exact absurd h (by simp)
theorem conO_of {Γ : List (Nat × Ty)} (hΓ : TyOk P Γ) {f : FuncId} {fn : Func} {c : Code} (hcall : ∀ args w, (callFunc f args).run P w = .ok (.enter f args) w) (hf : P.funcs[f]? = some fn) (hb : fn.body = some c)
    {args : List PV} (hn : Nat.ble args.length fn.ntmps = true) {e : Ex} {σ' : St} (ht : Tri P c (initSt fn.ntmps args) e σ') (he : isOut e = true) {t : Nat} (hres : fn.results = #[.tmp t]) {E : TypeId} (hown : ownOf σ' t = some E) {r : List PV} (hr : evRes Γ σ' fn.results.toList = some r) : ConO P f args E (oneOf r) := by
  intro hw w vals hl hgl ha
  refine .inr ⟨f, hcall _ _, calls_of_wp hf hb (wp_mono (ht _ _ _ w (init_inv hl hgl ha (Nat.le_of_ble_eq_true hn))) fun ex a' w' ⟨hx, g', hI, hF⟩ => ?_)⟩
  have key : a'.defers = [] ∧ ∃ v, (results fn a'.tmps).run P w' = .ok v w' ∧ ∃ v0, Ending.returned v = .returned v0 ∧ ∃ hw', Qt hw w hw' w' ∧ Rep hw' w' v0 (oneOf r) ∧ OwnV P w.heap.size hw' w' E v0 := by
    obtain ⟨v, h1, h2⟩ := res_run hΓ hI hr
    have nl : ∀ k, ¬ LentB ⟨fun _ => none, hw⟩ (initSt fn.ntmps args) k := fun k ⟨b, cs, base, _, h, _⟩ => by simp [initSt, lk] at h
    have k2 := ownOf_get hI hown
    have hv : v = a'.tmps.getD t undef := by
      have e : (results fn a'.tmps).run P w' = .ok (a'.tmps.getD t undef) w' := by
        unfold results
        rw [hres, Array.mapM_eq_mapM_toList]
        simp only [map_eq_pure_bind, bind_assoc, pure_bind, Sem.run_bind, List.mapM_cons, List.mapM_nil, Sem.run_pure, Result.andThen_ok]
        rfl
      rw [h1] at e
      injection e with e1 _
    exact ⟨hI.defers, v, h1, v, rfl, g'.hw, ⟨⟨hF.os, hF.tape, hF.output, hF.size, fun k hk => hF.block k hk (nl k)⟩, fun k hk => hF.hw k hk (nl k), hI.hwlt⟩, h2, hv ▸ k2⟩
  cases ex <;> first | exact key | (cases e <;> first | exact hx.elim | exact absurd he (by simp [isOut]))
theorem own_box {hw : Nat → Nat} {w : World} {v : Value} {xs : List (List PV)} {B : Nat} {E : TypeId} {i : TypeInfo} (hi : P.info? E = some i) (h : Rep hw w v (.lst xs)) (ho : OwnV P B hw w E v) (hs : Lens i.size xs) (hx : xs ≠ []) (hflat : ∀ x ∈ xs, ∀ y ∈ x, flat y = true) :
    ∃ k cap, v = .slice (some ⟨k, 0, none⟩) xs.length cap ∧ B ≤ k ∧ k < w.heap.size ∧ xs.length ≤ cap ∧ ∀ (β : Nat → Option (Nat × Nat)) (hw' : Nat → Nat), BoxOk ⟨β, hw'⟩ w k 0 xs.flatten := by
  obtain ⟨i', n, xv, e1, hown, _⟩ := ho
  rw [hi] at e1
  cases Option.some.inj e1
  obtain ⟨hn, hc⟩ := own_cells h hown hs
  subst hn
  rcases hown.2 with ⟨_, h0⟩ | ⟨k, cap, cur, rfl, hB, hb, hcap, _, _, _⟩
  · exact absurd (List.eq_nil_of_length_eq_zero h0) hx
  · refine ⟨k, cap, rfl, hB, (Array.getElem?_eq_some_iff.1 hb).1, hcap, fun β hw' => ⟨fun j y hj => ?_⟩⟩
    obtain ⟨a, b, x, h4, h5, h6⟩ := flat_get hs hj
    obtain ⟨u, h7, h8, h9⟩ := hc a b x y h4 h5
    refine ⟨u, ?_, h8, hown.frozenAt _, .rep (flat_rep (hflat x (List.mem_of_getElem? h4) y (List.mem_of_getElem? h5)) h9)⟩
    have := hown.cells (g := k) rfl (a * i.size + b) u h7
    rw [Addr.add_lit] at this
    rw [h6]
    exact this
def ConB (P : Program) (f : FuncId) (args : List PV) (n : Nat) (cs : List PV) : Prop :=
  ∀ (hw : Nat → Nat) (w : World) (vals : List Value), (∀ k, w.heap.size ≤ k → hw k = 0) → GlobOk hw w → ArgsRep hw w vals args →
    CallRes P f vals.toArray w fun v w' => ∃ hw' k cap, Qt hw w hw' w' ∧ v = .slice (some ⟨k, 0, none⟩) n cap ∧ w.heap.size ≤ k ∧ k < w'.heap.size ∧ n ≤ cap ∧ hw' k = 0 ∧ ∀ (β : Nat → Option (Nat × Nat)) (hw2 : Nat → Nat), BoxOk ⟨β, hw2⟩ w' k 0 cs
theorem conB_of {f : FuncId} {args : List PV} {E : TypeId} {xs : List (List PV)} {i : TypeInfo} (h : ConO P f args E (.lst xs)) (hi : P.info? E = some i) (hs : Lens i.size xs) (hx : xs ≠ []) (hflat : ∀ x ∈ xs, ∀ y ∈ x, flat y = true) : ConB P f args xs.length xs.flatten := by
  intro hw w vals hl hgl ha
  refine (h hw w vals hl hgl ha).mono fun v w' ⟨hw', q, hr, ho⟩ => ?_
  obtain ⟨k, cap, h1, h2, h3, h4, h5⟩ := own_box hi hr ho hs hx hflat
  refine ⟨fun j => if j = k then 0 else hw' j, k, cap, ⟨q.below, fun j hj => ?_, fun j hj => ?_⟩, h1, h2, h3, h4, by simp, h5⟩
  · show (if j = k then 0 else hw' j) = hw j
    rw [if_neg (by omega)]
    exact q.hw j hj
  · show (if j = k then 0 else hw' j) = 0
    rw [if_neg (by omega)]
    exact q.hwlt j hj
theorem callB_sound {B : Nat} {g : G} {σ : St} {a : Act} {w : World} (hI : Inv P B g σ a w) {f : FuncId} {vals : List Value} {xs : List PV} {n : Nat} {cs : List PV} (hc : ConB P f xs n cs) (ha : ArgsRep g.hw w vals xs)
    {d s : Nat} (hd : d < σ.n) (hdb : lk d σ.boxes = none) (hrf : ∀ y ∈ cs, refP y = none) :
    CallRes P f vals.toArray w fun v w' => ∃ g', Inv P B g' (put { σ with boxes := (d, cs) :: σ.boxes } d (.sl d 0 n s)) (a.put (some d) v) w' ∧ Fr B g σ w g' (put { σ with boxes := (d, cs) :: σ.boxes } d (.sl d 0 n s)) w' := by
  refine (hc _ w vals hI.hwlt hI.glob.1 ha).mono fun v w' ⟨hw', k, cap, q, hv, h1, h2, h3, h4, h5⟩ => ?_
  obtain ⟨i1, f1⟩ := inv_qt hI q
  subst hv
  have hnb : ∀ b cs base, lk b σ.boxes = some cs → g.β b ≠ some (k, base) := by
    intro b cs base hb e
    obtain ⟨k', base', e1, e2, _⟩ := hI.box b cs hb
    rw [e] at e1
    cases Option.some.inj e1
    omega
  have hno : ∀ l E val, lkL l σ.own = some E → LocIs ⟨g.β, hw'⟩ a w' l val → val.ownBlock ≠ some k := by
    intro l E val hl hloc e
    obtain ⟨val0, q1, q2, _⟩ := hI.own l E hl
    have : val0 = val := by
      cases l with
      | t t => exact q1.symm.trans hloc
      | b b c =>
        obtain ⟨k1, b1, e1, e2⟩ := q1
        obtain ⟨k2, b2, e3, e4⟩ := hloc
        have e3 : g.β b = some (k2, b2) := e3
        rw [e1] at e3
        cases Option.some.inj e3
        obtain ⟨c1, hc1⟩ := hI.ownt _ E hl
        obtain ⟨k3, b3, e5, e6, _⟩ := hI.box b c1 hc1
        rw [e1] at e5
        cases Option.some.inj e5
        rw [q.cell k1 _ e6] at e4
        exact Option.some.inj (e2.symm.trans e4)
    subst this
    have := (own_block_lt q2 k e).1
    omega
  obtain ⟨i2, f2⟩ := new_sl i1 (s := s) hd hdb h2 (Nat.le_trans hI.base h1) h4 h3 hnb hno (h5 _ _) (fun y hy b' hb' => by rw [hrf y hy] at hb'; exact absurd hb' (by simp))
  exact ⟨_, i2, f1.trans f2⟩
end Go.Ev
namespace Go.Ev
open Go.RowKit
abbrev CallSP := Nat → List PV → List PV → Option (PV × List PV × List Prop)
abbrev CallSI := Nat → St → List AV → Option (PV × St × List Prop)
open Classical in
noncomputable def CHP (C : CallSP) : CallP := fun f cs args => match C f cs args with
  | some (r, cs', ps) => if AllP ps then some (r, cs') else none
  | none => none
open Classical in
noncomputable def CHI (C : CallSI) : CallI := fun f σ args => match C f σ args with
  | some (r, σ', ps) => if AllP ps then some (r, σ') else none
  | none => none
def CSPOk (P : Program) (C : CallSP) : Prop := ∀ f cs args r cs' ps, C f cs args = some (r, cs', ps) → AllP ps → ConP P f cs args r cs'
def CSIOk (P : Program) (C : CallSI) : Prop := ∀ f σ args r σ' ps, C f σ args = some (r, σ', ps) → AllP ps → InlOk P f σ args r σ'
theorem CHP_ok {P : Program} {C : CallSP} (h : CSPOk P C) : CallPOk P (CHP C) := fun f cs args r cs' hr => by
  unfold CHP at hr
  split at hr
  · rename_i r' cs2 ps h1
    split at hr
    · rename_i hp
      have := Option.some.inj hr
      cases this
      exact h _ _ _ _ _ _ h1 hp
    · exact absurd hr (by simp)
  · exact absurd hr (by simp)
theorem CHI_ok {P : Program} {C : CallSI} (h : CSIOk P C) : CallIOk P (CHI C) := fun f σ args r σ' hr => by
  unfold CHI at hr
  split at hr
  · rename_i r' cs2 ps h1
    split at hr
    · rename_i hp
      have := Option.some.inj hr
      cases this
      exact h _ _ _ _ _ _ h1 hp
    · exact absurd hr (by simp)
  · exact absurd hr (by simp)
def noT (x : Option St) : Option (St × List Prop) := match x with
  | some σ => some (σ, [])
  | none => none
def quietS (E : Env) (C : CallS) (j : Nat) (σ : St) (o : Oper) : Option (St × List Prop) :=
  match RSym2 E C j σ o with
  | some (r, ps) => match o.dst with
    | some d => some (addRes σ d r, ps)
    | none => bif isNone r.box then some (σ, ps) else none
  | none => none
def prOf : List Obl → Option Prop
  | [.pr p] => some p
  | _ => none
def callIS (C : CallSI) (σ : St) (o : Oper) (fid : Nat) (args : List Operand) : Option (St × List Prop) :=
  match mapO (opd σ) args with
  | some l => bif l.all (avIn σ.boxes) && noRefs σ.boxes then
      match C fid σ l with
      | some (r, σ1, ps) => match o.dst with
        | some d => bif Nat.blt d σ1.n then some (put σ1 d (.p r), ps) else none
        | none => some (σ1, ps)
      | none => none
    else none
  | none => none
def callS (E : Env) (C : CallS) (CP : CallSP) (CI : CallSI) (j : Nat) (σ : St) (o : Oper) (f : Operand) (args : List Operand) : Option (St × List Prop) :=
  match f with
  | .func fid => bif has fid E.wr then
      match args with
      | p :: rest => match opd σ p, mapO (opd σ) rest with
        | some (.ptr b off), some l => match lk b σ.boxes, handAll σ.boxes l with
          | some cs, some (xs, _) => match CP fid (cs.drop off) xs with
            | some (r, cs', ps) => match evCallp σ o.dst f args [.callp 0 [] [] r cs'] with
              | some (σ', _, _) => bif Nat.beq cs'.length (cs.length - off) then some (σ', ps) else none
              | none => none
            | none => none
          | _, _ => none
        | _, _ => none
      | [] => none
    else bif has fid E.inl then callIS CI σ o fid args
    else bif has fid E.cc then (match args with | [x] => noT (evCC σ o.dst x) | _ => none)
    else match lk fid E.bst with
    | some e => (match args with | [x] => noT (evBStr σ e o.dst x) | _ => none)
    | none => quietS E C j σ o
  | _ => quietS E C j σ o
def TSym (E : Env) (C : CallS) (CP : CallSP) (CI : CallSI) (j : Nat) (σ : St) (o : Oper) : Option (St × List Prop) :=
  match o.op with
  | .store T p x => match o.dst with
    | none => bif isSlB σ p then sStore E.Γ σ T p x else match evStore E.Γ σ T p x with
      | some σ' => some (σ', [])
      | none => none
    | some _ => none
  | .buildSlice T n ps => bif has T E.sla && Nat.beq n 0 then
      match o.dst, ps.toList with
      | some d, [] => noT (evBs0 E σ d T)
      | _, _ => none
    else quietS E C j σ o
  | .call ⟨.builtin .append, args, ats⟩ => match args.toList, ats.toList, o.dst with
    | [x, y], [t, t'], some d => bif has t E.sla && isE σ x then noT (evAppSl E σ d x y t t') else bif Nat.beq t t' then (bif Nat.blt d σ.n then
        match evAppend E.Γ σ d x y t t' [.pr True] with
        | some (σ', _, ob) => match prOf ob with
          | some p => some (σ', [p])
          | none => none
        | none => none
      else none) else bif Nat.blt d σ.n then noT (evAppendS E σ d x y t t') else none
    | _, _, _ => none
  | .slice T x none none none => match o.dst with
    | some d => bif Nat.blt d σ.n then noT (evFreeze E.Γ σ d T x) else none
    | none => none
  | .call ⟨.value f, args, _⟩ => callS E C CP CI j σ o f args.toList
  | .alloc T => bif Nat.beq T bldT then noT (allocT E noCall j σ o T) else quietS E C j σ o
  | _ => quietS E C j σ o
section
variable {P : Program} {σ : St} {o : Oper}
theorem noT_get {x : Option St} {r : St} {ps : List Prop} (h : noT x = some (r, ps)) : x = some r ∧ ps = [] := by
  unfold noT at h
  split at h
  · have := Option.some.inj h
    cases this
    exact ⟨rfl, rfl⟩
  · exact absurd h (by simp)
theorem quietS_get {E : Env} {C : CallS} {j : Nat} {σ' : St} {ps : List Prop} (h : quietS E C j σ o = some (σ', ps)) (hp : AllP ps) : quietT E (CH C) j σ o = some σ' := by
  unfold quietS at h
  unfold quietT
  split at h
  · rename_i r q hr
    split at h
    · rename_i d hd
      have := Option.some.inj h
      cases this
      simp only [RSub3 j σ o r _ hr hp, hd]
    · rename_i hd
      cases hb : isNone r.box with
      | false => rw [hb] at h; exact absurd h (by simp)
      | true =>
        rw [hb] at h
        have := Option.some.inj h
        cases this
        simp only [RSub3 j σ o r _ hr hp, hd, hb, cond_true]
  · exact absurd h (by simp)
theorem chk_of {Γ : List (Nat × Ty)} {d : Nat} {x y : Operand} {t t' : TypeId} {σ' : St} {os ob : List Obl} {p : Prop} (h : evAppend Γ σ d x y t t' [.pr True] = some (σ', os, ob)) (ho : prOf ob = some p) (hp : p) : chkAppend Γ σ x y t = true := by
  have lens : ∀ {n : Nat} {l : List (List PV)}, Lens n l → lensB n l = true := fun hl => List.all_eq_true.2 fun x hx => by simpa using hl x hx
  have blt : ∀ {a b : Nat}, a < b → Nat.blt a b = true := fun h => Nat.ble_eq_true_of_le h
  unfold evAppend at h
  unfold chkAppend
  split at h
  · rename_i ty xv ys _ os' hty hx hy he
    simp only [hty, hx, hy]
    cases hb : (Nat.beq t t' && Nat.beq ty.kd 3) with
    | false => rw [hb] at h; exact absurd h (by simp)
    | true =>
      rw [hb] at h
      simp only [cond_true] at h
      split at h
      · rename_i ety hety
        cases hb2 : (Nat.beq ety.size 0 || Nat.beq ety.bytes 0) with
        | true => rw [hb2] at h; exact absurd h (by simp)
        | false =>
          rw [hb2] at h
          simp only [cond_false] at h
          split at h
          · have := Option.some.inj h
            cases this
            cases ho
            simp only [hety, blt hp.1, Nat.ble_eq_true_of_le hp.2.1, lens hp.2.2, Bool.and_self]
          · rename_i xs t1
            split at h
            · rename_i E1 hE1
              cases hb3 : Nat.beq E1 ty.elem with
              | false => simp only [hb3] at h; exact absurd h (by simp)
              | true =>
                simp only [hb3] at h
                have := Option.some.inj h
                cases this
                cases ho
                simp only [hety, blt hp.1, Nat.ble_eq_true_of_le hp.2.1, lens hp.2.2, Bool.and_self]
            · exact absurd h (by simp)
          · exact absurd h (by simp)
      · exact absurd h (by simp)
  · exact absurd h (by simp)
theorem TSym_TT {E : Env} {C : CallS} {CP : CallSP} {CI : CallSI} : TSub (TSym E C CP CI) (TT E (CH C) (CHP CP) (CHI CI)) := by
  intro j σ o σ' ps h hp
  have hQ : ∀ {o : Oper}, quietS E C j σ o = some (σ', ps) → quietT E (CH C) j σ o = some σ' := fun h => quietS_get h hp
  obtain ⟨dst, op, type, pos, after, guard⟩ := o
  unfold TSym at h
  cases op with
  | store T p x =>
    cases dst with
    | some d => exact absurd h (by simp)
    | none =>
      simp only at h
      cases hb : isSlB σ p with
      | true =>
        rw [hb, cond_true] at h
        simp only [TT, sStore_ev h hp]
      | false =>
        rw [hb, cond_false] at h
        split at h
        · rename_i σ2 h2
          have := Option.some.inj h
          cases this
          simp only [TT, h2]
        · exact absurd h (by simp)
  | buildSlice T n q =>
    simp only at h
    simp only [TT]
    cases hb : (has T E.sla && Nat.beq n 0) with
    | false => rw [hb] at h; exact hQ h
    | true =>
      rw [hb] at h
      simp only [cond_true] at h ⊢
      split at h
      · rename_i d hd hps
        simp only [hps]
        exact (noT_get h).1
      · exact absurd h (by simp)
  | slice T x lo hi mx =>
    cases lo with
    | some l => exact hQ h
    | none => cases hi with
      | some l => exact hQ h
      | none => cases mx with
        | some l => exact hQ h
        | none =>
          cases dst with
          | none => exact absurd h (by simp)
          | some d =>
            simp only at h
            simp only [TT]
            cases hb : Nat.blt d σ.n with
            | false => rw [hb] at h; exact absurd h (by simp)
            | true => rw [hb] at h; exact (noT_get h).1
  | alloc T =>
    simp only at h
    simp only [TT, allocT]
    cases hb : Nat.beq T bldT with
    | false => rw [hb] at h; exact hQ h
    | true =>
      rw [hb] at h
      have h1 := (noT_get h).1
      simp only [allocT, hb, cond_true] at h1
      exact h1
  | call c =>
    obtain ⟨callee, args, ats⟩ := c
    cases callee with
    | value f =>
      simp only at h
      simp only [TT]
      unfold callS at h
      unfold callT
      split at h
      · rename_i fid
        simp only
        cases hb : has fid E.wr with
        | true =>
          rw [hb] at h
          simp only [cond_true] at h ⊢
          split at h
          · rename_i p rest hargs
            split at h
            · rename_i b off l hop hl
              split at h
              · rename_i cs xs c hcs hxs
                split at h
                · rename_i r cs' q hcp
                  split at h
                  · rename_i σ1 _ _ h1
                    cases hb2 : Nat.beq cs'.length (cs.length - off) with
                    | false => rw [hb2] at h; exact absurd h (by simp)
                    | true =>
                      rw [hb2] at h
                      have := Option.some.inj h
                      cases this
                      have hch : CHP CP fid (cs.drop off) xs = some (r, cs') := by
                        unfold CHP
                        rw [hcp]
                        simp only [hp, if_true]
                      simp only [hargs, hop, hl, hcs, hxs, hch]
                      rw [hargs] at h1
                      simp only [h1, hb2, cond_true]
                  · exact absurd h (by simp)
                · exact absurd h (by simp)
              · exact absurd h (by simp)
            · exact absurd h (by simp)
          · exact absurd h (by simp)
        | false =>
          rw [hb] at h
          simp only [cond_false] at h ⊢
          cases hb2 : has fid E.inl with
          | true =>
            rw [hb2] at h
            simp only [cond_true] at h ⊢
            unfold callIS at h
            unfold callI
            split at h
            · rename_i l hl
              simp only [hl]
              cases hb3 : (l.all (avIn σ.boxes) && noRefs σ.boxes) with
              | false => rw [hb3] at h; exact absurd h (by simp)
              | true =>
                rw [hb3] at h
                simp only [cond_true] at h ⊢
                split at h
                · rename_i r σ1 q hci
                  have hch : AllP q → CHI CI fid σ l = some (r, σ1) := by
                    intro hq
                    unfold CHI
                    rw [hci]
                    simp only [hq, if_true]
                  cases dst with
                  | some d =>
                    simp only at h ⊢
                    cases hb4 : Nat.blt d σ1.n with
                    | false => rw [hb4] at h; exact absurd h (by simp)
                    | true =>
                      rw [hb4] at h
                      have := Option.some.inj h
                      cases this
                      simp only [hch hp, hb4, cond_true]
                  | none =>
                    simp only at h ⊢
                    have := Option.some.inj h
                    cases this
                    simp only [hch hp]
                · exact absurd h (by simp)
            · exact absurd h (by simp)
          | false =>
            rw [hb2] at h
            simp only [cond_false] at h ⊢
            cases hb3 : has fid E.cc with
            | true =>
              rw [hb3] at h
              simp only [cond_true] at h ⊢
              split at h
              · rename_i x hx
                simp only [hx]
                exact (noT_get h).1
              · exact absurd h (by simp)
            | false =>
              rw [hb3] at h
              simp only [cond_false] at h ⊢
              split at h
              · rename_i e he
                simp only [he]
                split at h
                · rename_i x hx
                  simp only [hx]
                  exact (noT_get h).1
                · exact absurd h (by simp)
              · rename_i he
                simp only [he]
                exact hQ h
      · rename_i hne
        split
        · rename_i fid; exact (hne fid rfl).elim
        · exact hQ h
    | builtin b =>
      cases b with
      | append =>
        simp only at h
        simp only [TT]
        split at h
        · rename_i x y t t' d hargs hats
          simp only [hargs, hats]
          cases hb : (has t E.sla && isE σ x) with
          | true =>
            rw [hb] at h
            exact (noT_get h).1
          | false =>
            rw [hb] at h
            simp only [cond_false] at h ⊢
            cases hb2 : Nat.beq t t' with
            | true =>
              rw [hb2] at h
              simp only [cond_true] at h ⊢
              cases hb3 : Nat.blt d σ.n with
              | false => rw [hb3] at h; exact absurd h (by simp)
              | true =>
                rw [hb3] at h
                simp only [cond_true] at h
                split at h
                · rename_i σ1 os1 ob1 h1
                  split at h
                  · rename_i p hpr
                    have := Option.some.inj h
                    cases this
                    simp only [chk_of h1 hpr (one hp), Bool.and_self, cond_true, h1]
                  · exact absurd h (by simp)
                · exact absurd h (by simp)
            | false =>
              rw [hb2] at h
              simp only [cond_false] at h ⊢
              cases hb3 : Nat.blt d σ.n with
              | false => rw [hb3] at h; exact absurd h (by simp)
              | true => rw [hb3] at h; exact (noT_get h).1
        · exact absurd h (by simp)
      | _ => exact hQ h
    | _ => exact hQ h
  | _ => exact hQ h
end
structure Gx where
  pb : List (Nat × List Nat)
  cb : List Nat
  ow : List (Nat × Nat)
def noG : Gx := ⟨[], [], []⟩
structure HdOk (cs : List PV) : Prop where
  h : hdOk cs = true
def pubS (d : Nat) (σ : St) : Option (St × List Prop) := match lk d σ.tmps with
  | some (.sl b off n s) => match lk b σ.boxes with
    | some cs => bif Nat.blt d σ.n && Nat.beq off 0 then
        some ({ σ with tmps := (d, .p (.lst (chunk s n cs))) :: σ.tmps, ro := b :: σ.ro }, [cs.length = n * s ∧ HdOk cs])
      else none
    | none => none
  | some _ => some (σ, [])
  | none => none
def pubAll : List Nat → St → Option (St × List Prop)
  | [], σ => some (σ, [])
  | d :: r, σ => match pubS d σ with
    | some (σ1, ps) => match pubAll r σ1 with
      | some (σ2, qs) => some (σ2, ps ++ qs)
      | none => none
    | none => none
theorem allP_app {l l' : List Prop} (h : AllP (l ++ l')) : AllP l ∧ AllP l' := ⟨fun p hp => h p (List.mem_append_left _ hp), fun p hp => h p (List.mem_append_right _ hp)⟩
section
variable {P : Program} {B : Nat} {g : G} {σ σ' : St} {a : Act} {w : World}
theorem inv_know (hI : Inv P B g σ a w) {d : Nat} {x : PV} (hd : d < σ.n) (hr : Rep g.hw w (a.tmps.getD d undef) x) : Inv P B g { σ with tmps := (d, .p x) :: σ.tmps } a w := by
  have lkc : ∀ t' v, lk t' ((d, AV.p x) :: σ.tmps) = some v → (t' = d ∧ v = .p x) ∨ lk t' σ.tmps = some v := by
    intro t' v h
    rw [lk_cons] at h
    split at h
    · rename_i e
      exact .inl ⟨e, (Option.some.inj h).symm⟩
    · exact .inr h
  refine ⟨hI.size, hI.defers, fun t' v h => ?_, fun t' b off h => ?_, fun t' f bs h => ?_, hI.box, hI.inj, hI.hwlt, hI.base, hI.glob, hI.own, hI.ownt, hI.owninj, hI.al, hI.alt, fun t' b off n s h => ?_, hI.ref⟩
  · rcases lkc t' v h with ⟨rfl, rfl⟩ | h
    · exact ⟨hd, hr⟩
    · exact hI.tmp t' v h
  · rcases lkc t' _ h with ⟨_, e⟩ | h
    · cases e
    · exact hI.ptr t' b off h
  · rcases lkc t' _ h with ⟨_, e⟩ | h
    · cases e
    · exact hI.fnp t' f bs h
  · rcases lkc t' _ h with ⟨_, e⟩ | h
    · cases e
    · exact hI.sl t' b off n s h
theorem pubS_inv {d : Nat} {ps : List Prop} (h : pubS d σ = some (σ', ps)) (hp : AllP ps) (hI : Inv P B g σ a w) : ∃ g', Inv P B g' σ' a w ∧ Fr B g σ w g' σ' w := by
  unfold pubS at h
  split at h
  · rename_i b off n s hd
    split at h
    · rename_i cs hcs
      cases hb : (Nat.blt d σ.n && Nat.beq off 0) with
      | false => rw [hb] at h; exact absurd h (by simp)
      | true =>
        rw [hb] at h
        cases Option.some.inj h
        obtain ⟨p1, p2⟩ := hp _ List.mem_cons_self
        rw [Bool.and_eq_true] at hb
        have e0 := Nat.eq_of_beq_eq_true hb.2
        subst e0
        have hdn : d < σ.n := Nat.le_of_ble_eq_true hb.1
        obtain ⟨k, base, cap, h1, h2, h3⟩ := (hI.tmp d _ hd).2
        obtain ⟨i1, f1⟩ := freeze_inv hI hcs h1
        obtain ⟨k', base', hk', hlt, hok, _⟩ := i1.box b cs hcs
        have hk2 : g.β b = some (k', base') := hk'
        rw [h1] at hk2
        cases Option.some.inj hk2
        have hrep : Rep (fun j => if j = k then max (g.hw j) (base + cs.length) else g.hw j) w (.slice (some ⟨k, base + 0, none⟩) n cap) (.lst (chunk s n cs)) := by
          refine whole_rep_cap p1 hok.cells p2.h h2 ?_
          simp only [if_true]
          omega
        refine ⟨_, inv_know i1 hdn (by rw [h3]; exact hrep), ⟨f1.os, f1.tape, f1.output, f1.size, f1.n, f1.block, f1.cell, f1.frozen, f1.hw, f1.par, f1.ext⟩⟩
    · exact absurd h (by simp)
  · cases Option.some.inj h
    exact ⟨g, hI, Fr.refl⟩
  · exact absurd h (by simp)
theorem pubAll_inv : ∀ {l : List Nat} {σ σ' : St} {g : G} {ps : List Prop}, pubAll l σ = some (σ', ps) → AllP ps → Inv P B g σ a w → ∃ g', Inv P B g' σ' a w ∧ Fr B g σ w g' σ' w
  | [], σ, σ', g, ps, h, _, hI => by
    cases Option.some.inj h
    exact ⟨g, hI, Fr.refl⟩
  | d :: r, σ, σ', g, ps, h, hp, hI => by
    unfold pubAll at h
    split at h
    · rename_i σ1 ps1 h1
      split at h
      · rename_i σ2 qs h2
        cases Option.some.inj h
        obtain ⟨q1, q2⟩ := allP_app hp
        obtain ⟨g1, i1, f1⟩ := pubS_inv h1 q1 hI
        obtain ⟨g2, i2, f2⟩ := pubAll_inv h2 q2 i1
        exact ⟨g2, i2, f1.trans f2⟩
      · exact absurd h (by simp)
    · exact absurd h (by simp)
theorem callO_sound (hI : Inv P B g σ a w) {f : FuncId} {vals : List Value} {xs : List PV} {E : TypeId} {r : PV} (hc : ConO P f xs E r) (ha : ArgsRep g.hw w vals xs) {d : Nat} (hd : d < σ.n) :
    CallRes P f vals.toArray w fun v w' => ∃ g', Inv P B g' { put σ d (.p r) with own := (.t d, E) :: σ.own.filter fun (l, _) => !(l.eq (.t d)) } (a.put (some d) v) w' ∧ Fr B g σ w g' { put σ d (.p r) with own := (.t d, E) :: σ.own.filter fun (l, _) => !(l.eq (.t d)) } w' := by
  refine (hc _ w vals hI.hwlt hI.glob.1 ha).mono fun v w' ⟨hw', q, hr, ho⟩ => ?_
  obtain ⟨i1, f1⟩ := inv_qt hI q
  have i2 := put_inv i1 hd hr
  have hsz : (a.put (some d) v).tmps.getD d undef = v := by
    have hs := hI.size
    show (a.tmps.setIfInBounds d v).getD d undef = v
    simp [Array.getD, hs, hd]
  have hlt : ∀ k, v.ownBlock = some k → w.heap.size ≤ k := fun k hk => (own_block_lt (g := ⟨g.β, hw'⟩) ho k hk).2
  refine ⟨⟨g.β, hw'⟩, claim_inv i2 hd hsz ⟨ho.choose, ho.choose_spec.choose, ho.choose_spec.choose_spec.choose, ho.choose_spec.choose_spec.choose_spec.1, ?_, ho.choose_spec.choose_spec.choose_spec.2.2⟩ ?_ ?_, ⟨f1.os, f1.tape, f1.output, f1.size, f1.n, f1.block, f1.cell, f1.frozen, f1.hw, f1.par, f1.ext⟩⟩
  · have h2 := ho.choose_spec.choose_spec.choose_spec.2.1
    refine ⟨h2.1, ?_⟩
    rcases h2.2 with h | ⟨gb, cap, cur, e1, e2, r⟩
    · exact .inl h
    · exact .inr ⟨gb, cap, cur, e1, Nat.le_trans hI.base e2, r⟩
  · intro k hk b cs base hb e
    obtain ⟨k', base', e1, e2, _⟩ := hI.box b cs hb
    have e : g.β b = some (k, base) := e
    rw [e] at e1
    cases Option.some.inj e1
    have := hlt k hk
    omega
  · intro l E' val' k hl hloc hk hk2
    have hl' : lkL l σ.own = some E' ∧ l ≠ .t d := by
      have hl : lkL l (σ.own.filter fun (l, _) => !(l.eq (.t d))) = some E' := hl
      rw [lkL_filter (fun l' => !(l'.eq (.t d)))] at hl
      split at hl
      · rename_i hn
        refine ⟨hl, fun e => ?_⟩
        subst e
        rw [Loc.eq_iff.2 rfl] at hn
        exact absurd hn (by simp)
      · exact absurd hl (by simp)
    obtain ⟨val0, q1, q2, _⟩ := i1.own l E' hl'.1
    have hv0 : val0 = val' := by
      cases l with
      | t t =>
        have q1 : a.tmps.getD t undef = val0 := q1
        have hloc : (a.tmps.setIfInBounds d v).getD t undef = val' := hloc
        have ne : d ≠ t := fun e => hl'.2 (by rw [e])
        rw [← q1, ← hloc]
        simp only [Array.getD_eq_getD_getElem?, Array.getElem?_setIfInBounds]
        simp [ne]
      | b b c =>
        obtain ⟨k1, b1, e1, e2⟩ := q1
        obtain ⟨k2, b2, e3, e4⟩ := hloc
        rw [e1] at e3
        cases Option.some.inj e3
        exact Option.some.inj (e2.symm.trans e4)
    subst hv0
    have h0 := hI.own l E' hl'.1
    obtain ⟨val1, r1, r2, _⟩ := h0
    have hv1 : val1 = val0 := by
      cases l with
      | t t => exact r1.symm.trans q1
      | b b c =>
        obtain ⟨k1, b1, e1, e2⟩ := r1
        obtain ⟨k2, b2, e3, e4⟩ := q1
        have e3 : g.β b = some (k2, b2) := e3
        rw [e1] at e3
        cases Option.some.inj e3
        obtain ⟨c1, hc1⟩ := hI.ownt _ E' hl'.1
        obtain ⟨k3, b3, e5, e6, _⟩ := hI.box b c1 hc1
        rw [e1] at e5
        cases Option.some.inj e5
        rw [q.cell k1 _ e6] at e4
        exact Option.some.inj (e2.symm.trans e4)
    subst hv1
    have := (own_block_lt r2 k hk2).1
    have := hlt k hk
    omega
end
def callGS (E : Env) (C : CallS) (G : Gx) (σ : St) (d fid : Nat) (args : List Operand) : Option (St × List Prop) :=
  match lk fid G.ow, mapO (opd σ) args with
  | some T, some l => match handAll σ.boxes l with
    | some (xs, c) => match c with
      | true => none
      | false => match C fid xs with
        | some (r, ps) => match Nat.blt d σ.n with
          | false => none
          | true => match has d G.cb with
            | true => match r, lk T E.Γ with
              | .lst rows, some ety => bif isNone (lk d σ.boxes) then
                  some (put { σ with boxes := (d, rows.flatten) :: σ.boxes } d (.sl d 0 rows.length ety.size), ps ++ [rows ≠ [] ∧ Lens ety.size rows ∧ ∀ x ∈ rows, ∀ y ∈ x, flat y = true])
                else none
              | _, _ => none
            | false => some ({ put σ d (.p r) with own := (.t d, T) :: σ.own.filter fun (l, _) => !(l.eq (.t d)) }, ps)
        | none => none
    | none => none
  | _, _ => none
def TSymO (E : Env) (C : CallS) (CP : CallSP) (CI : CallSI) (G : Gx) (j : Nat) (σ : St) (o : Oper) : Option (St × List Prop) :=
  match o.op, o.dst with
  | .call ⟨.value (.func fid), args, _⟩, some d => (match isSome' (lk fid G.ow) with
    | true => callGS E C G σ d fid args.toList
    | false => TSym E C CP CI j σ o)
  | _, _ => TSym E C CP CI j σ o
def TSymG (E : Env) (C : CallS) (CP : CallSP) (CI : CallSI) (G : Gx) (j : Nat) (σ : St) (o : Oper) : Option (St × List Prop) :=
  match (match o.dst with | some d => lk d G.pb | none => none) with
  | some l => match pubAll l σ with
    | some (σ1, ps) => match TSymO E C CP CI G j σ1 o with
      | some (σ2, qs) => some (σ2, ps ++ qs)
      | none => none
    | none => none
  | none => TSymO E C CP CI G j σ o
def OwOk (P : Program) (C : CallS) (G : Gx) : Prop := ∀ f T, lk f G.ow = some T → ∀ args r ps, C f args = some (r, ps) → AllP ps → ConO P f args T r
theorem owOk_no {P : Program} {C : CallS} : OwOk P C noG := fun f T h => by simp [noG, lk] at h
open Classical in
noncomputable def TG0 (E : Env) (C : CallS) (CP : CallSP) (CI : CallSI) (G : Gx) (j : Nat) (σ : St) (o : Oper) : Option St := match TSymG E C CP CI G j σ o with
  | some (σ', ps) => if AllP ps then some σ' else none
  | none => none
section
variable {P : Program} {B : Nat} {g : G} {σ : St} {a : Act} {w : World} {o : Oper}
theorem hand_args (hI : Inv P B g σ a w) {l : List AV} {vals : List Value} (hl : vals.length = l.length) (hv : ∀ (j : Nat) (v : Value) (av : AV), vals[j]? = some v → l[j]? = some av → RepA g w v av)
    {xs : List PV} (hh : handAll σ.boxes l = some (xs, false)) : ArgsRep g.hw w vals xs := by
  obtain ⟨e1, e2⟩ := handAll_get hh
  have getl : ∀ {j : Nat} {v : Value}, vals[j]? = some v → ∃ av, l[j]? = some av := by
    intro j v hj
    have : j < l.length := by have := (List.getElem?_eq_some_iff.1 hj).1; omega
    exact ⟨_, List.getElem?_eq_getElem this⟩
  refine ⟨by omega, fun j x y hx hy => ?_⟩
  obtain ⟨av, hav⟩ := getl hx
  obtain ⟨d, h3, h4⟩ := e2 j av y hav hy
  have hd := h4 rfl
  subst hd
  have hr := hv j x av hx hav
  cases av with
  | p z =>
    have := Option.some.inj h3
    cases this
    exact norm_rep hr
  | ptr b off =>
    unfold hand at h3
    split at h3
    · rename_i e; exact absurd e (by simp)
    · split at h3
      · rename_i cs0 _
        cases hd : hdOk cs0 <;> rw [hd] at h3 <;> exact absurd h3 (by simp)
      · exact absurd h3 (by simp)
    · rename_i e; exact absurd e (by simp)
    · rename_i e; exact absurd e (by simp)
  | sl b off n s =>
    unfold hand at h3
    split at h3
    · rename_i e; exact absurd e (by simp)
    · rename_i e; exact absurd e (by simp)
    · rename_i e; exact absurd e (by simp)
    · exact absurd h3 (by simp)
  | fnp f bs =>
    unfold hand at h3
    split at h3
    · rename_i e; exact absurd e (by simp)
    · rename_i e; exact absurd e (by simp)
    · split at h3
      · exact absurd h3 (by simp)
      · exact absurd h3 (by simp)
    · rename_i e; exact absurd e (by simp)
theorem flat_ref {y : PV} (h : flat y = true) : refP y = none := by cases y <;> first | rfl | exact absurd h (by simp [flat])
theorem callGS_goes {E : Env} (hE : EnvOk P E) {C : CallS} {G : Gx} (hG : OwOk P C G) (hI : Inv P B g σ a w) {fid d : Nat} {args : Array Operand} {ats : Array TypeId} {σ' : St} {ps : List Prop} (hop : o.op = .call ⟨.value (.func fid), args, ats⟩) (hd : o.dst = some d)
    (h : callGS E C G σ d fid args.toList = some (σ', ps)) (hp : AllP ps) : Goes P B g σ a w o σ' := by
  unfold callGS at h
  split at h
  · rename_i T l hT hl
    split at h
    · rename_i xs c hx
      split at h
      · exact absurd h (by simp)
      · split at h
        · rename_i r qs hc
          split at h
          · exact absurd h (by simp)
          · rename_i hdn
            have hdn : d < σ.n := Nat.le_of_ble_eq_true hdn
            obtain ⟨e1, e2⟩ := avs_of hI hl
            have ha := hand_args hI e1 e2 hx
            have key : ∀ {σ2 : St} {K : Value → World → Prop}, CallRes P fid (args.toList.map a.eval).toArray w K → (∀ v w', K v w' → ∃ g', Inv P B g' σ2 (a.put o.dst v) w' ∧ Fr B g σ w g' σ2 w') → Goes P B g σ a w o σ2 := by
              intro σ2 K hcall hnext
              refine callRes_op (hcall.mono hnext) (fun res hres => ?_)
              have e : args.map a.eval = (args.toList.map a.eval).toArray := by apply Array.ext'; simp
              have hfv : a.eval (.func fid) = .func (.func fid) #[] #[] := rfl
              unfold execOp
              rw [hop]
              simp only [resolve, Deferred.ofValue, hfv, pure_bind, invoke, e]
              rw [← hres]
              congr 2
              simp
            split at h
            · split at h
              · rename_i rows ety hety
                cases hb : isNone (lk d σ.boxes) with
                | false => rw [hb] at h; exact absurd h (by simp)
                | true =>
                  rw [hb] at h
                  cases Option.some.inj h
                  obtain ⟨q1, q2⟩ := allP_app hp
                  obtain ⟨r1, r2, r3⟩ := q2 _ List.mem_cons_self
                  have hdb : lk d σ.boxes = none := by
                    cases hh : lk d σ.boxes with
                    | none => rfl
                    | some c => rw [hh] at hb; exact absurd hb (by simp [isNone])
                  obtain ⟨i, z, hi, _, hsz, _⟩ := (tyIs (hE.Γ _ _ hety)).info
                  have hcon := conB_of (hG _ _ hT _ _ _ hc q1) hi (by rw [← hsz]; exact r2) r1 r3
                  refine key (callB_sound (s := ety.size) hI hcon ha hdn hdb (fun y hy => ?_)) (fun v w' hk => by rw [hd]; exact hk)
                  obtain ⟨x, hx1, hx2⟩ := List.mem_flatten.1 hy
                  exact flat_ref (r3 x hx1 y hx2)
              · exact absurd h (by simp)
            · cases Option.some.inj h
              exact key (callO_sound hI (hG _ _ hT _ _ _ hc hp) ha hdn) (fun v w' hk => by rw [hd]; exact hk)
        · exact absurd h (by simp)
    · exact absurd h (by simp)
  · exact absurd h (by simp)
theorem TSymO_goes {E : Env} (hE : EnvOk P E) {C : CallS} (hC : CSOk P C) {CP : CallSP} (hP : CSPOk P CP) {CI : CallSI} (hJ : CSIOk P CI) {G : Gx} (hG : OwOk P C G) {j : Nat} {σ' : St} {ps : List Prop}
    (h : TSymO E C CP CI G j σ o = some (σ', ps)) (hp : AllP ps) (hI : Inv P B g σ a w) : Goes P B g σ a w o σ' := by
  have hT : ∀ {σ' : St} {ps : List Prop}, TSym E C CP CI j σ o = some (σ', ps) → AllP ps → Goes P B g σ a w o σ' := fun h hp => TT_ok hE (CH_ok hC) (CHP_ok hP) (CHI_ok hJ) j σ o _ (TSym_TT _ _ _ _ _ h hp) B g a w hI
  unfold TSymO at h
  split at h
  · rename_i fid args ats d hop hd
    split at h
    · exact callGS_goes hE hG hI hop hd h hp
    · exact hT h hp
  · exact hT h hp
theorem TSymG_goes {E : Env} (hE : EnvOk P E) {C : CallS} (hC : CSOk P C) {CP : CallSP} (hP : CSPOk P CP) {CI : CallSI} (hJ : CSIOk P CI) {G : Gx} (hG : OwOk P C G) {j : Nat} {σ' : St} {ps : List Prop}
    (h : TSymG E C CP CI G j σ o = some (σ', ps)) (hp : AllP ps) (hI : Inv P B g σ a w) : Goes P B g σ a w o σ' := by
  unfold TSymG at h
  split at h
  · split at h
    · rename_i σ1 ps1 h1
      split at h
      · rename_i σ2 qs h2
        cases Option.some.inj h
        obtain ⟨q1, q2⟩ := allP_app hp
        obtain ⟨g1, i1, f1⟩ := pubAll_inv h1 q1 hI
        exact (TSymO_goes hE hC hP hJ hG h2 q2 i1).mono fun v w' ⟨g', k1, k2⟩ => ⟨g', k1, f1.trans k2⟩
      · exact absurd h (by simp)
    · exact absurd h (by simp)
  · exact TSymO_goes hE hC hP hJ hG h hp hI
theorem TG0_sub {E : Env} {C : CallS} {CP : CallSP} {CI : CallSI} {G : Gx} : TSub (TSymG E C CP CI G) (TG0 E C CP CI G) := fun j σ o σ' ps h hp => by
  unfold TG0
  rw [h]
  simp only [hp, if_true]
theorem TG0_ok {E : Env} (hE : EnvOk P E) {C : CallS} (hC : CSOk P C) {CP : CallSP} (hP : CSPOk P CP) {CI : CallSI} (hJ : CSIOk P CI) {G : Gx} (hG : OwOk P C G) : ∀ j σ o σ', TG0 E C CP CI G j σ o = some σ' → ∀ B g a w, Inv P B g σ a w → Goes P B g σ a w o σ' := by
  intro j σ o σ' h B g a w hI
  unfold TG0 at h
  split at h
  · rename_i σ2 ps h2
    split at h
    · rename_i hp
      cases Option.some.inj h
      exact TSymG_goes hE hC hP hJ hG h2 hp hI
    · exact absurd h (by simp)
  · exact absurd h (by simp)
end
def sxEnd (E : Env) (l : List ResultVar) (Q : PV → Prop) (e : Ex) (σ : St) : Prop :=
  bif isOut e then (match evRes E.Γ σ l with
    | some r => Q (oneOf r)
    | none => False) else False
def sxF (E : Env) (C : CallS) (CP : CallSP) (CI : CallSI) (G : Gx) (LS : List (Nat × LSum)) (n : Nat) (fn : Func) (args : List PV) (Q : PV → Prop) : Prop :=
  match fn.body with
  | some c => bif Nat.ble args.length fn.ntmps then
      sStA (initSt fn.ntmps args) fun σ => sxCode E.Γ (RSym E C) (TSymG E C CP CI G) LS n none c σ (sxEnd E fn.results.toList Q)
    else False
  | none => False
def LoopsOk (P : Program) (LS : List (Nat × LSum)) (fn : Func) : Prop := ∀ c, fn.body = some c → ∀ b ∈ loopsOf c, ∀ S, lk (idOf b) LS = some S → LsOk P b S
theorem loopsOk_nil {P : Program} {fn : Func} : LoopsOk P [] fn := fun c _ b _ S h => by simp [lk] at h
theorem con_sx {P : Program} {E : Env} (hE : EnvOk P E) {C : CallS} (hC : CSOk P C) {CP : CallSP} (hP : CSPOk P CP) {CI : CallSI} (hI : CSIOk P CI) {G : Gx} (hG : OwOk P C G) {LS : List (Nat × LSum)} {f : Nat} {fn : Func} (hf : lk f E.fns = some fn) (hL : LoopsOk P LS fn) {n : Nat} {args : List PV} {Q : PV → Prop}
    (h : sxF E C CP CI G LS n fn args Q) : ∃ r, Q r ∧ Con P f args r := by
  obtain ⟨k1, k2⟩ := hE.fns f fn hf
  unfold sxF at h
  split at h
  · rename_i c hc
    cases hb : Nat.ble args.length fn.ntmps with
    | false => rw [hb] at h; exact h.elim
    | true =>
      rw [hb] at h
      simp only [cond_true, sStA_eq] at h
      obtain ⟨e, σ', h1, h2, _⟩ := (sxCode_sound hE.Γ hE.mixed RSub2 (RR2_ok hE (CH_ok hC)) TG0_sub (TG0_ok hE hC hP hI hG) n).1 c _ _ (hL c hc) h
      unfold sxEnd at h1
      cases ho : isOut e with
      | false => rw [ho] at h1; exact h1.elim
      | true =>
        rw [ho] at h1
        simp only [cond_true] at h1
        split at h1
        · rename_i r hr
          exact ⟨_, h1, con_of hE.Γ k2 k1 hc hb h2 ho hr⟩
        · exact h1.elim
  · exact h.elim
def sxEndO (E : Env) (l : List ResultVar) (T : Nat) (Q : PV → Prop) (e : Ex) (σ : St) : Prop :=
  bif isOut e then (match l with
    | [.tmp t] => match ownOf σ t with
      | some T' => bif Nat.beq T' T then (match evRes E.Γ σ [.tmp t] with
        | some r => Q (oneOf r)
        | none => False) else False
      | none => False
    | _ => False) else False
def sxFO (E : Env) (C : CallS) (CP : CallSP) (CI : CallSI) (G : Gx) (LS : List (Nat × LSum)) (n : Nat) (fn : Func) (T : Nat) (args : List PV) (Q : PV → Prop) : Prop :=
  match fn.body with
  | some c => bif Nat.ble args.length fn.ntmps then
      sStA (initSt fn.ntmps args) fun σ => sxCode E.Γ (RSym E C) (TSymG E C CP CI G) LS n none c σ (sxEndO E fn.results.toList T Q)
    else False
  | none => False
theorem conO_sx {P : Program} {E : Env} (hE : EnvOk P E) {C : CallS} (hC : CSOk P C) {CP : CallSP} (hP : CSPOk P CP) {CI : CallSI} (hI : CSIOk P CI) {G : Gx} (hG : OwOk P C G) {LS : List (Nat × LSum)} {f : Nat} {fn : Func} (hf : lk f E.fns = some fn) (hL : LoopsOk P LS fn) {n : Nat} {T : Nat} {args : List PV} {Q : PV → Prop}
    (h : sxFO E C CP CI G LS n fn T args Q) : ∃ r, Q r ∧ ConO P f args T r := by
  obtain ⟨k1, k2⟩ := hE.fns f fn hf
  unfold sxFO at h
  split at h
  · rename_i c hc
    cases hb : Nat.ble args.length fn.ntmps with
    | false => rw [hb] at h; exact h.elim
    | true =>
      rw [hb] at h
      simp only [cond_true, sStA_eq] at h
      obtain ⟨e, σ', h1, h2, _⟩ := (sxCode_sound hE.Γ hE.mixed RSub2 (RR2_ok hE (CH_ok hC)) TG0_sub (TG0_ok hE hC hP hI hG) n).1 c _ _ (hL c hc) h
      unfold sxEndO at h1
      cases ho : isOut e with
      | false => rw [ho] at h1; exact h1.elim
      | true =>
        rw [ho] at h1
        simp only [cond_true] at h1
        split at h1
        · rename_i t ht
          split at h1
          · rename_i T' hT'
            cases hbt : Nat.beq T' T with
            | false => rw [hbt] at h1; exact h1.elim
            | true =>
              rw [hbt] at h1
              simp only [cond_true] at h1
              have eT := Nat.eq_of_beq_eq_true hbt
              subst eT
              split at h1
              · rename_i r hr
                have hres : fn.results = #[.tmp t] := by apply Array.ext'; simpa using ht
                exact ⟨_, h1, conO_of hE.Γ k2 k1 hc hb h2 ho hres hT' (by rw [ht]; exact hr)⟩
              · exact h1.elim
          · exact h1.elim
        · exact h1.elim
  · exact h.elim
theorem triL_sx {P : Program} {E : Env} (hE : EnvOk P E) {C : CallS} (hC : CSOk P C) {CP : CallSP} (hP : CSPOk P CP) {CI : CallSI} (hI : CSIOk P CI) {G : Gx} (hG : OwOk P C G) {LS : List (Nat × LSum)} {b : Code} (hL : ∀ b' ∈ loopsOf b, ∀ S, lk (idOf b') LS = some S → LsOk P b' S) {n : Nat} {σ : St} {K : Ex → St → Prop}
    (h : sxCode E.Γ (RSym E C) (TSymG E C CP CI G) LS n none b σ K) : ∃ e σ', K e σ' ∧ Tri P b σ e σ' := by
  obtain ⟨e, σ', h1, h2, _⟩ := (sxCode_sound hE.Γ hE.mixed RSub2 (RR2_ok hE (CH_ok hC)) TG0_sub (TG0_ok hE hC hP hI hG) n).1 b _ _ hL h
  exact ⟨e, σ', h1, h2⟩
end Go.Ev
namespace Go.Ev
open Go.RowKit
def nz1 : PV → PV
  | .nil => .lst []
  | x => x
def nzA : PV → PV
  | .nil => .lst []
  | .agg cs => .agg (cs.map nz1)
  | x => x
def nz : PV → PV
  | .tup vs => .tup (vs.map nzA)
  | x => nzA x
section
variable {P : Program} {hw : Nat → Nat} {w : World}
theorem rep_nz1 {v : Value} {x : PV} (h : Rep hw w v x) : Rep hw w v (nz1 x) := by
  cases h <;> first | exact .lnil | (constructor <;> assumption)
theorem rep_nzA {v : Value} {x : PV} (h : Rep hw w v x) : Rep hw w v (nzA x) := by
  cases x with
  | nil => cases h; exact .lnil
  | agg cs =>
    cases h with
    | agg vs _ hl hr h1 =>
      refine .agg vs _ (by simpa using hl) (fun j a b ha hb => ?_) h1
      rw [List.getElem?_map] at hb
      cases hc : cs[j]? with
      | none => rw [hc] at hb; exact absurd hb (by simp)
      | some c =>
        rw [hc] at hb
        have := Option.some.inj hb
        subst this
        exact rep_nz1 (hr j a c ha hc)
  | _ => exact h
theorem rep_nz {v : Value} {x : PV} (h : Rep hw w v x) : Rep hw w v (nz x) := by
  cases x with
  | tup vs =>
    cases h with
    | tup us _ hl hr =>
      refine .tup us _ (by simpa using hl) (fun j a b ha hb => ?_)
      rw [List.getElem?_map] at hb
      cases hc : vs[j]? with
      | none => rw [hc] at hb; exact absurd hb (by simp)
      | some c =>
        rw [hc] at hb
        have := Option.some.inj hb
        subst this
        exact rep_nzA (hr j a c ha hc)
  | _ => exact rep_nzA h
theorem args_nz {vals : List Value} {args : List PV} (h : ArgsRep hw w vals args) : ArgsRep hw w vals (args.map nzA) := by
  refine ⟨by simpa using h.len, fun j a b ha hb => ?_⟩
  rw [List.getElem?_map] at hb
  cases hc : args[j]? with
  | none => rw [hc] at hb; exact absurd hb (by simp)
  | some c =>
    rw [hc] at hb
    have := Option.some.inj hb
    subst this
    exact rep_nzA (h.rep j a c ha hc)
end
theorem con_nz {P : Program} {f : FuncId} {args : List PV} {r : PV} (h : Con P f args r) : Con P f args (nz r) := fun hw w vals hl hg ha =>
  (h hw w vals hl hg ha).mono fun _ _ ⟨hw', q, hr⟩ => ⟨hw', q, rep_nz hr⟩
theorem con_args {P : Program} {f : FuncId} {args : List PV} {r : PV} (h : Con P f (args.map nzA) r) : Con P f args r := fun hw w vals hl hg ha => h hw w vals hl hg (args_nz ha)
abbrev Ent := List PV → Option (PV × List Prop)
def tabC (l : List (Nat × Ent)) : CallS := fun f args => match lk f l with
  | some g => g (args.map nzA)
  | none => none
def EntOk (P : Program) (f : Nat) (g : Ent) : Prop := ∀ args r ps, g args = some (r, ps) → AllP ps → Con P f args r
theorem tabC_nil {P : Program} : CSOk P (tabC []) := fun f args r ps h => by simp [tabC, lk] at h
theorem tabC_cons {P : Program} {f : Nat} {g : Ent} {l : List (Nat × Ent)} (h : EntOk P f g) (hl : CSOk P (tabC l)) : CSOk P (tabC ((f, g) :: l)) := fun f' args r ps he hp => by
  unfold tabC at he
  rw [lk_cons] at he
  by_cases e : f' = f
  · rw [if_pos e] at he
    subst e
    exact con_args (h _ _ _ he hp)
  · rw [if_neg e] at he
    exact hl f' args r ps he hp
def EntO (P : Program) (f : Nat) (g : Ent) (T : Nat) : Prop := ∀ args r ps, g args = some (r, ps) → AllP ps → ConO P f args T r
theorem conO_nz {P : Program} {f : FuncId} {args : List PV} {T : Nat} {r : PV} (h : ConO P f args T r) : ConO P f args T (nz r) := fun hw w vals hl hg ha =>
  (h hw w vals hl hg ha).mono fun _ _ ⟨hw', q, hr, ho⟩ => ⟨hw', q, rep_nz hr, ho⟩
theorem conO_args {P : Program} {f : FuncId} {args : List PV} {T : Nat} {r : PV} (h : ConO P f (args.map nzA) T r) : ConO P f args T r := fun hw w vals hl hg ha => h hw w vals hl hg (args_nz ha)
theorem conO_con {P : Program} {f : FuncId} {args : List PV} {T : Nat} {r : PV} (h : ConO P f args T r) : Con P f args r := fun hw w vals hl hg ha =>
  (h hw w vals hl hg ha).mono fun _ _ ⟨hw', q, hr, _⟩ => ⟨hw', q, hr⟩
def OwL (P : Program) (l : List (Nat × Ent)) (ow : List (Nat × Nat)) : Prop := ∀ f T, lk f ow = some T → ∀ g, lk f l = some g → EntO P f g T
theorem owL_nil {P : Program} {l : List (Nat × Ent)} : OwL P l [] := fun f T h => by simp [lk] at h
theorem owL_cons {P : Program} {l : List (Nat × Ent)} {f T : Nat} {g : Ent} {ow : List (Nat × Nat)} (hg : lk f l = some g) (h : EntO P f g T) (hl : OwL P l ow) : OwL P l ((f, T) :: ow) := fun f' T' h1 g' h2 => by
  rw [lk_cons] at h1
  by_cases e : f' = f
  · subst e
    rw [if_pos rfl] at h1
    cases Option.some.inj h1
    rw [hg] at h2
    cases Option.some.inj h2
    exact h
  · rw [if_neg e] at h1
    exact hl f' T' h1 g' h2
theorem owOk_of {P : Program} {l : List (Nat × Ent)} {G : Gx} (h : OwL P l G.ow) : OwOk P (tabC l) G := fun f T h1 args r ps h2 hp => by
  unfold tabC at h2
  split at h2
  · rename_i g hg
    exact conO_args (h f T h1 g hg _ _ _ h2 hp)
  · exact absurd h2 (by simp)
def noCP : CallSP := fun _ _ _ => none
def noCI : CallSI := fun _ _ _ => none
theorem noCP_ok {P : Program} : CSPOk P noCP := fun _ _ _ _ _ _ h => absurd h (by simp [noCP])
theorem noCI_ok {P : Program} : CSIOk P noCI := fun _ _ _ _ _ _ h => absurd h (by simp [noCI])
theorem con_fin {P : Program} {E : Env} (hE : EnvOk P E) {C : CallS} (hC : CSOk P C) {CP : CallSP} (hP : CSPOk P CP) {CI : CallSI} (hI : CSIOk P CI) {G : Gx} (hG : OwOk P C G) {LS : List (Nat × LSum)} {f : Nat} {fn : Func} (hf : lk f E.fns = some fn) (hL : LoopsOk P LS fn) {n : Nat} {args : List PV} {X : PV}
    (h : sxF E C CP CI G LS n fn args (fun r => nz r = X)) : Con P f args X := by
  obtain ⟨r, hr, hc⟩ := con_sx hE hC hP hI hG hf hL h
  rw [← hr]
  exact con_nz hc
theorem conO_fin {P : Program} {E : Env} (hE : EnvOk P E) {C : CallS} (hC : CSOk P C) {CP : CallSP} (hP : CSPOk P CP) {CI : CallSI} (hI : CSIOk P CI) {G : Gx} (hG : OwOk P C G) {LS : List (Nat × LSum)} {f : Nat} {fn : Func} (hf : lk f E.fns = some fn) (hL : LoopsOk P LS fn) {n : Nat} {T : Nat} {args : List PV} {X : PV}
    (h : sxFO E C CP CI G LS n fn T args (fun r => nz r = X)) : ConO P f args T X := by
  obtain ⟨r, hr, hc⟩ := conO_sx hE hC hP hI hG hf hL h
  rw [← hr]
  exact conO_nz hc
def pickL {α : Type} (l : List (Nat × α)) : List Nat → List (Nat × α)
  | [] => []
  | t :: r => match lk t l with
    | some v => (t, v) :: pickL l r
    | none => pickL l r
def pickO (l : List (Loc × Nat)) : List Loc → List (Loc × Nat)
  | [] => []
  | t :: r => match lkL t l with
    | some v => (t, v) :: pickO l r
    | none => pickO l r
theorem pickL_get {α : Type} {l : List (Nat × α)} {t : Nat} {v : α} : ∀ {ks : List Nat}, lk t (pickL l ks) = some v → lk t l = some v
  | [], h => by simp [pickL, lk] at h
  | k :: r, h => by
    unfold pickL at h
    split at h
    · rename_i v' hv
      rw [lk_cons] at h
      split at h
      · rename_i e
        subst e
        rw [hv]; exact h
      · exact pickL_get h
    · exact pickL_get h
theorem loc_eq {a b : Loc} (h : a.eq b = true) : a = b := by
  cases a <;> cases b <;> simp only [Loc.eq, Bool.and_eq_true] at h
  · rw [Nat.eq_of_beq_eq_true h]
  · exact absurd h (by simp)
  · exact absurd h (by simp)
  · rw [Nat.eq_of_beq_eq_true h.1, Nat.eq_of_beq_eq_true h.2]
theorem pickO_get {l : List (Loc × Nat)} {t : Loc} {v : Nat} : ∀ {ks : List Loc}, lkL t (pickO l ks) = some v → lkL t l = some v
  | [], h => by simp [pickO, lkL] at h
  | k :: r, h => by
    unfold pickO at h
    split at h
    · rename_i v' hv
      unfold lkL at h
      cases hb : t.eq k with
      | true =>
        rw [hb] at h
        rw [loc_eq hb, hv]
        exact h
      | false =>
        rw [hb] at h
        exact pickO_get h
    · exact pickO_get h
structure Kp where
  t : List Nat
  b : List Nat
  o : List Loc
def hasBx (bx : List (Nat × List PV)) (b : Nat) : Bool := isSome' (lk b bx)
def okS (τ : St) : Bool :=
  τ.tmps.all (fun (_, v) => (avBoxes v).all (hasBx τ.boxes)) && (τ.own.all (fun (l, _) => match l with | .t _ => true | .b b _ => hasBx τ.boxes b) && τ.boxes.all (fun (_, cs) => (refsOf cs).all (hasBx τ.boxes)))
def keepS (k : Kp) (σ : St) : Option St :=
  bif okS ⟨σ.n, pickL σ.tmps k.t, pickL σ.boxes k.b, σ.ro, pickO σ.own k.o, []⟩ then some ⟨σ.n, pickL σ.tmps k.t, pickL σ.boxes k.b, σ.ro, pickO σ.own k.o, []⟩ else none
theorem hasBx_get {bx : List (Nat × List PV)} {b : Nat} (h : hasBx bx b = true) : ∃ cs, lk b bx = some cs := by
  unfold hasBx at h
  cases hb : lk b bx with
  | none => rw [hb] at h; exact absurd h (by simp [isSome'])
  | some cs => exact ⟨cs, rfl⟩
theorem lk_memX {α : Type} {t : Nat} {v : α} : ∀ {l : List (Nat × α)}, lk t l = some v → (t, v) ∈ l
  | [], h => by simp [lk] at h
  | (t', v') :: r, h => by
    rw [lk_cons] at h
    split at h
    · rename_i e
      subst e
      have := Option.some.inj h
      subst this
      exact List.mem_cons_self ..
    · exact List.mem_cons_of_mem _ (lk_memX h)
theorem lkL_memX {t : Loc} {v : Nat} : ∀ {l : List (Loc × Nat)}, lkL t l = some v → (t, v) ∈ l
  | [], h => by simp [lkL] at h
  | (t', v') :: r, h => by
    unfold lkL at h
    cases hb : t.eq t' with
    | true =>
      rw [hb] at h
      have := Option.some.inj h
      subst this
      rw [loc_eq hb]
      exact List.mem_cons_self ..
    | false => rw [hb] at h; exact List.mem_cons_of_mem _ (lkL_memX h)
theorem keepS_sub {k : Kp} {σ τ : St} (h : keepS k σ = some τ) : Sub τ σ := by
  unfold keepS at h
  cases hb : okS ⟨σ.n, pickL σ.tmps k.t, pickL σ.boxes k.b, σ.ro, pickO σ.own k.o, []⟩ with
  | false => rw [hb] at h; exact absurd h (by simp)
  | true =>
    rw [hb] at h
    have := Option.some.inj h
    subst this
    simp only [okS, Bool.and_eq_true] at hb
    obtain ⟨h1, h2, h3⟩ := hb
    have tm : ∀ t v, lk t (pickL σ.tmps k.t) = some v → ∀ b ∈ avBoxes v, ∃ cs, lk b (pickL σ.boxes k.b) = some cs := fun t v ht b hm =>
      hasBx_get (List.all_eq_true.1 (List.all_eq_true.1 h1 _ (lk_memX ht)) b hm)
    refine ⟨rfl, fun t v ht => pickL_get ht, fun b cs hb => pickL_get hb, fun b hm => hm, fun t b off ht => tm t _ ht b (by simp [avBoxes]), fun t f bs ht b hm => tm t _ ht b hm, fun l E hl => pickO_get hl, fun b c E hl => ?_, fun t l hm => absurd hm (by simp), fun t b c hm => absurd hm (by simp), fun t b off n s ht => tm t _ ht b (by simp [avBoxes]), fun b cs hb y hy b' hb' => ?_⟩
    · exact hasBx_get (List.all_eq_true.1 h2 _ (lkL_memX hl))
    · exact hasBx_get (List.all_eq_true.1 (List.all_eq_true.1 h3 _ (lk_memX hb)) b' (refsOf_mem hy hb'))
def bodyOf (fn : Func) (i : Nat) : Code := match fn.body with
  | some c => (loopsOf c).getD i .skip
  | none => .skip
def noS : LSum := fun _ _ => False
theorem noS_ok {P : Program} {b : Code} : LsOk P b noS := fun _ _ h => h.elim
def LsA (P : Program) (LS : List (Nat × LSum)) : List Code → Prop
  | [] => True
  | b :: r => (∀ S, lk (idOf b) LS = some S → LsOk P b S) ∧ LsA P LS r
theorem lsA_nil {P : Program} {LS : List (Nat × LSum)} : LsA P LS [] := trivial
theorem lsA_cons {P : Program} {LS : List (Nat × LSum)} {b : Code} {r : List Code} {i : Nat} {S : LSum} (hi : idOf b = i) (hl : lk i LS = some S) (h : LsOk P b S) (hr : LsA P LS r) : LsA P LS (b :: r) :=
  ⟨fun S' h' => by rw [hi, hl] at h'; have := Option.some.inj h'; subst this; exact h, hr⟩
theorem lsA_skip {P : Program} {LS : List (Nat × LSum)} {b : Code} {r : List Code} {i : Nat} (hi : idOf b = i) (hl : lk i LS = none) (hr : LsA P LS r) : LsA P LS (b :: r) :=
  ⟨fun S' h' => by rw [hi, hl] at h'; exact absurd h' (by simp), hr⟩
theorem lsA_mem {P : Program} {LS : List (Nat × LSum)} : ∀ {l : List Code}, LsA P LS l → ∀ b ∈ l, ∀ S, lk (idOf b) LS = some S → LsOk P b S
  | [], _, b, hb, _, _ => absurd hb (by simp)
  | c :: r, h, b, hb, S, hS => by
    rcases List.mem_cons.1 hb with e | hb
    · subst e; exact h.1 S hS
    · exact lsA_mem h.2 b hb S hS
theorem lsA_get {P : Program} {LS : List (Nat × LSum)} {c : Code} {l : List Code} (he : loopsOf c = l) (h : LsA P LS l) : ∀ b ∈ loopsOf c, ∀ S, lk (idOf b) LS = some S → LsOk P b S := by
  rw [he]; exact lsA_mem h
theorem loopsOk_A {P : Program} {LS : List (Nat × LSum)} {fn : Func} {l : List Code} (he : (match fn.body with | some c => loopsOf c | none => []) = l) (h : LsA P LS l) : LoopsOk P LS fn := fun c hc b hm S hl => by
  rw [hc] at he
  simp only at he
  rw [he] at hm
  exact lsA_mem h b hm S hl
end Go.Ev
namespace Go.Ev
open Go.RowKit
def nilT (Γ : List (Nat × Ty)) (t E : Nat) (σ : St) : St := match lk t σ.tmps, lk E Γ with
  | some (.p .nil), some _ => { σ with tmps := (t, .p (.lst [])) :: σ.tmps, own := (.t t, E) :: σ.own }
  | _, _ => σ
def homeT (Γ : List (Nat × Ty)) (t E : Nat) (σ : St) : St := match lk t σ.tmps with
  | some (.p .nil) => nilT Γ t E σ
  | _ => match lk t σ.al with
    | some l => match lkL l σ.own with
      | some E' => bif Nat.beq E E' && Nat.blt t σ.n then { σ with own := (.t t, E) :: σ.own.filter fun (l', _) => !(l'.eq l) } else σ
      | none => σ
    | none => σ
def homeAll (Γ : List (Nat × Ty)) : List (Nat × Nat) → St → St
  | [], σ => σ
  | (t, E) :: r, σ => homeAll Γ r (homeT Γ t E σ)
section
variable {P : Program} {B : Nat} {g : G} {σ τ : St} {a : Act} {w : World}
theorem nilT_inv {Γ : List (Nat × Ty)} (hΓ : TyOk P Γ) {t E : Nat} (hI : Inv P B g σ a w) : Inv P B g (nilT Γ t E σ) a w := by
  unfold nilT
  split
  · rename_i ety ht hE
    obtain ⟨hlt, hrep⟩ := hI.tmp t _ ht
    have hval : a.tmps.getD t undef = .slice none 0 0 := by
      have hrep : Rep g.hw w (a.tmps.getD t undef) .nil := hrep
      generalize a.tmps.getD t undef = v at hrep
      cases hrep; rfl
    obtain ⟨i, z, hi, _⟩ := (tyIs (hΓ _ _ hE)).info
    have hown : OwnV P B g.hw w E (.slice none 0 0) := ⟨i, 0, [], hi, World.ownsRow_nil _ _ _ _, fun k hk => absurd hk (by simp [Value.ownBlock])⟩
    have h1 := claim_inv hI hlt hval hown (fun k hk => absurd hk (by simp [Value.ownBlock])) (fun l E' val' k _ _ hk => absurd hk (by simp [Value.ownBlock]))
    have lkc : ∀ t' v, lk t' ((t, AV.p (.lst [])) :: σ.tmps) = some v → (t' = t ∧ v = .p (.lst [])) ∨ lk t' σ.tmps = some v := by
      intro t' v h
      rw [lk_cons] at h
      split at h
      · rename_i e
        exact .inl ⟨e, (Option.some.inj h).symm⟩
      · exact .inr h
    refine ⟨h1.size, h1.defers, fun t' v h => ?_, fun t' b off h => ?_, fun t' f bs h => ?_, h1.box, h1.inj, h1.hwlt, h1.base, h1.glob, h1.own, h1.ownt, h1.owninj, h1.al, h1.alt, fun t' b off n s h => ?_, h1.ref⟩
    · rcases lkc t' v h with ⟨rfl, rfl⟩ | h
      · exact ⟨hlt, by show Rep g.hw w _ (.lst []); rw [hval]; exact .lnil⟩
      · exact hI.tmp t' v h
    · rcases lkc t' _ h with ⟨_, e⟩ | h
      · cases e
      · exact hI.ptr t' b off h
    · rcases lkc t' _ h with ⟨_, e⟩ | h
      · cases e
      · exact hI.fnp t' f bs h
    · rcases lkc t' _ h with ⟨_, e⟩ | h
      · cases e
      · exact hI.sl t' b off n s h
  · exact hI
theorem homeT_inv {Γ : List (Nat × Ty)} (hΓ : TyOk P Γ) {t E : Nat} (hI : Inv P B g σ a w) : Inv P B g (homeT Γ t E σ) a w := by
  unfold homeT
  split
  · exact nilT_inv hΓ hI
  · split
    · rename_i l hl
      split
      · rename_i E' hE
        cases hb : (Nat.beq E E' && Nat.blt t σ.n) with
        | false => exact hI
        | true =>
          rw [Bool.and_eq_true] at hb
          have e1 := Nat.eq_of_beq_eq_true hb.1
          subst e1
          have hlt : t < σ.n := Nat.le_of_ble_eq_true hb.2
          have hal := hI.al t l (lk_mem hl)
          obtain ⟨val, v1, v2, v3⟩ := hI.own l E hE
          have hv : a.tmps.getD t undef = val := locIs_fun hal v1
          have hf : ∀ l2 E2, lkL l2 (σ.own.filter fun (l', _) => !(l'.eq l)) = some E2 → l2 ≠ l ∧ lkL l2 σ.own = some E2 := by
            intro l2 E2 h
            rw [lkL_filter (fun l' => !(l'.eq l))] at h
            split at h
            · rename_i hn
              refine ⟨fun e => ?_, h⟩
              subst e
              rw [Loc.eq_iff.2 rfl] at hn
              exact absurd hn (by simp)
            · exact absurd h (by simp)
          have base : Inv P B g { σ with own := σ.own.filter fun (l', _) => !(l'.eq l) } a w :=
            ⟨hI.size, hI.defers, hI.tmp, hI.ptr, hI.fnp, hI.box, hI.inj, hI.hwlt, hI.base, hI.glob, fun l2 E2 h => hI.own l2 E2 (hf l2 E2 h).2, fun l2 E2 h => hI.ownt l2 E2 (hf l2 E2 h).2,
             fun l2 l3 E2 E3 x y k h2 h3 => hI.owninj l2 l3 E2 E3 x y k (hf l2 E2 h2).2 (hf l3 E3 h3).2, hI.al, hI.alt, hI.sl, hI.ref⟩
          refine claim_inv base hlt hv v2 v3 (fun l2 E2 val2 k h2 hloc hk hk2 => ?_)
          exact (hf l2 E2 h2).1 (hI.owninj l2 l E2 E val2 val k (hf l2 E2 h2).2 hE hloc v1 hk2 hk)
      · exact hI
    · exact hI
theorem homeAll_inv {Γ : List (Nat × Ty)} (hΓ : TyOk P Γ) : ∀ {l : List (Nat × Nat)} {σ : St}, Inv P B g σ a w → Inv P B g (homeAll Γ l σ) a w
  | [], _, h => h
  | (t, E) :: r, σ, h => by
    unfold homeAll
    exact homeAll_inv hΓ (homeT_inv hΓ h)
theorem homeT_same (Γ : List (Nat × Ty)) (t E : Nat) (σ : St) : (homeT Γ t E σ).n = σ.n ∧ (homeT Γ t E σ).boxes = σ.boxes := by
  unfold homeT nilT
  repeat' split
  all_goals first | exact ⟨rfl, rfl⟩ | (rename_i E' _; cases (Nat.beq E E' && Nat.blt t σ.n) <;> exact ⟨rfl, rfl⟩)
theorem homeAll_same (Γ : List (Nat × Ty)) : ∀ (l : List (Nat × Nat)) (σ : St), (homeAll Γ l σ).n = σ.n ∧ (homeAll Γ l σ).boxes = σ.boxes
  | [], _ => ⟨rfl, rfl⟩
  | (t, E) :: r, σ => by
    have h1 := homeT_same Γ t E σ
    have h2 := homeAll_same Γ r (homeT Γ t E σ)
    exact ⟨h2.1.trans h1.1, h2.2.trans h1.2⟩
theorem fr_same {g' : G} {w' : World} {σ' : St} (h1 : τ.n = σ.n) (h2 : τ.boxes = σ.boxes) (h : Fr B g τ w g' σ' w') : Fr B g σ w g' σ' w' := by
  have l1 : ∀ k, LentB g τ k → LentB g σ k := fun k ⟨b, cs, base, a1, a2, a3⟩ => ⟨b, cs, base, by rw [← h1]; exact a1, by rw [← h2]; exact a2, a3⟩
  have l2 : ∀ k off, Lent g τ k off → Lent g σ k off := fun k off ⟨b, cs, base, a1, a2, a3⟩ => ⟨b, cs, base, by rw [← h1]; exact a1, by rw [← h2]; exact a2, a3⟩
  exact ⟨h.os, h.tape, h.output, h.size, h.n.trans h1, fun k hk hn => h.block k hk (fun hl => hn (l1 k hl)), fun k off hk hn => h.cell k off hk (fun hl => hn (l2 k off hl)), h.frozen, fun k hk hn => h.hw k hk (fun hl => hn (l1 k hl)),
    fun b cs hn hb => by obtain ⟨cs0, q1, q2, q3⟩ := h.par b cs (by rw [h1]; exact hn) hb; exact ⟨cs0, by rw [← h2]; exact q1, q2, q3⟩, h.ext⟩
theorem fr_sameR {g0 : G} {w0 : World} {σ0 : St} (h1 : τ.n = σ.n) (h2 : τ.boxes = σ.boxes) (h : Fr B g0 σ0 w0 g σ w) : Fr B g0 σ0 w0 g τ w :=
  ⟨h.os, h.tape, h.output, h.size, h1.trans h.n, h.block, h.cell, h.frozen, h.hw, fun b cs hn hb => h.par b cs hn (by rw [← h2]; exact hb), h.ext⟩
end
def Wk (P : Program) (σ τ : St) : Prop := ∀ B g a w, Inv P B g σ a w → Inv P B g τ a w ∧ (∀ g' σ' w', Fr B g τ w g' σ' w' → Fr B g σ w g' σ' w') ∧ ∀ B0 g0 σ0 w0, Fr B0 g0 σ0 w0 g σ w → Fr B0 g0 σ0 w0 g τ w
theorem wk_sub {P : Program} {σ τ : St} (h : Sub τ σ) : Wk P σ τ := fun _ _ _ _ hI => ⟨inv_weak hI h, fun _ _ _ hf => fr_weakL hf h, fun _ _ _ _ hf => fr_weakR hf h⟩
theorem wk_home {P : Program} {Γ : List (Nat × Ty)} (hΓ : TyOk P Γ) (l : List (Nat × Nat)) (σ : St) : Wk P σ (homeAll Γ l σ) := fun _ _ _ _ hI =>
  ⟨homeAll_inv hΓ hI, fun _ _ _ hf => fr_same (homeAll_same Γ l σ).1 (homeAll_same Γ l σ).2 hf, fun _ _ _ _ hf => fr_sameR (homeAll_same Γ l σ).1 (homeAll_same Γ l σ).2 hf⟩
theorem Wk.trans {P : Program} {σ τ ρ : St} (h : Wk P σ τ) (h' : Wk P τ ρ) : Wk P σ ρ := fun B g a w hI => by
  obtain ⟨i1, l1, r1⟩ := h B g a w hI
  obtain ⟨i2, l2, r2⟩ := h' B g a w i1
  exact ⟨i2, fun _ _ _ hf => l1 _ _ _ (l2 _ _ _ hf), fun _ _ _ _ hf => r2 _ _ _ _ (r1 _ _ _ _ hf)⟩
theorem tri_wkL {P : Program} {c : Code} {σ τ σ' : St} {e : Ex} (hs : Wk P σ τ) (h : Tri P c τ e σ') : Tri P c σ e σ' := fun B g a w hI =>
  wp_mono (h B g a w (hs B g a w hI).1) fun _ _ _ ⟨h1, g', h2, h3⟩ => ⟨h1, g', h2, (hs B g a w hI).2.1 _ _ _ h3⟩
theorem tri_wkR {P : Program} {c : Code} {σ τ σ' : St} {e : Ex} (hs : Wk P σ' τ) (h : Tri P c σ e σ') : Tri P c σ e τ := fun B g a w hI =>
  wp_mono (h B g a w hI) fun _ a' w' ⟨h1, g', h2, h3⟩ => ⟨h1, g', (hs B g' a' w' h2).1, (hs B g' a' w' h2).2.2 _ _ _ _ h3⟩
theorem triL_wkR {P : Program} {c : Code} {n : Nat} {σ τ σ' : St} {e : Ex} (hs : Wk P σ' τ) (h : TriL P n c σ e σ') : TriL P n c σ e τ := fun B g a w hI =>
  rounds_mono (fun _ a' w' ⟨h1, g', h2, h3⟩ => ⟨h1, g', (hs B g' a' w' h2).1, (hs B g' a' w' h2).2.2 _ _ _ _ h3⟩) n a w (h B g a w hI)
structure KpH where
  k : Kp
  h : List (Nat × Nat)
def keepH (Γ : List (Nat × Ty)) (k : KpH) (σ : St) : Option St := keepS k.k (homeAll Γ k.h σ)
theorem keepH_wk {P : Program} {Γ : List (Nat × Ty)} (hΓ : TyOk P Γ) {k : KpH} {σ τ : St} (h : keepH Γ k σ = some τ) : Wk P σ τ := (wk_home hΓ k.h σ).trans (wk_sub (keepS_sub h))
def kpH (Γ : List (Nat × Ty)) (k ke kr : KpH) (e : Ex) (σ : St) : Option St := match e with
  | .normal => keepH Γ k σ
  | .ret => keepH Γ kr σ
  | _ => keepH Γ ke σ
theorem kpH_wk {P : Program} {Γ : List (Nat × Ty)} (hΓ : TyOk P Γ) {k ke kr : KpH} {e : Ex} {σ τ : St} (h : kpH Γ k ke kr e σ = some τ) : Wk P σ τ := by
  cases e <;> exact keepH_wk hΓ h
def sxH (E : Env) (C : CallS) (CP : CallSP) (CI : CallSI) (G : Gx) (LS : List (Nat × LSum)) (n : Nat) (b : Code) (k ke kr : KpH) (σ : St) (Q : Ex → Option St → Prop) : Prop :=
  sStS (clean (newsOf b) σ) fun σ => sxCode E.Γ (RSym E C) (TSymG E C CP CI G) LS n none b σ fun e σ1 => Q e (kpH E.Γ k ke kr e σ1)
theorem loopH_rule {P : Program} {E : Env} (hE : EnvOk P E) {C : CallS} (hC : CSOk P C) {CP : CallSP} (hP : CSPOk P CP) {CI : CallSI} (hI : CSIOk P CI) {G : Gx} (hG : OwOk P C G) {LS : List (Nat × LSum)} {b : Code} (hL : ∀ b' ∈ loopsOf b, ∀ S, lk (idOf b') LS = some S → LsOk P b' S) {n : Nat}
    {X : Type} (H : X → St) (inv : X → Prop) (fin : X → Ex → St → Prop) (μ : X → Nat) (k ke kr : KpH)
    (step : ∀ x, inv x → sxH E C CP CI G LS n b k ke kr (H x) fun e o =>
      (e = .normal ∧ ∃ y, o = some (H y) ∧ inv y ∧ μ y < μ x ∧ ∀ e s, fin y e s → fin x e s) ∨ (e ≠ .normal ∧ ∃ τ, o = some τ ∧ fin x e τ)) :
    ∀ x, inv x → ∃ e σ', fin x e σ' ∧ ∃ m, TriL P m b (H x) e σ' := by
  have key : ∀ j x, μ x < j → inv x → ∃ e σ', fin x e σ' ∧ ∃ m, TriL P m b (H x) e σ' := by
    intro j
    induction j with
    | zero => intro x hx; omega
    | succ j ih =>
      intro x hx hi
      have hs := step x hi
      unfold sxH at hs
      rw [sStS_eq] at hs
      obtain ⟨e, σ1, h1, h2⟩ := triL_sx hE hC hP hI hG hL hs
      have h3 := tri_clean h2
      rcases h1 with ⟨rfl, y, hy, iy, my, fy⟩ | ⟨hne, τ, ht, hf⟩
      · obtain ⟨e', σ', f1, m, f2⟩ := ih y (by omega) iy
        exact ⟨e', σ', fy _ _ f1, m + 1, triL_round (tri_wkR (kpH_wk hE.Γ hy) h3) f2⟩
      · exact ⟨e, τ, hf, 1, triL_wkR (kpH_wk hE.Γ ht) (triL_out hne h3)⟩
  exact fun x hi => key (μ x + 1) x (by omega) hi
theorem lsOkH_of {P : Program} {Γ : List (Nat × Ty)} (hΓ : TyOk P Γ) {b : Code} {S : LSum} {X : Type} {H : X → St} {inv : X → Prop} {fin : X → Ex → St → Prop} (h : ∀ x, inv x → ∃ e σ', fin x e σ' ∧ ∃ m, TriL P m b (H x) e σ') (k : KpH)
    (hS : ∀ σ K, S σ K → ∃ x, keepH Γ k σ = some (H x) ∧ inv x ∧ ∀ e σ', fin x e σ' → K e σ') : LsOk P b S := fun σ K hs => by
  obtain ⟨x, h1, h2, h3⟩ := hS σ K hs
  obtain ⟨e, σ', f1, m, f2⟩ := h x h2
  exact ⟨e, σ', h3 e σ' f1, tri_wkL (keepH_wk hΓ h1) (tri_loop f2)⟩
end Go.Ev
namespace Go.Men
open Go.Ev
theorem condI {b : Bool} {X Y : Prop} (h : b = true → X) (h' : b = false → Y) : (bif b then X else Y) := by
  cases b
  · exact h' rfl
  · exact h rfl
def eOr (a b : Ent) : Ent := fun args => match a args with
  | some r => some r
  | none => b args
theorem eOr_ok {P : Program} {f : Nat} {a b : Ent} (ha : EntOk P f a) (hb : EntOk P f b) : EntOk P f (eOr a b) := fun args r ps h hp => by
  unfold eOr at h
  split at h
  · rename_i q hq
    have := Option.some.inj h
    subst this
    exact ha _ _ _ hq hp
  · exact hb _ _ _ h hp
def decL {α : Type} (d : List PV → α) (xs : List (List PV)) : List α := xs.map d
theorem decL_map {α : Type} (d : List PV → α) (e : α → List PV) (h : ∀ x, d (e x) = x) (l : List α) : decL d (l.map e) = l := by
  unfold decL
  rw [List.map_map]
  conv => rhs; rw [← List.map_id l]
  exact List.map_congr_left fun x _ => h x
structure Iv where
  lo : Int
  hi : Int
  no : Bool
  deriving DecidableEq
def Iv.enc (a : Iv) : List PV := [.v (.int .i64 a.lo), .v (.int .i64 a.hi), .v (.bool a.no)]
def Iv.dec (p : List PV) : Iv := ⟨intOf (p.headD .nil), intOf (p.tail.headD .nil), boolOf (p.tail.tail.headD .nil)⟩
structure V where
  x : Iv
  y : Iv
  z : Iv
  deriving DecidableEq
def V.enc (a : V) : List PV := [.v (.int .i64 a.x.lo), .v (.int .i64 a.x.hi), .v (.bool a.x.no), .v (.int .i64 a.y.lo), .v (.int .i64 a.y.hi), .v (.bool a.y.no), .v (.int .i64 a.z.lo), .v (.int .i64 a.z.hi), .v (.bool a.z.no)]
structure Ray where
  o : V
  d : V
  deriving DecidableEq
def Ray.enc (r : Ray) : List PV := [.v (.int .i64 r.o.x.lo), .v (.int .i64 r.o.x.hi), .v (.bool r.o.x.no), .v (.int .i64 r.o.y.lo), .v (.int .i64 r.o.y.hi), .v (.bool r.o.y.no), .v (.int .i64 r.o.z.lo), .v (.int .i64 r.o.z.hi), .v (.bool r.o.z.no),
  .v (.int .i64 r.d.x.lo), .v (.int .i64 r.d.x.hi), .v (.bool r.d.x.no), .v (.int .i64 r.d.y.lo), .v (.int .i64 r.d.y.hi), .v (.bool r.d.y.no), .v (.int .i64 r.d.z.lo), .v (.int .i64 r.d.z.hi), .v (.bool r.d.z.no)]
structure Dec where
  c : Int
  scale : Int
  deriving DecidableEq
def Dec.enc (a : Dec) : List PV := [.v (.int .i64 a.c), .v (.int .i64 a.scale)]
structure A3 where
  a : Int
  b : Int
  c : Int
  deriving DecidableEq
def A3.enc (x : A3) : List PV := [.v (.int .i64 x.a), .v (.int .i64 x.b), .v (.int .i64 x.c)]
structure A6 where
  a : Int
  b : Int
  c : Int
  d : Int
  e : Int
  f : Int
def A6.enc (x : A6) : List PV := [.v (.int .i64 x.a), .v (.int .i64 x.b), .v (.int .i64 x.c), .v (.int .i64 x.d), .v (.int .i64 x.e), .v (.int .i64 x.f)]
structure RawRay where
  x : Int
  y : Int
  u : Int
  w : Int
  wide : Int
  lean : Int
def RawRay.enc (r : RawRay) : List PV := [.v (.int .i64 r.x), .v (.int .i64 r.y), .v (.int .i64 r.u), .v (.int .i64 r.w), .v (.int .i64 r.wide), .v (.int .i64 r.lean)]
structure Shape where
  kind : Int
  x : Dec
  y : Dec
  z : Dec
  r : Dec
  glow : A3
def Shape.enc (s : Shape) : List PV := [.v (.int .i64 s.kind), .v (.int .i64 s.x.c), .v (.int .i64 s.x.scale), .v (.int .i64 s.y.c), .v (.int .i64 s.y.scale), .v (.int .i64 s.z.c), .v (.int .i64 s.z.scale), .v (.int .i64 s.r.c), .v (.int .i64 s.r.scale), .v (.int .i64 s.glow.a), .v (.int .i64 s.glow.b), .v (.int .i64 s.glow.c)]
def Shape.dec (p : List PV) : Shape := ⟨intOf (p.headD .nil), ⟨intOf (p.tail.headD .nil), intOf (p.tail.tail.headD .nil)⟩, ⟨intOf (p.tail.tail.tail.headD .nil), intOf (p.tail.tail.tail.tail.headD .nil)⟩, ⟨intOf (p.tail.tail.tail.tail.tail.headD .nil), intOf (p.tail.tail.tail.tail.tail.tail.headD .nil)⟩, ⟨intOf (p.tail.tail.tail.tail.tail.tail.tail.headD .nil), intOf (p.tail.tail.tail.tail.tail.tail.tail.tail.headD .nil)⟩, ⟨intOf (p.tail.tail.tail.tail.tail.tail.tail.tail.tail.headD .nil), intOf (p.tail.tail.tail.tail.tail.tail.tail.tail.tail.tail.headD .nil), intOf (p.tail.tail.tail.tail.tail.tail.tail.tail.tail.tail.tail.headD .nil)⟩⟩
structure I where
  n : Int
def I.enc (a : I) : List PV := [.v (.int .i64 a.n)]
def I.dec (p : List PV) : I := ⟨intOf (p.headD .nil)⟩
def Fit (n : Int) : Prop := -9223372036854775808 ≤ n ∧ n ≤ 9223372036854775807
theorem wrap_fit {n : Int} (h : Fit n) : IntKind.i64.wrap n = n := by
  obtain ⟨h1, h2⟩ := h
  simp [IntKind.wrap, IntKind.bits, IntKind.signed]
  split <;> omega
theorem sign_cases {b : Int} (hb : b ≠ 0) : (b < 0 ∧ b.sign = -1) ∨ (0 < b ∧ b.sign = 1) := by
  rcases Int.lt_or_gt_of_ne hb with h | h
  · exact .inl ⟨h, Int.sign_eq_neg_one_of_neg h⟩
  · exact .inr ⟨h, Int.sign_eq_one_of_pos h⟩
theorem fdiv_lo {a b : Int} (hb : b ≠ 0) (hm : a.tmod b ≠ 0) (h : (decide (a < 0) == decide (b < 0)) = false) : a.tdiv b - 1 = a.fdiv b := by
  have hd : ¬ b ∣ a := fun hd => hm (Int.tmod_eq_zero_of_dvd hd)
  rw [Int.fdiv_eq_tdiv, if_neg hd]
  have ha : a ≠ 0 := fun e => hd (e ▸ Int.dvd_zero b)
  have hs := sign_cases hb
  by_cases h1 : a < 0 <;> by_cases h2 : b < 0 <;> simp [h1, h2] at h
  · rw [if_neg (by omega)]; omega
  · rw [if_pos (by omega), if_neg (by omega)]
theorem fdiv_eq {a b : Int} (hb : b ≠ 0) (h : a.tmod b = 0 ∨ (decide (a < 0) == decide (b < 0)) = true) : a.tdiv b = a.fdiv b := by
  rw [Int.fdiv_eq_tdiv]
  by_cases hd : b ∣ a
  · rw [if_pos hd]; omega
  · rw [if_neg hd]
    have hm : a.tmod b ≠ 0 := fun e => hd (Int.dvd_of_tmod_eq_zero e)
    have ha : a ≠ 0 := fun e => hd (e ▸ Int.dvd_zero b)
    have h := h.resolve_left hm
    have hs := sign_cases hb
    by_cases h1 : a < 0 <;> by_cases h2 : b < 0 <;> simp [h1, h2] at h
    · rw [if_neg (by omega)]; split <;> omega
    · rw [if_pos (by omega), if_pos (by omega)]; omega
theorem tdiv_fit {a b : Int} (h : -4611686018427387904 ≤ a ∧ a ≤ 4611686018427387904) : -4611686018427387904 ≤ a.tdiv b ∧ a.tdiv b ≤ 4611686018427387904 := by
  have := Int.natAbs_tdiv_le_natAbs a b
  omega
theorem fdiv_fit {a b : Int} (h : -4611686018427387904 ≤ a ∧ a ≤ 4611686018427387904) : -4611686018427387905 ≤ a.fdiv b ∧ a.fdiv b ≤ 4611686018427387905 := by
  have := tdiv_fit (b := b) h
  by_cases hb : b = 0
  · subst hb; simp
  · have hs := sign_cases hb
    rw [Int.fdiv_eq_tdiv]
    split
    · omega
    · split <;> split <;> omega
def inB (n : Int) : Bool := decide (-1073741824 ≤ n) && decide (n ≤ 1073741824)
theorem inB_iff {n : Int} : inB n = true ↔ -1073741824 ≤ n ∧ n ≤ 1073741824 := by simp [inB]
def right (a : Iv) : Bool := !a.no && (inB a.lo && (inB a.hi && decide (a.lo ≤ a.hi)))
def none' : Iv := ⟨0, 0, true⟩
def of (lo hi : Int) : Iv := bif right ⟨lo, hi, false⟩ then ⟨lo, hi, false⟩ else none'
def point (n : Int) : Iv := of n n
def whole (n : Int) : Iv := bif inB n then point (n * 65536) else none'
def floor (a b : Int) : Int := a.fdiv b
def up1 (a b : Int) : Int := if a % b = 0 then a.fdiv b else a.fdiv b + 1
def rounded (a b : Int) (up : Bool) : Int × Bool :=
  let q := bif up then up1 a b else a.fdiv b
  bif inB q then (q, true) else (0, false)
def told (n : Int) : Int × Bool := bif inB n then (n, true) else (0, false)
def mul (a b : Int) (up : Bool) : Int × Bool := bif inB a && inB b then rounded (a * b) 65536 up else (0, false)
def div (a b : Int) (up : Bool) : Int × Bool := bif inB a && (inB b && decide (b ≠ 0)) then rounded (a * 65536) b up else (0, false)
def both (a b : Iv) : Bool := right a && right b
def neg (a : Iv) : Iv := bif right a then of (-a.hi) (-a.lo) else none'
def add (a b : Iv) : Iv := bif both a b then of (a.lo + b.lo) (a.hi + b.hi) else none'
def sub (a b : Iv) : Iv := add a (neg b)
def has (a : Iv) (n : Int) : Bool := right a && (decide (a.lo ≤ n) && decide (n ≤ a.hi))
theorem right_bd {a : Iv} (h : right a = true) : a.no = false ∧ (-1073741824 ≤ a.lo ∧ a.lo ≤ 1073741824) ∧ (-1073741824 ≤ a.hi ∧ a.hi ≤ 1073741824) ∧ a.lo ≤ a.hi := by
  simpa [right, inB] using h
theorem right_of {a : Iv} (h : a.no = false) (h1 : -1073741824 ≤ a.lo) (h2 : a.hi ≤ 1073741824) (h3 : a.lo ≤ a.hi) : right a = true := by
  simp [right, inB, h]; omega
theorem neg_of {b : Iv} (h : right b = true) : neg b = ⟨-b.hi, -b.lo, false⟩ := by
  have hb := right_bd h
  have : right ⟨-b.hi, -b.lo, false⟩ = true := right_of rfl (by simp; omega) (by simp; omega) (by simp; omega)
  simp [neg, of, h, this]
theorem right_neg (b : Iv) : right (neg b) = right b := by
  cases h : right b with
  | true =>
    have hb := right_bd h
    rw [neg_of h]
    exact right_of rfl (by simp; omega) (by simp; omega) (by simp; omega)
  | false => simp [neg, h]; rfl
theorem sub_eq (a b : Iv) : sub a b = bif both a b then of (a.lo - b.hi) (a.hi - b.lo) else none' := by
  unfold sub add both
  rw [right_neg]
  cases h : right b with
  | true => simp [neg_of h, Int.sub_eq_add_neg]
  | false => simp
theorem tmod_neg {a b : Int} (h : a.tmod b ≠ 0) : decide (a.tmod b < 0) = decide (a < 0) := by
  by_cases ha : a < 0
  · have := Int.tmod_nonneg b (a := -a) (by omega)
    rw [Int.neg_tmod] at this
    simp [ha]; omega
  · have := Int.tmod_nonneg b (a := a) (by omega)
    simp [ha]; omega
theorem of_eq {lo hi : Int} (h1 : inB lo = true) (h2 : inB hi = true) (h3 : lo ≤ hi) : of lo hi = ⟨lo, hi, false⟩ := by
  simp [of, right, h1, h2, h3]
theorem tmod_emod {a b : Int} : a.tmod b = 0 ↔ a % b = 0 := by
  rw [← Int.dvd_iff_tmod_eq_zero, ← Int.dvd_iff_emod_eq_zero]
theorem fdiv_mul {a b : Int} (hb : b ≠ 0) : a.fdiv b * b = a ↔ a % b = 0 := by
  rw [← Int.dvd_iff_emod_eq_zero]
  constructor
  · intro h; exact ⟨a.fdiv b, by rw [Int.mul_comm]; exact h.symm⟩
  · rintro ⟨c, rfl⟩
    rw [Int.mul_comm b c, Int.mul_fdiv_cancel _ hb]
theorem fdiv_mul_pos {a b : Int} (hl : 0 < b) : a - b < a.fdiv b * b ∧ a.fdiv b * b ≤ a := by
  have h1 := Int.fmod_add_fdiv_mul a b
  have h2 := Int.fmod_nonneg_of_pos a hl
  have h3 := Int.fmod_lt_of_pos a hl
  omega
theorem fdiv_mul_fit {a b : Int} (hb : b ≠ 0) (ha : -4611686018427387904 ≤ a ∧ a ≤ 4611686018427387904) (h : -4611686018427387904 ≤ b ∧ b ≤ 4611686018427387904) : Fit (a.fdiv b * b) := by
  rcases Int.lt_or_gt_of_ne hb with hl | hl
  · have h1 := fdiv_mul_pos (a := -a) (b := -b) (by omega)
    rw [Int.neg_fdiv_neg, Int.mul_neg] at h1
    constructor <;> omega
  · have h1 := fdiv_mul_pos (a := a) hl
    constructor <;> omega
theorem mul_fit {a b : Int} (ha : inB a = true) (hb : inB b = true) : -1152921504606846976 ≤ a * b ∧ a * b ≤ 1152921504606846976 := by
  rw [inB_iff] at ha hb
  have h1 : (a * b).natAbs ≤ 1073741824 * 1073741824 := by
    rw [Int.natAbs_mul]
    exact Nat.mul_le_mul (by omega) (by omega)
  omega
def ends (f : Int → Int → Bool → Int × Bool) (a b : Iv) : Iv :=
  bif ((f a.lo b.lo false).2 && (f a.lo b.lo true).2) && (((f a.lo b.hi false).2 && (f a.lo b.hi true).2) && (((f a.hi b.lo false).2 && (f a.hi b.lo true).2) && ((f a.hi b.hi false).2 && (f a.hi b.hi true).2))) then
    of (min (min (f a.lo b.lo false).1 (f a.lo b.hi false).1) (min (f a.hi b.lo false).1 (f a.hi b.hi false).1)) (max (max (f a.lo b.lo true).1 (f a.lo b.hi true).1) (max (f a.hi b.lo true).1 (f a.hi b.hi true).1))
  else none'
def mulIv (a b : Iv) : Iv := bif both a b then ends mul a b else none'
def divIv (a b : Iv) : Iv := bif both a b && !(has b 0) then ends div a b else none'
def Good (f : Int → Int → Bool → Int × Bool) : Prop := ∀ x y, (f x y false).2 = true → (f x y true).2 = true → inB (f x y false).1 = true ∧ inB (f x y true).1 = true ∧ (f x y false).1 ≤ (f x y true).1
theorem up1_ge (a b : Int) : a.fdiv b ≤ up1 a b := by unfold up1; split <;> omega
theorem rounded_good {a b : Int} (h1 : (rounded a b false).2 = true) (h2 : (rounded a b true).2 = true) : inB (rounded a b false).1 = true ∧ inB (rounded a b true).1 = true ∧ (rounded a b false).1 ≤ (rounded a b true).1 := by
  have := up1_ge a b
  unfold rounded at *
  simp only [cond_true, cond_false] at *
  cases e1 : inB (a.fdiv b) <;> cases e2 : inB (up1 a b) <;> simp_all
theorem good_mul : Good mul := by
  intro x y h1 h2
  unfold mul at *
  cases e : (inB x && inB y) with
  | false => simp [e] at h1
  | true => simp only [e, cond_true] at *; exact rounded_good h1 h2
theorem good_div : Good div := by
  intro x y h1 h2
  unfold div at *
  cases e : (inB x && (inB y && decide (y ≠ 0))) with
  | false => rw [e] at h1; simp at h1
  | true => simp only [e, cond_true] at *; exact rounded_good h1 h2
def ch1 (p q : Int) (e : Iv) : Iv := of (List.foldl imin e.lo [p]) (List.foldl imax e.hi [q])
theorem imin_eq (x y : Int) : imin x y = min x y := by unfold imin; split <;> omega
theorem imax_eq (x y : Int) : imax x y = max x y := by unfold imax; split <;> omega
theorem ch1_eq {p q l h : Int} (h1 : inB p = true) (h2 : inB q = true) (h3 : inB l = true) (h4 : inB h = true) (h5 : p ≤ q) (h6 : l ≤ h) : ch1 p q ⟨l, h, false⟩ = ⟨min l p, max h q, false⟩ := by
  rw [inB_iff] at *
  simp only [ch1, List.foldl, imin_eq, imax_eq]
  exact of_eq (inB_iff.2 (by omega)) (inB_iff.2 (by omega)) (by omega)
theorem ends_chain {f : Int → Int → Bool → Int × Bool} (g : Good f) {a b : Iv} (h1 : (f a.lo b.lo false).2 = true) (h2 : (f a.lo b.lo true).2 = true) (h3 : (f a.lo b.hi false).2 = true) (h4 : (f a.lo b.hi true).2 = true) (h5 : (f a.hi b.lo false).2 = true) (h6 : (f a.hi b.lo true).2 = true) (h7 : (f a.hi b.hi false).2 = true) (h8 : (f a.hi b.hi true).2 = true) :
    ch1 (f a.hi b.hi false).1 (f a.hi b.hi true).1 (ch1 (f a.hi b.lo false).1 (f a.hi b.lo true).1 (ch1 (f a.lo b.hi false).1 (f a.lo b.hi true).1 (ch1 (f a.lo b.lo false).1 (f a.lo b.lo true).1 (of (f a.lo b.lo false).1 (f a.lo b.lo true).1)))) = ends f a b := by
  obtain ⟨a1, a2, a3⟩ := g _ _ h1 h2
  obtain ⟨b1, b2, b3⟩ := g _ _ h3 h4
  obtain ⟨c1, c2, c3⟩ := g _ _ h5 h6
  obtain ⟨d1, d2, d3⟩ := g _ _ h7 h8
  simp only [ends, h1, h2, h3, h4, h5, h6, h7, h8, Bool.and_self, cond_true]
  generalize (f a.lo b.lo false).1 = p1 at *
  generalize (f a.lo b.lo true).1 = q1 at *
  generalize (f a.lo b.hi false).1 = p2 at *
  generalize (f a.lo b.hi true).1 = q2 at *
  generalize (f a.hi b.lo false).1 = p3 at *
  generalize (f a.hi b.lo true).1 = q3 at *
  generalize (f a.hi b.hi false).1 = p4 at *
  generalize (f a.hi b.hi true).1 = q4 at *
  rw [of_eq a1 a2 a3, ch1_eq a1 a2 a1 a2 a3 a3]
  rw [inB_iff] at *
  rw [ch1_eq (inB_iff.2 b1) (inB_iff.2 b2) (inB_iff.2 (by omega)) (inB_iff.2 (by omega)) b3 (by omega),
    ch1_eq (inB_iff.2 c1) (inB_iff.2 c2) (inB_iff.2 (by omega)) (inB_iff.2 (by omega)) c3 (by omega),
    ch1_eq (inB_iff.2 d1) (inB_iff.2 d2) (inB_iff.2 (by omega)) (inB_iff.2 (by omega)) d3 (by omega)]
  rw [of_eq (inB_iff.2 (by omega)) (inB_iff.2 (by omega)) (by omega)]
  simp only [Iv.mk.injEq, and_true]
  omega
theorem ends_no {f : Int → Int → Bool → Int × Bool} {a b : Iv} (h : (f a.lo b.lo false).2 = false ∨ (f a.lo b.lo true).2 = false ∨ (f a.lo b.hi false).2 = false ∨ (f a.lo b.hi true).2 = false ∨ (f a.hi b.lo false).2 = false ∨ (f a.hi b.lo true).2 = false ∨ (f a.hi b.hi false).2 = false ∨ (f a.hi b.hi true).2 = false) : none' = ends f a b := by
  unfold ends
  rcases h with h | h | h | h | h | h | h | h <;> simp [h]
theorem ends_of {f : Int → Int → Bool → Int × Bool} {a b : Iv} {x y : Int} (h1 : (f a.lo b.lo false).2 = true) (h2 : (f a.lo b.lo true).2 = true) (h3 : (f a.lo b.hi false).2 = true) (h4 : (f a.lo b.hi true).2 = true) (h5 : (f a.hi b.lo false).2 = true) (h6 : (f a.hi b.lo true).2 = true) (h7 : (f a.hi b.hi false).2 = true) (h8 : (f a.hi b.hi true).2 = true)
    (hx : x = min (min (f a.lo b.lo false).1 (f a.lo b.hi false).1) (min (f a.hi b.lo false).1 (f a.hi b.hi false).1)) (hy : y = max (max (f a.lo b.lo true).1 (f a.lo b.hi true).1) (max (f a.hi b.lo true).1 (f a.hi b.hi true).1)) : of x y = ends f a b := by
  subst hx; subst hy
  simp only [ends, h1, h2, h3, h4, h5, h6, h7, h8, Bool.and_self, cond_true]
def far (a : Iv) : Int := max (-a.lo) a.hi
def near (a : Iv) : Int := max (max a.lo (-a.hi)) 0
def sqr (a : Iv) : Iv := bif right a && (mul (far a) (far a) true).2 then of (mul (near a) (near a) false).1 (mul (far a) (far a) true).1 else none'
def rootL : Nat → Int → Int → Int
  | 0, _, r => r
  | k + 1, n, r => if (r + 2 ^ k) * (r + 2 ^ k) ≤ n then rootL k n (r + 2 ^ k) else rootL k n r
def root (a : Int) (up : Bool) : Int × Bool := bif inB a && decide (0 ≤ a) then
    (bif up && decide (rootL 24 (a * 65536) 0 * rootL 24 (a * 65536) 0 < a * 65536) then (rootL 24 (a * 65536) 0 + 1, true) else (rootL 24 (a * 65536) 0, true))
  else (0, false)
def rootIv (a : Iv) : Iv := bif right a && decide (0 ≤ a.lo) then of (root a.lo false).1 (root a.hi true).1 else none'
def nearR (a b c : Iv) : Iv × Int :=
  let d := sub (sqr b) (mulIv a c)
  bif d.no then (none', 0) else bif decide (d.hi < 0) then (none', 2) else bif decide (d.lo < 0) then (none', 0) else
    let t := divIv c (sub (rootIv d) b)
    bif t.no then (none', 0) else (t, 1)
def subV (a b : V) : V := ⟨sub a.x b.x, sub a.y b.y, sub a.z b.z⟩
def dot (a b : V) : Iv := add (add (mulIv a.x b.x) (mulIv a.y b.y)) (mulIv a.z b.z)
def len2 (a : V) : Iv := add (add (sqr a.x) (sqr a.y)) (sqr a.z)
def unit (a : V) : V := ⟨divIv a.x (rootIv (len2 a)), divIv a.y (rootIv (len2 a)), divIv a.z (rootIv (len2 a))⟩
def decRight (d : Dec) : Bool := decide (d.c ≥ -100000000000) && (decide (d.c ≤ 100000000000) && (decide (d.scale ≥ 0) && (decide (d.scale ≤ 6) && (d.scale == 0 || d.c.tmod 10 != 0))))
def pow10 (n : Int) : Int := 10 ^ n.toNat
def decIv (d : Dec) : Iv := bif decRight d then of (floor (d.c * 65536) (pow10 d.scale)) (-(floor (-(d.c * 65536)) (pow10 d.scale))) else none'
def within (n low high : Int) : Int := max low (min high n)
theorem pow10_succ {i : Int} (h : 0 ≤ i) : pow10 (i + 1) = pow10 i * 10 := by
  unfold pow10
  rw [show (i + 1).toNat = i.toNat + 1 by omega, Int.pow_succ]
theorem pow10_pos (i : Int) : 1 ≤ pow10 i := by
  unfold pow10
  have : 0 < (10 : Int) ^ i.toNat := Int.pow_pos (by omega)
  omega
theorem pow10_mono {i j : Int} (h : i ≤ j) : pow10 i ≤ pow10 j := by
  unfold pow10
  have := Nat.pow_le_pow_right (n := 10) (by omega) (show i.toNat ≤ j.toNat by omega)
  exact_mod_cast this
theorem pow10_18 {i : Int} (h : i ≤ 18) : pow10 i ≤ 1000000000000000000 := pow10_mono (j := 18) h
theorem zero_sub_fit {n : Int} (h : -9223372036854775807 ≤ n ∧ n ≤ 9223372036854775807) : IntKind.i64.wrap (0 - n) = -n := by
  rw [wrap_fit (by constructor <;> omega)]; omega
theorem neg_floor_up {a b : Int} (hb : 0 < b) : -(floor (-a) b) = up1 a b := by
  unfold floor up1
  have h1 := Int.fdiv_eq_ediv_of_nonneg (-a) (Int.le_of_lt hb)
  have h2 := Int.fdiv_eq_ediv_of_nonneg a (Int.le_of_lt hb)
  rw [h1, h2, Int.neg_ediv]
  by_cases h : b ∣ a
  · rw [if_pos h, if_pos (Int.emod_eq_zero_of_dvd h)]; omega
  · rw [if_neg h, if_neg (fun e => h (Int.dvd_of_emod_eq_zero e)), Int.sign_eq_one_of_pos hb]; omega
theorem rootL_bd (n : Int) : ∀ (k : Nat) (r : Int), r ≤ rootL k n r ∧ rootL k n r < r + 2 ^ k
  | 0, r => by simp [rootL]; omega
  | k + 1, r => by
    have h : (2 : Int) ^ (k + 1) = 2 ^ k + 2 ^ k := by rw [Int.pow_succ]; omega
    have hp : (0 : Int) < 2 ^ k := Int.pow_pos (by omega)
    unfold rootL
    split
    · have := rootL_bd n k (r + 2 ^ k); omega
    · have := rootL_bd n k r; omega
theorem rootL_25 {n : Int} (h : n < 281474976710656) : rootL 25 n 0 = rootL 24 n 0 := by
  conv => lhs; unfold rootL
  rw [if_neg (by simp; omega)]
theorem root_fit {n : Int} : 0 ≤ rootL 24 n 0 ∧ rootL 24 n 0 < 16777216 := by
  have := rootL_bd n 24 0
  simp at this
  omega
theorem root_sq {n : Int} : Fit (rootL 24 n 0 * rootL 24 n 0) := by
  have := root_fit (n := n)
  generalize rootL 24 n 0 = r at *
  have h1 : 0 ≤ r * r := Int.mul_nonneg this.1 this.1
  have h2 : r * r ≤ 16777216 * 16777216 := Int.mul_le_mul (by omega) (by omega) this.1 (by omega)
  constructor <;> omega
theorem pow_next {b : Int} (h : 0 ≤ b) : (2 : Int) ^ (b + 1).toNat = 2 ^ b.toNat + 2 ^ b.toNat := by
  rw [show (b + 1).toNat = b.toNat + 1 by omega, Int.pow_succ]; omega
theorem sq_fit {x : Int} (h : 0 ≤ x ∧ x ≤ 33554432) : Fit (x * x) := by
  have h1 : 0 ≤ x * x := Int.mul_nonneg h.1 h.1
  have h2 : x * x ≤ 33554432 * 33554432 := Int.mul_le_mul (by omega) (by omega) h.1 (by omega)
  constructor <;> omega
theorem or_pow {r b : Int} (hb : 0 ≤ b ∧ b ≤ 30) (hr : 0 ≤ r ∧ r < 4294967296) (hd : (2 : Int) ^ (b.toNat + 1) ∣ r) :
    IntKind.i64.wrap ((BitVec.ofInt IntKind.i64.bits r ||| BitVec.ofInt IntKind.i64.bits (IntKind.i64.wrap (1 * 2 ^ min b.toNat IntKind.i64.bits))).toNat : Int) = r + 2 ^ b.toNat := by
  obtain ⟨m, hm⟩ := Int.eq_ofNat_of_zero_le hr.1
  obtain ⟨k, hk⟩ := Int.eq_ofNat_of_zero_le hb.1
  subst hm; subst hk
  have hk30 : k ≤ 30 := by omega
  have hm32 : m < 4294967296 := by omega
  have hp : 2 ^ k ≤ 2 ^ 30 := Nat.pow_le_pow_right (by omega) hk30
  have e1 : min (Int.toNat (k : Int)) IntKind.i64.bits = k := by simp [IntKind.bits]; omega
  have hp30 : (2 : Nat) ^ 30 = 1073741824 := by decide
  have e2 : IntKind.i64.wrap (1 * 2 ^ k) = ((2 ^ k : Nat) : Int) := by
    have h2 : (1 : Int) * 2 ^ k = ((2 ^ k : Nat) : Int) := by simp
    rw [h2]
    generalize (2 ^ k : Nat) = t at *
    exact wrap_fit (by constructor <;> omega)
  rw [e1, e2]
  have hd' : 2 ^ (k + 1) ∣ m := by
    have : ((2 ^ (k + 1) : Nat) : Int) ∣ (m : Int) := by simpa using hd
    exact Int.ofNat_dvd.1 this
  obtain ⟨c, hc⟩ := hd'
  have e3 : (BitVec.ofInt IntKind.i64.bits (m : Int) ||| BitVec.ofInt IntKind.i64.bits ((2 ^ k : Nat) : Int)).toNat = m + 2 ^ k := by
    rw [BitVec.toNat_or, BitVec.ofInt_natCast, BitVec.ofInt_natCast, BitVec.toNat_ofNat, BitVec.toNat_ofNat]
    rw [Nat.mod_eq_of_lt (show m < 2 ^ IntKind.i64.bits by simp only [IntKind.bits]; omega), Nat.mod_eq_of_lt (show 2 ^ k < 2 ^ IntKind.i64.bits by simp only [IntKind.bits]; omega)]
    have h2 : 2 ^ k < 2 ^ (k + 1) := Nat.pow_lt_pow_right (by omega) (by omega)
    have := Nat.shiftLeft_add_eq_or_of_lt h2 c
    rw [Nat.shiftLeft_eq, Nat.mul_comm, ← hc] at this
    exact this.symm
  rw [e3, wrap_fit (by generalize (2 ^ k : Nat) = t at *; constructor <;> omega)]
  simp
theorem more_eq {r bit : Int} (h0 : 0 ≤ bit) (a1 : bit ≤ 24) (a3 : 0 ≤ r ∧ r + 2 ^ (bit + 1).toNat ≤ 33554432) (a4 : (2 : Int) ^ (bit + 1).toNat ∣ r) :
    IntKind.i64.wrap (BitVec.ofInt (64 : Nat) r ||| BitVec.ofInt (64 : Nat) (IntKind.i64.wrap (1 * 2 ^ min bit.toNat (64 : Nat)))).toNat = r + 2 ^ bit.toNat := by
  have h4 := pow_next h0
  have hp : (0 : Int) < 2 ^ bit.toNat := Int.pow_pos (by omega)
  rw [h4] at a3
  exact or_pow (r := r) (b := bit) (by omega) (by omega) (by rw [show bit.toNat + 1 = (bit + 1).toNat by omega]; exact a4)
theorem more_facts {r bit : Int} (h0 : 0 ≤ bit) (a3 : 0 ≤ r ∧ r + 2 ^ (bit + 1).toNat ≤ 33554432) :
    (bit - 1 + 1).toNat = bit.toNat ∧ (bit + 1).toNat = bit.toNat + 1 ∧ (0 : Int) < 2 ^ bit.toNat ∧ (2 : Int) ^ (bit + 1).toNat = 2 ^ bit.toNat + 2 ^ bit.toNat ∧ Fit ((r + 2 ^ bit.toNat) * (r + 2 ^ bit.toNat)) ∧ (0 ≤ r ∧ r + 2 ^ bit.toNat + 2 ^ bit.toNat ≤ 33554432) := by
  have h4 := pow_next h0
  have hp : (0 : Int) < 2 ^ bit.toNat := Int.pow_pos (by omega)
  rw [h4] at a3
  exact ⟨by omega, by omega, hp, h4, sq_fit (by omega), by omega⟩
theorem pow_two {r bit : Int} (h0 : 0 ≤ bit) (a1 : bit ≤ 24) (a3 : 0 ≤ r ∧ r + 2 ^ (bit + 1).toNat ≤ 33554432) : IntKind.i64.wrap (1 * 2 ^ min bit.toNat (64 : Nat)) = 2 ^ bit.toNat := by
  obtain ⟨k1, k2, k3, k4, k5, k6⟩ := more_facts h0 a3
  rw [show min bit.toNat 64 = bit.toNat by omega, Int.one_mul]
  exact wrap_fit (by constructor <;> omega)
theorem rootL_le (n : Int) : ∀ (k : Nat) (r : Int), r * r ≤ n → rootL k n r * rootL k n r ≤ n
  | 0, r, h => h
  | k + 1, r, h => by
    unfold rootL
    split
    · exact rootL_le n k _ (by assumption)
    · exact rootL_le n k _ h
theorem rootL_sq {n : Int} (h : 0 ≤ n) : rootL 24 n 0 * rootL 24 n 0 ≤ n := rootL_le n 24 0 (by simpa using h)
theorem ok_of (l h : Int) : right (of l h) = !(of l h).no := by
  unfold of
  cases e : right ⟨l, h, false⟩ with
  | true => simp [e]
  | false => simp; rfl
theorem ok_none : right none' = !none'.no := rfl
theorem ok_if {c : Bool} {x y : Iv} (hx : right x = !x.no) (hy : right y = !y.no) : right (bif c then x else y) = !(bif c then x else y).no := by cases c <;> assumption
theorem ok_add (a b : Iv) : right (add a b) = !(add a b).no := ok_if (ok_of _ _) ok_none
theorem ok_sub (a b : Iv) : right (sub a b) = !(sub a b).no := ok_add _ _
theorem ok_ends (f : Int → Int → Bool → Int × Bool) (a b : Iv) : right (ends f a b) = !(ends f a b).no := ok_if (ok_of _ _) ok_none
theorem ok_divIv (a b : Iv) : right (divIv a b) = !(divIv a b).no := ok_if (ok_ends _ _ _) ok_none
theorem decRight_bd {d : Dec} (h : decRight d = true) : (-100000000000 ≤ d.c ∧ d.c ≤ 100000000000) ∧ (0 ≤ d.scale ∧ d.scale ≤ 6) := by
  simp [decRight] at h
  omega
def pick (n m : Int) : Int := n % m
theorem pick_bd {n m : Int} (h : 0 < m) : 0 ≤ pick n m ∧ pick n m < m := ⟨Int.emod_nonneg n (by omega), Int.emod_lt_of_pos n h⟩
theorem pick_eq {n m : Int} (h : 0 < m) : pick n m = if n.tmod m < 0 then n.tmod m + m else n.tmod m := by
  have h1 := pick_bd (n := n) h
  unfold pick at *
  rw [Int.tmod_eq_emod]
  split <;> split <;> omega
theorem tmod_bd {n m : Int} (h : 0 < m) : -m < n.tmod m ∧ n.tmod m < m := by
  have h1 := pick_bd (n := n) h
  unfold pick at h1
  rw [Int.tmod_eq_emod]
  split <;> omega
def num (n : Int) : Int :=
  let k := pick n 9
  let m := IntKind.i64.wrap (n.tdiv 9)
  bif k == 0 then n else bif k == 1 then (pick m 201 - 100) * 65536 else bif k == 2 then pick m 9 - 4 else bif k == 3 then pick m 2147483657 - 1073741824 - 4 else pick m 2621440 - 1310720
def wide (x w : Int) : Iv := ⟨within x (-1073741824) 1073741824, min 1073741824 (within x (-1073741824) 1073741824 + w), false⟩
def handIv (n w : Int) : Iv :=
  let k := pick w 12
  bif k == 0 then ⟨num n, num (IntKind.i64.wrap (w.tdiv 12)), false⟩ else bif k == 1 then ⟨num n, num n, pick (IntKind.i64.wrap (w.tdiv 12)) 5 == 4⟩ else bif k == 2 || k == 3 then ⟨num n, num n, false⟩ else wide (num n) (pick (IntKind.i64.wrap (w.tdiv 12)) 9000)
def handV (l : A6) : V := ⟨handIv l.a l.b, handIv l.c l.d, handIv l.e l.f⟩
def handRay (r : RawRay) : Ray :=
  let w := bif r.wide.tmod 5 == 3 then 0 else bif r.wide.tmod 5 == 4 then pick r.wide 9000 else pick r.wide 400
  let v := bif r.lean.tmod 3 == 2 then pick r.lean 200 else 0
  ⟨⟨wide (pick r.x 655360 - 327680) w, wide (pick r.y 655360 - 327680) w, ⟨0, 0, false⟩⟩, unit ⟨wide (pick r.u 30000 - 15000) v, wide (pick r.w 30000 - 15000) v, ⟨65536, 65536, false⟩⟩⟩
def glowOk (n : Int) : Bool := decide (0 ≤ n) && decide (n ≤ 255)
def zeroD (d : Dec) : Bool := d.c == 0 && d.scale == 0
def rightShape (s : Shape) : Bool :=
  (glowOk s.glow.a && (glowOk s.glow.b && glowOk s.glow.c)) &&
  (bif s.kind == 1 then decRight s.x && (decRight s.y && (decRight s.z && (decRight s.r && decide (s.r.c > 0))))
   else bif s.kind == 2 then decRight s.z && (zeroD s.x && (zeroD s.y && zeroD s.r)) else false)
def rightScene (l : List Shape) : Bool := decide (l.length ≤ 8) && l.all rightShape
def meet (s : Shape) (r : Ray) : Iv × Int :=
  bif s.kind == 1 then
    let o := subV r.o ⟨decIv s.x, decIv s.y, decIv s.z⟩
    nearR (len2 r.d) (dot o r.d) (sub (len2 o) (sqr (decIv s.r)))
  else bif s.kind == 2 then
    let t := divIv (sub (decIv s.z) r.o.z) r.d.z
    bif t.no then (none', 0) else (t, 1)
  else (none', 0)
def hit (s : Shape) (r : Ray) : Iv × Int :=
  bif !((meet s r).2 == 1) then (none', (meet s r).2) else bif decide ((meet s r).1.hi ≤ 0) then (none', 2) else bif decide ((meet s r).1.lo ≤ 0) then (none', 0) else ((meet s r).1, 1)
theorem dShape (l : List Shape) : decL Shape.dec (l.map Shape.enc) = l := decL_map _ _ (fun _ => rfl) l
theorem dI (l : List I) : decL I.dec (l.map I.enc) = l := decL_map _ _ (fun _ => rfl) l
theorem dIv (l : List Iv) : decL Iv.dec (l.map Iv.enc) = l := decL_map _ _ (fun _ => rfl) l
def idxF {α : Type} (p : α → Bool) : List α → Int → Int
  | [], _ => -1
  | x :: r, i => bif p x then i else idxF p r (i + 1)
theorem idxF_no {α : Type} {p : α → Bool} : ∀ {l : List α} {i : Int}, l.any p = false → idxF p l i = -1
  | [], _, _ => rfl
  | x :: r, i, h => by
    simp only [List.any_cons, Bool.or_eq_false_iff] at h
    simp only [idxF, h.1, cond_false]
    exact idxF_no h.2
theorem idxF_ge {α : Type} {p : α → Bool} : ∀ {l : List α} {i : Int}, 0 ≤ i → decide (idxF p l i ≥ 0) = l.any p
  | [], _, _ => by simp [idxF]
  | x :: r, i, h => by
    cases e : p x with
    | true => simp [idxF, e]; exact h
    | false => simpa [idxF, e] using idxF_ge (p := p) (l := r) (i := i + 1) (by omega)
theorem get_at {α : Type} {l : List α} {i : Int} (h0 : 0 ≤ i) (h : i < l.length) : ∃ x r, l.drop i.toNat = x :: r ∧ l.drop (i + 1).toNat = r ∧ l[i.toNat]? = some x := by
  have hl : i.toNat < l.length := by omega
  refine ⟨l[i.toNat], l.drop (i.toNat + 1), List.drop_eq_getElem_cons hl, by rw [show (i + 1).toNat = i.toNat + 1 by omega], by simp [hl]⟩
theorem map_at {α : Type} {e : α → List PV} {l : List α} {n : Nat} {x : α} (h : l[n]? = some x) : (l.map e).getD n [] = e x := by
  rw [List.getD_eq_getElem?_getD, List.getElem?_map, h]; rfl
def hdec : Nat → Int → Int → Dec
  | 0, c, s => ⟨c, s⟩
  | k + 1, c, s => bif decide (s > 0) && c.tmod 10 == 0 then hdec k (IntKind.i64.wrap (c.tdiv 10)) (IntKind.i64.wrap (s - 1)) else ⟨c, s⟩
theorem idx_ok {α : Type} {e : α → List PV} {z : List PV} (h : ∀ x, etaL z (e x) = e x) {l : List α} {i : Int} (h0 : 0 ≤ i) (h1 : i < l.length) : 0 ≤ i ∧ (l.map e)[i.toNat]? = some (etaL z ((l.map e).getD i.toNat [])) := by
  obtain ⟨x, r, _, _, hx⟩ := get_at h0 h1
  refine ⟨h0, ?_⟩
  rw [map_at hx, List.getElem?_map, hx, h]
  rfl
def shapeAt (l : List I) (i : Int) : Shape :=
  let w := fun (n : Int) => IntKind.i64.wrap n
  let g0 := (l.getD i.toNat ⟨0⟩).n
  let g1 := (l.getD (w (i + 1)).toNat ⟨0⟩).n
  let g2 := (l.getD (w (i + 2)).toNat ⟨0⟩).n
  let g3 := (l.getD (w (i + 3)).toNat ⟨0⟩).n
  let g4 := (l.getD (w (i + 4)).toNat ⟨0⟩).n
  let glow : A3 := ⟨pick g0 256, pick (w (g0.tdiv 7)) 256, pick (w (g0.tdiv 13)) 256⟩
  bif pick g4 3 == 0 then ⟨2, ⟨0, 0⟩, ⟨0, 0⟩, hdec 0 (w (60 + pick g3 100)) 0, ⟨0, 0⟩, glow⟩
  else ⟨1, hdec 1 (w (pick g1 600 - 300)) 1, hdec 1 (w (pick g2 600 - 300)) 1, hdec 0 (w (50 + pick g3 70)) 0, hdec 1 (w (10 + pick g4 300)) 1, glow⟩
def sceneG : Nat → List I → Int → List Shape
  | 0, _, _ => []
  | k + 1, l, i => bif decide (i + 4 < l.length) && decide (i < 25) then shapeAt l i :: sceneG k l (i + 5) else []
def sceneL (l : List I) : List Shape := sceneG 5 l 0
theorem i_at (l : List I) (k : Nat) : intOf (((l.map I.enc).getD k []).headD .nil) = (l.getD k ⟨0⟩).n := by
  rw [List.getD_eq_getElem?_getD, List.getElem?_map, List.getD_eq_getElem?_getD]
  cases l[k]? <;> rfl
theorem hdec_step {c s : Int} (h : 0 < s) (hs : s ≤ 18) (hc : c.tmod 10 = 0) : hdec s.toNat c s = hdec (IntKind.i64.wrap (s - 1)).toNat (IntKind.i64.wrap (c.tdiv 10)) (IntKind.i64.wrap (s - 1)) := by
  have e : (IntKind.i64.wrap (s - 1)) = s - 1 := wrap_fit (by constructor <;> omega)
  rw [e]
  obtain ⟨k, hk⟩ : ∃ k, s.toNat = k + 1 := ⟨s.toNat - 1, by omega⟩
  have hk2 : (s - 1).toNat = k := by omega
  rw [hk, hk2]
  conv => lhs; unfold hdec
  rw [e, show (decide (s > 0) && c.tmod 10 == 0) = true by simp [h, hc]]
  rfl
theorem hdec_end {c s : Int} (h : ¬ (s > 0 ∧ c.tmod 10 = 0)) : hdec s.toNat c s = ⟨c, s⟩ := by
  by_cases hs : s > 0
  · obtain ⟨k, hk⟩ : ∃ k, s.toNat = k + 1 := ⟨s.toNat - 1, by omega⟩
    rw [hk]
    unfold hdec
    have hc : (c.tmod 10 == 0) = false := by simp; intro e; exact h ⟨hs, e⟩
    rw [hc, Bool.and_false]; rfl
  · have : s.toNat = 0 := by omega
    rw [this]; rfl
theorem lens_map {α : Type} {e : α → List PV} {n : Nat} (h : ∀ x, (e x).length = n) (l : List α) : Lens n (l.map e) := fun y hy => by
  obtain ⟨x, _, rfl⟩ := List.mem_map.1 hy
  exact h x
theorem lens_app {n : Nat} {l : List (List PV)} {x : List PV} (h : Lens n l) (hx : x.length = n) : Lens n (l ++ [x]) := fun y hy => by
  rcases List.mem_append.1 hy with h' | h'
  · exact h y h'
  · rw [List.mem_singleton.1 h']; exact hx
theorem sh_de (x : Shape) : Shape.dec (Shape.enc x) = x := rfl
theorem iv_de (x : Iv) : Iv.dec (Iv.enc x) = x := rfl
def nearGo (r : Ray) : List Shape → Int → Int → Iv → List Iv → Int × Iv × List Iv
  | [], _, b, a, all => (b, a, all)
  | s :: l, k, b, a, all =>
    bif (hit s r).2 == 2 then nearGo r l (k + 1) b a all
    else bif decide (b < 0) || decide ((hit s r).1.hi < a.hi) then nearGo r l (k + 1) k (hit s r).1 (all ++ [(hit s r).1])
    else nearGo r l (k + 1) b a (all ++ [(hit s r).1])
def unsure (r : Ray) (l : List Shape) : Bool := l.any (fun s => (hit s r).2 == 0)
def behind (a : Iv) : List Iv → Int
  | [] => 0
  | t :: l => bif decide (a.hi < t.lo) then behind a l + 1 else behind a l
theorem behind_le (a : Iv) : ∀ l : List Iv, 0 ≤ behind a l ∧ behind a l ≤ l.length
  | [] => ⟨Int.le_refl 0, Int.le_refl 0⟩
  | t :: l => by
    have h := behind_le a l
    simp only [behind, List.length_cons]
    cases decide (a.hi < t.lo) <;> simp only [cond_true, cond_false] <;> omega
theorem nearGo_len (r : Ray) : ∀ (l : List Shape) (k b : Int) (a : Iv) (all : List Iv), (nearGo r l k b a all).2.2.length ≤ all.length + l.length
  | [], _, _, _, _ => Nat.le_refl _
  | s :: l, k, b, a, all => by
    simp only [nearGo, List.length_cons]
    have h1 := nearGo_len r l (k + 1) b a all
    have h2 := nearGo_len r l (k + 1) k (hit s r).1 (all ++ [(hit s r).1])
    have h3 := nearGo_len r l (k + 1) b a (all ++ [(hit s r).1])
    simp only [List.length_append, List.length_cons, List.length_nil] at h2 h3
    cases (hit s r).2 == 2 <;> cases decide (b < 0) || decide ((hit s r).1.hi < a.hi) <;> simp only [cond_true, cond_false] <;> omega
def nearest (l : List Shape) (r : Ray) : Int × Iv × Int :=
  bif unsure r l then (-1, none', 0) else
    let g := nearGo r l 0 (-1) none' []
    bif decide (g.1 < 0) then (-1, none', 2)
    else bif decide (behind g.2.1 g.2.2 + 1 < g.2.2.length) then (-1, none', 0) else (g.1, g.2.1, 1)
def hitIx (r : Ray) : List Shape → Int → List I
  | [], _ => []
  | s :: l, k => bif (hit s r).2 == 1 then ⟨k⟩ :: hitIx r l (k + 1) else hitIx r l (k + 1)
def hitTs (r : Ray) : List Shape → List Iv
  | [] => []
  | s :: l => bif (hit s r).2 == 1 then (hit s r).1 :: hitTs r l else hitTs r l
theorem hit_len (r : Ray) : ∀ (l : List Shape) (k : Int), (hitIx r l k).length = (hitTs r l).length ∧ (hitTs r l).length ≤ l.length
  | [], _ => ⟨rfl, Nat.le_refl _⟩
  | s :: l, k => by
    have h := hit_len r l (k + 1)
    simp only [hitIx, hitTs]
    cases (hit s r).2 == 1 <;> simp only [cond_true, cond_false, List.length_cons] <;> omega
def firstGo (h i : Int) : List Iv → Int → Bool
  | [], _ => true
  | t :: l, k => (k == i || decide (h < t.lo)) && firstGo h i l (k + 1)
def pickR (ts : List Iv) : List I → List Iv → Int → Option (Int × Iv)
  | a :: la, t :: lt, i => bif firstGo t.hi i ts 0 then some (a.n, t) else pickR ts la lt (i + 1)
  | _, _, _ => none
def pickD (o : Option (Int × Iv)) : Int × Iv := o.getD (0, none')
def nearestR (l : List Shape) (r : Ray) : Int × Iv × Int :=
  bif unsure r l then (-1, none', 0) else
    bif (hitTs r l).length == 0 then (-1, none', 2)
    else bif (pickR (hitTs r l) (hitIx r l 0) (hitTs r l) 0).isSome then ((pickD (pickR (hitTs r l) (hitIx r l 0) (hitTs r l) 0)).1, (pickD (pickR (hitTs r l) (hitIx r l 0) (hitTs r l) 0)).2, 1) else (-1, none', 0)
def axis (h : Iv) : Ray := ⟨⟨h, point 0, point 0⟩, ⟨point 0, point 0, whole 1⟩⟩
def ball (z r : Int) : Shape := ⟨1, ⟨0, 0⟩, ⟨0, 0⟩, ⟨z, 0⟩, ⟨r, 0⟩, ⟨1, 2, 3⟩⟩
def growS (s : List Shape) : List Shape := match s with
  | [] => []
  | x :: r => x :: (r ++ List.replicate (8 - r.length) x)
theorem growS_step {z : Shape} {zs : List Shape} (h : zs.length < 8) : growS ((z :: zs) ++ [z]) = growS (z :: zs) := by
  simp only [growS, List.cons_append, List.length_append, List.length_cons, List.length_nil, List.append_assoc]
  rw [show 8 - zs.length = (8 - (zs.length + (0 + 1))) + 1 by omega, List.replicate_succ]
  rfl
theorem growS_end {s : List Shape} (h : 9 ≤ s.length) : growS s = s := by
  cases s with
  | nil => rfl
  | cons z zs =>
    simp only [List.length_cons] at h
    simp only [growS]
    rw [show 8 - zs.length = 0 by omega, List.replicate_zero, List.append_nil]
theorem growS_len {s : List Shape} (h : s.length ≤ 30) : (growS s).length ≤ 100 := by
  cases s with
  | nil => simp [growS]
  | cons z zs =>
    simp only [List.length_cons] at h
    simp only [growS, List.length_cons, List.length_append, List.length_replicate]
    omega
theorem sceneG_len : ∀ (k : Nat) (l : List I) (i : Int), (sceneG k l i).length ≤ k
  | 0, _, _ => Nat.le_refl _
  | k + 1, l, i => by
    have h := sceneG_len k l (i + 5)
    unfold sceneG
    cases (decide (i + 4 < ↑l.length) && decide (i < 25)) with
    | true => simp only [cond_true, List.length_cons]; omega
    | false => simp
theorem sceneL_len (l : List I) : (sceneL l).length ≤ 5 := sceneG_len 5 l 0
theorem lay_left {a b vs : List PV} {j : Nat} (h : j + vs.length ≤ a.length) : lay (a ++ b) j vs = lay a j vs ++ b := by
  unfold lay
  rw [List.take_append_of_le_length (by omega), List.drop_append_of_le_length h]
  simp only [List.append_assoc]
theorem lay_right {a b vs : List PV} {j : Nat} : lay (a ++ b) (a.length + j) vs = a ++ lay b j vs := by
  unfold lay
  rw [List.take_length_add_append, Nat.add_assoc, List.drop_length_add_append]
  simp only [List.append_assoc]
theorem chunk_app {s n : Nat} {a b : List PV} (h : a.length = s) : chunk s (n + 1) (a ++ b) = a :: chunk s n b := by
  simp only [chunk]
  rw [← h, List.take_left, List.drop_left]
theorem chunk_map {α : Type} {e : α → List PV} {s : Nat} (h : ∀ x, (e x).length = s) : ∀ (l : List α), chunk s l.length (l.map e).flatten = l.map e
  | [] => rfl
  | x :: t => by
    rw [List.length_cons, List.map_cons, List.flatten_cons, chunk_app (h x), chunk_map h t]
theorem chunk_lay {α : Type} {e : α → List PV} {s : Nat} (h : ∀ x, (e x).length = s) {x' : α} {vs : List PV} {j : Nat} (hj : j + vs.length ≤ s) : ∀ (l : List α) (k o : Nat) (x : α), l[k]? = some x → o = k * s + j → e x' = lay (e x) j vs → chunk s l.length (lay (l.map e).flatten o vs) = (l.set k x').map e
  | [], k, o, x, hk, _, _ => by simp at hk
  | y :: t, 0, o, x, hk, ho, hx => by
    have := Option.some.inj hk
    subst this
    rw [List.length_cons, List.map_cons, List.flatten_cons, ho, Nat.zero_mul, Nat.zero_add, lay_left (by rw [h]; exact hj), ← hx, chunk_app (h x'), chunk_map h t]
    rfl
  | y :: t, k + 1, o, x, hk, ho, hx => by
    rw [List.length_cons, List.map_cons, List.flatten_cons, ho, show (k + 1) * s + j = (e y).length + (k * s + j) by rw [h]; rw [Nat.succ_mul]; omega, lay_right, chunk_app (h y), chunk_lay h hj t k _ x (by simpa using hk) rfl hx]
    rfl
theorem hd_of : ∀ {cs : List PV}, (∀ y ∈ cs, isBld y = false) → hdOk cs = true
  | [], _ => rfl
  | x :: r, h => by
    have hx := h x List.mem_cons_self
    have hr := hd_of (cs := r) (fun y hy => h y (List.mem_cons_of_mem _ hy))
    cases x <;> first | exact hr | exact absurd hx (by simp [isBld])
theorem flat_bld {y : PV} (h : flat y = true) : isBld y = false := by cases y <;> first | rfl | exact absurd h (by simp [flat])
theorem hdOk_lay {cs vs : List PV} {o : Nat} (h : ∀ y ∈ cs, flat y = true) (hv : ∀ y ∈ vs, flat y = true) : HdOk (lay cs o vs) := ⟨hd_of fun y hy => by
  unfold lay at hy
  rcases List.mem_append.1 hy with hy | hy
  · exact flat_bld (h y (List.mem_of_mem_take hy))
  rcases List.mem_append.1 hy with hy | hy
  · exact flat_bld (hv y hy)
  · exact flat_bld (h y (List.mem_of_mem_drop hy))⟩
theorem lay_len {cs vs : List PV} {o : Nat} (h : o + vs.length ≤ cs.length) : (lay cs o vs).length = cs.length := by
  unfold lay
  simp only [List.length_append, List.length_take, List.length_drop]
  omega
theorem flat_len {α : Type} {e : α → List PV} {s : Nat} (h : ∀ x, (e x).length = s) : ∀ (l : List α), (l.map e).flatten.length = l.length * s
  | [] => by simp
  | x :: t => by rw [List.map_cons, List.flatten_cons, List.length_append, h, flat_len h t, List.length_cons, Nat.succ_mul]; omega
theorem flat_all {α : Type} {e : α → List PV} (h : ∀ x, ∀ y ∈ e x, flat y = true) (l : List α) : ∀ x ∈ l.map e, ∀ y ∈ x, flat y = true := fun x hx y hy => by
  obtain ⟨z, _, rfl⟩ := List.mem_map.1 hx
  exact h z y hy
theorem flat_all' {α : Type} {e : α → List PV} (h : ∀ x, ∀ y ∈ e x, flat y = true) (l : List α) : ∀ y ∈ (l.map e).flatten, flat y = true := fun y hy => by
  obtain ⟨x, hx, hy⟩ := List.mem_flatten.1 hy
  exact flat_all h l x hx y hy
theorem shape_flat (x : Shape) : ∀ y ∈ Shape.enc x, flat y = true := fun y hy => by
  simp only [Shape.enc, List.mem_cons, List.not_mem_nil, or_false] at hy
  rcases hy with rfl | rfl | rfl | rfl | rfl | rfl | rfl | rfl | rfl | rfl | rfl | rfl <;> rfl
end Go.Men
namespace Go.Proofs.Ytoldgmhepeficaa
open Go.Ev
def evTys : List (Nat × Ty) := [
  (35, ⟨1, 3, 24, [.v (Go.Value.int (Go.IntKind.i64) 0), .v (Go.Value.int (Go.IntKind.i64) 0), .v (Go.Value.bool false)], [(0, 3), (1, 3), (2, 4)], 0, 0⟩),
  (3, ⟨0, 1, 8, [.v (Go.Value.int (Go.IntKind.i64) 0)], [], 0, 0⟩),
  (37, ⟨1, 9, 72, [.v (Go.Value.int (Go.IntKind.i64) 0), .v (Go.Value.int (Go.IntKind.i64) 0), .v (Go.Value.bool false), .v (Go.Value.int (Go.IntKind.i64) 0), .v (Go.Value.int (Go.IntKind.i64) 0), .v (Go.Value.bool false), .v (Go.Value.int (Go.IntKind.i64) 0), .v (Go.Value.int (Go.IntKind.i64) 0), .v (Go.Value.bool false)], [(0, 35), (3, 35), (6, 35)], 0, 0⟩),
  (30, ⟨1, 2, 16, [.v (Go.Value.int (Go.IntKind.i64) 0), .v (Go.Value.int (Go.IntKind.i64) 0)], [(0, 3), (1, 3)], 0, 0⟩),
  (33, ⟨1, 12, 96, [.v (Go.Value.int (Go.IntKind.i64) 0), .v (Go.Value.int (Go.IntKind.i64) 0), .v (Go.Value.int (Go.IntKind.i64) 0), .v (Go.Value.int (Go.IntKind.i64) 0), .v (Go.Value.int (Go.IntKind.i64) 0), .v (Go.Value.int (Go.IntKind.i64) 0), .v (Go.Value.int (Go.IntKind.i64) 0), .v (Go.Value.int (Go.IntKind.i64) 0), .v (Go.Value.int (Go.IntKind.i64) 0), .v (Go.Value.int (Go.IntKind.i64) 0), .v (Go.Value.int (Go.IntKind.i64) 0), .v (Go.Value.int (Go.IntKind.i64) 0)], [(0, 3), (1, 30), (3, 30), (5, 30), (7, 30), (9, 31)], 0, 0⟩),
  (39, ⟨1, 18, 144, [.v (Go.Value.int (Go.IntKind.i64) 0), .v (Go.Value.int (Go.IntKind.i64) 0), .v (Go.Value.bool false), .v (Go.Value.int (Go.IntKind.i64) 0), .v (Go.Value.int (Go.IntKind.i64) 0), .v (Go.Value.bool false), .v (Go.Value.int (Go.IntKind.i64) 0), .v (Go.Value.int (Go.IntKind.i64) 0), .v (Go.Value.bool false), .v (Go.Value.int (Go.IntKind.i64) 0), .v (Go.Value.int (Go.IntKind.i64) 0), .v (Go.Value.bool false), .v (Go.Value.int (Go.IntKind.i64) 0), .v (Go.Value.int (Go.IntKind.i64) 0), .v (Go.Value.bool false), .v (Go.Value.int (Go.IntKind.i64) 0), .v (Go.Value.int (Go.IntKind.i64) 0), .v (Go.Value.bool false)], [(0, 37), (9, 37)], 0, 0⟩),
  (26, ⟨3, 1, 24, [.nil], [], 33, 0⟩),
  (22, ⟨3, 1, 24, [.nil], [], 3, 0⟩),
  (24, ⟨1, 6, 48, [.v (Go.Value.int (Go.IntKind.i64) 0), .v (Go.Value.int (Go.IntKind.i64) 0), .v (Go.Value.int (Go.IntKind.i64) 0), .v (Go.Value.int (Go.IntKind.i64) 0), .v (Go.Value.int (Go.IntKind.i64) 0), .v (Go.Value.int (Go.IntKind.i64) 0)], [(0, 3), (1, 3), (2, 3), (3, 3), (4, 3), (5, 3)], 0, 0⟩),
  (65, ⟨3, 1, 24, [.nil], [], 35, 0⟩),
  (25, ⟨2, 6, 48, [.v (Go.Value.int (Go.IntKind.i64) 0), .v (Go.Value.int (Go.IntKind.i64) 0), .v (Go.Value.int (Go.IntKind.i64) 0), .v (Go.Value.int (Go.IntKind.i64) 0), .v (Go.Value.int (Go.IntKind.i64) 0), .v (Go.Value.int (Go.IntKind.i64) 0)], [], 3, 6⟩),
  (31, ⟨2, 3, 24, [.v (Go.Value.int (Go.IntKind.i64) 0), .v (Go.Value.int (Go.IntKind.i64) 0), .v (Go.Value.int (Go.IntKind.i64) 0)], [], 3, 3⟩),
  (4, ⟨0, 1, 1, [.v (Go.Value.bool false)], [], 0, 0⟩),
  (87, ⟨2, 2, 16, [.v (Go.Value.int (Go.IntKind.i64) 0), .v (Go.Value.int (Go.IntKind.i64) 0)], [], 3, 2⟩),
  (85, ⟨0, 1, 8, [.v (Go.Value.int (Go.IntKind.u64) 0)], [], 0, 0⟩)]
theorem evTys_ok : TyOk Try.prog evTys :=
  tyOk_cons (by kernel_rfl) <|
  tyOk_cons (by kernel_rfl) <|
  tyOk_cons (by kernel_rfl) <|
  tyOk_cons (by kernel_rfl) <|
  tyOk_cons (by kernel_rfl) <|
  tyOk_cons (by kernel_rfl) <|
  tyOk_cons (by kernel_rfl) <|
  tyOk_cons (by kernel_rfl) <|
  tyOk_cons (by kernel_rfl) <|
  tyOk_cons (by kernel_rfl) <|
  tyOk_cons (by kernel_rfl) <|
  tyOk_cons (by kernel_rfl) <|
  tyOk_cons (by kernel_rfl) <|
  tyOk_cons (by kernel_rfl) <|
  tyOk_cons (by kernel_rfl) <|
  tyOk_nil
noncomputable def evFns : List (Nat × Func) := [(3, Try.f3), (4, Try.f4), (5, Try.f5), (6, Try.f6), (7, Try.f7), (8, Try.f8), (9, Try.f9), (10, Try.f10), (11, Try.f11), (12, Try.f12), (13, Try.f13), (14, Try.f14), (15, Try.f15), (17, Try.f17), (16, Try.f16), (18, Try.f18), (19, Try.f19), (20, Try.f20), (22, Try.f22), (23, Try.f23), (24, Try.f24), (25, Try.f25), (27, Try.f27), (26, Try.f26), (29, Try.f29), (30, Try.f30), (32, Try.f32), (31, Try.f31), (28, Try.f28), (33, Try.f33), (34, Try.f34), (36, Try.f36), (35, Try.f35), (37, Try.f37), (38, Try.f38), (40, Try.f40), (39, Try.f39), (41, Try.f41), (42, Try.f42), (21, Try.f21), (49, Try.f49), (48, Try.f48), (47, Try.f47), (51, Try.f51), (52, Try.f52), (54, Try.f54), (53, Try.f53), (50, Try.f50), (55, Try.f55), (58, Try.f58), (57, Try.f57), (59, Try.f59), (56, Try.f56), (61, Try.f61), (60, Try.f60), (62, Try.f62), (63, Try.f63), (64, Try.f64), (65, Try.f65), (66, Try.f66), (67, Try.f67), (43, Try.f43), (44, Try.f44), (45, Try.f45), (46, Try.f46), (69, Try.f69), (70, Try.f70), (73, Try.f73), (71, Try.f71), (75, Try.f75), (76, Try.f76), (74, Try.f74), (72, Try.f72), (77, Try.f77), (78, Try.f78), (79, Try.f79), (80, Try.f80), (81, Try.f81), (82, Try.f82), (68, Try.f68), (84, Try.f84), (83, Try.f83)]
theorem evFns_ok : FnsOk Try.prog evFns :=
  fnsOk_cons Try.func3 Try.call3 <|
  fnsOk_cons Try.func4 Try.call4 <|
  fnsOk_cons Try.func5 Try.call5 <|
  fnsOk_cons Try.func6 Try.call6 <|
  fnsOk_cons Try.func7 Try.call7 <|
  fnsOk_cons Try.func8 Try.call8 <|
  fnsOk_cons Try.func9 Try.call9 <|
  fnsOk_cons Try.func10 Try.call10 <|
  fnsOk_cons Try.func11 Try.call11 <|
  fnsOk_cons Try.func12 Try.call12 <|
  fnsOk_cons Try.func13 Try.call13 <|
  fnsOk_cons Try.func14 Try.call14 <|
  fnsOk_cons Try.func15 Try.call15 <|
  fnsOk_cons Try.func17 Try.call17 <|
  fnsOk_cons Try.func16 Try.call16 <|
  fnsOk_cons Try.func18 Try.call18 <|
  fnsOk_cons Try.func19 Try.call19 <|
  fnsOk_cons Try.func20 Try.call20 <|
  fnsOk_cons Try.func22 Try.call22 <|
  fnsOk_cons Try.func23 Try.call23 <|
  fnsOk_cons Try.func24 Try.call24 <|
  fnsOk_cons Try.func25 Try.call25 <|
  fnsOk_cons Try.func27 Try.call27 <|
  fnsOk_cons Try.func26 Try.call26 <|
  fnsOk_cons Try.func29 Try.call29 <|
  fnsOk_cons Try.func30 Try.call30 <|
  fnsOk_cons Try.func32 Try.call32 <|
  fnsOk_cons Try.func31 Try.call31 <|
  fnsOk_cons Try.func28 Try.call28 <|
  fnsOk_cons Try.func33 Try.call33 <|
  fnsOk_cons Try.func34 Try.call34 <|
  fnsOk_cons Try.func36 Try.call36 <|
  fnsOk_cons Try.func35 Try.call35 <|
  fnsOk_cons Try.func37 Try.call37 <|
  fnsOk_cons Try.func38 Try.call38 <|
  fnsOk_cons Try.func40 Try.call40 <|
  fnsOk_cons Try.func39 Try.call39 <|
  fnsOk_cons Try.func41 Try.call41 <|
  fnsOk_cons Try.func42 Try.call42 <|
  fnsOk_cons Try.func21 Try.call21 <|
  fnsOk_cons Try.func49 Try.call49 <|
  fnsOk_cons Try.func48 Try.call48 <|
  fnsOk_cons Try.func47 Try.call47 <|
  fnsOk_cons Try.func51 Try.call51 <|
  fnsOk_cons Try.func52 Try.call52 <|
  fnsOk_cons Try.func54 Try.call54 <|
  fnsOk_cons Try.func53 Try.call53 <|
  fnsOk_cons Try.func50 Try.call50 <|
  fnsOk_cons Try.func55 Try.call55 <|
  fnsOk_cons Try.func58 Try.call58 <|
  fnsOk_cons Try.func57 Try.call57 <|
  fnsOk_cons Try.func59 Try.call59 <|
  fnsOk_cons Try.func56 Try.call56 <|
  fnsOk_cons Try.func61 Try.call61 <|
  fnsOk_cons Try.func60 Try.call60 <|
  fnsOk_cons Try.func62 Try.call62 <|
  fnsOk_cons Try.func63 Try.call63 <|
  fnsOk_cons Try.func64 Try.call64 <|
  fnsOk_cons Try.func65 Try.call65 <|
  fnsOk_cons Try.func66 Try.call66 <|
  fnsOk_cons Try.func67 Try.call67 <|
  fnsOk_cons Try.func43 Try.call43 <|
  fnsOk_cons Try.func44 Try.call44 <|
  fnsOk_cons Try.func45 Try.call45 <|
  fnsOk_cons Try.func46 Try.call46 <|
  fnsOk_cons Try.func69 Try.call69 <|
  fnsOk_cons Try.func70 Try.call70 <|
  fnsOk_cons Try.func73 Try.call73 <|
  fnsOk_cons Try.func71 Try.call71 <|
  fnsOk_cons Try.func75 Try.call75 <|
  fnsOk_cons Try.func76 Try.call76 <|
  fnsOk_cons Try.func74 Try.call74 <|
  fnsOk_cons Try.func72 Try.call72 <|
  fnsOk_cons Try.func77 Try.call77 <|
  fnsOk_cons Try.func78 Try.call78 <|
  fnsOk_cons Try.func79 Try.call79 <|
  fnsOk_cons Try.func80 Try.call80 <|
  fnsOk_cons Try.func81 Try.call81 <|
  fnsOk_cons Try.func82 Try.call82 <|
  fnsOk_cons Try.func68 Try.call68 <|
  fnsOk_cons Try.func84 Try.call84 <|
  fnsOk_cons Try.func83 Try.call83 <|
  fnsOk_nil
def evEqs : List (Nat × List Nat) := [(35, [0, 0, 1]), (30, [0, 0])]
theorem evEqs_ok : EqsOk Try.prog evEqs :=
  eqsOk_cons (eqOk_deep (d := 8) (by kernel_rfl) (by kernel_rfl) (fun w => by simp [isAgg, run_underlying Try.underlying35]) (i := (Try.prog.info? 35).get (by kernel_rfl)) (by kernel_rfl) (by kernel_rfl) (by kernel_rfl)) <|
  eqsOk_cons (eqOk_deep (d := 8) (by kernel_rfl) (by kernel_rfl) (fun w => by simp [isAgg, run_underlying Try.underlying30]) (i := (Try.prog.info? 30).get (by kernel_rfl)) (by kernel_rfl) (by kernel_rfl) (by kernel_rfl)) <|
  eqsOk_nil
def evInts : List (Nat × IntKind) := [(3, Go.IntKind.i64), (85, Go.IntKind.u64)]
theorem evInts_ok : IntsOk Try.prog evInts :=
  intsOk_cons Try.underlying3 <|
  intsOk_cons Try.underlying85 <|
  intsOk_nil
def evFlts : List (Nat × FloatKind) := []
theorem evFlts_ok : FltsOk Try.prog evFlts :=
  fltsOk_nil
theorem evIfcs_ok : IfcsOk Try.prog [] :=
  ifcsOk_nil
noncomputable def evLib : Nat → List PV → Option PV := fun _ _ => none
theorem evLib_ok : LibOk Try.prog evLib := libOk_nil
noncomputable def evEnv : Env := ⟨evTys, evEqs, [4], evInts, evFlts, [], evFns, [], [], evLib, [], [], [], []⟩
theorem evCCs_ok : CCsOk Try.prog [] :=
  ccsOk_nil
theorem evBsts_ok : BStrsOk Try.prog [] :=
  bstrsOk_nil
theorem evBools_ok : ∀ T, has T [4] = true → Try.prog.underlying T = some .bool := by
  intro T h
  have h := has_iff.1 h
  simp only [List.mem_cons, List.not_mem_nil, or_false] at h
  subst h; exact Try.underlying4
theorem evEnv_ok : EnvOk Try.prog evEnv := ⟨evTys_ok, by kernel_rfl, evEqs_ok, evBools_ok, evInts_ok, evFlts_ok, evIfcs_ok, evLib_ok, evCCs_ok, evBsts_ok, evFns_ok⟩
def evRoot : Nat := 3
end Go.Proofs.Ytoldgmhepeficaa
namespace Go.Men
open Go.Ev Go.Proofs Go.Proofs.Ytoldgmhepeficaa
def e_In : Ent
  | [.v (.int .i64 p1)] => some (.v (.bool (inB p1)), [])
  | _ => none
abbrev e66 : Ent := e_In
def e_RIn : Ent
  | [.v (.int .i64 p1)] => some (.v (.bool (inB p1)), [])
  | _ => none
abbrev e64 : Ent := e_RIn
def e_Right : Ent
  | [.agg [.v (.int .i64 p1), .v (.int .i64 p2), .v (.bool p3)]] => some (.v (.bool (right (⟨p1, p2, p3⟩ : Iv))), [])
  | _ => none
abbrev e75 : Ent := e_Right
def e_RRight : Ent
  | [.agg [.v (.int .i64 p1), .v (.int .i64 p2), .v (.bool p3)]] => some (.v (.bool (right (⟨p1, p2, p3⟩ : Iv))), [])
  | _ => none
abbrev e34 : Ent := e_RRight
def e_None : Ent
  | [] => some (.agg (Iv.enc none'), [])
  | _ => none
abbrev e24 : Ent := e_None
def e_RNone : Ent
  | [] => some (.agg (Iv.enc none'), [])
  | _ => none
abbrev e25 : Ent := e_RNone
def e_Of : Ent
  | [.v (.int .i64 p1), .v (.int .i64 p2)] => some (.agg (Iv.enc (of p1 p2)), [])
  | _ => none
abbrev e65 : Ent := e_Of
def e_ROf : Ent
  | [.v (.int .i64 p1), .v (.int .i64 p2)] => some (.agg (Iv.enc (of p1 p2)), [])
  | _ => none
abbrev e56 : Ent := e_ROf
def e_Point : Ent
  | [.v (.int .i64 p1)] => some (.agg (Iv.enc (point p1)), [])
  | _ => none
abbrev e36 : Ent := e_Point
def e_Whole : Ent
  | [.v (.int .i64 p1)] => some (.agg (Iv.enc (whole p1)), [])
  | _ => none
abbrev e38 : Ent := e_Whole
def e_Floor : Ent
  | [.v (.int .i64 p1), .v (.int .i64 p2)] => some (.v (.int .i64 (floor p1 p2)), [-4611686018427387904 ≤ p1 ∧ p1 ≤ 4611686018427387904])
  | _ => none
abbrev e70 : Ent := e_Floor
def e_RFloor : Ent
  | [.v (.int .i64 p1), .v (.int .i64 p2)] => some (.v (.int .i64 (floor p1 p2)), [-4611686018427387904 ≤ p1 ∧ p1 ≤ 4611686018427387904])
  | _ => none
abbrev e57 : Ent := e_RFloor
def e_both : Ent
  | [.agg [.v (.int .i64 p1), .v (.int .i64 p2), .v (.bool p3)], .agg [.v (.int .i64 p4), .v (.int .i64 p5), .v (.bool p6)]] => some (.v (.bool (both (⟨p1, p2, p3⟩ : Iv) (⟨p4, p5, p6⟩ : Iv))), [])
  | _ => none
abbrev e77 : Ent := e_both
def e_Neg : Ent
  | [.agg [.v (.int .i64 p1), .v (.int .i64 p2), .v (.bool p3)]] => some (.agg (Iv.enc (neg (⟨p1, p2, p3⟩ : Iv))), [])
  | _ => none
abbrev e74 : Ent := e_Neg
def e_Add : Ent
  | [.agg [.v (.int .i64 p1), .v (.int .i64 p2), .v (.bool p3)], .agg [.v (.int .i64 p4), .v (.int .i64 p5), .v (.bool p6)]] => some (.agg (Iv.enc (add (⟨p1, p2, p3⟩ : Iv) (⟨p4, p5, p6⟩ : Iv))), [])
  | _ => none
abbrev e73 : Ent := e_Add
def e_RAdd : Ent
  | [.agg [.v (.int .i64 p1), .v (.int .i64 p2), .v (.bool p3)], .agg [.v (.int .i64 p4), .v (.int .i64 p5), .v (.bool p6)]] => some (.agg (Iv.enc (add (⟨p1, p2, p3⟩ : Iv) (⟨p4, p5, p6⟩ : Iv))), [])
  | _ => none
abbrev e61 : Ent := e_RAdd
def e_Sub : Ent
  | [.agg [.v (.int .i64 p1), .v (.int .i64 p2), .v (.bool p3)], .agg [.v (.int .i64 p4), .v (.int .i64 p5), .v (.bool p6)]] => some (.agg (Iv.enc (sub (⟨p1, p2, p3⟩ : Iv) (⟨p4, p5, p6⟩ : Iv))), [])
  | _ => none
abbrev e53 : Ent := e_Sub
def e_RSub : Ent
  | [.agg [.v (.int .i64 p1), .v (.int .i64 p2), .v (.bool p3)], .agg [.v (.int .i64 p4), .v (.int .i64 p5), .v (.bool p6)]] => some (.agg (Iv.enc (sub (⟨p1, p2, p3⟩ : Iv) (⟨p4, p5, p6⟩ : Iv))), [])
  | _ => none
abbrev e31 : Ent := e_RSub
def e_Has : Ent
  | [.agg [.v (.int .i64 p1), .v (.int .i64 p2), .v (.bool p3)], .v (.int .i64 p4)] => some (.v (.bool (has (⟨p1, p2, p3⟩ : Iv) p4)), [])
  | _ => none
abbrev e78 : Ent := e_Has
def e_rounded : Ent
  | [.v (.int .i64 p1), .v (.int .i64 p2), .v (.bool p3)] => some (.tup [.v (.int .i64 ((rounded p1 p2 p3).1)), .v (.bool ((rounded p1 p2 p3).2))], [-4611686018427387904 ≤ p1 ∧ p1 ≤ 4611686018427387904, p2 ≠ 0])
  | _ => none
abbrev e84 : Ent := e_rounded
def e_Ceil : Ent
  | [.v (.int .i64 p1), .v (.int .i64 p2)] => some (.v (.int .i64 (up1 p1 p2)), [-4611686018427387904 ≤ p1 ∧ p1 ≤ 4611686018427387904, -4611686018427387904 ≤ p2 ∧ p2 ≤ 4611686018427387904, p2 ≠ 0])
  | _ => none
abbrev e59 : Ent := e_Ceil
def e_told : Ent
  | [.v (.int .i64 p1)] => some (.tup [.v (.int .i64 ((told p1).1)), .v (.bool ((told p1).2))], [])
  | _ => none
abbrev e81 : Ent := e_told
def e_Mul : Ent
  | [.v (.int .i64 p1), .v (.int .i64 p2), .v (.bool p3)] => some (.tup [.v (.int .i64 ((mul p1 p2 p3).1)), .v (.bool ((mul p1 p2 p3).2))], [])
  | _ => none
abbrev e76 : Ent := e_Mul
def e_RMul : Ent
  | [.v (.int .i64 p1), .v (.int .i64 p2), .v (.bool p3)] => some (.tup [.v (.int .i64 ((mul p1 p2 p3).1)), .v (.bool ((mul p1 p2 p3).2))], [])
  | _ => none
abbrev e62 : Ent := e_RMul
def e_Div : Ent
  | [.v (.int .i64 p1), .v (.int .i64 p2), .v (.bool p3)] => some (.tup [.v (.int .i64 ((div p1 p2 p3).1)), .v (.bool ((div p1 p2 p3).2))], [])
  | _ => none
abbrev e80 : Ent := e_Div
def e_RDiv : Ent
  | [.v (.int .i64 p1), .v (.int .i64 p2), .v (.bool p3)] => some (.tup [.v (.int .i64 ((div p1 p2 p3).1)), .v (.bool ((div p1 p2 p3).2))], [])
  | _ => none
abbrev e82 : Ent := e_RDiv
def e_endsM : Ent
  | [.fn 76 [], .agg [.v (.int .i64 p1), .v (.int .i64 p2), .v (.bool p3)], .agg [.v (.int .i64 p4), .v (.int .i64 p5), .v (.bool p6)]] => some (.agg (Iv.enc (ends mul (⟨p1, p2, p3⟩ : Iv) (⟨p4, p5, p6⟩ : Iv))), [])
  | _ => none
def e_endsD : Ent
  | [.fn 80 [], .agg [.v (.int .i64 p1), .v (.int .i64 p2), .v (.bool p3)], .agg [.v (.int .i64 p4), .v (.int .i64 p5), .v (.bool p6)]] => some (.agg (Iv.enc (ends div (⟨p1, p2, p3⟩ : Iv) (⟨p4, p5, p6⟩ : Iv))), [])
  | _ => none
def e79 : Ent := eOr e_endsM (e_endsD)
def e_REndsM : Ent
  | [.agg [.v (.int .i64 p1), .v (.int .i64 p2), .v (.bool p3)], .agg [.v (.int .i64 p4), .v (.int .i64 p5), .v (.bool p6)], .v (.bool false)] => some (.agg (Iv.enc (ends mul (⟨p1, p2, p3⟩ : Iv) (⟨p4, p5, p6⟩ : Iv))), [])
  | _ => none
def e_REndsD : Ent
  | [.agg [.v (.int .i64 p1), .v (.int .i64 p2), .v (.bool p3)], .agg [.v (.int .i64 p4), .v (.int .i64 p5), .v (.bool p6)], .v (.bool true)] => some (.agg (Iv.enc (ends div (⟨p1, p2, p3⟩ : Iv) (⟨p4, p5, p6⟩ : Iv))), [])
  | _ => none
def e63 : Ent := eOr e_REndsM (e_REndsD)
def e_Root : Ent
  | [.v (.int .i64 p1), .v (.bool p2)] => some (.tup [.v (.int .i64 ((root p1 p2).1)), .v (.bool ((root p1 p2).2))], [])
  | _ => none
abbrev e83 : Ent := e_Root
def e_RRoot : Ent
  | [.v (.int .i64 p1), .v (.bool p2)] => some (.tup [.v (.int .i64 ((root p1 p2).1)), .v (.bool ((root p1 p2).2))], [])
  | _ => none
abbrev e67 : Ent := e_RRoot
def e_power : Ent
  | [.v (.int .i64 p1)] => some (.v (.int .i64 (pow10 p1)), [0 ≤ p1 ∧ p1 ≤ 18])
  | _ => none
abbrev e69 : Ent := e_power
def e_ten : Ent
  | [.v (.int .i64 p1)] => some (.v (.int .i64 (pow10 p1)), [0 ≤ p1 ∧ p1 ≤ 18])
  | _ => none
abbrev e58 : Ent := e_ten
def e_MulIv : Ent
  | [.agg [.v (.int .i64 p1), .v (.int .i64 p2), .v (.bool p3)], .agg [.v (.int .i64 p4), .v (.int .i64 p5), .v (.bool p6)]] => some (.agg (Iv.enc (mulIv (⟨p1, p2, p3⟩ : Iv) (⟨p4, p5, p6⟩ : Iv))), [])
  | _ => none
abbrev e71 : Ent := e_MulIv
def e_RMulIv : Ent
  | [.agg [.v (.int .i64 p1), .v (.int .i64 p2), .v (.bool p3)], .agg [.v (.int .i64 p4), .v (.int .i64 p5), .v (.bool p6)]] => some (.agg (Iv.enc (mulIv (⟨p1, p2, p3⟩ : Iv) (⟨p4, p5, p6⟩ : Iv))), [])
  | _ => none
abbrev e60 : Ent := e_RMulIv
def e_DivIv : Ent
  | [.agg [.v (.int .i64 p1), .v (.int .i64 p2), .v (.bool p3)], .agg [.v (.int .i64 p4), .v (.int .i64 p5), .v (.bool p6)]] => some (.agg (Iv.enc (divIv (⟨p1, p2, p3⟩ : Iv) (⟨p4, p5, p6⟩ : Iv))), [])
  | _ => none
abbrev e55 : Ent := e_DivIv
def e_RDivIv : Ent
  | [.agg [.v (.int .i64 p1), .v (.int .i64 p2), .v (.bool p3)], .agg [.v (.int .i64 p4), .v (.int .i64 p5), .v (.bool p6)]] => some (.agg (Iv.enc (divIv (⟨p1, p2, p3⟩ : Iv) (⟨p4, p5, p6⟩ : Iv))), [])
  | _ => none
abbrev e33 : Ent := e_RDivIv
def e_Sqr : Ent
  | [.agg [.v (.int .i64 p1), .v (.int .i64 p2), .v (.bool p3)]] => some (.agg (Iv.enc (sqr (⟨p1, p2, p3⟩ : Iv))), [])
  | _ => none
abbrev e54 : Ent := e_Sqr
def e_RSqr : Ent
  | [.agg [.v (.int .i64 p1), .v (.int .i64 p2), .v (.bool p3)]] => some (.agg (Iv.enc (sqr (⟨p1, p2, p3⟩ : Iv))), [])
  | _ => none
abbrev e32 : Ent := e_RSqr
def e_RootIv : Ent
  | [.agg [.v (.int .i64 p1), .v (.int .i64 p2), .v (.bool p3)]] => some (.agg (Iv.enc (rootIv (⟨p1, p2, p3⟩ : Iv))), [])
  | _ => none
abbrev e72 : Ent := e_RootIv
def e_RRootIv : Ent
  | [.agg [.v (.int .i64 p1), .v (.int .i64 p2), .v (.bool p3)]] => some (.agg (Iv.enc (rootIv (⟨p1, p2, p3⟩ : Iv))), [])
  | _ => none
abbrev e39 : Ent := e_RRootIv
def e_Near : Ent
  | [.agg [.v (.int .i64 p1), .v (.int .i64 p2), .v (.bool p3)], .agg [.v (.int .i64 p4), .v (.int .i64 p5), .v (.bool p6)], .agg [.v (.int .i64 p7), .v (.int .i64 p8), .v (.bool p9)]] => some (.tup [.agg (Iv.enc ((nearR (⟨p1, p2, p3⟩ : Iv) (⟨p4, p5, p6⟩ : Iv) (⟨p7, p8, p9⟩ : Iv)).1)), .v (.int .i64 ((nearR (⟨p1, p2, p3⟩ : Iv) (⟨p4, p5, p6⟩ : Iv) (⟨p7, p8, p9⟩ : Iv)).2))], [])
  | _ => none
abbrev e50 : Ent := e_Near
def e_RNear : Ent
  | [.agg [.v (.int .i64 p1), .v (.int .i64 p2), .v (.bool p3)], .agg [.v (.int .i64 p4), .v (.int .i64 p5), .v (.bool p6)], .agg [.v (.int .i64 p7), .v (.int .i64 p8), .v (.bool p9)]] => some (.tup [.agg (Iv.enc ((nearR (⟨p1, p2, p3⟩ : Iv) (⟨p4, p5, p6⟩ : Iv) (⟨p7, p8, p9⟩ : Iv)).1)), .v (.int .i64 ((nearR (⟨p1, p2, p3⟩ : Iv) (⟨p4, p5, p6⟩ : Iv) (⟨p7, p8, p9⟩ : Iv)).2))], [])
  | _ => none
abbrev e28 : Ent := e_RNear
def e_VOf : Ent
  | [.agg [.v (.int .i64 p1), .v (.int .i64 p2), .v (.bool p3)], .agg [.v (.int .i64 p4), .v (.int .i64 p5), .v (.bool p6)], .agg [.v (.int .i64 p7), .v (.int .i64 p8), .v (.bool p9)]] => some (.agg (V.enc (⟨(⟨p1, p2, p3⟩ : Iv), (⟨p4, p5, p6⟩ : Iv), (⟨p7, p8, p9⟩ : Iv)⟩ : V)), [])
  | _ => none
abbrev e48 : Ent := e_VOf
def e_VSub : Ent
  | [.agg [.v (.int .i64 p1), .v (.int .i64 p2), .v (.bool p3), .v (.int .i64 p4), .v (.int .i64 p5), .v (.bool p6), .v (.int .i64 p7), .v (.int .i64 p8), .v (.bool p9)], .agg [.v (.int .i64 p10), .v (.int .i64 p11), .v (.bool p12), .v (.int .i64 p13), .v (.int .i64 p14), .v (.bool p15), .v (.int .i64 p16), .v (.int .i64 p17), .v (.bool p18)]] => some (.agg (V.enc (subV (⟨⟨p1, p2, p3⟩, ⟨p4, p5, p6⟩, ⟨p7, p8, p9⟩⟩ : V) (⟨⟨p10, p11, p12⟩, ⟨p13, p14, p15⟩, ⟨p16, p17, p18⟩⟩ : V))), [])
  | _ => none
abbrev e47 : Ent := e_VSub
def e_RVSub : Ent
  | [.agg [.v (.int .i64 p1), .v (.int .i64 p2), .v (.bool p3), .v (.int .i64 p4), .v (.int .i64 p5), .v (.bool p6), .v (.int .i64 p7), .v (.int .i64 p8), .v (.bool p9)], .agg [.v (.int .i64 p10), .v (.int .i64 p11), .v (.bool p12), .v (.int .i64 p13), .v (.int .i64 p14), .v (.bool p15), .v (.int .i64 p16), .v (.int .i64 p17), .v (.bool p18)]] => some (.agg (V.enc (subV (⟨⟨p1, p2, p3⟩, ⟨p4, p5, p6⟩, ⟨p7, p8, p9⟩⟩ : V) (⟨⟨p10, p11, p12⟩, ⟨p13, p14, p15⟩, ⟨p16, p17, p18⟩⟩ : V))), [])
  | _ => none
abbrev e26 : Ent := e_RVSub
def e_Dot : Ent
  | [.agg [.v (.int .i64 p1), .v (.int .i64 p2), .v (.bool p3), .v (.int .i64 p4), .v (.int .i64 p5), .v (.bool p6), .v (.int .i64 p7), .v (.int .i64 p8), .v (.bool p9)], .agg [.v (.int .i64 p10), .v (.int .i64 p11), .v (.bool p12), .v (.int .i64 p13), .v (.int .i64 p14), .v (.bool p15), .v (.int .i64 p16), .v (.int .i64 p17), .v (.bool p18)]] => some (.agg (Iv.enc (dot (⟨⟨p1, p2, p3⟩, ⟨p4, p5, p6⟩, ⟨p7, p8, p9⟩⟩ : V) (⟨⟨p10, p11, p12⟩, ⟨p13, p14, p15⟩, ⟨p16, p17, p18⟩⟩ : V))), [])
  | _ => none
abbrev e52 : Ent := e_Dot
def e_RDot : Ent
  | [.agg [.v (.int .i64 p1), .v (.int .i64 p2), .v (.bool p3), .v (.int .i64 p4), .v (.int .i64 p5), .v (.bool p6), .v (.int .i64 p7), .v (.int .i64 p8), .v (.bool p9)], .agg [.v (.int .i64 p10), .v (.int .i64 p11), .v (.bool p12), .v (.int .i64 p13), .v (.int .i64 p14), .v (.bool p15), .v (.int .i64 p16), .v (.int .i64 p17), .v (.bool p18)]] => some (.agg (Iv.enc (dot (⟨⟨p1, p2, p3⟩, ⟨p4, p5, p6⟩, ⟨p7, p8, p9⟩⟩ : V) (⟨⟨p10, p11, p12⟩, ⟨p13, p14, p15⟩, ⟨p16, p17, p18⟩⟩ : V))), [])
  | _ => none
abbrev e30 : Ent := e_RDot
def e_Len2 : Ent
  | [.agg [.v (.int .i64 p1), .v (.int .i64 p2), .v (.bool p3), .v (.int .i64 p4), .v (.int .i64 p5), .v (.bool p6), .v (.int .i64 p7), .v (.int .i64 p8), .v (.bool p9)]] => some (.agg (Iv.enc (len2 (⟨⟨p1, p2, p3⟩, ⟨p4, p5, p6⟩, ⟨p7, p8, p9⟩⟩ : V))), [])
  | _ => none
abbrev e51 : Ent := e_Len2
def e_RLen2 : Ent
  | [.agg [.v (.int .i64 p1), .v (.int .i64 p2), .v (.bool p3), .v (.int .i64 p4), .v (.int .i64 p5), .v (.bool p6), .v (.int .i64 p7), .v (.int .i64 p8), .v (.bool p9)]] => some (.agg (Iv.enc (len2 (⟨⟨p1, p2, p3⟩, ⟨p4, p5, p6⟩, ⟨p7, p8, p9⟩⟩ : V))), [])
  | _ => none
abbrev e29 : Ent := e_RLen2
def e_RUnit : Ent
  | [.agg [.v (.int .i64 p1), .v (.int .i64 p2), .v (.bool p3), .v (.int .i64 p4), .v (.int .i64 p5), .v (.bool p6), .v (.int .i64 p7), .v (.int .i64 p8), .v (.bool p9)]] => some (.agg (V.enc (unit (⟨⟨p1, p2, p3⟩, ⟨p4, p5, p6⟩, ⟨p7, p8, p9⟩⟩ : V))), [])
  | _ => none
abbrev e16 : Ent := e_RUnit
def e_DecRight : Ent
  | [.agg [.v (.int .i64 p1), .v (.int .i64 p2)]] => some (.v (.bool (decRight (⟨p1, p2⟩ : Dec))), [])
  | _ => none
abbrev e45 : Ent := e_DecRight
def e_RDecRight : Ent
  | [.agg [.v (.int .i64 p1), .v (.int .i64 p2)]] => some (.v (.bool (decRight (⟨p1, p2⟩ : Dec))), [])
  | _ => none
abbrev e22 : Ent := e_RDecRight
def e_DecIv : Ent
  | [.agg [.v (.int .i64 p1), .v (.int .i64 p2)]] => some (.agg (Iv.enc (decIv (⟨p1, p2⟩ : Dec))), [])
  | _ => none
abbrev e49 : Ent := e_DecIv
def e_RDecIv : Ent
  | [.agg [.v (.int .i64 p1), .v (.int .i64 p2)]] => some (.agg (Iv.enc (decIv (⟨p1, p2⟩ : Dec))), [])
  | _ => none
abbrev e27 : Ent := e_RDecIv
def e_Within : Ent
  | [.v (.int .i64 p1), .v (.int .i64 p2), .v (.int .i64 p3)] => some (.v (.int .i64 (within p1 p2 p3)), [])
  | _ => none
abbrev e40 : Ent := e_Within
def e_Pick : Ent
  | [.v (.int .i64 p1), .v (.int .i64 p2)] => some (.v (.int .i64 (pick p1 p2)), [0 < p2 ∧ p2 ≤ 4611686018427387904])
  | _ => none
abbrev e5 : Ent := e_Pick
def e_Num : Ent
  | [.v (.int .i64 p1)] => some (.v (.int .i64 (num p1)), [])
  | _ => none
abbrev e41 : Ent := e_Num
def e_Wide : Ent
  | [.v (.int .i64 p1), .v (.int .i64 p2)] => some (.agg (Iv.enc (wide p1 p2)), [0 ≤ p2 ∧ p2 ≤ 1073741824])
  | _ => none
abbrev e17 : Ent := e_Wide
def e_HIv : Ent
  | [.v (.int .i64 p1), .v (.int .i64 p2)] => some (.agg (Iv.enc (handIv p1 p2)), [])
  | _ => none
abbrev e18 : Ent := e_HIv
def e_HV : Ent
  | [.agg [.v (.int .i64 p1), .v (.int .i64 p2), .v (.int .i64 p3), .v (.int .i64 p4), .v (.int .i64 p5), .v (.int .i64 p6)]] => some (.agg (V.enc (handV (⟨p1, p2, p3, p4, p5, p6⟩ : A6))), [])
  | _ => none
abbrev e7 : Ent := e_HV
def e_HRay : Ent
  | [.agg [.v (.int .i64 p1), .v (.int .i64 p2), .v (.int .i64 p3), .v (.int .i64 p4), .v (.int .i64 p5), .v (.int .i64 p6)]] => some (.agg (Ray.enc (handRay (⟨p1, p2, p3, p4, p5, p6⟩ : RawRay))), [])
  | _ => none
abbrev e6 : Ent := e_HRay
def e_nought : Ent
  | [] => some (.agg (Dec.enc (⟨0, 0⟩ : Dec)), [])
  | _ => none
abbrev e46 : Ent := e_nought
def e_meet : Ent
  | [.agg [.v (.int .i64 p1), .v (.int .i64 p2), .v (.int .i64 p3), .v (.int .i64 p4), .v (.int .i64 p5), .v (.int .i64 p6), .v (.int .i64 p7), .v (.int .i64 p8), .v (.int .i64 p9), .v (.int .i64 p10), .v (.int .i64 p11), .v (.int .i64 p12)], .agg [.v (.int .i64 p13), .v (.int .i64 p14), .v (.bool p15), .v (.int .i64 p16), .v (.int .i64 p17), .v (.bool p18), .v (.int .i64 p19), .v (.int .i64 p20), .v (.bool p21), .v (.int .i64 p22), .v (.int .i64 p23), .v (.bool p24), .v (.int .i64 p25), .v (.int .i64 p26), .v (.bool p27), .v (.int .i64 p28), .v (.int .i64 p29), .v (.bool p30)]] => some (.tup [.agg (Iv.enc ((meet (⟨p1, ⟨p2, p3⟩, ⟨p4, p5⟩, ⟨p6, p7⟩, ⟨p8, p9⟩, ⟨p10, p11, p12⟩⟩ : Shape) (⟨⟨⟨p13, p14, p15⟩, ⟨p16, p17, p18⟩, ⟨p19, p20, p21⟩⟩, ⟨⟨p22, p23, p24⟩, ⟨p25, p26, p27⟩, ⟨p28, p29, p30⟩⟩⟩ : Ray)).1)), .v (.int .i64 ((meet (⟨p1, ⟨p2, p3⟩, ⟨p4, p5⟩, ⟨p6, p7⟩, ⟨p8, p9⟩, ⟨p10, p11, p12⟩⟩ : Shape) (⟨⟨⟨p13, p14, p15⟩, ⟨p16, p17, p18⟩, ⟨p19, p20, p21⟩⟩, ⟨⟨p22, p23, p24⟩, ⟨p25, p26, p27⟩, ⟨p28, p29, p30⟩⟩⟩ : Ray)).2))], [])
  | _ => none
abbrev e23 : Ent := e_meet
def e_Hit : Ent
  | [.agg [.v (.int .i64 p1), .v (.int .i64 p2), .v (.int .i64 p3), .v (.int .i64 p4), .v (.int .i64 p5), .v (.int .i64 p6), .v (.int .i64 p7), .v (.int .i64 p8), .v (.int .i64 p9), .v (.int .i64 p10), .v (.int .i64 p11), .v (.int .i64 p12)], .agg [.v (.int .i64 p13), .v (.int .i64 p14), .v (.bool p15), .v (.int .i64 p16), .v (.int .i64 p17), .v (.bool p18), .v (.int .i64 p19), .v (.int .i64 p20), .v (.bool p21), .v (.int .i64 p22), .v (.int .i64 p23), .v (.bool p24), .v (.int .i64 p25), .v (.int .i64 p26), .v (.bool p27), .v (.int .i64 p28), .v (.int .i64 p29), .v (.bool p30)]] => some (.tup [.agg (Iv.enc ((hit (⟨p1, ⟨p2, p3⟩, ⟨p4, p5⟩, ⟨p6, p7⟩, ⟨p8, p9⟩, ⟨p10, p11, p12⟩⟩ : Shape) (⟨⟨⟨p13, p14, p15⟩, ⟨p16, p17, p18⟩, ⟨p19, p20, p21⟩⟩, ⟨⟨p22, p23, p24⟩, ⟨p25, p26, p27⟩, ⟨p28, p29, p30⟩⟩⟩ : Ray)).1)), .v (.int .i64 ((hit (⟨p1, ⟨p2, p3⟩, ⟨p4, p5⟩, ⟨p6, p7⟩, ⟨p8, p9⟩, ⟨p10, p11, p12⟩⟩ : Shape) (⟨⟨⟨p13, p14, p15⟩, ⟨p16, p17, p18⟩, ⟨p19, p20, p21⟩⟩, ⟨⟨p22, p23, p24⟩, ⟨p25, p26, p27⟩, ⟨p28, p29, p30⟩⟩⟩ : Ray)).2))], [])
  | _ => none
abbrev e10 : Ent := e_Hit
def e_HitShape : Ent
  | [.agg [.v (.int .i64 p1), .v (.int .i64 p2), .v (.int .i64 p3), .v (.int .i64 p4), .v (.int .i64 p5), .v (.int .i64 p6), .v (.int .i64 p7), .v (.int .i64 p8), .v (.int .i64 p9), .v (.int .i64 p10), .v (.int .i64 p11), .v (.int .i64 p12)], .agg [.v (.int .i64 p13), .v (.int .i64 p14), .v (.bool p15), .v (.int .i64 p16), .v (.int .i64 p17), .v (.bool p18), .v (.int .i64 p19), .v (.int .i64 p20), .v (.bool p21), .v (.int .i64 p22), .v (.int .i64 p23), .v (.bool p24), .v (.int .i64 p25), .v (.int .i64 p26), .v (.bool p27), .v (.int .i64 p28), .v (.int .i64 p29), .v (.bool p30)]] => some (.tup [.agg (Iv.enc ((hit (⟨p1, ⟨p2, p3⟩, ⟨p4, p5⟩, ⟨p6, p7⟩, ⟨p8, p9⟩, ⟨p10, p11, p12⟩⟩ : Shape) (⟨⟨⟨p13, p14, p15⟩, ⟨p16, p17, p18⟩, ⟨p19, p20, p21⟩⟩, ⟨⟨p22, p23, p24⟩, ⟨p25, p26, p27⟩, ⟨p28, p29, p30⟩⟩⟩ : Ray)).1)), .v (.int .i64 ((hit (⟨p1, ⟨p2, p3⟩, ⟨p4, p5⟩, ⟨p6, p7⟩, ⟨p8, p9⟩, ⟨p10, p11, p12⟩⟩ : Shape) (⟨⟨⟨p13, p14, p15⟩, ⟨p16, p17, p18⟩, ⟨p19, p20, p21⟩⟩, ⟨⟨p22, p23, p24⟩, ⟨p25, p26, p27⟩, ⟨p28, p29, p30⟩⟩⟩ : Ray)).2))], [])
  | _ => none
abbrev e11 : Ent := e_HitShape
def e_rs1 : Ent
  | [.v (.int .i64 p1)] => some (.v (.bool (!glowOk p1)), [])
  | _ => none
abbrev e44 : Ent := e_rs1
def e_idxI : Ent
  | [.lst p1, .fn 44 []] => some (.v (.int .i64 (idxF (fun x => !glowOk x.n) (decL I.dec p1) 0)), [p1 = (decL I.dec p1).map I.enc, (decL I.dec p1).length ≤ 140737488355328])
  | _ => none
abbrev e68 : Ent := e_idxI
def e_conI : Ent
  | [.lst p1, .fn 44 []] => some (.v (.bool ((decL I.dec p1).any (fun x => !glowOk x.n))), [p1 = (decL I.dec p1).map I.enc, (decL I.dec p1).length ≤ 140737488355328])
  | _ => none
abbrev e43 : Ent := e_conI
def e_rightShape : Ent
  | [.agg [.v (.int .i64 p1), .v (.int .i64 p2), .v (.int .i64 p3), .v (.int .i64 p4), .v (.int .i64 p5), .v (.int .i64 p6), .v (.int .i64 p7), .v (.int .i64 p8), .v (.int .i64 p9), .v (.int .i64 p10), .v (.int .i64 p11), .v (.int .i64 p12)]] => some (.v (.bool (rightShape (⟨p1, ⟨p2, p3⟩, ⟨p4, p5⟩, ⟨p6, p7⟩, ⟨p8, p9⟩, ⟨p10, p11, p12⟩⟩ : Shape))), [])
  | _ => none
abbrev e21 : Ent := e_rightShape
def e_Right1 : Ent
  | [.agg [.v (.int .i64 p1), .v (.int .i64 p2), .v (.int .i64 p3), .v (.int .i64 p4), .v (.int .i64 p5), .v (.int .i64 p6), .v (.int .i64 p7), .v (.int .i64 p8), .v (.int .i64 p9), .v (.int .i64 p10), .v (.int .i64 p11), .v (.int .i64 p12)]] => some (.v (.bool (!rightShape (⟨p1, ⟨p2, p3⟩, ⟨p4, p5⟩, ⟨p6, p7⟩, ⟨p8, p9⟩, ⟨p10, p11, p12⟩⟩ : Shape))), [])
  | _ => none
abbrev e20 : Ent := e_Right1
def e_idxS : Ent
  | [.lst p1, .fn 20 []] => some (.v (.int .i64 (idxF (fun s => !rightShape s) (decL Shape.dec p1) 0)), [p1 = (decL Shape.dec p1).map Shape.enc, (decL Shape.dec p1).length ≤ 140737488355328])
  | _ => none
abbrev e42 : Ent := e_idxS
def e_conS : Ent
  | [.lst p1, .fn 20 []] => some (.v (.bool ((decL Shape.dec p1).any (fun s => !rightShape s))), [p1 = (decL Shape.dec p1).map Shape.enc, (decL Shape.dec p1).length ≤ 140737488355328])
  | _ => none
abbrev e19 : Ent := e_conS
def e_SRight : Ent
  | [.lst p1] => some (.v (.bool (rightScene (decL Shape.dec p1))), [p1 = (decL Shape.dec p1).map Shape.enc, (decL Shape.dec p1).length ≤ 140737488355328])
  | _ => none
abbrev e8 : Ent := e_SRight
def e_RightScene : Ent
  | [.lst p1] => some (.v (.bool (rightScene (decL Shape.dec p1))), [p1 = (decL Shape.dec p1).map Shape.enc, (decL Shape.dec p1).length ≤ 140737488355328])
  | _ => none
abbrev e9 : Ent := e_RightScene
def e_HDec : Ent
  | [.v (.int .i64 p1), .v (.int .i64 p2)] => some (.agg (Dec.enc (hdec p2.toNat p1 p2)), [0 ≤ p2 ∧ p2 ≤ 18])
  | _ => none
abbrev e15 : Ent := e_HDec
def e_HScene : Ent
  | [.lst p1] => some (.lst ((sceneL (decL I.dec p1)).map Shape.enc), [p1 = (decL I.dec p1).map I.enc, (decL I.dec p1).length ≤ 140737488355328])
  | _ => none
abbrev e4 : Ent := e_HScene
def e_nearP : Ent
  | [.lst p1, .agg [.v (.int .i64 p2), .v (.int .i64 p3), .v (.bool p4), .v (.int .i64 p5), .v (.int .i64 p6), .v (.bool p7), .v (.int .i64 p8), .v (.int .i64 p9), .v (.bool p10), .v (.int .i64 p11), .v (.int .i64 p12), .v (.bool p13), .v (.int .i64 p14), .v (.int .i64 p15), .v (.bool p16), .v (.int .i64 p17), .v (.int .i64 p18), .v (.bool p19)]] => some (.tup [.v (.int .i64 ((nearest (decL Shape.dec p1) (⟨⟨⟨p2, p3, p4⟩, ⟨p5, p6, p7⟩, ⟨p8, p9, p10⟩⟩, ⟨⟨p11, p12, p13⟩, ⟨p14, p15, p16⟩, ⟨p17, p18, p19⟩⟩⟩ : Ray)).1)), .agg (Iv.enc ((nearest (decL Shape.dec p1) (⟨⟨⟨p2, p3, p4⟩, ⟨p5, p6, p7⟩, ⟨p8, p9, p10⟩⟩, ⟨⟨p11, p12, p13⟩, ⟨p14, p15, p16⟩, ⟨p17, p18, p19⟩⟩⟩ : Ray)).2.1)), .v (.int .i64 ((nearest (decL Shape.dec p1) (⟨⟨⟨p2, p3, p4⟩, ⟨p5, p6, p7⟩, ⟨p8, p9, p10⟩⟩, ⟨⟨p11, p12, p13⟩, ⟨p14, p15, p16⟩, ⟨p17, p18, p19⟩⟩⟩ : Ray)).2.2))], [p1 = (decL Shape.dec p1).map Shape.enc, (decL Shape.dec p1).length ≤ 1000000])
  | _ => none
abbrev e12 : Ent := e_nearP
def e_nearR : Ent
  | [.lst p1, .agg [.v (.int .i64 p2), .v (.int .i64 p3), .v (.bool p4), .v (.int .i64 p5), .v (.int .i64 p6), .v (.bool p7), .v (.int .i64 p8), .v (.int .i64 p9), .v (.bool p10), .v (.int .i64 p11), .v (.int .i64 p12), .v (.bool p13), .v (.int .i64 p14), .v (.int .i64 p15), .v (.bool p16), .v (.int .i64 p17), .v (.int .i64 p18), .v (.bool p19)]] => some (.tup [.v (.int .i64 ((nearestR (decL Shape.dec p1) (⟨⟨⟨p2, p3, p4⟩, ⟨p5, p6, p7⟩, ⟨p8, p9, p10⟩⟩, ⟨⟨p11, p12, p13⟩, ⟨p14, p15, p16⟩, ⟨p17, p18, p19⟩⟩⟩ : Ray)).1)), .agg (Iv.enc ((nearestR (decL Shape.dec p1) (⟨⟨⟨p2, p3, p4⟩, ⟨p5, p6, p7⟩, ⟨p8, p9, p10⟩⟩, ⟨⟨p11, p12, p13⟩, ⟨p14, p15, p16⟩, ⟨p17, p18, p19⟩⟩⟩ : Ray)).2.1)), .v (.int .i64 ((nearestR (decL Shape.dec p1) (⟨⟨⟨p2, p3, p4⟩, ⟨p5, p6, p7⟩, ⟨p8, p9, p10⟩⟩, ⟨⟨p11, p12, p13⟩, ⟨p14, p15, p16⟩, ⟨p17, p18, p19⟩⟩⟩ : Ray)).2.2))], [p1 = (decL Shape.dec p1).map Shape.enc, (decL Shape.dec p1).length ≤ 1000000])
  | _ => none
abbrev e13 : Ent := e_nearR
def e_axis : Ent
  | [.agg [.v (.int .i64 p1), .v (.int .i64 p2), .v (.bool p3)]] => some (.agg (Ray.enc (axis (⟨p1, p2, p3⟩ : Iv))), [])
  | _ => none
abbrev e35 : Ent := e_axis
def e_ball : Ent
  | [.v (.int .i64 p1), .v (.int .i64 p2)] => some (.agg (Shape.enc (ball p1 p2)), [])
  | _ => none
abbrev e37 : Ent := e_ball
def e_known : Ent
  | [] => some (.v (.bool true), [])
  | _ => none
abbrev e14 : Ent := e_known
def e_tellsA : Ent
  | [.lst p1, .agg [.v (.int .i64 p2), .v (.int .i64 p3), .v (.int .i64 p4), .v (.int .i64 p5), .v (.int .i64 p6), .v (.int .i64 p7)], .agg [.v (.int .i64 p8), .v (.int .i64 p9), .v (.int .i64 p10), .v (.int .i64 p11), .v (.int .i64 p12), .v (.int .i64 p13)], .agg [.v (.int .i64 p14), .v (.int .i64 p15), .v (.int .i64 p16), .v (.int .i64 p17), .v (.int .i64 p18), .v (.int .i64 p19)], .v (.bool p20), .v (.int .i64 p21), .v (.int .i64 p22)] => some (.v (.bool true), [p1 = (decL I.dec p1).map I.enc, (decL I.dec p1).length ≤ 140737488355328, pick p21 9 = 8 ∨ sceneL (decL I.dec p1) = []])
  | _ => none
def e_tellsB : Ent
  | [.lst p1, .agg [.v (.int .i64 p2), .v (.int .i64 p3), .v (.int .i64 p4), .v (.int .i64 p5), .v (.int .i64 p6), .v (.int .i64 p7)], .agg [.v (.int .i64 p8), .v (.int .i64 p9), .v (.int .i64 p10), .v (.int .i64 p11), .v (.int .i64 p12), .v (.int .i64 p13)], .agg [.v (.int .i64 p14), .v (.int .i64 p15), .v (.int .i64 p16), .v (.int .i64 p17), .v (.int .i64 p18), .v (.int .i64 p19)], .v (.bool p20), .v (.int .i64 p21), .v (.int .i64 p22)] => some (.v (.bool true), [p1 = (decL I.dec p1).map I.enc, (decL I.dec p1).length ≤ 140737488355328, pick p21 9 ≠ 8 ∧ sceneL (decL I.dec p1) ≠ []])
  | _ => none
def e3 : Ent := eOr e_tellsA (e_tellsB)
def H_Root_6 (bit : Int) (n : Int) (r : Int) (up : Bool) : St := ⟨44, [(8, .p (.v (.int .i64 bit))), (6, .p (.v (.int .i64 n))), (7, .p (.v (.int .i64 r))), (1, .p (.v (.bool up)))], [], [], [], []⟩
def k_Root_6 : KpH := ⟨⟨[8, 6, 7, 1], [], []⟩, []⟩
def ke_Root_6 : KpH := ⟨⟨[7, 6, 1], [], []⟩, []⟩
def kr_Root_6 : KpH := ⟨⟨[], [], []⟩, []⟩
def X_Root_6 (bit : Int) (n : Int) (r : Int) (up : Bool) : St := ⟨44, [(7, .p (.v (.int .i64 (rootL (bit + 1).toNat n r)))), (6, .p (.v (.int .i64 n))), (1, .p (.v (.bool up)))], [], [], [], []⟩
def I_Root_6 (bit : Int) (n : Int) (r : Int) (up : Bool) : Prop := (-1 ≤ bit ∧ bit ≤ 24) ∧ (0 ≤ n ∧ n ≤ 140737488355328) ∧ (0 ≤ r ∧ r + 2 ^ (bit + 1).toNat ≤ 33554432) ∧ ((2 : Int) ^ (bit + 1).toNat ∣ r)
def S_Root_6 : LSum := fun σ K => match keepH evTys k_Root_6 σ with
  | some ⟨44, [(8, .p (.v (.int .i64 p1))), (6, .p (.v (.int .i64 p2))), (7, .p (.v (.int .i64 p3))), (1, .p (.v (.bool p4)))], [], [], [], []⟩ => alls [I_Root_6 p1 p2 p3 p4] (K (.exit 0) (X_Root_6 p1 p2 p3 p4))
  | _ => False
def H_RRoot_7 (bit : Int) (n : Int) (r : Int) (up : Bool) : St := ⟨48, [(8, .p (.v (.int .i64 bit))), (6, .p (.v (.int .i64 n))), (7, .p (.v (.int .i64 r))), (1, .p (.v (.bool up)))], [], [], [], []⟩
def k_RRoot_7 : KpH := ⟨⟨[8, 6, 7, 1], [], []⟩, []⟩
def ke_RRoot_7 : KpH := ⟨⟨[7, 6, 1], [], []⟩, []⟩
def kr_RRoot_7 : KpH := ⟨⟨[], [], []⟩, []⟩
def X_RRoot_7 (bit : Int) (n : Int) (r : Int) (up : Bool) : St := ⟨48, [(7, .p (.v (.int .i64 (rootL (bit + 1).toNat n r)))), (6, .p (.v (.int .i64 n))), (1, .p (.v (.bool up)))], [], [], [], []⟩
def I_RRoot_7 (bit : Int) (n : Int) (r : Int) (up : Bool) : Prop := (-1 ≤ bit ∧ bit ≤ 24) ∧ (0 ≤ n ∧ n ≤ 140737488355328) ∧ (0 ≤ r ∧ r + 2 ^ (bit + 1).toNat ≤ 33554432)
def S_RRoot_7 : LSum := fun σ K => match keepH evTys k_RRoot_7 σ with
  | some ⟨48, [(8, .p (.v (.int .i64 p1))), (6, .p (.v (.int .i64 p2))), (7, .p (.v (.int .i64 p3))), (1, .p (.v (.bool p4)))], [], [], [], []⟩ => alls [I_RRoot_7 p1 p2 p3 p4] (K (.exit 0) (X_RRoot_7 p1 p2 p3 p4))
  | _ => False
def H_power_4 (i : Int) (out : Int) (n : Int) : St := ⟨11, [(5, .p (.v (.int .i64 i))), (3, .p (.v (.int .i64 out))), (4, .p (.v (.int .i64 n)))], [], [], [], []⟩
def k_power_4 : KpH := ⟨⟨[5, 3, 4], [], []⟩, []⟩
def ke_power_4 : KpH := ⟨⟨[3], [], []⟩, []⟩
def kr_power_4 : KpH := ⟨⟨[], [], []⟩, []⟩
def X_power_4 (i : Int) (out : Int) (n : Int) : St := ⟨11, [(3, .p (.v (.int .i64 (pow10 n))))], [], [], [], []⟩
def I_power_4 (i : Int) (out : Int) (n : Int) : Prop := (0 ≤ i) ∧ (i ≤ n) ∧ (n ≤ 18) ∧ (out = pow10 i)
def S_power_4 : LSum := fun σ K => match keepH evTys k_power_4 σ with
  | some ⟨11, [(5, .p (.v (.int .i64 p1))), (3, .p (.v (.int .i64 p2))), (4, .p (.v (.int .i64 p3)))], [], [], [], []⟩ => alls [I_power_4 p1 p2 p3] (K (.exit 0) (X_power_4 p1 p2 p3))
  | _ => False
def H_ten_3 (k : Int) (out : Int) : St := ⟨11, [(0, .p (.v (.int .i64 k))), (3, .p (.v (.int .i64 out)))], [], [], [], []⟩
def k_ten_3 : KpH := ⟨⟨[0, 3], [], []⟩, []⟩
def ke_ten_3 : KpH := ⟨⟨[3], [], []⟩, []⟩
def kr_ten_3 : KpH := ⟨⟨[], [], []⟩, []⟩
def X_ten_3 (k : Int) (out : Int) : St := ⟨11, [(3, .p (.v (.int .i64 (out * pow10 k))))], [], [], [], []⟩
def I_ten_3 (k : Int) (out : Int) : Prop := (0 ≤ k ∧ k ≤ 18) ∧ (1 ≤ out ∧ out * pow10 k ≤ 1000000000000000000)
def S_ten_3 : LSum := fun σ K => match keepH evTys k_ten_3 σ with
  | some ⟨11, [(0, .p (.v (.int .i64 p1))), (3, .p (.v (.int .i64 p2)))], [], [], [], []⟩ => alls [I_ten_3 p1 p2] (K (.exit 0) (X_ten_3 p1 p2))
  | _ => False
def H_idxI_3 (i : Int) (l : List I) (n : Int) : St := ⟨19, [(8, .p (.v (.int .i64 i))), (0, .p (.lst (l.map I.enc))), (1, .p (.fn 44 [])), (7, .p (.v (.int .i64 n)))], [], [], [], []⟩
def k_idxI_3 : KpH := ⟨⟨[8, 0, 1, 7], [], []⟩, []⟩
def ke_idxI_3 : KpH := ⟨⟨[], [], []⟩, []⟩
def kr_idxI_3 : KpH := ⟨⟨[4], [], []⟩, []⟩
def X_idxI_3 (i : Int) (l : List I) (n : Int) : St := ⟨19, [], [], [], [], []⟩
def R_idxI_3 (i : Int) (l : List I) (n : Int) : St := ⟨19, [(4, .p (.v (.int .i64 (idxF (fun x => !glowOk x.n) (l.drop i.toNat) i))))], [], [], [], []⟩
def I_idxI_3 (i : Int) (l : List I) (n : Int) : Prop := (0 ≤ i ∧ i ≤ l.length ∧ n = l.length ∧ n ≤ 140737488355328)
def c_idxI_3 (i : Int) (l : List I) (n : Int) : Bool := (l.drop i.toNat).any (fun x => !glowOk x.n)
def S_idxI_3 : LSum := fun σ K => match keepH evTys k_idxI_3 σ with
  | some ⟨19, [(8, .p (.v (.int .i64 p1))), (0, .p (.lst p2)), (1, .p (.fn 44 [])), (7, .p (.v (.int .i64 p3)))], [], [], [], []⟩ => alls [p2 = (decL I.dec p2).map I.enc, I_idxI_3 p1 (decL I.dec p2) p3] (bif c_idxI_3 p1 (decL I.dec p2) p3 then K .ret (R_idxI_3 p1 (decL I.dec p2) p3) else (K (.exit 0) (X_idxI_3 p1 (decL I.dec p2) p3)))
  | _ => False
def H_idxS_3 (i : Int) (l : List Shape) (n : Int) : St := ⟨19, [(8, .p (.v (.int .i64 i))), (0, .p (.lst (l.map Shape.enc))), (1, .p (.fn 20 [])), (7, .p (.v (.int .i64 n)))], [], [], [], []⟩
def k_idxS_3 : KpH := ⟨⟨[8, 0, 1, 7], [], []⟩, []⟩
def ke_idxS_3 : KpH := ⟨⟨[], [], []⟩, []⟩
def kr_idxS_3 : KpH := ⟨⟨[4], [], []⟩, []⟩
def X_idxS_3 (i : Int) (l : List Shape) (n : Int) : St := ⟨19, [], [], [], [], []⟩
def R_idxS_3 (i : Int) (l : List Shape) (n : Int) : St := ⟨19, [(4, .p (.v (.int .i64 (idxF (fun s => !rightShape s) (l.drop i.toNat) i))))], [], [], [], []⟩
def I_idxS_3 (i : Int) (l : List Shape) (n : Int) : Prop := (0 ≤ i ∧ i ≤ l.length ∧ n = l.length ∧ n ≤ 140737488355328)
def c_idxS_3 (i : Int) (l : List Shape) (n : Int) : Bool := (l.drop i.toNat).any (fun s => !rightShape s)
def S_idxS_3 : LSum := fun σ K => match keepH evTys k_idxS_3 σ with
  | some ⟨19, [(8, .p (.v (.int .i64 p1))), (0, .p (.lst p2)), (1, .p (.fn 20 [])), (7, .p (.v (.int .i64 p3)))], [], [], [], []⟩ => alls [p2 = (decL Shape.dec p2).map Shape.enc, I_idxS_3 p1 (decL Shape.dec p2) p3] (bif c_idxS_3 p1 (decL Shape.dec p2) p3 then K .ret (R_idxS_3 p1 (decL Shape.dec p2) p3) else (K (.exit 0) (X_idxS_3 p1 (decL Shape.dec p2) p3)))
  | _ => False
def H_RightScene_5 (i : Int) (l : List Shape) : St := ⟨93, [(3, .p (.v (.int .i64 i))), (0, .p (.lst (l.map Shape.enc)))], [], [], [], []⟩
def k_RightScene_5 : KpH := ⟨⟨[3, 0], [], []⟩, []⟩
def ke_RightScene_5 : KpH := ⟨⟨[], [], []⟩, []⟩
def kr_RightScene_5 : KpH := ⟨⟨[2], [], []⟩, []⟩
def X_RightScene_5 (i : Int) (l : List Shape) : St := ⟨93, [], [], [], [], []⟩
def R_RightScene_5 (i : Int) (l : List Shape) : St := ⟨93, [(2, .p (.v (.bool false)))], [], [], [], []⟩
def I_RightScene_5 (i : Int) (l : List Shape) : Prop := (0 ≤ i ∧ i ≤ l.length ∧ l.length ≤ 140737488355328)
def c_RightScene_5 (i : Int) (l : List Shape) : Bool := !((l.drop i.toNat).all rightShape)
def S_RightScene_5 : LSum := fun σ K => match keepH evTys k_RightScene_5 σ with
  | some ⟨93, [(3, .p (.v (.int .i64 p1))), (0, .p (.lst p2))], [], [], [], []⟩ => alls [p2 = (decL Shape.dec p2).map Shape.enc, I_RightScene_5 p1 (decL Shape.dec p2)] (bif c_RightScene_5 p1 (decL Shape.dec p2) then K .ret (R_RightScene_5 p1 (decL Shape.dec p2)) else (K (.exit 0) (X_RightScene_5 p1 (decL Shape.dec p2))))
  | _ => False
def H_HDec_3 (d : Dec) (z : Dec) : St := ⟨27, [(5, .ptr 5 0), (4, .ptr 4 0)], [(5, [.v (.int .i64 d.c), .v (.int .i64 d.scale)]), (4, [.v (.int .i64 z.c), .v (.int .i64 z.scale)])], [], [], []⟩
def k_HDec_3 : KpH := ⟨⟨[5, 4], [5, 4], []⟩, []⟩
def ke_HDec_3 : KpH := ⟨⟨[4, 5], [4, 5], []⟩, []⟩
def kr_HDec_3 : KpH := ⟨⟨[], [], []⟩, []⟩
def X_HDec_3 (d : Dec) (z : Dec) : St := ⟨27, [(4, .ptr 4 0), (5, .ptr 5 0)], [(4, [.v (.int .i64 z.c), .v (.int .i64 z.scale)]), (5, [.v (.int .i64 ((hdec d.scale.toNat d.c d.scale).c)), .v (.int .i64 ((hdec d.scale.toNat d.c d.scale).scale))])], [], [], []⟩
def I_HDec_3 (d : Dec) (z : Dec) : Prop := (0 ≤ d.scale ∧ d.scale ≤ 18)
def S_HDec_3 : LSum := fun σ K => match keepH evTys k_HDec_3 σ with
  | some ⟨27, [(5, .ptr 5 0), (4, .ptr 4 0)], [(5, [.v (.int .i64 p1), .v (.int .i64 p2)]), (4, [.v (.int .i64 p3), .v (.int .i64 p4)])], [], [], []⟩ => alls [I_HDec_3 (⟨p1, p2⟩ : Dec) (⟨p3, p4⟩ : Dec)] (K (.exit 0) (X_HDec_3 (⟨p1, p2⟩ : Dec) (⟨p3, p4⟩ : Dec)))
  | _ => False
def H_HScene_4 (i : Int) (l : List I) (out : List Shape) : St := ⟨93, [(4, .p (.v (.int .i64 i))), (0, .p (.lst (l.map I.enc))), (3, .p (.lst (out.map Shape.enc)))], [], [], [(.t 3, 33)], []⟩
def k_HScene_4 : KpH := ⟨⟨[4, 0, 3], [], [.t 3]⟩, [(3, 33)]⟩
def ke_HScene_4 : KpH := ⟨⟨[3], [], [.t 3]⟩, [(3, 33)]⟩
def kr_HScene_4 : KpH := ⟨⟨[], [], []⟩, []⟩
def X_HScene_4 (i : Int) (l : List I) (out : List Shape) : St := ⟨93, [(3, .p (.lst ((out ++ sceneG ((29 - i) / 5).toNat l i).map Shape.enc)))], [], [], [(.t 3, 33)], []⟩
def I_HScene_4 (i : Int) (l : List I) (out : List Shape) : Prop := (0 ≤ i ∧ i ≤ 25 ∧ l.length ≤ 140737488355328) ∧ (5 * (out.length : Int) = i)
def S_HScene_4 : LSum := fun σ K => match keepH evTys k_HScene_4 σ with
  | some ⟨93, [(4, .p (.v (.int .i64 p1))), (0, .p (.lst p2)), (3, .p (.lst p3))], [], [], [(.t 3, 33)], []⟩ => alls [p2 = (decL I.dec p2).map I.enc, p3 = (decL Shape.dec p3).map Shape.enc, I_HScene_4 p1 (decL I.dec p2) (decL Shape.dec p3)] (K (.exit 0) (X_HScene_4 p1 (decL I.dec p2) (decL Shape.dec p3)))
  | _ => False
def H_nearP_5 (k : Int) (n : Int) (l : List Shape) (all : List Iv) (best : Int) (at1 : Iv) (z : Iv) (r : Ray) : St := ⟨80, [(20, .p (.v (.int .i64 k))), (19, .p (.v (.int .i64 n))), (18, .p (.lst (l.map Shape.enc))), (9, .p (.lst (all.map Iv.enc))), (7, .p (.v (.int .i64 best))), (8, .ptr 8 0), (5, .ptr 5 0), (3, .ptr 3 0)], [(8, [.v (.int .i64 at1.lo), .v (.int .i64 at1.hi), .v (.bool at1.no)]), (5, [.v (.int .i64 z.lo), .v (.int .i64 z.hi), .v (.bool z.no)]), (3, [.v (.int .i64 r.o.x.lo), .v (.int .i64 r.o.x.hi), .v (.bool r.o.x.no), .v (.int .i64 r.o.y.lo), .v (.int .i64 r.o.y.hi), .v (.bool r.o.y.no), .v (.int .i64 r.o.z.lo), .v (.int .i64 r.o.z.hi), .v (.bool r.o.z.no), .v (.int .i64 r.d.x.lo), .v (.int .i64 r.d.x.hi), .v (.bool r.d.x.no), .v (.int .i64 r.d.y.lo), .v (.int .i64 r.d.y.hi), .v (.bool r.d.y.no), .v (.int .i64 r.d.z.lo), .v (.int .i64 r.d.z.hi), .v (.bool r.d.z.no)])], [], [(.t 9, 35)], []⟩
def k_nearP_5 : KpH := ⟨⟨[20, 19, 18, 9, 7, 8, 5, 3], [8, 5, 3], [.t 9]⟩, [(9, 35)]⟩
def ke_nearP_5 : KpH := ⟨⟨[5, 8, 7, 9], [8, 5], []⟩, []⟩
def kr_nearP_5 : KpH := ⟨⟨[4, 5, 6], [5], []⟩, []⟩
def X_nearP_5 (k : Int) (n : Int) (l : List Shape) (all : List Iv) (best : Int) (at1 : Iv) (z : Iv) (r : Ray) : St := ⟨80, [(5, .ptr 5 0), (8, .ptr 8 0), (7, .p (.v (.int .i64 ((nearGo r (l.drop k.toNat) k best at1 all).1)))), (9, .p (.lst (((nearGo r (l.drop k.toNat) k best at1 all).2.2).map Iv.enc)))], [(8, [.v (.int .i64 (((nearGo r (l.drop k.toNat) k best at1 all).2.1).lo)), .v (.int .i64 (((nearGo r (l.drop k.toNat) k best at1 all).2.1).hi)), .v (.bool (((nearGo r (l.drop k.toNat) k best at1 all).2.1).no))]), (5, [.v (.int .i64 z.lo), .v (.int .i64 z.hi), .v (.bool z.no)])], [], [], []⟩
def R_nearP_5 (k : Int) (n : Int) (l : List Shape) (all : List Iv) (best : Int) (at1 : Iv) (z : Iv) (r : Ray) : St := ⟨80, [(4, .p (.v (.int .i64 (-1)))), (5, .ptr 5 0), (6, .p (.v (.int .i64 0)))], [(5, [.v (.int .i64 none'.lo), .v (.int .i64 none'.hi), .v (.bool none'.no)])], [], [], []⟩
def I_nearP_5 (k : Int) (n : Int) (l : List Shape) (all : List Iv) (best : Int) (at1 : Iv) (z : Iv) (r : Ray) : Prop := (0 ≤ k ∧ k ≤ l.length ∧ n = l.length ∧ n ≤ 1000000) ∧ ((all.length : Int) ≤ k)
def c_nearP_5 (k : Int) (n : Int) (l : List Shape) (all : List Iv) (best : Int) (at1 : Iv) (z : Iv) (r : Ray) : Bool := unsure r (l.drop k.toNat)
def S_nearP_5 : LSum := fun σ K => match keepH evTys k_nearP_5 σ with
  | some ⟨80, [(20, .p (.v (.int .i64 p1))), (19, .p (.v (.int .i64 p2))), (18, .p (.lst p3)), (9, .p (.lst p4)), (7, .p (.v (.int .i64 p5))), (8, .ptr 8 0), (5, .ptr 5 0), (3, .ptr 3 0)], [(8, [.v (.int .i64 p6), .v (.int .i64 p7), .v (.bool p8)]), (5, [.v (.int .i64 p9), .v (.int .i64 p10), .v (.bool p11)]), (3, [.v (.int .i64 p12), .v (.int .i64 p13), .v (.bool p14), .v (.int .i64 p15), .v (.int .i64 p16), .v (.bool p17), .v (.int .i64 p18), .v (.int .i64 p19), .v (.bool p20), .v (.int .i64 p21), .v (.int .i64 p22), .v (.bool p23), .v (.int .i64 p24), .v (.int .i64 p25), .v (.bool p26), .v (.int .i64 p27), .v (.int .i64 p28), .v (.bool p29)])], [], [(.t 9, 35)], []⟩ => alls [p3 = (decL Shape.dec p3).map Shape.enc, p4 = (decL Iv.dec p4).map Iv.enc, I_nearP_5 p1 p2 (decL Shape.dec p3) (decL Iv.dec p4) p5 (⟨p6, p7, p8⟩ : Iv) (⟨p9, p10, p11⟩ : Iv) (⟨⟨⟨p12, p13, p14⟩, ⟨p15, p16, p17⟩, ⟨p18, p19, p20⟩⟩, ⟨⟨p21, p22, p23⟩, ⟨p24, p25, p26⟩, ⟨p27, p28, p29⟩⟩⟩ : Ray)] (bif c_nearP_5 p1 p2 (decL Shape.dec p3) (decL Iv.dec p4) p5 (⟨p6, p7, p8⟩ : Iv) (⟨p9, p10, p11⟩ : Iv) (⟨⟨⟨p12, p13, p14⟩, ⟨p15, p16, p17⟩, ⟨p18, p19, p20⟩⟩, ⟨⟨p21, p22, p23⟩, ⟨p24, p25, p26⟩, ⟨p27, p28, p29⟩⟩⟩ : Ray) then K .ret (R_nearP_5 p1 p2 (decL Shape.dec p3) (decL Iv.dec p4) p5 (⟨p6, p7, p8⟩ : Iv) (⟨p9, p10, p11⟩ : Iv) (⟨⟨⟨p12, p13, p14⟩, ⟨p15, p16, p17⟩, ⟨p18, p19, p20⟩⟩, ⟨⟨p21, p22, p23⟩, ⟨p24, p25, p26⟩, ⟨p27, p28, p29⟩⟩⟩ : Ray)) else (K (.exit 0) (X_nearP_5 p1 p2 (decL Shape.dec p3) (decL Iv.dec p4) p5 (⟨p6, p7, p8⟩ : Iv) (⟨p9, p10, p11⟩ : Iv) (⟨⟨⟨p12, p13, p14⟩, ⟨p15, p16, p17⟩, ⟨p18, p19, p20⟩⟩, ⟨⟨p21, p22, p23⟩, ⟨p24, p25, p26⟩, ⟨p27, p28, p29⟩⟩⟩ : Ray))))
  | _ => False
def H_nearP_19 (i : Int) (n : Int) (all : List Iv) (near : Int) (best : Int) (al2 : List Iv) (at1 : Iv) (z : Iv) : St := ⟨80, [(60, .p (.v (.int .i64 i))), (59, .p (.v (.int .i64 n))), (58, .p (.lst (all.map Iv.enc))), (14, .p (.v (.int .i64 near))), (5, .ptr 5 0), (7, .p (.v (.int .i64 best))), (8, .ptr 8 0), (9, .p (.lst (al2.map Iv.enc)))], [(8, [.v (.int .i64 at1.lo), .v (.int .i64 at1.hi), .v (.bool at1.no)]), (5, [.v (.int .i64 z.lo), .v (.int .i64 z.hi), .v (.bool z.no)])], [], [], []⟩
def k_nearP_19 : KpH := ⟨⟨[60, 59, 58, 14, 5, 7, 8, 9], [8, 5], []⟩, []⟩
def ke_nearP_19 : KpH := ⟨⟨[5, 7, 8, 9, 14], [8, 5], []⟩, []⟩
def kr_nearP_19 : KpH := ⟨⟨[], [], []⟩, []⟩
def X_nearP_19 (i : Int) (n : Int) (all : List Iv) (near : Int) (best : Int) (al2 : List Iv) (at1 : Iv) (z : Iv) : St := ⟨80, [(5, .ptr 5 0), (7, .p (.v (.int .i64 best))), (8, .ptr 8 0), (9, .p (.lst (al2.map Iv.enc))), (14, .p (.v (.int .i64 (near + behind at1 (all.drop i.toNat)))))], [(8, [.v (.int .i64 at1.lo), .v (.int .i64 at1.hi), .v (.bool at1.no)]), (5, [.v (.int .i64 z.lo), .v (.int .i64 z.hi), .v (.bool z.no)])], [], [], []⟩
def I_nearP_19 (i : Int) (n : Int) (all : List Iv) (near : Int) (best : Int) (al2 : List Iv) (at1 : Iv) (z : Iv) : Prop := (0 ≤ i ∧ i ≤ all.length ∧ n = all.length ∧ n ≤ 1000000 ∧ 0 ≤ near ∧ near ≤ i) ∧ (al2 = all)
def S_nearP_19 : LSum := fun σ K => match keepH evTys k_nearP_19 σ with
  | some ⟨80, [(60, .p (.v (.int .i64 p1))), (59, .p (.v (.int .i64 p2))), (58, .p (.lst p3)), (14, .p (.v (.int .i64 p4))), (5, .ptr 5 0), (7, .p (.v (.int .i64 p5))), (8, .ptr 8 0), (9, .p (.lst p6))], [(8, [.v (.int .i64 p7), .v (.int .i64 p8), .v (.bool p9)]), (5, [.v (.int .i64 p10), .v (.int .i64 p11), .v (.bool p12)])], [], [], []⟩ => alls [p3 = (decL Iv.dec p3).map Iv.enc, p6 = (decL Iv.dec p6).map Iv.enc, I_nearP_19 p1 p2 (decL Iv.dec p3) p4 p5 (decL Iv.dec p6) (⟨p7, p8, p9⟩ : Iv) (⟨p10, p11, p12⟩ : Iv)] (K (.exit 3) (X_nearP_19 p1 p2 (decL Iv.dec p3) p4 p5 (decL Iv.dec p6) (⟨p7, p8, p9⟩ : Iv) (⟨p10, p11, p12⟩ : Iv)))
  | _ => False
def H_nearR_5 (i : Int) (ts : List Iv) (ats : List I) (l : List Shape) (z : Iv) (r : Ray) : St := ⟨88, [(9, .p (.v (.int .i64 i))), (8, .p (.lst (ts.map Iv.enc))), (7, .p (.lst (ats.map I.enc))), (5, .ptr 5 0), (3, .ptr 3 0), (0, .p (.lst (l.map Shape.enc)))], [(5, [.v (.int .i64 z.lo), .v (.int .i64 z.hi), .v (.bool z.no)]), (3, [.v (.int .i64 r.o.x.lo), .v (.int .i64 r.o.x.hi), .v (.bool r.o.x.no), .v (.int .i64 r.o.y.lo), .v (.int .i64 r.o.y.hi), .v (.bool r.o.y.no), .v (.int .i64 r.o.z.lo), .v (.int .i64 r.o.z.hi), .v (.bool r.o.z.no), .v (.int .i64 r.d.x.lo), .v (.int .i64 r.d.x.hi), .v (.bool r.d.x.no), .v (.int .i64 r.d.y.lo), .v (.int .i64 r.d.y.hi), .v (.bool r.d.y.no), .v (.int .i64 r.d.z.lo), .v (.int .i64 r.d.z.hi), .v (.bool r.d.z.no)])], [], [(.t 8, 35), (.t 7, 3)], []⟩
def k_nearR_5 : KpH := ⟨⟨[9, 8, 7, 5, 3, 0], [5, 3], [.t 8, .t 7]⟩, [(8, 35), (7, 3)]⟩
def ke_nearR_5 : KpH := ⟨⟨[5, 8, 7], [5], []⟩, []⟩
def kr_nearR_5 : KpH := ⟨⟨[4, 5, 6], [5], []⟩, []⟩
def X_nearR_5 (i : Int) (ts : List Iv) (ats : List I) (l : List Shape) (z : Iv) (r : Ray) : St := ⟨88, [(5, .ptr 5 0), (8, .p (.lst ((ts ++ hitTs r (l.drop i.toNat)).map Iv.enc))), (7, .p (.lst ((ats ++ hitIx r (l.drop i.toNat) i).map I.enc)))], [(5, [.v (.int .i64 z.lo), .v (.int .i64 z.hi), .v (.bool z.no)])], [], [], []⟩
def R_nearR_5 (i : Int) (ts : List Iv) (ats : List I) (l : List Shape) (z : Iv) (r : Ray) : St := ⟨88, [(4, .p (.v (.int .i64 (-1)))), (5, .ptr 5 0), (6, .p (.v (.int .i64 0)))], [(5, [.v (.int .i64 none'.lo), .v (.int .i64 none'.hi), .v (.bool none'.no)])], [], [], []⟩
def I_nearR_5 (i : Int) (ts : List Iv) (ats : List I) (l : List Shape) (z : Iv) (r : Ray) : Prop := (0 ≤ i ∧ i ≤ l.length ∧ l.length ≤ 1000000) ∧ ((ts.length : Int) ≤ i ∧ ats.length = ts.length)
def c_nearR_5 (i : Int) (ts : List Iv) (ats : List I) (l : List Shape) (z : Iv) (r : Ray) : Bool := unsure r (l.drop i.toNat)
def S_nearR_5 : LSum := fun σ K => match keepH evTys k_nearR_5 σ with
  | some ⟨88, [(9, .p (.v (.int .i64 p1))), (8, .p (.lst p2)), (7, .p (.lst p3)), (5, .ptr 5 0), (3, .ptr 3 0), (0, .p (.lst p4))], [(5, [.v (.int .i64 p5), .v (.int .i64 p6), .v (.bool p7)]), (3, [.v (.int .i64 p8), .v (.int .i64 p9), .v (.bool p10), .v (.int .i64 p11), .v (.int .i64 p12), .v (.bool p13), .v (.int .i64 p14), .v (.int .i64 p15), .v (.bool p16), .v (.int .i64 p17), .v (.int .i64 p18), .v (.bool p19), .v (.int .i64 p20), .v (.int .i64 p21), .v (.bool p22), .v (.int .i64 p23), .v (.int .i64 p24), .v (.bool p25)])], [], [(.t 8, 35), (.t 7, 3)], []⟩ => alls [p2 = (decL Iv.dec p2).map Iv.enc, p3 = (decL I.dec p3).map I.enc, p4 = (decL Shape.dec p4).map Shape.enc, I_nearR_5 p1 (decL Iv.dec p2) (decL I.dec p3) (decL Shape.dec p4) (⟨p5, p6, p7⟩ : Iv) (⟨⟨⟨p8, p9, p10⟩, ⟨p11, p12, p13⟩, ⟨p14, p15, p16⟩⟩, ⟨⟨p17, p18, p19⟩, ⟨p20, p21, p22⟩, ⟨p23, p24, p25⟩⟩⟩ : Ray)] (bif c_nearR_5 p1 (decL Iv.dec p2) (decL I.dec p3) (decL Shape.dec p4) (⟨p5, p6, p7⟩ : Iv) (⟨⟨⟨p8, p9, p10⟩, ⟨p11, p12, p13⟩, ⟨p14, p15, p16⟩⟩, ⟨⟨p17, p18, p19⟩, ⟨p20, p21, p22⟩, ⟨p23, p24, p25⟩⟩⟩ : Ray) then K .ret (R_nearR_5 p1 (decL Iv.dec p2) (decL I.dec p3) (decL Shape.dec p4) (⟨p5, p6, p7⟩ : Iv) (⟨⟨⟨p8, p9, p10⟩, ⟨p11, p12, p13⟩, ⟨p14, p15, p16⟩⟩, ⟨⟨p17, p18, p19⟩, ⟨p20, p21, p22⟩, ⟨p23, p24, p25⟩⟩⟩ : Ray)) else (K (.exit 0) (X_nearR_5 p1 (decL Iv.dec p2) (decL I.dec p3) (decL Shape.dec p4) (⟨p5, p6, p7⟩ : Iv) (⟨⟨⟨p8, p9, p10⟩, ⟨p11, p12, p13⟩, ⟨p14, p15, p16⟩⟩, ⟨⟨p17, p18, p19⟩, ⟨p20, p21, p22⟩, ⟨p23, p24, p25⟩⟩⟩ : Ray))))
  | _ => False
def H_nearR_20 (k : Int) (ts : List Iv) (i : Int) (first : Bool) (ats : List I) (z : Iv) : St := ⟨88, [(14, .p (.v (.int .i64 k))), (8, .p (.lst (ts.map Iv.enc))), (12, .p (.v (.int .i64 i))), (13, .p (.v (.bool first))), (5, .ptr 5 0), (7, .p (.lst (ats.map I.enc)))], [(5, [.v (.int .i64 z.lo), .v (.int .i64 z.hi), .v (.bool z.no)])], [], [], []⟩
def k_nearR_20 : KpH := ⟨⟨[14, 8, 12, 13, 5, 7], [5], []⟩, []⟩
def ke_nearR_20 : KpH := ⟨⟨[5, 12, 8, 7, 13], [5], []⟩, []⟩
def kr_nearR_20 : KpH := ⟨⟨[], [], []⟩, []⟩
def X_nearR_20 (k : Int) (ts : List Iv) (i : Int) (first : Bool) (ats : List I) (z : Iv) : St := ⟨88, [(5, .ptr 5 0), (12, .p (.v (.int .i64 i))), (8, .p (.lst (ts.map Iv.enc))), (7, .p (.lst (ats.map I.enc))), (13, .p (.v (.bool (first && firstGo (ts.getD i.toNat none').hi i (ts.drop k.toNat) k))))], [(5, [.v (.int .i64 z.lo), .v (.int .i64 z.hi), .v (.bool z.no)])], [], [], []⟩
def I_nearR_20 (k : Int) (ts : List Iv) (i : Int) (first : Bool) (ats : List I) (z : Iv) : Prop := (0 ≤ i ∧ i < ats.length ∧ 0 ≤ k ∧ k ≤ ats.length) ∧ (ats.length = ts.length ∧ ats.length ≤ 1000000)
def S_nearR_20 : LSum := fun σ K => match keepH evTys k_nearR_20 σ with
  | some ⟨88, [(14, .p (.v (.int .i64 p1))), (8, .p (.lst p2)), (12, .p (.v (.int .i64 p3))), (13, .p (.v (.bool p4))), (5, .ptr 5 0), (7, .p (.lst p5))], [(5, [.v (.int .i64 p6), .v (.int .i64 p7), .v (.bool p8)])], [], [], []⟩ => alls [p2 = (decL Iv.dec p2).map Iv.enc, p5 = (decL I.dec p5).map I.enc, I_nearR_20 p1 (decL Iv.dec p2) p3 p4 (decL I.dec p5) (⟨p6, p7, p8⟩ : Iv)] (K (.exit 4) (X_nearR_20 p1 (decL Iv.dec p2) p3 p4 (decL I.dec p5) (⟨p6, p7, p8⟩ : Iv)))
  | _ => False
def H_nearR_16 (ts : List Iv) (i : Int) (ats : List I) (z : Iv) : St := ⟨88, [(8, .p (.lst (ts.map Iv.enc))), (12, .p (.v (.int .i64 i))), (5, .ptr 5 0), (7, .p (.lst (ats.map I.enc)))], [(5, [.v (.int .i64 z.lo), .v (.int .i64 z.hi), .v (.bool z.no)])], [], [], []⟩
def k_nearR_16 : KpH := ⟨⟨[8, 12, 5, 7], [5], []⟩, []⟩
def ke_nearR_16 : KpH := ⟨⟨[5], [5], []⟩, []⟩
def kr_nearR_16 : KpH := ⟨⟨[4, 5, 6], [5], []⟩, []⟩
def X_nearR_16 (ts : List Iv) (i : Int) (ats : List I) (z : Iv) : St := ⟨88, [(5, .ptr 5 0)], [(5, [.v (.int .i64 z.lo), .v (.int .i64 z.hi), .v (.bool z.no)])], [], [], []⟩
def R_nearR_16 (ts : List Iv) (i : Int) (ats : List I) (z : Iv) : St := ⟨88, [(4, .p (.v (.int .i64 ((pickD (pickR ts (ats.drop i.toNat) (ts.drop i.toNat) i)).1)))), (5, .ptr 5 0), (6, .p (.v (.int .i64 1)))], [(5, [.v (.int .i64 (((pickD (pickR ts (ats.drop i.toNat) (ts.drop i.toNat) i)).2).lo)), .v (.int .i64 (((pickD (pickR ts (ats.drop i.toNat) (ts.drop i.toNat) i)).2).hi)), .v (.bool (((pickD (pickR ts (ats.drop i.toNat) (ts.drop i.toNat) i)).2).no))])], [], [], []⟩
def I_nearR_16 (ts : List Iv) (i : Int) (ats : List I) (z : Iv) : Prop := (0 ≤ i ∧ i ≤ ats.length) ∧ (ats.length = ts.length ∧ ats.length ≤ 1000000)
def c_nearR_16 (ts : List Iv) (i : Int) (ats : List I) (z : Iv) : Bool := (pickR ts (ats.drop i.toNat) (ts.drop i.toNat) i).isSome
def S_nearR_16 : LSum := fun σ K => match keepH evTys k_nearR_16 σ with
  | some ⟨88, [(8, .p (.lst p1)), (12, .p (.v (.int .i64 p2))), (5, .ptr 5 0), (7, .p (.lst p3))], [(5, [.v (.int .i64 p4), .v (.int .i64 p5), .v (.bool p6)])], [], [], []⟩ => alls [p1 = (decL Iv.dec p1).map Iv.enc, p3 = (decL I.dec p3).map I.enc, I_nearR_16 (decL Iv.dec p1) p2 (decL I.dec p3) (⟨p4, p5, p6⟩ : Iv)] (bif c_nearR_16 (decL Iv.dec p1) p2 (decL I.dec p3) (⟨p4, p5, p6⟩ : Iv) then K .ret (R_nearR_16 (decL Iv.dec p1) p2 (decL I.dec p3) (⟨p4, p5, p6⟩ : Iv)) else (K (.exit 2) (X_nearR_16 (decL Iv.dec p1) p2 (decL I.dec p3) (⟨p4, p5, p6⟩ : Iv))))
  | _ => False
def H_tellsA_15 (odd : Bool) (s : List Shape) (q : RawRay) (raw : A6) (wide : A6) : St := ⟨160, [(8, .ptr 8 0), (9, .ptr 9 0), (10, .ptr 10 0), (4, .p (.v (.bool odd))), (15, .p (.lst (s.map Shape.enc)))], [(8, [.v (.int .i64 q.x), .v (.int .i64 q.y), .v (.int .i64 q.u), .v (.int .i64 q.w), .v (.int .i64 q.wide), .v (.int .i64 q.lean)]), (9, [.v (.int .i64 raw.a), .v (.int .i64 raw.b), .v (.int .i64 raw.c), .v (.int .i64 raw.d), .v (.int .i64 raw.e), .v (.int .i64 raw.f)]), (10, [.v (.int .i64 wide.a), .v (.int .i64 wide.b), .v (.int .i64 wide.c), .v (.int .i64 wide.d), .v (.int .i64 wide.e), .v (.int .i64 wide.f)])], [], [(.t 15, 33)], []⟩
def k_tellsA_15 : KpH := ⟨⟨[8, 9, 10, 4, 15], [8, 9, 10], [.t 15]⟩, [(15, 33)]⟩
def ke_tellsA_15 : KpH := ⟨⟨[8, 9, 10, 4, 15], [8, 9, 10], []⟩, []⟩
def kr_tellsA_15 : KpH := ⟨⟨[], [], []⟩, []⟩
def X_tellsA_15 (odd : Bool) (s : List Shape) (q : RawRay) (raw : A6) (wide : A6) : St := ⟨160, [(8, .ptr 8 0), (9, .ptr 9 0), (10, .ptr 10 0), (4, .p (.v (.bool odd))), (15, .p (.lst ((growS s).map Shape.enc)))], [(8, [.v (.int .i64 q.x), .v (.int .i64 q.y), .v (.int .i64 q.u), .v (.int .i64 q.w), .v (.int .i64 q.wide), .v (.int .i64 q.lean)]), (9, [.v (.int .i64 raw.a), .v (.int .i64 raw.b), .v (.int .i64 raw.c), .v (.int .i64 raw.d), .v (.int .i64 raw.e), .v (.int .i64 raw.f)]), (10, [.v (.int .i64 wide.a), .v (.int .i64 wide.b), .v (.int .i64 wide.c), .v (.int .i64 wide.d), .v (.int .i64 wide.e), .v (.int .i64 wide.f)])], [], [], []⟩
def I_tellsA_15 (odd : Bool) (s : List Shape) (q : RawRay) (raw : A6) (wide : A6) : Prop := (s ≠ [] ∧ s.length ≤ 30)
def S_tellsA_15 : LSum := fun σ K => match keepH evTys k_tellsA_15 σ with
  | some ⟨160, [(8, .ptr 8 0), (9, .ptr 9 0), (10, .ptr 10 0), (4, .p (.v (.bool p1))), (15, .p (.lst p2))], [(8, [.v (.int .i64 p3), .v (.int .i64 p4), .v (.int .i64 p5), .v (.int .i64 p6), .v (.int .i64 p7), .v (.int .i64 p8)]), (9, [.v (.int .i64 p9), .v (.int .i64 p10), .v (.int .i64 p11), .v (.int .i64 p12), .v (.int .i64 p13), .v (.int .i64 p14)]), (10, [.v (.int .i64 p15), .v (.int .i64 p16), .v (.int .i64 p17), .v (.int .i64 p18), .v (.int .i64 p19), .v (.int .i64 p20)])], [], [(.t 15, 33)], []⟩ => alls [p2 = (decL Shape.dec p2).map Shape.enc, I_tellsA_15 p1 (decL Shape.dec p2) (⟨p3, p4, p5, p6, p7, p8⟩ : RawRay) (⟨p9, p10, p11, p12, p13, p14⟩ : A6) (⟨p15, p16, p17, p18, p19, p20⟩ : A6)] (K (.exit 1) (X_tellsA_15 p1 (decL Shape.dec p2) (⟨p3, p4, p5, p6, p7, p8⟩ : RawRay) (⟨p9, p10, p11, p12, p13, p14⟩ : A6) (⟨p15, p16, p17, p18, p19, p20⟩ : A6)))
  | _ => False
def H_tellsA_23 (i : Int) (s : List Shape) (s2 : List Shape) (n : Int) (r : Ray) : St := ⟨160, [(105, .p (.v (.int .i64 i))), (17, .ptr 17 0), (103, .p (.lst (s.map Shape.enc))), (15, .p (.lst (s2.map Shape.enc))), (104, .p (.v (.int .i64 n)))], [(17, [.v (.int .i64 r.o.x.lo), .v (.int .i64 r.o.x.hi), .v (.bool r.o.x.no), .v (.int .i64 r.o.y.lo), .v (.int .i64 r.o.y.hi), .v (.bool r.o.y.no), .v (.int .i64 r.o.z.lo), .v (.int .i64 r.o.z.hi), .v (.bool r.o.z.no), .v (.int .i64 r.d.x.lo), .v (.int .i64 r.d.x.hi), .v (.bool r.d.x.no), .v (.int .i64 r.d.y.lo), .v (.int .i64 r.d.y.hi), .v (.bool r.d.y.no), .v (.int .i64 r.d.z.lo), .v (.int .i64 r.d.z.hi), .v (.bool r.d.z.no)])], [], [], []⟩
def k_tellsA_23 : KpH := ⟨⟨[105, 17, 103, 15, 104], [17], []⟩, []⟩
def ke_tellsA_23 : KpH := ⟨⟨[17, 15], [17], []⟩, []⟩
def kr_tellsA_23 : KpH := ⟨⟨[], [], []⟩, []⟩
def X_tellsA_23 (i : Int) (s : List Shape) (s2 : List Shape) (n : Int) (r : Ray) : St := ⟨160, [(17, .ptr 17 0), (15, .p (.lst (s2.map Shape.enc)))], [(17, [.v (.int .i64 r.o.x.lo), .v (.int .i64 r.o.x.hi), .v (.bool r.o.x.no), .v (.int .i64 r.o.y.lo), .v (.int .i64 r.o.y.hi), .v (.bool r.o.y.no), .v (.int .i64 r.o.z.lo), .v (.int .i64 r.o.z.hi), .v (.bool r.o.z.no), .v (.int .i64 r.d.x.lo), .v (.int .i64 r.d.x.hi), .v (.bool r.d.x.no), .v (.int .i64 r.d.y.lo), .v (.int .i64 r.d.y.hi), .v (.bool r.d.y.no), .v (.int .i64 r.d.z.lo), .v (.int .i64 r.d.z.hi), .v (.bool r.d.z.no)])], [], [], []⟩
def I_tellsA_23 (i : Int) (s : List Shape) (s2 : List Shape) (n : Int) (r : Ray) : Prop := (0 ≤ i ∧ i ≤ s.length ∧ n = s.length ∧ s.length ≤ 1000)
def S_tellsA_23 : LSum := fun σ K => match keepH evTys k_tellsA_23 σ with
  | some ⟨160, [(105, .p (.v (.int .i64 p1))), (17, .ptr 17 0), (103, .p (.lst p2)), (15, .p (.lst p3)), (104, .p (.v (.int .i64 p4)))], [(17, [.v (.int .i64 p5), .v (.int .i64 p6), .v (.bool p7), .v (.int .i64 p8), .v (.int .i64 p9), .v (.bool p10), .v (.int .i64 p11), .v (.int .i64 p12), .v (.bool p13), .v (.int .i64 p14), .v (.int .i64 p15), .v (.bool p16), .v (.int .i64 p17), .v (.int .i64 p18), .v (.bool p19), .v (.int .i64 p20), .v (.int .i64 p21), .v (.bool p22)])], [], [], []⟩ => alls [p2 = (decL Shape.dec p2).map Shape.enc, p3 = (decL Shape.dec p3).map Shape.enc, I_tellsA_23 p1 (decL Shape.dec p2) (decL Shape.dec p3) p4 (⟨⟨⟨p5, p6, p7⟩, ⟨p8, p9, p10⟩, ⟨p11, p12, p13⟩⟩, ⟨⟨p14, p15, p16⟩, ⟨p17, p18, p19⟩, ⟨p20, p21, p22⟩⟩⟩ : Ray)] (K (.exit 3) (X_tellsA_23 p1 (decL Shape.dec p2) (decL Shape.dec p3) p4 (⟨⟨⟨p5, p6, p7⟩, ⟨p8, p9, p10⟩, ⟨p11, p12, p13⟩⟩, ⟨⟨p14, p15, p16⟩, ⟨p17, p18, p19⟩, ⟨p20, p21, p22⟩⟩⟩ : Ray)))
  | _ => False
def H_tellsB_23 (i : Int) (s : List Shape) (s2 : List Shape) (n : Int) (r : Ray) : St := ⟨160, [(105, .p (.v (.int .i64 i))), (17, .ptr 17 0), (103, .p (.lst (s.map Shape.enc))), (15, .p (.lst (s2.map Shape.enc))), (104, .p (.v (.int .i64 n)))], [(17, [.v (.int .i64 r.o.x.lo), .v (.int .i64 r.o.x.hi), .v (.bool r.o.x.no), .v (.int .i64 r.o.y.lo), .v (.int .i64 r.o.y.hi), .v (.bool r.o.y.no), .v (.int .i64 r.o.z.lo), .v (.int .i64 r.o.z.hi), .v (.bool r.o.z.no), .v (.int .i64 r.d.x.lo), .v (.int .i64 r.d.x.hi), .v (.bool r.d.x.no), .v (.int .i64 r.d.y.lo), .v (.int .i64 r.d.y.hi), .v (.bool r.d.y.no), .v (.int .i64 r.d.z.lo), .v (.int .i64 r.d.z.hi), .v (.bool r.d.z.no)])], [31], [], []⟩
def k_tellsB_23 : KpH := ⟨⟨[105, 17, 103, 15, 104], [17], []⟩, []⟩
def ke_tellsB_23 : KpH := ⟨⟨[17, 15], [17], []⟩, []⟩
def kr_tellsB_23 : KpH := ⟨⟨[], [], []⟩, []⟩
def X_tellsB_23 (i : Int) (s : List Shape) (s2 : List Shape) (n : Int) (r : Ray) : St := ⟨160, [(17, .ptr 17 0), (15, .p (.lst (s2.map Shape.enc)))], [(17, [.v (.int .i64 r.o.x.lo), .v (.int .i64 r.o.x.hi), .v (.bool r.o.x.no), .v (.int .i64 r.o.y.lo), .v (.int .i64 r.o.y.hi), .v (.bool r.o.y.no), .v (.int .i64 r.o.z.lo), .v (.int .i64 r.o.z.hi), .v (.bool r.o.z.no), .v (.int .i64 r.d.x.lo), .v (.int .i64 r.d.x.hi), .v (.bool r.d.x.no), .v (.int .i64 r.d.y.lo), .v (.int .i64 r.d.y.hi), .v (.bool r.d.y.no), .v (.int .i64 r.d.z.lo), .v (.int .i64 r.d.z.hi), .v (.bool r.d.z.no)])], [31], [], []⟩
def I_tellsB_23 (i : Int) (s : List Shape) (s2 : List Shape) (n : Int) (r : Ray) : Prop := (0 ≤ i ∧ i ≤ s.length ∧ n = s.length ∧ s.length ≤ 1000)
def S_tellsB_23 : LSum := fun σ K => match keepH evTys k_tellsB_23 σ with
  | some ⟨160, [(105, .p (.v (.int .i64 p1))), (17, .ptr 17 0), (103, .p (.lst p2)), (15, .p (.lst p3)), (104, .p (.v (.int .i64 p4)))], [(17, [.v (.int .i64 p5), .v (.int .i64 p6), .v (.bool p7), .v (.int .i64 p8), .v (.int .i64 p9), .v (.bool p10), .v (.int .i64 p11), .v (.int .i64 p12), .v (.bool p13), .v (.int .i64 p14), .v (.int .i64 p15), .v (.bool p16), .v (.int .i64 p17), .v (.int .i64 p18), .v (.bool p19), .v (.int .i64 p20), .v (.int .i64 p21), .v (.bool p22)])], [31], [], []⟩ => alls [p2 = (decL Shape.dec p2).map Shape.enc, p3 = (decL Shape.dec p3).map Shape.enc, I_tellsB_23 p1 (decL Shape.dec p2) (decL Shape.dec p3) p4 (⟨⟨⟨p5, p6, p7⟩, ⟨p8, p9, p10⟩, ⟨p11, p12, p13⟩⟩, ⟨⟨p14, p15, p16⟩, ⟨p17, p18, p19⟩, ⟨p20, p21, p22⟩⟩⟩ : Ray)] (K (.exit 3) (X_tellsB_23 p1 (decL Shape.dec p2) (decL Shape.dec p3) p4 (⟨⟨⟨p5, p6, p7⟩, ⟨p8, p9, p10⟩, ⟨p11, p12, p13⟩⟩, ⟨⟨p14, p15, p16⟩, ⟨p17, p18, p19⟩, ⟨p20, p21, p22⟩⟩⟩ : Ray)))
  | _ => False
end Go.Men
