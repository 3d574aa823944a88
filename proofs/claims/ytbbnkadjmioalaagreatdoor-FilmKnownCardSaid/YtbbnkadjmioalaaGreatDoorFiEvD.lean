/- A logic of frames, written for these claims: what a function is known to do is said of what is known of its arguments, in whatever memory; an evaluator of the program's code in that logic, and its soundness. (Part EvD.) -/
import Derived.Test.YtbbnkadjmioalaaGreatDoorFiEvC
import Derived.Laws.StructEq
import Derived.Laws.MakeOwn
import Derived.Laws.Cover2
import Derived.Laws.IdiomStrings
namespace Go.Ev
open Go.RowKit

def memB (i b : Nat) : List (Nat × Nat) → Bool
  | [] => false
  | (x, y) :: r => (Nat.beq i x && Nat.beq b y) || memB i b r
def keyB (b : Nat) : List (Nat × Nat) → Bool
  | [] => false
  | (_, y) :: r => Nat.beq b y || keyB b r

def keepL (D : List Nat) (ws : List (Nat × Nat)) : Loc → Bool
  | .t t => !(has t D)
  | .b b _ => !(keyB b ws)

/-- What the region's free operations leave alone. (D: their slots; Src: what they store; ws: the boxes that they write.) -/
def clearD (D Src : List Nat) (ws : List (Nat × Nat)) (σ : St) : St :=
  { σ with tmps := σ.tmps.filter fun (t, _) => !(has t D),
           own := σ.own.filter fun (l, _) => keepL D ws l && keepL Src [] l,
           al := σ.al.filter fun (t, l) => !(has t D) && keepL D ws l }

def looksOf (ops : List Oper) (o : Oper) : List Nat :=
  (o.op.operands.toList.filterMap fun | .tmp t => some t | _ => none) ++
  (match o.guard with
   | some (g, _) => match ops[g]? with
     | some og => match og.dst with
       | some d => [d]
       | none => []
     | none => []
   | none => [])

def lnOf (D : List Nat) (ws : List (Nat × Nat)) (d : Nat) : Option Loc → Option (Nat × Loc)
  | some l => bif keepL D ws l then some (d, l) else none
  | none => none

def srcOk (Src : List Nat) : Operand → Bool
  | .tmp t => has t Src
  | _ => true

def freeOp (Γ : List (Nat × Ty)) (R : Nat → St → Oper → Option Res) (ops : List Oper) (cls : List Nat) (ws : List (Nat × Nat)) (D Src : List Nat) (β : St) (A : List En) (j : Nat) (o : Oper) : Option En :=
  let τ := tau ws cls A β j (nthN cls j) (looksOf ops o)
  match evGuard τ ops o with
  | none => none
  | some false => some ⟨j, none, none, none⟩
  | some true => match o.op, o.dst with
    | .store T p x, none => match evStore Γ τ T p x with
      | some σ' => match σ'.boxes with
        | (b, cs) :: _ => bif memB j b ws && srcOk Src x then some ⟨j, none, some (b, cs), none⟩ else none
        | [] => none
      | none => none
    | _, some d => match R j τ o with
      | some r => match r.box with
        | none => some ⟨j, some (d, r.av), none, lnOf D ws d r.link⟩
        | some cs => bif memB j d ws && isNone (lk d β.boxes) && ws.all (fun (s, b) => !(Nat.beq b d) || Nat.ble j s) then some ⟨j, some (d, r.av), some (d, cs), lnOf D ws d r.link⟩ else none
      | none => none
    | _, none => match R j τ o with
      | some r => bif isNone r.box then some ⟨j, none, none, none⟩ else none
      | none => none

def frees (Γ : List (Nat × Ty)) (R : Nat → St → Oper → Option Res) (ops : List Oper) (cls : List Nat) (ws : List (Nat × Nat)) (D Src : List Nat) (β : St) : List Oper → Nat → List En → Option (List En)
  | [], _, A => some A
  | o :: r, j, A => match freeOp Γ R ops cls ws D Src β A j o with
    | some e => frees Γ R ops cls ws D Src β r (j + 1) (e :: A)
    | none => none

def QuietOk (P : Program) (τ : St) (o : Oper) (r : Res) : Prop :=
  ∀ B g a w, Inv P B g τ a w → Good P g τ a w o r ∧ ∀ d, o.dst = some d → d < τ.n ∧ ∀ l, r.link = some l → l ≠ .t d ∧ ∀ b c, l = .b b c → ∃ cs, lk b τ.boxes = some cs

section
variable {P : Program} {B : Nat} {g : G} {σ β ρ τ : St} {a : Act} {w : World}

theorem memB_iff {i b : Nat} : ∀ {ws : List (Nat × Nat)}, memB i b ws = true ↔ (i, b) ∈ ws
  | [] => by simp [memB]
  | (x, y) :: r => by
    unfold memB
    rw [Bool.or_eq_true, memB_iff, Bool.and_eq_true, List.mem_cons]
    constructor
    · rintro (⟨h1, h2⟩ | h)
      · exact .inl (by rw [Nat.eq_of_beq_eq_true h1, Nat.eq_of_beq_eq_true h2])
      · exact .inr h
    · rintro (h | h)
      · cases h; exact .inl ⟨by simp, by simp⟩
      · exact .inr h
theorem keyB_iff {b : Nat} : ∀ {ws : List (Nat × Nat)}, keyB b ws = true ↔ ∃ i, (i, b) ∈ ws
  | [] => by simp [keyB]
  | (x, y) :: r => by
    unfold keyB
    rw [Bool.or_eq_true, keyB_iff]
    constructor
    · rintro (h | ⟨i, h⟩)
      · exact ⟨x, by rw [Nat.eq_of_beq_eq_true h]; simp⟩
      · exact ⟨i, List.mem_cons_of_mem _ h⟩
    · rintro ⟨i, h⟩
      rcases List.mem_cons.1 h with h | h
      · cases h; exact .inl (by simp)
      · exact .inr ⟨i, h⟩

theorem opd_sub (h : Sub τ ρ) {x : Operand} {av : AV} (hx : opd τ x = some av) : opd ρ x = some av := by
  cases x with
  | tmp t => exact h.tmps t av hx
  | const v => exact hx
  | global _ => exact hx
  | func _ => exact hx
theorem pvOf_sub (h : Sub τ ρ) {x : Operand} {v : PV} (hx : pvOf τ x = some v) : pvOf ρ x = some v := by
  have := opd_sub h (pvOf_opd hx)
  unfold pvOf
  rw [this]

theorem good_sub (hs : Sub τ ρ) {o : Oper} {r : Res} (h : Good P g τ a w o r) (hb : ∀ cs, r.box = some cs → ∀ d, o.dst = some d → lk d ρ.boxes = none) : Good P g ρ a w o r :=
  h.mono fun v w' ⟨g', hp⟩ => ⟨g', hp.qt, hp.rep, hp.noBox, fun cs hcs => by
    obtain ⟨d, k, h1, _, h3⟩ := hp.box cs hcs
    exact ⟨d, k, h1, hb cs hcs d h1, h3⟩, hp.link, fun hn => by
    obtain ⟨h1, h2, h2'⟩ := hp.ptr hn
    exact ⟨fun b off e => by obtain ⟨cs, h⟩ := h1 b off e; exact ⟨cs, hs.boxes b cs h⟩, fun f bs e b hb => by obtain ⟨cs, h⟩ := h2 f bs e b hb; exact ⟨cs, hs.boxes b cs h⟩, fun b off n s e => by obtain ⟨cs, h⟩ := h2' b off n s e; exact ⟨cs, hs.boxes b cs h⟩⟩⟩

def stEnd (σ : St) (x : Operand) (b off : Nat) (cells cs : List PV) : Option St :=
  match x with
  | .tmp t => match lkL (.t t) σ.own with
    | some E => some (wrBox (dropOwn σ (.t t)) b off cells cs [(.b b off, E)])
    | none => some (wrBox σ b off cells cs [])
  | _ => some (wrBox σ b off cells cs [])

theorem evStore_eq {Γ : List (Nat × Ty)} {T : TypeId} {p x : Operand} : evStore Γ σ T p x = (match opd σ p, pvOf σ x, lk T Γ with
  | some (.ptr b off), some v, some ty => match lk b σ.boxes with
    | some cs => bif Nat.beq v.cells.length ty.size && Nat.ble (off + ty.size) cs.length && !(Nat.beq ty.size 0) && !(has b σ.ro) then stEnd σ x b off v.cells cs else none
    | none => none
  | _, _, _ => none) := by
  unfold evStore stEnd
  rfl

theorem stEnd_get {x : Operand} {b off : Nat} {cells cs : List PV} : ∃ σ'', stEnd ρ x b off cells cs = some σ'' ∧ σ''.boxes = (b, lay cs off cells) :: ρ.boxes ∧ σ''.tmps = ρ.tmps ∧ σ''.n = ρ.n ∧ σ''.ro = ρ.ro ∧ (∀ t l, (t, l) ∈ ρ.al → (∀ c, l ≠ .b b c) → (t, l) ∈ σ''.al) ∧
      ∀ l E, lkL l ρ.own = some E → (∀ t, x = .tmp t → l ≠ .t t) → (∀ c, l ≠ .b b c) → lkL l σ''.own = some E := by
  have hin : ∀ l : Loc, (∀ c, l ≠ .b b c) → inBox b off cells.length l = false := by
    intro l hl
    cases hi : inBox b off cells.length l with
    | false => rfl
    | true => obtain ⟨c, e, _⟩ := inBox_iff.1 hi; exact absurd e (hl c)
  have hal : ∀ {σ0 : St} {o' : List (Loc × Nat)} (_ : σ0.al = ρ.al) t l, (t, l) ∈ ρ.al → (∀ c, l ≠ .b b c) → (t, l) ∈ (wrBox σ0 b off cells cs o').al := by
    intro σ0 o' e t l hm hl
    refine List.mem_filter.2 ⟨by rw [e]; exact hm, ?_⟩
    simp [hin l hl]
  have plain : ∃ σ'', some (wrBox ρ b off cells cs []) = some σ'' ∧ σ''.boxes = (b, lay cs off cells) :: ρ.boxes ∧ σ''.tmps = ρ.tmps ∧ σ''.n = ρ.n ∧ σ''.ro = ρ.ro ∧ (∀ t l, (t, l) ∈ ρ.al → (∀ c, l ≠ .b b c) → (t, l) ∈ σ''.al) ∧
      ∀ l E, lkL l ρ.own = some E → (∀ t, x = .tmp t → l ≠ .t t) → (∀ c, l ≠ .b b c) → lkL l σ''.own = some E := by
    refine ⟨_, rfl, rfl, rfl, rfl, rfl, hal rfl, fun l E hl _ hne => ?_⟩
    show lkL l ([] ++ ρ.own.filter fun (l, _) => !(inBox b off cells.length l)) = some E
    rw [List.nil_append, lkL_filter (fun l => !(inBox b off cells.length l)), if_pos (by simp [hin l hne])]
    exact hl
  cases x with
  | tmp t =>
    simp only [stEnd]
    cases hE : lkL (.t t) ρ.own with
    | none => exact plain
    | some E0 =>
      refine ⟨_, rfl, rfl, rfl, rfl, rfl, hal rfl, fun l E hl hsrc hne => ?_⟩
      have hne2 : l ≠ .b b off := hne off
      show lkL l ([(.b b off, E0)] ++ (dropOwn ρ (.t t)).own.filter fun (l, _) => !(inBox b off cells.length l)) = some E
      rw [lkL_append, lkL_cons, if_neg hne2]
      simp only [lkL]
      rw [lkL_filter (fun l => !(inBox b off cells.length l)), if_pos (by simp [hin l hne])]
      show lkL l (ρ.own.filter fun (k, _) => !(k.eq (.t t))) = some E
      rw [lkL_filter (fun k => !(k.eq (.t t)))]
      have : l.eq (.t t) = false := by
        cases he : l.eq (.t t) with
        | false => rfl
        | true => exact absurd (Loc.eq_iff.1 he) (hsrc t rfl)
      rw [if_pos (by simp [this])]
      exact hl
  | const _ => exact plain
  | global _ => exact plain
  | func _ => exact plain

/-- A store that was looked at where less was known. -/
theorem store_sub {Γ : List (Nat × Ty)} (hs : Sub τ ρ) (hro : τ.ro = ρ.ro) {T : TypeId} {p x : Operand} {σ' : St} (h : evStore Γ τ T p x = some σ') :
    ∃ σ'' b cs, evStore Γ ρ T p x = some σ'' ∧ (∃ l, σ'.boxes = (b, cs) :: l) ∧ σ''.boxes = (b, cs) :: ρ.boxes ∧ σ''.tmps = ρ.tmps ∧ σ''.n = ρ.n ∧ σ''.ro = ρ.ro ∧ (∀ t l, (t, l) ∈ ρ.al → (∀ c, l ≠ .b b c) → (t, l) ∈ σ''.al) ∧
      ∀ l E, lkL l ρ.own = some E → (∀ t, x = .tmp t → l ≠ .t t) → (∀ c, l ≠ .b b c) → lkL l σ''.own = some E := by
  rw [evStore_eq] at h
  split at h
  · rename_i b off v ty hp hv hty
    split at h
    · rename_i cs hcs
      cases hb : (Nat.beq v.cells.length ty.size && Nat.ble (off + ty.size) cs.length && !(Nat.beq ty.size 0) && !(has b τ.ro)) with
      | false => rw [hb] at h; exact absurd h (by simp)
      | true =>
        rw [hb] at h
        simp only [cond_true] at h
        obtain ⟨σ1, e1, e2, _⟩ := stEnd_get (ρ := τ) (x := x) (b := b) (off := off) (cells := v.cells) (cs := cs)
        rw [h] at e1
        have := Option.some.inj e1
        subst this
        obtain ⟨σ2, f1, f2, f3, f4, f5, f6, f7⟩ := stEnd_get (ρ := ρ) (x := x) (b := b) (off := off) (cells := v.cells) (cs := cs)
        refine ⟨σ2, b, _, ?_, ⟨_, e2⟩, f2, f3, f4, f5, f6, f7⟩
        rw [evStore_eq, opd_sub hs hp, pvOf_sub hs hv, hty]
        simp only
        rw [hs.boxes b cs hcs, ← hro]
        simp only
        rw [hb]
        exact f1
    · exact absurd h (by simp)
  · exact absurd h (by simp)

/-- One operation more came up. -/
structure RStep (dj : Option Nat) (src : Nat → Prop) (ej : En) (keys : Nat → Prop) (ρ ρ' : St) : Prop where
  n : ρ'.n = ρ.n
  ro : ρ'.ro = ρ.ro
  tm : ∀ t, dj ≠ some t → lk t ρ'.tmps = lk t ρ.tmps
  tme : ∀ t v, ej.tm = some (t, v) → lk t ρ'.tmps = some v
  bx : ∀ b, (∀ cs, ej.bx ≠ some (b, cs)) → lk b ρ'.boxes = lk b ρ.boxes
  bxe : ∀ b cs, ej.bx = some (b, cs) → lk b ρ'.boxes = some cs
  al : ∀ t l, (t, l) ∈ ρ.al → dj ≠ some t → (∀ t', dj = some t' → l ≠ .t t') → (∀ b c, l = .b b c → ¬ keys b) → (t, l) ∈ ρ'.al
  ale : ∀ t l, ej.ln = some (t, l) → (t, l) ∈ ρ'.al
  own : ∀ l E, lkL l ρ.own = some E → (∀ t, dj = some t → l ≠ .t t) → (∀ t, src t → l ≠ .t t) → (∀ b c, l = .b b c → ¬ keys b) → lkL l ρ'.own = some E

theorem RI.step {A : List En} {S : Nat → Prop} {dOf : Nat → Option Nat} {D Src : List Nat} {ws : List (Nat × Nat)} {cls : List Nat} {ej : En} {ρ' : St} (hR : RI β A S ρ) (hS : RStep (dOf ej.i) (fun t => t ∈ Src) ej (fun b => ∃ i, (i, b) ∈ ws) ρ ρ')
    (hj : ¬ S ej.i) (huniq : ∀ e ∈ A, e.i = ej.i → e = ej) (hcls : ∀ s, S s → ∀ i, bit (nthN cls s) i = true → S i)
    (hD : ∀ i d, dOf i = some d → S i ∨ i = ej.i → d ∈ D) (hinj : ∀ i, S i → ∀ d, dOf i = some d → dOf ej.i ≠ some d)
    (htm : ∀ e ∈ A, ∀ t v, e.tm = some (t, v) → dOf e.i = some t) (hln : ∀ e ∈ A, ∀ t l, e.ln = some (t, l) → dOf e.i = some t ∧ keepL D ws l = true)
    (hbx : ∀ e ∈ A, ∀ b cs, e.bx = some (b, cs) → (e.i, b) ∈ ws) (hej : ej ∈ A) (hord : ∀ s s' b, (s, b) ∈ ws → (s', b) ∈ ws → s < s' → bit (nthN cls s') s = true)
    (b1 : ∀ t v, lk t β.tmps = some v → t ∉ D) (b2 : ∀ t l, (t, l) ∈ β.al → t ∉ D ∧ keepL D ws l = true) (b3 : ∀ l E, lkL l β.own = some E → keepL D ws l = true ∧ keepL Src [] l = true) :
    RI β A (fun i => S i ∨ i = ej.i) ρ' := by
  have kD : ∀ {l : Loc}, keepL D ws l = true → (∀ t', dOf ej.i = some t' → l ≠ .t t') ∧ ∀ b c, l = .b b c → ¬ ∃ i, (i, b) ∈ ws := by
    intro l hl
    refine ⟨fun t' ht e => ?_, fun b c e hk => ?_⟩
    · subst e
      have := has_iff.2 (hD _ _ ht (.inr rfl))
      simp only [keepL, this] at hl
      exact absurd hl (by simp)
    · subst e
      have := keyB_iff.2 hk
      simp only [keepL, this] at hl
      exact absurd hl (by simp)
  refine ⟨hR.n.trans hS.n.symm, hR.ro.trans hS.ro.symm, fun e he hSe t v hv => ?_, fun t v hv => ?_, fun e he hSe b cs hb hmax => ?_, fun b hb => ?_, fun e he hSe t l hl => ?_, fun t l hl => ?_, fun l E hl => ?_⟩
  · rcases hSe with h | h
    · rw [hS.tm t (hinj e.i h t (htm e he t v hv))]
      exact hR.tm e he h t v hv
    · rw [huniq e he h] at hv
      exact hS.tme t v hv
  · rw [hS.tm t (fun hd => b1 t v hv (hD _ _ hd (.inr rfl)))]
    exact hR.tm0 t v hv
  · by_cases hje : e.i = ej.i
    · rw [huniq e he hje] at hb
      exact hS.bxe b cs hb
    · have hSi : S e.i := hSe.resolve_right hje
      have hno : ∀ cs', ej.bx ≠ some (b, cs') := by
        intro cs' hcs'
        have hle := hmax ej hej cs' hcs' (.inr rfl)
        have hlt : ej.i < e.i := by omega
        exact hj (hcls e.i hSi _ (hord ej.i e.i b (hbx ej hej b cs' hcs') (hbx e he b cs hb) hlt))
      rw [hS.bx b hno]
      exact hR.bx e he hSi b cs hb (fun e' he' cs' hcs' hS' => hmax e' he' cs' hcs' (.inl hS'))
  · rw [hS.bx b (fun cs hcs => hb ej hej cs hcs (.inr rfl))]
    exact hR.bx0 b (fun e he cs hcs hSe => hb e he cs hcs (.inl hSe))
  · rcases hSe with h | h
    · obtain ⟨h1, h2⟩ := hln e he t l hl
      obtain ⟨k1, k2⟩ := kD h2
      exact hS.al t l (hR.ln e he h t l hl) (hinj e.i h t h1) k1 k2
    · rw [huniq e he h] at hl
      exact hS.ale t l hl
  · obtain ⟨h1, h2⟩ := b2 t l hl
    obtain ⟨k1, k2⟩ := kD h2
    exact hS.al t l (hR.al0 t l hl) (fun hd => h1 (hD _ _ hd (.inr rfl))) k1 k2
  · obtain ⟨h1, h2⟩ := b3 l E hl
    obtain ⟨k1, k2⟩ := kD h1
    refine hS.own l E (hR.own0 l E hl) k1 (fun t ht e => ?_) k2
    subst e
    have := has_iff.2 ht
    simp only [keepL, this] at h2
    exact absurd h2 (by simp)
end
end Go.Ev
namespace Go.Ev
open Go.RowKit
section
variable {P : Program} {B : Nat} {g : G} {σ β ρ τ : St} {a : Act} {w : World}

theorem rstep_addRes {j d : Nat} {r : Res} {src : Nat → Prop} {keys : Nat → Prop} {D : List Nat} {ws : List (Nat × Nat)} :
    RStep (some d) src ⟨j, some (d, r.av), r.box.map (d, ·), lnOf D ws d r.link⟩ keys ρ (addRes ρ d r) := by
  have tms : ∀ t, lk t (addRes ρ d r).tmps = if t = d then some r.av else lk t ρ.tmps := fun t => lk_cons t d _ _
  have bxs : ∀ b, lk b (addRes ρ d r).boxes = match r.box with | some cs => if b = d then some cs else lk b ρ.boxes | none => lk b ρ.boxes := by
    intro b
    show lk b (match r.box with | some cs => (d, cs) :: ρ.boxes | none => ρ.boxes) = _
    cases r.box with
    | none => rfl
    | some cs => exact lk_cons b d _ _
  refine ⟨rfl, rfl, fun t ht => ?_, fun t v ht => ?_, fun b hb => ?_, fun b cs hb => ?_, fun t l hm ht hl _ => ?_, fun t l hl => ?_, fun l E hl hd _ _ => ?_⟩
  · rw [tms, if_neg (fun e => ht (by rw [e]))]
  · have := Option.some.inj ht
    cases this
    rw [tms, if_pos rfl]
  · rw [bxs]
    cases hr : r.box with
    | none => rfl
    | some cs =>
      have : b ≠ d := fun e => hb cs (by simp [hr, e])
      simp [this]
  · rw [bxs]
    cases hr : r.box with
    | none => rw [hr] at hb; exact absurd hb (by simp)
    | some cs' =>
      rw [hr] at hb
      have := Option.some.inj hb
      cases this
      simp
  · have h1 : (t, l) ∈ (put ρ d r.av).al := by
      refine List.mem_filter.2 ⟨hm, ?_⟩
      have e1 : Nat.beq t d = false := beq_ne (fun e => ht (by rw [e]))
      have e2 : l.eq (.t d) = false := by
        cases he : l.eq (.t d) with
        | false => rfl
        | true => exact absurd (Loc.eq_iff.1 he) (hl d rfl)
      simp [e1, e2]
    show (t, l) ∈ (match r.link with | some l => (d, l) :: (put ρ d r.av).al | none => (put ρ d r.av).al)
    cases r.link with
    | none => exact h1
    | some l' => exact List.mem_cons_of_mem _ h1
  · show (t, l) ∈ (match r.link with | some l => (d, l) :: (put ρ d r.av).al | none => (put ρ d r.av).al)
    have hl' : lnOf D ws d r.link = some (t, l) := hl
    cases hr : r.link with
    | none => rw [hr] at hl'; exact absurd hl' (by simp [lnOf])
    | some l' =>
      rw [hr] at hl'
      simp only [lnOf] at hl'
      cases hk : keepL D ws l' with
      | false => rw [hk] at hl'; exact absurd hl' (by simp)
      | true =>
        rw [hk] at hl'
        have := Option.some.inj hl'
        cases this
        exact List.mem_cons_self
  · show lkL l (ρ.own.filter fun (l, _) => !(l.eq (.t d))) = some E
    rw [lkL_filter (fun l => !(l.eq (.t d)))]
    have : l.eq (.t d) = false := by
      cases he : l.eq (.t d) with
      | false => rfl
      | true => exact absurd (Loc.eq_iff.1 he) (hd d rfl)
    rw [if_pos (by simp [this])]
    exact hl

theorem rstep_drop {j d : Nat} {src : Nat → Prop} {keys : Nat → Prop} : RStep (some d) src ⟨j, none, none, none⟩ keys ρ (dropT ρ d) := by
  refine ⟨rfl, rfl, fun t ht => ?_, fun t v ht => absurd ht (by simp), fun b _ => rfl, fun b cs hb => absurd hb (by simp), fun t l hm ht hl _ => ?_, fun t l hl => absurd hl (by simp), fun l E hl hd _ _ => ?_⟩
  · show lk t (ρ.tmps.filter fun (t, _) => !(Nat.beq t d)) = _
    rw [lk_filter (fun t => !(Nat.beq t d)), beq_ne (fun e => ht (by rw [e]))]
    simp
  · refine List.mem_filter.2 ⟨hm, ?_⟩
    have e1 : Nat.beq t d = false := beq_ne (fun e => ht (by rw [e]))
    have e2 : l.eq (.t d) = false := by
      cases he : l.eq (.t d) with
      | false => rfl
      | true => exact absurd (Loc.eq_iff.1 he) (hl d rfl)
    simp [e1, e2]
  · show lkL l (ρ.own.filter fun (l, _) => !(l.eq (.t d))) = some E
    rw [lkL_filter (fun l => !(l.eq (.t d)))]
    have : l.eq (.t d) = false := by
      cases he : l.eq (.t d) with
      | false => rfl
      | true => exact absurd (Loc.eq_iff.1 he) (hd d rfl)
    rw [if_pos (by simp [this])]
    exact hl

theorem rstep_same {j : Nat} {src : Nat → Prop} {keys : Nat → Prop} : RStep none src ⟨j, none, none, none⟩ keys ρ ρ :=
  ⟨rfl, rfl, fun _ _ => rfl, fun _ _ h => absurd h (by simp), fun _ _ => rfl, fun _ _ h => absurd h (by simp), fun _ _ h _ _ _ => h, fun _ _ h => absurd h (by simp), fun _ _ h _ _ _ => h⟩

/-- An operation comes up, in whatever order: what was looked at where less was known holds. -/
theorem freeOp_step {Γ : List (Nat × Ty)} (hΓ : TyOk P Γ) {R : Nat → St → Oper → Option Res} (hR : ∀ j τ o r, R j τ o = some r → QuietOk P τ o r) {ops : Array Oper} {cls : List Nat} {ws : List (Nat × Nat)} {D Src : List Nat} {A : List En} {j : Nat} {o : Oper} {e : En}
    (h : freeOp Γ R ops.toList cls ws D Src β A j o = some e) (hI : Inv P B g ρ a w) (hs : Sub (tau ws cls A β j (nthN cls j) (looksOf ops.toList o)) ρ) (hro : β.ro = ρ.ro)
    (hfresh : ∀ d, (j, d) ∈ ws → lk d β.boxes = none → (∀ s, (s, d) ∈ ws → j ≤ s) → lk d ρ.boxes = none) {Q : Exit → Act → World → Prop} {K : Act → World → Prop}
    (hK : ∀ ρ' a' w', Post P B g ρ w ρ' a' w' → RStep o.dst (fun t => t ∈ Src) e (fun b => ∃ i, (i, b) ∈ ws) ρ ρ' → K a' w') :
    if Region.wanted o (yielded ops a.tmps) then o.wp P a w K Q else K (a.put o.dst undef) w := by
  have hIτ := inv_weak hI hs
  unfold freeOp at h
  simp only at h
  split at h
  · exact absurd h (by simp)
  · rename_i hg
    have := Option.some.inj h
    subst this
    rw [guard_sound hIτ hg, if_neg (by simp)]
    cases hd : o.dst with
    | none => rw [hd] at hK; exact hK ρ _ _ ⟨g, hI, Fr.refl⟩ rstep_same
    | some d => rw [hd] at hK; exact hK (dropT ρ d) _ _ ⟨g, inv_skip hI d undef, fr_dropT d⟩ rstep_drop
  · rename_i hg
    rw [guard_sound hIτ hg, if_pos rfl]
    split at h
    · rename_i T p x hop hd
      split at h
      · rename_i σ' hst
        split at h
        · rename_i b cs l hbx
          cases hb : (memB j b ws && srcOk Src x) with
          | false => rw [hb] at h; exact absurd h (by simp)
          | true =>
            rw [hb] at h
            have := Option.some.inj h
            subst this
            rw [Bool.and_eq_true] at hb
            obtain ⟨σ'', b', cs', e1, ⟨l', e2⟩, e3, e4, e5, e6, e7, e8⟩ := store_sub hs ((tau_ro _ _ _ _ _ _ _).trans hro) hst
            rw [hbx] at e2
            have := List.cons.inj e2
            obtain ⟨e9, _⟩ := this
            cases e9
            refine (store_goes hΓ hI hop hd e1).wp fun v w' hp => hK σ'' _ _ hp ?_
            rw [hd]
            refine ⟨e5, e6, fun t _ => by rw [e4], fun t v ht => absurd ht (by simp), fun b2 hb2 => ?_, fun b2 cs2 hb2 => ?_, fun t l hm _ _ hk => e7 t l hm (fun c ec => hk b c ec ⟨j, memB_iff.1 hb.1⟩), fun t l hl => absurd hl (by simp),
              fun l E hl _ hsrc hk => e8 l E hl (fun t ex => ?_) (fun c ec => hk b c ec ⟨j, memB_iff.1 hb.1⟩)⟩
            · rw [e3, lk_cons, if_neg (fun ee => hb2 cs (by rw [ee]))]
            · have := Option.some.inj hb2
              cases this
              rw [e3, lk_cons, if_pos rfl]
            · subst ex
              exact hsrc t (has_iff.1 hb.2)
        · exact absurd h (by simp)
      · exact absurd h (by simp)
    · rename_i d hd
      split at h
      · rename_i r hr
        obtain ⟨q1, q2⟩ := hR _ _ _ _ hr B g a w hIτ
        obtain ⟨q3, q4⟩ := q2 d hd
        have main : (∀ cs, r.box = some cs → lk d ρ.boxes = none) → e = ⟨j, some (d, r.av), r.box.map (d, ·), lnOf D ws d r.link⟩ → o.wp P a w K Q := by
          intro hb he
          have hgood := good_sub hs q1 (fun cs hcs d' hd' => by rw [hd] at hd'; cases hd'; exact hb cs hcs)
          have hlt : d < ρ.n := by rw [← hs.n]; exact q3
          refine hgood.wp fun v w' ⟨g', hp⟩ => hK (addRes ρ d r) _ _ ?_ ?_
          · rw [hd]
            exact ⟨g', addRes_inv hI hp hd hlt (fun l hl => ⟨(q4 l hl).1, fun b c e => by obtain ⟨cs, hcs⟩ := (q4 l hl).2 b c e; exact ⟨cs, hs.boxes b cs hcs⟩⟩), addRes_fr hI hp hlt⟩
          · rw [hd, he]
            exact rstep_addRes
        split at h
        · rename_i hbx
          have := Option.some.inj h
          refine main (fun cs hcs => by rw [hbx] at hcs; exact absurd hcs (by simp)) ?_
          rw [← this, hbx]
          rfl
        · rename_i cs hbx
          cases hb : (memB j d ws && isNone (lk d β.boxes) && ws.all (fun (s, b) => !(Nat.beq b d) || Nat.ble j s)) with
          | false => rw [hb] at h; exact absurd h (by simp)
          | true =>
            rw [hb] at h
            have := Option.some.inj h
            simp only [Bool.and_eq_true] at hb
            refine main (fun cs' _ => hfresh d (memB_iff.1 hb.1.1) ?_ (fun s hs' => ?_)) ?_
            · cases hl : lk d β.boxes with
              | none => rfl
              | some cs => rw [hl] at hb; exact absurd hb.1.2 (by simp [isNone])
            · have := List.all_eq_true.1 hb.2 _ hs'
              simp only [Bool.or_eq_true, Bool.not_eq_true'] at this
              rcases this with h1 | h1
              · simp at h1
              · exact Nat.le_of_ble_eq_true h1
            · rw [← this, hbx]
              rfl
      · exact absurd h (by simp)
    · rename_i hd _
      split at h
      · rename_i r hr
        cases hb : isNone r.box with
        | false => rw [hb] at h; exact absurd h (by simp)
        | true =>
          rw [hb] at h
          have := Option.some.inj h
          subst this
          have hbx : r.box = none := by
            cases hr : r.box with
            | none => rfl
            | some cs => rw [hr] at hb; exact absurd hb (by simp [isNone])
          obtain ⟨q1, _⟩ := hR _ _ _ _ hr B g a w hIτ
          refine q1.wp fun v w' ⟨g', hp⟩ => ?_
          rw [hd] at hK ⊢
          obtain ⟨k1, k2⟩ := inv_qt hI hp.qt
          have := hp.noBox hbx
          obtain ⟨β', hw'⟩ := g'
          have this : β' = g.β := this
          subst this
          exact hK ρ a w' ⟨_, k1, k2⟩ rstep_same
      · exact absurd h (by simp)
end
end Go.Ev
namespace Go.Ev
open Go.RowKit

def allB (m : Nat) : Nat → Bool
  | 0 => true
  | i + 1 => bit m i && allB m i
def tailFrom (cls : List Nat) : Nat → Nat
  | 0 => 0
  | n + 1 => bif allB (nthN cls n) n then tailFrom cls n else n + 1
def depsOk : List Oper → Nat → Bool
  | [], _ => true
  | o :: r, j => (deps o).all (fun i => Nat.blt i j) && depsOk r (j + 1)
def dstsOf : List Oper → List Nat
  | [] => []
  | o :: r => match o.dst with
    | some d => d :: dstsOf r
    | none => dstsOf r
def srcsOf : List Oper → List Nat
  | [] => []
  | o :: r => match o.op with
    | .store _ _ (.tmp t) => t :: srcsOf r
    | _ => srcsOf r
def nodupB : List Nat → Bool
  | [] => true
  | x :: r => !(has x r) && nodupB r
def ordW (cls : List Nat) (ws : List (Nat × Nat)) : Bool :=
  ws.all fun (s, b) => ws.all fun (s', b') => !(Nat.beq b b') || !(Nat.blt s s') || bit (nthN cls s') s
def tmOf : List En → List (Nat × AV) → List (Nat × AV)
  | [], l => l
  | e :: r, l => match e.tm with
    | some x => x :: tmOf r l
    | none => tmOf r l
def bxOf : List En → List (Nat × List PV) → List (Nat × List PV)
  | [], l => l
  | e :: r, l => match e.bx with
    | some x => x :: bxOf r l
    | none => bxOf r l
def alOf : List En → List (Nat × Loc) → List (Nat × Loc)
  | [], l => l
  | e :: r, l => match e.ln with
    | some x => x :: alOf r l
    | none => alOf r l
def finSt (β : St) (A : List En) : St := { β with tmps := tmOf A β.tmps, boxes := bxOf A β.boxes, al := alOf A β.al }

def tails (T : Nat → St → Oper → Option St) (ops : List Oper) : List Oper → Nat → St → Option St
  | [], _, σ => some σ
  | o :: r, j, σ => match evGuard σ ops o with
    | some true => match T j σ o with
      | some σ1 => tails T ops r (j + 1) σ1
      | none => none
    | some false => match o.dst with
      | some d => tails T ops r (j + 1) (skipT σ d)
      | none => tails T ops r (j + 1) σ
    | none => none

def evDraw (Γ : List (Nat × Ty)) (R : Nat → St → Oper → Option Res) (T : Nat → St → Oper → Option St) (ops : List Oper) (σ : St) (ws : List (Nat × Nat)) : Option St :=
  let cls := clsOf ops []
  let k := tailFrom cls ops.length
  let fr := ops.take k
  let D := dstsOf fr
  let Src := srcsOf fr
  bif depsOk ops 0 && nodupB D && ordW cls ws then
    match frees Γ R ops cls ws D Src (clearD D Src ws σ) fr 0 [] with
    | some A => tails T ops (ops.drop k) k (finSt (clearD D Src ws σ) A)
    | none => none
  else none

section
variable {P : Program} {B : Nat} {g : G} {σ β ρ τ : St} {a : Act} {w : World}

theorem bit_or (x y i : Nat) : bit (Nat.lor x y) i = (bit x i || bit y i) := Nat.testBit_or x y i
theorem bit_zero (i : Nat) : bit 0 i = false := Nat.zero_testBit i
theorem bit_one {j i : Nat} (h : bit (Nat.shiftLeft 1 j) i = true) : i = j := by
  have : Nat.testBit (1 <<< j) i = true := h
  rw [Nat.testBit_shiftLeft] at this
  simp only [Bool.and_eq_true, decide_eq_true_eq] at this
  obtain ⟨h1, h2⟩ := this
  have := Nat.testBit_one_eq_true_iff_self_eq_zero.1 h2
  omega

theorem clOf_bit {acc : List Nat} {i : Nat} : ∀ {ds : List Nat}, bit (clOf acc ds) i = true → ∃ d ∈ ds, i = d ∨ bit (nthN acc d) i = true
  | [], h => by rw [show clOf acc [] = 0 from rfl, bit_zero] at h; exact absurd h (by simp)
  | d :: r, h => by
    unfold clOf at h
    rw [bit_or, bit_or, Bool.or_eq_true, Bool.or_eq_true] at h
    rcases h with (h | h) | h
    · exact ⟨d, by simp, .inl (bit_one h)⟩
    · exact ⟨d, by simp, .inr h⟩
    · obtain ⟨d', h1, h2⟩ := clOf_bit h
      exact ⟨d', List.mem_cons_of_mem _ h1, h2⟩

theorem nthN_append (x : Nat) : ∀ (acc : List Nat) (i : Nat), nthN (acc ++ [x]) i = if i < acc.length then nthN acc i else if i = acc.length then x else 0
  | [], 0 => rfl
  | [], i + 1 => by simp [nthN]
  | y :: r, 0 => by simp [nthN]
  | y :: r, i + 1 => by simp [nthN, nthN_append x r i]
theorem nthN_ge : ∀ (acc : List Nat) (i : Nat), acc.length ≤ i → nthN acc i = 0
  | [], _, _ => rfl
  | _ :: r, 0, h => by simp at h
  | _ :: r, i + 1, h => nthN_ge r i (by simpa using h)

/-- What an operation waits for, near and far, has come up if what it waits for itself has. -/
theorem clsOf_spec {S : Nat → Prop} {ops : List Oper} (hS : ∀ j o, ops[j]? = some o → S j → ∀ i ∈ deps o, S i) : ∀ (l : List Oper) (acc : List Nat) (pre : List Oper), ops = pre ++ l → acc.length = pre.length →
    (∀ j o, pre[j]? = some o → (∀ i ∈ deps o, S i) → ∀ i, bit (nthN acc j) i = true → S i) → ∀ j o, ops[j]? = some o → (∀ i ∈ deps o, S i) → ∀ i, bit (nthN (clsOf l acc) j) i = true → S i
  | [], acc, pre, he, _, hp, j, o, ho, hd, i, hi => hp j o (by simpa [he] using ho) hd i hi
  | o0 :: l, acc, pre, he, hl, hp, j, o, ho, hd, i, hi => by
    refine clsOf_spec hS l (acc ++ [clOf acc (deps o0)]) (pre ++ [o0]) (by simp [he]) (by simp [hl]) (fun j' o' ho' hd' i' hi' => ?_) j o ho hd i hi
    rw [nthN_append] at hi'
    split at hi'
    · rename_i hlt
      rw [List.getElem?_append_left (by omega)] at ho'
      exact hp j' o' ho' hd' i' hi'
    · split at hi'
      · rename_i _ e
        have : (pre ++ [o0])[j']? = some o0 := by rw [e, hl]; simp
        rw [this] at ho'
        have := Option.some.inj ho'
        subst this
        obtain ⟨d, h1, h2⟩ := clOf_bit hi'
        have hSd := hd' d h1
        rcases h2 with rfl | h2
        · exact hSd
        · by_cases hdl : d < acc.length
          · have hpd : pre[d]? = some pre[d] := List.getElem?_eq_getElem (by omega)
            exact hp d _ hpd (hS d pre[d] (by rw [he, List.getElem?_append_left (by omega)]; exact hpd) hSd) i' h2
          · rw [nthN_ge _ _ (by omega), bit_zero] at h2
            exact absurd h2 (by simp)
      · rw [bit_zero] at hi'; exact absurd hi' (by simp)

theorem allB_get {m : Nat} : ∀ {j : Nat}, allB m j = true → ∀ i, i < j → bit m i = true
  | 0, _, i, h => by omega
  | j + 1, h, i, hi => by
    unfold allB at h
    rw [Bool.and_eq_true] at h
    by_cases e : i = j
    · rw [e]; exact h.1
    · exact allB_get h.2 i (by omega)
theorem tailFrom_le {cls : List Nat} : ∀ {n : Nat}, tailFrom cls n ≤ n
  | 0 => Nat.le_refl _
  | n + 1 => by
    unfold tailFrom
    cases allB (nthN cls n) n with
    | true => exact Nat.le_succ_of_le tailFrom_le
    | false => exact Nat.le_refl _
theorem tailFrom_get {cls : List Nat} : ∀ {n : Nat}, ∀ j, tailFrom cls n ≤ j → j < n → ∀ i, i < j → bit (nthN cls j) i = true
  | 0, j, _, h => by omega
  | n + 1, j, hk, hj => by
    unfold tailFrom at hk
    cases hb : allB (nthN cls n) n with
    | true =>
      rw [hb] at hk
      by_cases e : j = n
      · subst e; exact allB_get hb
      · exact tailFrom_get j hk (by omega)
    | false =>
      rw [hb] at hk
      simp only [cond_false] at hk
      omega
theorem depsOk_get : ∀ {l : List Oper} {k : Nat}, depsOk l k = true → ∀ j o, l[j]? = some o → ∀ i ∈ deps o, i < k + j
  | [], _, _, j, o, h => by simp at h
  | o0 :: r, k, h, j, o, ho => by
    unfold depsOk at h
    rw [Bool.and_eq_true] at h
    cases j with
    | zero =>
      simp at ho
      subst ho
      intro i hi
      exact Nat.le_of_ble_eq_true (List.all_eq_true.1 h.1 i hi)
    | succ j =>
      intro i hi
      have := depsOk_get h.2 j o (by simpa using ho) i hi
      omega
theorem dsts_mem {d : Nat} : ∀ {l : List Oper} {j : Nat} {o : Oper}, l[j]? = some o → o.dst = some d → d ∈ dstsOf l
  | [], j, o, h, _ => by simp at h
  | o0 :: r, j, o, h, hd => by
    unfold dstsOf
    cases j with
    | zero =>
      simp at h
      subst h
      rw [hd]
      simp
    | succ j =>
      have := dsts_mem (l := r) (j := j) (by simpa using h) hd
      split
      · exact List.mem_cons_of_mem _ this
      · exact this
theorem dsts_inj {d : Nat} : ∀ {l : List Oper}, nodupB (dstsOf l) = true → ∀ {i j : Nat} {o o' : Oper}, l[i]? = some o → l[j]? = some o' → o.dst = some d → o'.dst = some d → i = j
  | [], _, i, j, o, o', h, _, _, _ => by simp at h
  | o0 :: r, hn, i, j, o, o', h, h', hd, hd' => by
    unfold dstsOf at hn
    have tl : nodupB (dstsOf r) = true := by
      split at hn
      · unfold nodupB at hn; rw [Bool.and_eq_true] at hn; exact hn.2
      · exact hn
    have hd0 : o0.dst = some d → d ∉ dstsOf r := by
      intro e hm
      rw [e] at hn
      simp only [nodupB, Bool.and_eq_true, Bool.not_eq_true'] at hn
      rw [has_iff.2 hm] at hn
      exact absurd hn.1 (by simp)
    cases i with
    | zero =>
      cases j with
      | zero => rfl
      | succ j =>
        simp at h
        subst h
        exact absurd (dsts_mem (l := r) (j := j) (by simpa using h') hd') (hd0 hd)
    | succ i =>
      cases j with
      | zero =>
        simp at h'
        subst h'
        exact absurd (dsts_mem (l := r) (j := i) (by simpa using h) hd) (hd0 hd')
      | succ j =>
        have e : i = j := dsts_inj tl (by simpa using h) (by simpa using h') hd hd'
        rw [e]

theorem freeOp_en {Γ : List (Nat × Ty)} {R : Nat → St → Oper → Option Res} {ops : List Oper} {cls : List Nat} {ws : List (Nat × Nat)} {D Src : List Nat} {A : List En} {j : Nat} {o : Oper} {e : En}
    (h : freeOp Γ R ops cls ws D Src β A j o = some e) : e.i = j ∧ (∀ t v, e.tm = some (t, v) → o.dst = some t) ∧ (∀ t l, e.ln = some (t, l) → o.dst = some t ∧ keepL D ws l = true) ∧ ∀ b cs, e.bx = some (b, cs) → (j, b) ∈ ws := by
  have lnok : ∀ {d : Nat} {x : Option Loc} {t : Nat} {l : Loc}, lnOf D ws d x = some (t, l) → t = d ∧ keepL D ws l = true := by
    intro d x t l hl
    cases x with
    | none => exact absurd hl (by simp [lnOf])
    | some l' =>
      simp only [lnOf] at hl
      cases hk : keepL D ws l' with
      | false => rw [hk] at hl; exact absurd hl (by simp)
      | true =>
        rw [hk] at hl
        have := Option.some.inj hl
        cases this
        exact ⟨rfl, hk⟩
  have nil : (⟨j, none, none, none⟩ : En).i = j ∧ (∀ t v, (⟨j, none, none, none⟩ : En).tm = some (t, v) → o.dst = some t) ∧ (∀ t l, (⟨j, none, none, none⟩ : En).ln = some (t, l) → o.dst = some t ∧ keepL D ws l = true) ∧ ∀ b cs, (⟨j, none, none, none⟩ : En).bx = some (b, cs) → (j, b) ∈ ws :=
    ⟨rfl, fun _ _ h => absurd h (by simp), fun _ _ h => absurd h (by simp), fun _ _ h => absurd h (by simp)⟩
  unfold freeOp at h
  simp only at h
  split at h
  · exact absurd h (by simp)
  · have := Option.some.inj h; subst this; exact nil
  · split at h
    · split at h
      · split at h
        · rename_i b cs l hbx
          cases hb : (memB j b ws && srcOk Src _) with
          | false => rw [hb] at h; exact absurd h (by simp)
          | true =>
            rw [hb] at h
            have := Option.some.inj h
            subst this
            rw [Bool.and_eq_true] at hb
            exact ⟨rfl, fun _ _ h => absurd h (by simp), fun _ _ h => absurd h (by simp), fun b' cs' h' => by have := Option.some.inj h'; cases this; exact memB_iff.1 hb.1⟩
        · exact absurd h (by simp)
      · exact absurd h (by simp)
    · rename_i d hd
      split at h
      · rename_i r hr
        split at h
        · have := Option.some.inj h
          subst this
          exact ⟨rfl, fun t v ht => by have := Option.some.inj ht; cases this; exact hd, fun t l hl => by obtain ⟨rfl, h2⟩ := lnok hl; exact ⟨hd, h2⟩, fun _ _ h => absurd h (by simp)⟩
        · rename_i cs hbx
          cases hb : (memB j d ws && isNone (lk d β.boxes) && ws.all (fun (s, b) => !(Nat.beq b d) || Nat.ble j s)) with
          | false => rw [hb] at h; exact absurd h (by simp)
          | true =>
            rw [hb] at h
            have := Option.some.inj h
            subst this
            simp only [Bool.and_eq_true] at hb
            exact ⟨rfl, fun t v ht => by have := Option.some.inj ht; cases this; exact hd, fun t l hl => by obtain ⟨rfl, h2⟩ := lnok hl; exact ⟨hd, h2⟩, fun b' cs' h' => by have := Option.some.inj h'; cases this; exact memB_iff.1 hb.1.1⟩
      · exact absurd h (by simp)
    · split at h
      · rename_i r hr
        cases hb : isNone r.box with
        | false => rw [hb] at h; exact absurd h (by simp)
        | true => rw [hb] at h; have := Option.some.inj h; subst this; exact nil
      · exact absurd h (by simp)

/-- All that came up, one by one. -/
theorem frees_get {Γ : List (Nat × Ty)} {R : Nat → St → Oper → Option Res} {ops : List Oper} {cls : List Nat} {ws : List (Nat × Nat)} {D Src : List Nat} : ∀ {l : List Oper} {j0 : Nat} {A0 A : List En}, frees Γ R ops cls ws D Src β l j0 A0 = some A →
    Desc A0 → (∀ e ∈ A0, e.i < j0) → Desc A ∧ (∀ e ∈ A0, e ∈ A) ∧ (∀ e ∈ A, e ∈ A0 ∨ (j0 ≤ e.i ∧ ∃ o, l[e.i - j0]? = some o)) ∧
      ∀ j o, l[j]? = some o → ∃ e ∈ A, e.i = j0 + j ∧ ∃ A', freeOp Γ R ops cls ws D Src β A' (j0 + j) o = some e ∧ Desc A' ∧ (∀ e' ∈ A', e' ∈ A) ∧ ∀ e' ∈ A, e'.i < j0 + j → e' ∈ A'
  | [], j0, A0, A, h, hd, hi => by
    have := Option.some.inj h
    subst this
    exact ⟨hd, fun _ h => h, fun e he => .inl he, fun j o h => by simp at h⟩
  | o :: r, j0, A0, A, h, hd, hi => by
    unfold frees at h
    split at h
    · rename_i e he
      have hej := (freeOp_en he).1
      obtain ⟨h1, h2, h3, h4⟩ := frees_get h (A0 := e :: A0) ⟨fun e' he' => by rw [hej]; exact hi e' he', hd⟩ (fun e' he' => by
        rcases List.mem_cons.1 he' with rfl | he'
        · omega
        · have := hi e' he'; omega)
      refine ⟨h1, fun e' he' => h2 e' (List.mem_cons_of_mem _ he'), fun e' he' => ?_, fun j o' ho' => ?_⟩
      · rcases h3 e' he' with h5 | ⟨h5, o2, h6⟩
        · rcases List.mem_cons.1 h5 with rfl | h5
          · exact .inr ⟨by omega, o, by simp [hej]⟩
          · exact .inl h5
        · refine .inr ⟨by omega, o2, ?_⟩
          rw [show e'.i - j0 = (e'.i - (j0 + 1)) + 1 by omega]
          simpa using h6
      · cases j with
        | zero =>
          simp at ho'
          subst ho'
          refine ⟨e, h2 e (by simp), hej, A0, he, hd, fun e' he' => h2 e' (List.mem_cons_of_mem _ he'), fun e' he' hlt => ?_⟩
          rcases h3 e' he' with h5 | ⟨h5, _⟩
          · rcases List.mem_cons.1 h5 with rfl | h5
            · omega
            · exact h5
          · omega
        | succ j =>
          obtain ⟨e2, q1, q2, A', q3, q4, q5, q6⟩ := h4 j o' (by simpa using ho')
          have ee : j0 + 1 + j = j0 + (j + 1) := by omega
          rw [ee] at q2 q3 q6
          exact ⟨e2, q1, q2, A', q3, q4, q5, q6⟩
    · exact absurd h (by simp)

theorem Desc.uniq : ∀ {A : List En}, Desc A → ∀ {e e' : En}, e ∈ A → e' ∈ A → e.i = e'.i → e = e'
  | [], _, e, e', h, _, _ => by simp at h
  | x :: r, hd, e, e', h, h', hi => by
    rcases List.mem_cons.1 h with h1 | h1
    · rcases List.mem_cons.1 h' with h2 | h2
      · rw [h1, h2]
      · have := hd.1 e' h2; rw [h1] at hi; omega
    · rcases List.mem_cons.1 h' with h2 | h2
      · have := hd.1 e h1; rw [h2] at hi; omega
      · exact hd.2.uniq h1 h2 hi

theorem tmOf_get {A : List En} {l : List (Nat × AV)} {t : Nat} {v : AV} (h : lk t (tmOf A l) = some v) : (∃ e ∈ A, e.tm = some (t, v)) ∨ lk t l = some v := by
  induction A with
  | nil => exact .inr h
  | cons e r ih =>
    unfold tmOf at h
    split at h
    · rename_i x hx
      obtain ⟨t', v'⟩ := x
      rw [lk_cons] at h
      split at h
      · rename_i e1
        have := Option.some.inj h
        subst this; subst e1
        exact .inl ⟨e, by simp, hx⟩
      · rcases ih h with ⟨e', h1, h2⟩ | h1
        · exact .inl ⟨e', List.mem_cons_of_mem _ h1, h2⟩
        · exact .inr h1
    · rcases ih h with ⟨e', h1, h2⟩ | h1
      · exact .inl ⟨e', List.mem_cons_of_mem _ h1, h2⟩
      · exact .inr h1
theorem alOf_get {A : List En} {l : List (Nat × Loc)} {x : Nat × Loc} (h : x ∈ alOf A l) : (∃ e ∈ A, e.ln = some x) ∨ x ∈ l := by
  induction A with
  | nil => exact .inr h
  | cons e r ih =>
    unfold alOf at h
    split at h
    · rename_i y hy
      rcases List.mem_cons.1 h with rfl | h
      · exact .inl ⟨e, by simp, hy⟩
      · rcases ih h with ⟨e', h1, h2⟩ | h1
        · exact .inl ⟨e', List.mem_cons_of_mem _ h1, h2⟩
        · exact .inr h1
    · rcases ih h with ⟨e', h1, h2⟩ | h1
      · exact .inl ⟨e', List.mem_cons_of_mem _ h1, h2⟩
      · exact .inr h1
theorem bxOf_get {A : List En} {l : List (Nat × List PV)} {b : Nat} (hd : Desc A) : (∃ e ∈ A, ∃ cs, e.bx = some (b, cs) ∧ lk b (bxOf A l) = some cs ∧ ∀ e' ∈ A, ∀ cs', e'.bx = some (b, cs') → e'.i ≤ e.i) ∨ ((∀ e ∈ A, ∀ cs, e.bx ≠ some (b, cs)) ∧ lk b (bxOf A l) = lk b l) := by
  induction A with
  | nil => exact .inr ⟨fun e he => by simp at he, rfl⟩
  | cons e r ih =>
    unfold bxOf
    split
    · rename_i x hx
      obtain ⟨b', cs⟩ := x
      by_cases e1 : b = b'
      · subst e1
        refine .inl ⟨e, by simp, cs, hx, by rw [lk_cons, if_pos rfl], fun e' he' cs' _ => ?_⟩
        rcases List.mem_cons.1 he' with rfl | he'
        · exact Nat.le_refl _
        · exact Nat.le_of_lt (hd.1 e' he')
      · rw [lk_cons, if_neg e1]
        rcases ih hd.2 with ⟨e', h1, cs', h2, h3, h4⟩ | ⟨h1, h2⟩
        · refine .inl ⟨e', List.mem_cons_of_mem _ h1, cs', h2, h3, fun e2 he2 cs2 hb2 => ?_⟩
          rcases List.mem_cons.1 he2 with rfl | he2
          · rw [hx] at hb2; have := Option.some.inj hb2; cases this; exact absurd rfl e1
          · exact h4 e2 he2 cs2 hb2
        · refine .inr ⟨fun e2 he2 cs2 hb2 => ?_, h2⟩
          rcases List.mem_cons.1 he2 with rfl | he2
          · rw [hx] at hb2; have := Option.some.inj hb2; cases this; exact absurd rfl e1
          · exact h1 e2 he2 cs2 hb2
    · rename_i hx
      rcases ih hd.2 with ⟨e', h1, cs', h2, h3, h4⟩ | ⟨h1, h2⟩
      · refine .inl ⟨e', List.mem_cons_of_mem _ h1, cs', h2, h3, fun e2 he2 cs2 hb2 => ?_⟩
        rcases List.mem_cons.1 he2 with rfl | he2
        · rw [hx] at hb2; exact absurd hb2 (by simp)
        · exact h4 e2 he2 cs2 hb2
      · refine .inr ⟨fun e2 he2 cs2 hb2 => ?_, h2⟩
        rcases List.mem_cons.1 he2 with rfl | he2
        · rw [hx] at hb2; exact absurd hb2 (by simp)
        · exact h1 e2 he2 cs2 hb2

/-- When all have come up, the frame is as the list of what they left says. -/
theorem fin_sub {A : List En} {S : Nat → Prop} (hR : RI β A S ρ) (hS : ∀ e ∈ A, S e.i) (hd : Desc A) (hI : Inv P B g ρ a w) : Sub (finSt β A) ρ := by
  have bxs : ∀ b, lk b (finSt β A).boxes = lk b ρ.boxes := by
    intro b
    rcases bxOf_get (A := A) (l := β.boxes) (b := b) hd with ⟨e, h1, cs, h2, h3, h4⟩ | ⟨h1, h2⟩
    · rw [hR.bx e h1 (hS e h1) b cs h2 (fun e' he' cs' hcs' _ => h4 e' he' cs' hcs')]
      exact h3
    · rw [hR.bx0 b (fun e he cs hcs => absurd hcs (h1 e he cs))]
      exact h2
  have tms : ∀ t v, lk t (finSt β A).tmps = some v → lk t ρ.tmps = some v := by
    intro t v h
    rcases tmOf_get h with ⟨e, h1, h2⟩ | h1
    · exact hR.tm e h1 (hS e h1) t v h2
    · exact hR.tm0 t v h1
  have als : ∀ t l, (t, l) ∈ (finSt β A).al → (t, l) ∈ ρ.al := by
    intro t l h
    rcases alOf_get h with ⟨e, h1, h2⟩ | h1
    · exact hR.ln e h1 (hS e h1) t l h2
    · exact hR.al0 t l h1
  exact ⟨hR.n, tms, fun b cs h => by rw [← bxs]; exact h, fun b hb => by rw [← hR.ro] at hb; exact hb, fun t b off h => by rw [bxs]; exact hI.ptr t b off (tms _ _ h), fun t f bs h b hb => by rw [bxs]; exact hI.fnp t f bs (tms _ _ h) b hb, hR.own0,
    fun b c E h => by rw [bxs]; exact hI.ownt (.b b c) E (hR.own0 _ _ h), als, fun t b c h => by rw [bxs]; exact hI.alt t b c (als _ _ h), fun t b off n s h => by rw [bxs]; exact hI.sl t b off n s (tms _ _ h), fun b cs h y hy b' hb' => by rw [bxs] at h ⊢; exact hI.ref b cs h y hy b' hb'⟩

theorem clear_ri {D Src : List Nat} {ws : List (Nat × Nat)} {A : List En} : RI (clearD D Src ws σ) A (fun _ => False) σ :=
  ⟨rfl, rfl, fun _ _ h => h.elim, fun t v h => by
    rw [show (clearD D Src ws σ).tmps = σ.tmps.filter fun (t, _) => !(has t D) from rfl, lk_filter (fun t => !(has t D))] at h
    split at h
    · exact h
    · exact absurd h (by simp), fun _ _ h => h.elim, fun _ _ => rfl, fun _ _ h => h.elim, fun t l h => (List.mem_filter.1 h).1, fun l E h => by
    rw [show (clearD D Src ws σ).own = σ.own.filter fun (l, _) => keepL D ws l && keepL Src [] l from rfl, lkL_filter (fun l => keepL D ws l && keepL Src [] l)] at h
    split at h
    · exact h
    · exact absurd h (by simp)⟩
end
end Go.Ev
namespace Go.Ev
open Go.RowKit
section
variable {P : Program} {B : Nat} {g : G} {σ β ρ τ : St} {a : Act} {w : World}

def L (listed : Array Bool) (i : Nat) : Prop := listed.getD i false = true

theorem L_set {listed : Array Bool} {j : Nat} (hj : j < listed.size) (i : Nat) : L (listed.setIfInBounds j true) i ↔ L listed i ∨ i = j := by
  unfold L
  rw [Array.getD_eq_getD_getElem?, Array.getD_eq_getD_getElem?, Array.getElem?_setIfInBounds]
  by_cases e : j = i
  · subst e; simp [hj]
  · simp [e, Ne.symm e]

theorem L_lt {listed : Array Bool} {i : Nat} (h : L listed i) : i < listed.size := by
  unfold L at h
  rw [Array.getD_eq_getD_getElem?] at h
  rcases Nat.lt_or_ge i listed.size with h1 | h1
  · exact h1
  · rw [Array.getElem?_eq_none h1] at h; simp at h

/-- Unlisted, as the kit asks it. -/
theorem not_L {listed : Array Bool} {j : Nat} (h : listed.getD j true = false) : ¬ L listed j ∧ j < listed.size := by
  have hlt : j < listed.size := by
    rcases Nat.lt_or_ge j listed.size with h1 | h1
    · exact h1
    · rw [Array.getD_eq_getD_getElem?, Array.getElem?_eq_none h1] at h; simp at h
  refine ⟨fun hl => ?_, hlt⟩
  unfold L at hl
  rw [Array.getD_eq_getD_getElem?, Array.getElem?_eq_getElem hlt] at h hl
  simp at h hl
  rw [h] at hl
  exact absurd hl (by simp)
theorem of_not_L {listed : Array Bool} {j : Nat} (h : ¬ L listed j) (hlt : j < listed.size) : listed.getD j true = false := by
  unfold L at h
  rw [Array.getD_eq_getD_getElem?, Array.getElem?_eq_getElem hlt] at *
  simpa using h

noncomputable def cnt (listed : Array Bool) : Nat → Nat
  | 0 => 0
  | i + 1 => cnt listed i + (if listed.getD i false = true then 0 else 1)
theorem cnt_le (listed : Array Bool) : ∀ k, cnt listed k ≤ k
  | 0 => Nat.le_refl _
  | k + 1 => by have := cnt_le listed k; unfold cnt; split <;> omega
theorem cnt_zero {listed : Array Bool} : ∀ {k}, cnt listed k = 0 → ∀ i, i < k → L listed i
  | 0, _, i, h => by omega
  | k + 1, h, i, hi => by
    unfold cnt at h
    split at h
    · by_cases e : i = k
      · subst e; assumption
      · exact cnt_zero (by omega) i (by omega)
    · omega
theorem cnt_pos {listed : Array Bool} : ∀ {k}, cnt listed k ≠ 0 → ∃ i, i < k ∧ ¬ L listed i ∧ ∀ m, m < i → L listed m
  | 0, h => absurd rfl h
  | k + 1, h => by
    by_cases e : cnt listed k = 0
    · refine ⟨k, by omega, fun hl => ?_, cnt_zero e⟩
      unfold cnt at h
      have hl' : listed.getD k false = true := hl
      rw [e, if_pos hl'] at h
      exact h rfl
    · obtain ⟨i, h1, h2, h3⟩ := cnt_pos e
      exact ⟨i, by omega, h2, h3⟩
theorem cnt_set_ge {listed : Array Bool} {j : Nat} (hj : j < listed.size) : ∀ {k}, k ≤ j → cnt (listed.setIfInBounds j true) k = cnt listed k
  | 0, _ => rfl
  | k + 1, h => by
    have e : ((listed.setIfInBounds j true).getD k false = true) = (listed.getD k false = true) := propext (by
      have := L_set hj k
      unfold L at this
      rw [this]
      exact ⟨fun h => h.resolve_right (by omega), .inl⟩)
    unfold cnt
    rw [cnt_set_ge hj (by omega)]
    simp only [e]
theorem cnt_set {listed : Array Bool} {j : Nat} (hj : j < listed.size) (hn : ¬ L listed j) : ∀ {k}, j < k → cnt (listed.setIfInBounds j true) k + 1 = cnt listed k
  | 0, h => by omega
  | k + 1, h => by
    unfold cnt
    by_cases e : j = k
    · subst e
      have h1 : (listed.setIfInBounds j true).getD j false = true := (L_set hj j).2 (.inr rfl)
      have h2 : ¬ listed.getD j false = true := hn
      rw [cnt_set_ge hj (Nat.le_refl _), if_pos h1, if_neg h2]
    · have e2 : ((listed.setIfInBounds j true).getD k false = true) = (listed.getD k false = true) := propext (by
        have := L_set hj k
        unfold L at this
        rw [this]
        exact ⟨fun h => h.resolve_right (Ne.symm e), .inl⟩)
      have := cnt_set hj hn (k := k) (by omega)
      simp only [e2]
      omega

/-- Once the free ones have come up, the rest comes one by one. -/
theorem tails_sound {T : Nat → St → Oper → Option St} (hT : ∀ j σ o σ', T j σ o = some σ' → ∀ B g a w, Inv P B g σ a w → Goes P B g σ a w o σ') {ops : Array Oper} {k : Nat}
    (hdeps : ∀ j o, ops.toList[j]? = some o → ∀ i ∈ deps o, i < j) (hfull : ∀ j, k ≤ j → j < ops.size → ∀ {listed : Array Bool}, (∀ o, ops[j]? = some o → ∀ e ∈ o.after, Region.binds .any e = true → L listed e.on) → (∀ s, L listed s → ∀ o, ops.toList[s]? = some o → ∀ i ∈ deps o, L listed i) → ∀ i, i < j → L listed i)
    {Q : Exit → Act → World → Prop} {σ' : St} : ∀ (fuel m : Nat) (listed : Array Bool) (σ : St) (g : G) (a : Act) (w : World), Inv P B g σ a w → listed.size = ops.size → k ≤ m → m ≤ ops.size → (∀ i, L listed i ↔ i < m) → ops.size - m ≤ fuel → tails T ops.toList (ops.toList.drop m) m σ = some σ' →
    (∀ a' w', Post P B g σ w σ' a' w' → Q .normal a' w') → wpAny P .any ops Q fuel listed a w := by
  have nord : ∀ (m : Nat) (listed : Array Bool), k ≤ m → m ≤ ops.size → (∀ i, L listed i ↔ i < m) → ∀ j, j ∈ Region.ready .any ops listed → j = m ∧ m < ops.size := by
    intro m listed hkm hmn hL j hj
    obtain ⟨h1, o, h2, h3⟩ := mem_ready.1 hj
    obtain ⟨h4, _⟩ := not_L h1
    have hjm : ¬ j < m := fun h => h4 ((hL j).2 h)
    have hjn : j < ops.size := (Array.getElem?_eq_some_iff.1 h2).1
    by_cases e : j = m
    · exact ⟨e, by omega⟩
    · have := hfull j (by omega) hjn (listed := listed) (fun o' ho' e he hb => by rw [h2] at ho'; cases ho'; exact h3 e he hb)
        (fun s hs o' ho' i hi => (hL i).2 (by have := hdeps s o' ho' i hi; have := (hL s).1 hs; omega)) m (by omega)
      have := (hL m).1 this
      omega
  have rdy : ∀ (m : Nat) (listed : Array Bool), listed.size = ops.size → m < ops.size → (∀ i, L listed i ↔ i < m) → m ∈ Region.ready .any ops listed := by
    intro m listed hsz hm hL
    have ho : ops[m]? = some ops[m] := Array.getElem?_eq_getElem hm
    refine mem_ready.2 ⟨of_not_L (fun h => by have := (hL m).1 h; omega) (by omega), ops[m], ho, fun e he hb => (hL e.on).2 ?_⟩
    refine hdeps m ops[m] (by rw [Array.getElem?_toList]; exact ho) e.on ?_
    unfold deps
    exact List.mem_map.2 ⟨e, List.mem_filter.2 ⟨by simpa using he, hb⟩, rfl⟩
  intro fuel
  induction fuel with
  | zero =>
    intro m listed σ g a w hI hsz hkm hmn hL hf ht hQ
    have : m = ops.size := by omega
    subst this
    refine ⟨List.eq_nil_iff_forall_not_mem.2 fun j hj => ?_, ?_⟩
    · have := (nord _ listed hkm hmn hL j hj).2; omega
    · rw [List.drop_eq_nil_of_le (by simp)] at ht
      have := Option.some.inj ht
      subst this
      exact hQ a w ⟨g, hI, Fr.refl⟩
  | succ fuel ih =>
    intro m listed σ g a w hI hsz hkm hmn hL hf ht hQ
    by_cases hm : m < ops.size
    · refine ⟨fun hnil => ?_, fun j hj => ?_⟩
      · have := rdy m listed hsz hm hL
        rw [hnil] at this
        exact absurd this (by simp)
      · obtain ⟨rfl, _⟩ := nord m listed hkm hmn hL j hj
        have ho : ops[j]? = some ops[j] := Array.getElem?_eq_getElem hm
        have hdrop : ops.toList.drop j = ops[j] :: ops.toList.drop (j + 1) := by
          rw [List.drop_eq_getElem_cons (by simpa using hm)]
          simp
        rw [hdrop] at ht
        have next : ∀ (σ1 : St) (g1 : G) (a1 : Act) (w1 : World), Inv P B g1 σ1 a1 w1 → Fr B g σ w g1 σ1 w1 → tails T ops.toList (ops.toList.drop (j + 1)) (j + 1) σ1 = some σ' → wpAny P .any ops Q fuel (listed.setIfInBounds j true) a1 w1 := by
          intro σ1 g1 a1 w1 i1 f1 h1
          refine ih (j + 1) _ σ1 g1 a1 w1 i1 (by simp [hsz]) (by omega) (by omega) (fun i => ?_) (by omega) h1 (fun a' w' hp => hQ a' w' (hp.trans f1))
          rw [L_set (by omega), hL i]
          omega
        unfold wpOp
        rw [ho]
        simp only
        unfold tails at ht
        split at ht
        · rename_i hg
          split at ht
          · rename_i σ1 h1
            rw [guard_sound hI hg, if_pos rfl]
            exact .inl ((hT _ _ _ _ h1 B g a w hI).wp fun v w1 ⟨g1, i1, f1⟩ => next σ1 g1 _ w1 i1 f1 ht)
          · exact absurd ht (by simp)
        · rename_i hg
          rw [guard_sound hI hg, if_neg (by simp)]
          split at ht
          · rename_i d hd
            rw [hd]
            exact next _ g _ w (inv_skipT hI d) (fr_skipT d) ht
          · rename_i hd
            rw [hd]
            exact next _ g _ w hI Fr.refl ht
        · exact absurd ht (by simp)
    · have : m = ops.size := by omega
      subst this
      refine ⟨fun _ => ?_, fun j hj => ?_⟩
      · rw [List.drop_eq_nil_of_le (by simp)] at ht
        have := Option.some.inj ht
        subst this
        exact hQ a w ⟨g, hI, Fr.refl⟩
      · have := (nord _ listed hkm hmn hL j hj).2; omega

theorem evDraw_sound {Γ : List (Nat × Ty)} (hΓ : TyOk P Γ) (hm : P.follows .mixedOrders = true) {R : Nat → St → Oper → Option Res} (hR : ∀ j τ o r, R j τ o = some r → QuietOk P τ o r)
    {T : Nat → St → Oper → Option St} (hT : ∀ j σ o σ', T j σ o = some σ' → ∀ B g a w, Inv P B g σ a w → Goes P B g σ a w o σ') {ops : Array Oper} {ws : List (Nat × Nat)} {σ' : St} (h : evDraw Γ R T ops.toList σ ws = some σ') {id : Nat} : Tri P (.region id ops true) σ .normal σ' := by
  intro B g a w hI
  refine wp_region_any hm ?_
  have hq : Qt g.hw w g.hw { w with drawn := w.drawn + 1 } := ⟨⟨rfl, rfl, rfl, Nat.le_refl _, fun _ _ => rfl⟩, fun _ _ => rfl, hI.hwlt⟩
  obtain ⟨hI0, hF0⟩ := inv_qt hI hq
  generalize ({ w with drawn := w.drawn + 1 } : World) = w0 at *
  unfold evDraw at h
  simp only at h
  generalize hclsd : clsOf ops.toList [] = cls at *
  generalize hk : tailFrom cls ops.toList.length = k at *
  cases hb : (depsOk ops.toList 0 && nodupB (dstsOf (ops.toList.take k)) && ordW cls ws) with
  | false => rw [hb] at h; exact absurd h (by simp)
  | true =>
    rw [hb] at h
    simp only [cond_true] at h
    simp only [Bool.and_eq_true] at hb
    obtain ⟨⟨hb1, hb2⟩, hb3⟩ := hb
    have hkn : k ≤ ops.size := by rw [← hk]; have := tailFrom_le (cls := cls) (n := ops.toList.length); simpa using this
    have hdeps : ∀ j o, ops.toList[j]? = some o → ∀ i ∈ deps o, i < j := fun j o ho i hi => by have := depsOk_get hb1 j o ho i hi; omega
    have spec : ∀ {S : Nat → Prop}, (∀ j o, ops.toList[j]? = some o → S j → ∀ i ∈ deps o, S i) → ∀ j o, ops.toList[j]? = some o → (∀ i ∈ deps o, S i) → ∀ i, bit (nthN cls j) i = true → S i := by
      intro S hS j o ho hd i hi
      rw [← hclsd] at hi
      exact clsOf_spec hS ops.toList [] [] rfl rfl (fun j o ho => by simp at ho) j o ho hd i hi
    have hlow : ∀ j o, ops.toList[j]? = some o → ∀ i, bit (nthN cls j) i = true → i < j := fun j o ho i hi =>
      spec (S := fun i => i < j) (fun j' o' ho' hj' i' hi' => by have := hdeps j' o' ho' i' hi'; omega) j o ho (hdeps j o ho) i hi
    have mdep : ∀ {o : Oper} {i : Nat}, i ∈ deps o → ∃ e ∈ o.after, Region.binds .any e = true ∧ e.on = i := by
      intro o i hi
      unfold deps at hi
      obtain ⟨e, he, rfl⟩ := List.mem_map.1 hi
      obtain ⟨h1, h2⟩ := List.mem_filter.1 he
      exact ⟨e, by simpa using h1, h2, rfl⟩
    have hord : ∀ s s' b, (s, b) ∈ ws → (s', b) ∈ ws → s < s' → bit (nthN cls s') s = true := by
      intro s s' b h1 h2 hlt
      have := List.all_eq_true.1 (List.all_eq_true.1 hb3 _ h1) _ h2
      simp only [Bool.or_eq_true, Bool.not_eq_true'] at this
      rcases this with (h3 | h3) | h3
      · simp at h3
      · have : Nat.blt s s' = true := Nat.ble_eq_true_of_le hlt
        rw [this] at h3; exact absurd h3 (by simp)
      · exact h3
    split at h
    · rename_i A hA
      generalize hβ : clearD (dstsOf (ops.toList.take k)) (srcsOf (ops.toList.take k)) ws σ = β at *
      obtain ⟨hdesc, _, hA3, hA4⟩ := frees_get hA trivial (fun e he => by simp at he)
      have hops : ∀ j o, ops.toList[j]? = some o → j < k → (ops.toList.take k)[j]? = some o := fun j o ho hj => by rw [List.getElem?_take, if_pos hj]; exact ho
      have hAk : ∀ e ∈ A, e.i < k ∧ ∃ o, ops.toList[e.i]? = some o := by
        intro e he
        rcases hA3 e he with h1 | ⟨_, o, h2⟩
        · simp at h1
        · rw [Nat.sub_zero, List.getElem?_take] at h2
          split at h2
          · exact ⟨by assumption, o, h2⟩
          · exact absurd h2 (by simp)
      -- each entry was made by its operation
      have hmk : ∀ e ∈ A, ∃ o, ops.toList[e.i]? = some o ∧ (∀ t v, e.tm = some (t, v) → o.dst = some t) ∧ (∀ t l, e.ln = some (t, l) → o.dst = some t ∧ keepL (dstsOf (ops.toList.take k)) ws l = true) ∧ ∀ b cs, e.bx = some (b, cs) → (e.i, b) ∈ ws := by
        intro e he
        obtain ⟨h1, o, h2⟩ := hAk e he
        obtain ⟨e', q1, q2, A', q3, _⟩ := hA4 e.i o (hops _ _ h2 h1)
        have : e' = e := hdesc.uniq q1 he (by omega)
        subst this
        obtain ⟨r1, r2, r3, r4⟩ := freeOp_en q3
        rw [← r1] at r4
        exact ⟨o, h2, r2, r3, r4⟩
      let dOf : Nat → Option Nat := fun i => (ops.toList[i]?).bind (·.dst)
      have dof : ∀ {i o}, ops.toList[i]? = some o → dOf i = o.dst := fun ho => by simp only [dOf, ho, Option.bind_some]
      -- the frame is built in whatever order
      have key : ∀ (fuel : Nat) (listed : Array Bool) (ρ : St) (g1 : G) (a1 : Act) (w1 : World), Inv P B g1 ρ a1 w1 → Fr B ⟨g.β, g.hw⟩ σ w0 g1 ρ w1 → listed.size = ops.size → RI β A (L listed) ρ → (∀ s, L listed s → ∀ o, ops.toList[s]? = some o → ∀ i ∈ deps o, L listed i) → (∀ i, L listed i → i < k) →
          cnt listed k + (ops.size - k) ≤ fuel → wpAny P .any ops (fun ex a' w' => exOk .normal ex ∧ ∃ g', Inv P B g' σ' a' w' ∧ Fr B g σ w g' σ' w') fuel listed a1 w1 := by
        intro fuel
        induction fuel with
        | zero =>
          intro listed ρ g1 a1 w1 hI1 hF1 hsz hRI hcl hlk hf
          have hS : ∀ e ∈ A, L listed e.i := fun e he => cnt_zero (k := k) (by omega) e.i (hAk e he).1
          have hsub := fin_sub hRI hS hdesc hI1
          refine tails_sound (k := k) (B := B) (σ' := σ') hT hdeps ?_ 0 k listed (finSt β A) g1 a1 w1 (inv_weak hI1 hsub) hsz (Nat.le_refl _) hkn (fun i => ⟨hlk i, cnt_zero (by omega) i⟩) (by omega) h (fun a' w' hp => ?_)
          · intro j hj hjn listed' h1 h2 i hi
            have ho : ops.toList[j]? = some ops[j] := by rw [Array.getElem?_toList]; exact Array.getElem?_eq_getElem hjn
            refine spec (fun s o hso hs => h2 s hs o hso) j _ ho (fun d hd => ?_) i ?_
            · obtain ⟨e, e1, e2, rfl⟩ := mdep hd
              exact h1 _ (Array.getElem?_eq_getElem hjn) e e1 e2
            · exact tailFrom_get (cls := cls) (n := ops.toList.length) j (by omega) (by simpa using hjn) i hi
          · obtain ⟨g2, i2, f2⟩ := hp
            exact ⟨trivial, g2, i2, hF0.trans ((fr_weakR hF1 hsub).trans f2)⟩
        | succ fuel ih =>
          intro listed ρ g1 a1 w1 hI1 hF1 hsz hRI hcl hlk hf
          by_cases hc : cnt listed k = 0
          · have hS : ∀ e ∈ A, L listed e.i := fun e he => cnt_zero hc e.i (hAk e he).1
            have hsub := fin_sub hRI hS hdesc hI1
            refine tails_sound (k := k) (B := B) (σ' := σ') hT hdeps ?_ (fuel + 1) k listed (finSt β A) g1 a1 w1 (inv_weak hI1 hsub) hsz (Nat.le_refl _) hkn (fun i => ⟨hlk i, cnt_zero hc i⟩) (by omega) h (fun a' w' hp => ?_)
            · intro j hj hjn listed' h1 h2 i hi
              have ho : ops.toList[j]? = some ops[j] := by rw [Array.getElem?_toList]; exact Array.getElem?_eq_getElem hjn
              refine spec (fun s o hso hs => h2 s hs o hso) j _ ho (fun d hd => ?_) i ?_
              · obtain ⟨e, e1, e2, rfl⟩ := mdep hd
                exact h1 _ (Array.getElem?_eq_getElem hjn) e e1 e2
              · exact tailFrom_get (cls := cls) (n := ops.toList.length) j (by omega) (by simpa using hjn) i hi
            · obtain ⟨g2, i2, f2⟩ := hp
              exact ⟨trivial, g2, i2, hF0.trans ((fr_weakR hF1 hsub).trans f2)⟩
          · obtain ⟨i0, p1, p2, p3⟩ := cnt_pos hc
            refine ⟨fun hnil => ?_, fun j hj => ?_⟩
            · have hi0 : i0 < ops.size := by omega
              have ho : ops[i0]? = some ops[i0] := Array.getElem?_eq_getElem hi0
              have : i0 ∈ Region.ready .any ops listed := mem_ready.2 ⟨of_not_L p2 (by omega), ops[i0], ho, fun e he hb => p3 e.on (hdeps i0 ops[i0] (by rw [Array.getElem?_toList]; exact ho) e.on (List.mem_map.2 ⟨e, List.mem_filter.2 ⟨by simpa using he, hb⟩, rfl⟩))⟩
              rw [hnil] at this
              exact absurd this (by simp)
            · obtain ⟨q1, o, q2, q3⟩ := mem_ready.1 hj
              obtain ⟨q4, q5⟩ := not_L q1
              have hjn : j < ops.size := (Array.getElem?_eq_some_iff.1 q2).1
              have ho : ops.toList[j]? = some o := by rw [Array.getElem?_toList]; exact q2
              have hdl : ∀ i ∈ deps o, L listed i := fun i hi => by obtain ⟨e, e1, e2, rfl⟩ := mdep hi; exact q3 e e1 e2
              have hbits : ∀ i, bit (nthN cls j) i = true → L listed i := spec (fun s o' hso hs => hcl s hs o' hso) j o ho hdl
              have hjk : j < k := by
                rcases Nat.lt_or_ge j k with h1 | h1
                · exact h1
                · exact absurd (hbits i0 (tailFrom_get (cls := cls) (n := ops.toList.length) j (by omega) (by simpa using hjn) i0 (by omega))) p2
              obtain ⟨e, r1, r2, A', r3, r4, r5, r6⟩ := hA4 j o (hops j o ho hjk)
              rw [Nat.zero_add] at r2 r3 r6
              have hclb : ∀ s, L listed s → ∀ i, bit (nthN cls s) i = true → L listed i := by
                intro s hs i hi
                have hsl : s < ops.size := by have := hlk s hs; omega
                have hso : ops.toList[s]? = some ops[s] := by rw [Array.getElem?_toList]; exact Array.getElem?_eq_getElem hsl
                exact spec (fun s o' hso hs => hcl s hs o' hso) s _ hso (hcl s hs _ hso) i hi
              have hsub := tau_sub (ws := ws) (cls := cls) (A := A') (j := j) hRI r5 r4 hbits q4 hclb (fun e he b cs hbx => by obtain ⟨o', _, _, _, hh⟩ := hmk e he; exact hh b cs hbx) (fun e he hbit => r6 e he (hlow j o ho _ hbit)) (looksOf ops.toList o)
              unfold wpOp
              rw [q2]
              simp only
              have hdOfD : ∀ i d, dOf i = some d → L listed i ∨ i = e.i → d ∈ dstsOf (ops.toList.take k) := by
                intro i d hd hi
                have hik : i < k := by
                  rcases hi with hi | hi
                  · exact hlk i hi
                  · omega
                have hin : i < ops.size := by omega
                have hio : ops.toList[i]? = some ops[i] := by rw [Array.getElem?_toList]; exact Array.getElem?_eq_getElem hin
                rw [dof hio] at hd
                exact dsts_mem (hops i _ hio hik) hd
              refine (fun hh => ?_) (freeOp_step hΓ hR r3 hI1 hsub hRI.ro (fun d hd hn hmin => ?_) (Q := fun ex a' w' => exOk .normal ex ∧ ∃ g', Inv P B g' σ' a' w' ∧ Fr B g σ w g' σ' w') (K := wpAny P .any ops (fun ex a' w' => exOk .normal ex ∧ ∃ g', Inv P B g' σ' a' w' ∧ Fr B g σ w g' σ' w') fuel (listed.setIfInBounds j true)) (fun ρ' a' w' hp hst => ?_))
              · split
                · rename_i hw; rw [if_pos hw] at hh; exact .inl hh
                · rename_i hw; rw [if_neg hw] at hh; exact hh
              · rw [hRI.bx0 d (fun e' he' cs hcs hS' => ?_)]
                · exact hn
                · obtain ⟨o', _, _, _, hh⟩ := hmk e' he'
                  have hmem := hh d cs hcs
                  have h1 := hmin e'.i hmem
                  have h2 : e'.i ≠ j := fun ee => by rw [ee] at hS'; exact q4 hS'
                  exact q4 (hclb e'.i hS' j (hord j e'.i d hd hmem (by omega)))
              · obtain ⟨g2, i2, f2⟩ := hp
                rw [← dof ho, ← r2] at hst
                have hri := RI.step (A := A) (S := L listed) (dOf := dOf) (D := dstsOf (ops.toList.take k)) (Src := srcsOf (ops.toList.take k)) (ws := ws) (cls := cls) hRI hst (by rw [r2]; exact q4) (fun e' he' hi => hdesc.uniq he' r1 hi) hclb hdOfD
                  (fun i hi d hd hd' => by
                    have hik := hlk i hi
                    have hin : i < ops.size := by omega
                    have hio : ops.toList[i]? = some ops[i] := by rw [Array.getElem?_toList]; exact Array.getElem?_eq_getElem hin
                    rw [dof hio] at hd
                    rw [r2, dof ho] at hd'
                    have := dsts_inj hb2 (hops i _ hio hik) (hops j _ ho hjk) hd hd'
                    rw [this] at hi
                    exact q4 hi)
                  (fun e' he' t v ht => by obtain ⟨o', h1, h2, _⟩ := hmk e' he'; rw [dof h1]; exact h2 t v ht)
                  (fun e' he' t l hl => by obtain ⟨o', h1, _, h2, _⟩ := hmk e' he'; rw [dof h1]; exact h2 t l hl)
                  (fun e' he' b cs hbx => by obtain ⟨o', _, _, _, h2⟩ := hmk e' he'; exact h2 b cs hbx) r1 hord
                  (fun t v ht hm => by
                    rw [← hβ] at ht
                    rw [show (clearD (dstsOf (ops.toList.take k)) (srcsOf (ops.toList.take k)) ws σ).tmps = σ.tmps.filter fun (t, _) => !(has t (dstsOf (ops.toList.take k))) from rfl, lk_filter (fun t => !(has t (dstsOf (ops.toList.take k)))), has_iff.2 hm] at ht
                    exact absurd ht (by simp))
                  (fun t l hm => by
                    rw [← hβ] at hm
                    have := (List.mem_filter.1 hm).2
                    simp only [Bool.and_eq_true, Bool.not_eq_true'] at this
                    exact ⟨fun hD => by rw [has_iff.2 hD] at this; exact absurd this.1 (by simp), this.2⟩)
                  (fun l E hl => by
                    rw [← hβ] at hl
                    rw [show (clearD (dstsOf (ops.toList.take k)) (srcsOf (ops.toList.take k)) ws σ).own = σ.own.filter fun (l, _) => keepL (dstsOf (ops.toList.take k)) ws l && keepL (srcsOf (ops.toList.take k)) [] l from rfl, lkL_filter (fun l => keepL (dstsOf (ops.toList.take k)) ws l && keepL (srcsOf (ops.toList.take k)) [] l)] at hl
                    split at hl
                    · rename_i hkp; rw [Bool.and_eq_true] at hkp; exact hkp
                    · exact absurd hl (by simp))
                have hSS : (fun i => L listed i ∨ i = e.i) = L (listed.setIfInBounds j true) := by
                  funext i
                  rw [r2]
                  exact propext (L_set q5 i).symm
                rw [hSS] at hri
                refine ih _ ρ' g2 a' w' i2 (hF1.trans f2) (by simp [hsz]) hri (fun s hs o' ho' i hi => ?_) (fun i hi => ?_) ?_
                · rcases (L_set q5 s).1 hs with hs | hs
                  · exact (L_set q5 i).2 (.inl (hcl s hs o' ho' i hi))
                  · subst hs
                    rw [ho] at ho'
                    cases ho'
                    exact (L_set q5 i).2 (.inl (hdl i hi))
                · rcases (L_set q5 i).1 hi with hi | hi
                  · exact hlk i hi
                  · omega
                · have := cnt_set q5 q4 hjk
                  omega
      refine key ops.size _ σ ⟨g.β, g.hw⟩ a w0 hI0 Fr.refl (by simp) ?_ (fun s hs => ?_) (fun i hi => ?_) ?_
      · have hno : L (Array.replicate ops.size false) = fun _ => False := by
          funext i
          refine propext ⟨fun hl => ?_, False.elim⟩
          unfold L at hl
          rw [Array.getD_eq_getD_getElem?, Array.getElem?_replicate] at hl
          split at hl <;> simp at hl
        rw [hno, ← hβ]
        exact clear_ri
      · unfold L at hs
        rw [Array.getD_eq_getD_getElem?, Array.getElem?_replicate] at hs
        split at hs <;> simp at hs
      · unfold L at hi
        rw [Array.getD_eq_getD_getElem?, Array.getElem?_replicate] at hi
        split at hi <;> simp at hi
      · have := cnt_le (Array.replicate ops.size false) k
        omega
    · exact absurd h (by simp)
end
end Go.Ev
namespace Go.Ev
open Go.RowKit

/-! Slices over the frame's own boxes are made public: their boxes are only read from now on. -/
def firstBs : List PV → Nat → Option Nat
  | [], _ => none
  | x :: r, j => match x with
    | .bs _ _ _ _ => some j
    | _ => firstBs r (j + 1)
def pub1 (σ : St) (b j : Nat) (cs : List PV) : Option St :=
  match cs[j]? with
  | some (.bs d off n s) => match lk d σ.boxes with
    | some ds => bif Nat.ble (off + n * s) ds.length && hdOk ((ds.drop off).take (n * s)) then
        some { σ with ro := d :: σ.ro, boxes := (b, cs.set j (.lst (chunk s n ((ds.drop off).take (n * s))))) :: σ.boxes }
      else none
    | none => none
  | _ => none
def pubIn (σ : St) : List (Nat × List PV) → Option St
  | [] => none
  | (b, _) :: r => match lk b σ.boxes with
    | some cs => match firstBs cs 0 with
      | some j => match pub1 σ b j cs with
        | some σ1 => some σ1
        | none => pubIn σ r
      | none => pubIn σ r
    | none => pubIn σ r
def pub : Nat → St → Option St
  | 0, _ => none
  | k + 1, σ => match pubIn σ σ.boxes with
    | some σ1 => match pub k σ1 with
      | some σ2 => some σ2
      | none => some σ1
    | none => none

section
variable {P : Program} {B : Nat} {g : G} {σ : St} {a : Act} {w : World} {o : Oper}

/-- A box is told otherwise. -/
theorem box_upd (hI : Inv P B g σ a w) {b : Nat} {cs cs' : List PV} (hb : lk b σ.boxes = some cs) (hl : cs.length = cs'.length) (h : ∀ k base, g.β b = some (k, base) → BoxOk g w k base cs')
    (hr : ∀ y ∈ cs', ∀ b', refP y = some b' → ∃ c, lk b' σ.boxes = some c) : Inv P B g { σ with boxes := (b, cs') :: σ.boxes } a w ∧ Fr B g σ w g { σ with boxes := (b, cs') :: σ.boxes } w := by
  have bx : ∀ b2 c2, lk b2 ((b, cs') :: σ.boxes) = some c2 → ∃ c1, lk b2 σ.boxes = some c1 ∧ c1.length = c2.length := by
    intro b2 c2 h2
    rw [lk_cons] at h2
    split at h2
    · rename_i e
      subst e
      have := Option.some.inj h2
      subst this
      exact ⟨cs, hb, hl⟩
    · exact ⟨c2, h2, rfl⟩
  have isb : ∀ b2, (∃ c, lk b2 σ.boxes = some c) → ∃ c, lk b2 ((b, cs') :: σ.boxes) = some c := by
    rintro b2 ⟨c, h2⟩
    rw [lk_cons]
    split
    · exact ⟨cs', rfl⟩
    · exact ⟨c, h2⟩
  refine ⟨⟨hI.size, hI.defers, hI.tmp, fun t b2 off ht => isb b2 (hI.ptr t b2 off ht), fun t f bs ht b2 hb2 => isb b2 (hI.fnp t f bs ht b2 hb2), fun b2 c2 h2 => ?_, fun b1 b2 c1 c2 k base base' h1 h2 h3 h4 => ?_, hI.hwlt, hI.base, hI.glob, fun l E hlo => ?_, fun l E hlo => ?_, hI.owninj, hI.al, fun t b2 c hm => isb b2 (hI.alt t b2 c hm), fun t b2 off n s ht => isb b2 (hI.sl t b2 off n s ht), fun b2 c2 h2 y hy b' hb' => ?_⟩,
    ⟨rfl, rfl, rfl, Nat.le_refl _, rfl, fun _ _ _ => rfl, fun _ _ _ _ => rfl, fun _ _ _ => rfl, fun _ _ _ => rfl, fun b2 c2 _ h2 => by obtain ⟨c1, e1, e2⟩ := bx b2 c2 h2; exact ⟨c1, e1, e2, rfl⟩, Ext.refl _ _⟩⟩
  · have h2' := h2
    change lk b2 ((b, cs') :: σ.boxes) = some c2 at h2'
    rw [lk_cons] at h2'
    split at h2'
    · rename_i e
      subst e
      have := Option.some.inj h2'
      subst this
      obtain ⟨k, base, q1, q2, _, q4, q5⟩ := hI.box b2 cs hb
      exact ⟨k, base, q1, q2, h k base q1, q4, q5⟩
    · exact hI.box b2 c2 h2'
  · obtain ⟨d1, e1, _⟩ := bx b1 c1 h1
    obtain ⟨d2, e2, _⟩ := bx b2 c2 h2
    exact hI.inj b1 b2 d1 d2 k base base' e1 e2 h3 h4
  · obtain ⟨val, h1, h2, h3⟩ := hI.own l E hlo
    exact ⟨val, h1, h2, fun k hk b2 c2 base h4 => by obtain ⟨c1, e1, _⟩ := bx b2 c2 h4; exact h3 k hk b2 c1 base e1⟩
  · have := hI.ownt l E hlo
    cases l with
    | t t => exact this
    | b b2 c => exact isb b2 this
  · have h2' := h2
    change lk b2 ((b, cs') :: σ.boxes) = some c2 at h2'
    rw [lk_cons] at h2'
    split at h2'
    · have := Option.some.inj h2'
      subst this
      exact isb b' (hr y hy b' hb')
    · exact isb b' (hI.ref b2 c2 h2' y hy b' hb')

theorem pub1_inv (hI : Inv P B g σ a w) {b j : Nat} {cs : List PV} (hb : lk b σ.boxes = some cs) {σ1 : St} (h : pub1 σ b j cs = some σ1) : ∃ g1, Inv P B g1 σ1 a w ∧ Fr B g σ w g1 σ1 w := by
  unfold pub1 at h
  split at h
  · rename_i d off n s hj
    split at h
    · rename_i ds hd
      cases hc : (Nat.ble (off + n * s) ds.length && hdOk ((ds.drop off).take (n * s))) with
      | false => rw [hc] at h; exact absurd h (by simp)
      | true =>
        rw [hc] at h
        have := Option.some.inj h
        subst this
        rw [Bool.and_eq_true] at hc
        have hle := Nat.le_of_ble_eq_true hc.1
        obtain ⟨k, base, hk, hlt, hok, _⟩ := hI.box d ds hd
        obtain ⟨h1, f1⟩ := freeze_inv hI hd hk
        have hlt' : j < cs.length := (List.getElem?_eq_some_iff.1 hj).1
        have hlen : ((ds.drop off).take (n * s)).length = n * s := by rw [List.length_take, List.length_drop]; omega
        have c1 : ∀ k2 base2, (⟨g.β, fun j => if j = k then max (g.hw j) (base + ds.length) else g.hw j⟩ : G).β b = some (k2, base2) → BoxOk ⟨g.β, fun j => if j = k then max (g.hw j) (base + ds.length) else g.hw j⟩ w k2 base2 (cs.set j (.lst (chunk s n ((ds.drop off).take (n * s))))) := by
          intro k2 base2 hk2
          obtain ⟨k3, base3, q1, _, q3, _⟩ := h1.box b cs hb
          rw [q1] at hk2
          have := Option.some.inj hk2
          cases this
          refine ⟨fun i y hy => ?_⟩
          rw [List.getElem?_set] at hy
          split at hy
          · rename_i e
            subst e
            have := Option.some.inj hy
            subst this
            obtain ⟨v, r1, r2, r3, r4⟩ := q3.cell j _ hj
            refine ⟨v, r1, r2, r3, .rep ?_⟩
            cases r4 with
            | rep h => cases h
            | bs _ _ _ _ h =>
              obtain ⟨k4, base4, cap, s1, s2, s3⟩ := h
              have s1' : g.β d = some (k4, base4) := s1
              rw [hk] at s1'
              cases s1'
              rw [s3]
              obtain ⟨k5, base5, t1, _, t3, _⟩ := h1.box d ds hd
              have t1' : g.β d = some (k5, base5) := t1
              rw [hk] at t1'
              cases t1'
              exact whole_rep_cap hlen t3.part.cells hc.2 s2 (by simp only [if_true]; omega)
          · exact q3.cell i y hy
        have c2 : ∀ y ∈ cs.set j (.lst (chunk s n ((ds.drop off).take (n * s)))), ∀ b', refP y = some b' → ∃ c, lk b' σ.boxes = some c := by
          intro y hy b' hb'
          obtain ⟨i, hi, rfl⟩ := List.getElem_of_mem hy
          have hy' := List.getElem?_eq_getElem hi
          rw [List.getElem?_set] at hy'
          split at hy'
          · rename_i e
            subst e
            rw [← Option.some.inj hy'] at hb'
            exact absurd hb' (by simp [refP])
          · exact hI.ref b cs hb _ (List.mem_of_getElem? hy') b' hb'
        obtain ⟨h2, f2⟩ := box_upd h1 (b := b) (cs := cs) (cs' := cs.set j (.lst (chunk s n ((ds.drop off).take (n * s))))) hb (by simp) c1 c2
        exact ⟨_, h2, f1.trans f2⟩
    · exact absurd h (by simp)
  · exact absurd h (by simp)

theorem pubIn_inv (hI : Inv P B g σ a w) : ∀ {l : List (Nat × List PV)} {σ1 : St}, pubIn σ l = some σ1 → ∃ g1, Inv P B g1 σ1 a w ∧ Fr B g σ w g1 σ1 w
  | [], σ1, h => by simp [pubIn] at h
  | (b, _) :: r, σ1, h => by
    unfold pubIn at h
    split at h
    · rename_i cs hcs
      split at h
      · split at h
        · rename_i σ2 h2
          have := Option.some.inj h
          subst this
          exact pub1_inv hI hcs h2
        · exact pubIn_inv hI h
      · exact pubIn_inv hI h
    · exact pubIn_inv hI h

theorem pub_inv : ∀ {k : Nat} {g : G} {σ σ1 : St}, Inv P B g σ a w → pub k σ = some σ1 → ∃ g1, Inv P B g1 σ1 a w ∧ Fr B g σ w g1 σ1 w
  | 0, g, σ, σ1, _, h => by simp [pub] at h
  | k + 1, g, σ, σ1, hI, h => by
    unfold pub at h
    split at h
    · rename_i σ2 h2
      obtain ⟨g2, i2, f2⟩ := pubIn_inv hI h2
      split at h
      · rename_i σ3 h3
        have := Option.some.inj h
        subst this
        obtain ⟨g3, i3, f3⟩ := pub_inv i2 h3
        exact ⟨g3, i3, f2.trans f3⟩
      · have := Option.some.inj h
        subst this
        exact ⟨g2, i2, f2⟩
    · exact absurd h (by simp)

theorem tri_pub {k : Nat} {c : Code} {e : Ex} {σ1 σ' : St} (hp : pub k σ = some σ1) (h : Tri P c σ1 e σ') : Tri P c σ e σ' := fun B g a w hI => by
  obtain ⟨g1, i1, f1⟩ := pub_inv hI hp
  exact wp_mono (h B g1 a w i1) fun _ _ _ ⟨h1, g', h2, h3⟩ => ⟨h1, g', h2, f1.trans h3⟩
end
end Go.Ev
namespace Go.Ev
open Go.RowKit

def avOff (N : List Nat) : AV → Bool
  | .p _ => true
  | .ptr b _ => !(has b N)
  | .fnp _ bs => bs.all fun b => !(has b N)
  | .sl b _ _ _ => !(has b N)
def cmpT (N : List Nat) : List (Nat × AV) → Nat → List (Nat × AV)
  | [], _ => []
  | (t, v) :: r, s => bif bit s t then cmpT N r s else bif avOff N v then (t, v) :: cmpT N r (Nat.lor s (Nat.shiftLeft 1 t)) else cmpT N r (Nat.lor s (Nat.shiftLeft 1 t))
def cmpB (N : List Nat) : List (Nat × List PV) → Nat → List (Nat × List PV)
  | [], _ => []
  | (b, v) :: r, s => bif bit s b then cmpB N r s else bif has b N then cmpB N r (Nat.lor s (Nat.shiftLeft 1 b)) else (b, v) :: cmpB N r (Nat.lor s (Nat.shiftLeft 1 b))
def locOff (N : List Nat) : Loc → Bool
  | .t _ => true
  | .b b _ => !(has b N)

/-- The frame without the boxes N, and told once. -/
def clean0 (N : List Nat) (σ : St) : St :=
  { σ with tmps := cmpT N σ.tmps 0, boxes := cmpB N σ.boxes 0, own := σ.own.filter fun (l, _) => locOff N l, al := σ.al.filter fun (_, l) => locOff N l }

/-- Boxes that lead to others; those of them that lead to what goes, or on. -/
def spB : List (Nat × List PV) → List (Nat × List Nat)
  | [] => []
  | (b, cs) :: r => match refsOf cs with
    | [] => spB r
    | l => (b, l) :: spB r
def hasK {α : Type} (b : Nat) : List (Nat × α) → Bool
  | [] => false
  | (b', _) :: r => Nat.beq b b' || hasK b r
def badB (N : List Nat) (sp : List (Nat × List Nat)) : List (Nat × List Nat) → List Nat
  | [] => []
  | (b, l) :: r => bif l.any (fun b' => has b' N || hasK b' sp) then b :: badB N sp r else badB N sp r
def clean (N : List Nat) (σ : St) : St := match spB σ.boxes with
  | [] => clean0 N σ
  | sp => clean0 (badB N sp sp ++ N) σ

def newsOps : List Oper → List Nat
  | [] => []
  | o :: r => match o.op, o.dst with
    | .alloc _, some d => d :: newsOps r
    | .box _ _, some d => d :: newsOps r
    | .buildSlice _ _ _, some d => d :: newsOps r
    | .call ⟨.builtin .append, _, _⟩, some d => d :: newsOps r
    | _, _ => newsOps r
def newsOf : Code → List Nat
  | .region _ ops _ => newsOps ops.toList
  | .seq x y => newsOf x ++ newsOf y
  | .cond _ x y => newsOf x ++ newsOf y
  | .block _ c => newsOf c
  | .loop c => newsOf c
  | .scope c => newsOf c
  | _ => []

/-- The box that an operand leads to, if it can be told ahead. -/
def boxOf (ops : List Oper) (σ : St) : Nat → Operand → Option Nat
  | 0, _ => none
  | n + 1, .tmp t => match ops.find? (fun o => match o.dst with | some d => Nat.beq d t | none => false) with
    | some o => match o.op with
      | .alloc _ => some t
      | .box _ _ => some t
      | .fieldAddr _ p _ => boxOf ops σ n p
      | .indexAddr _ p _ => boxOf ops σ n p
      | .nilCheck p => boxOf ops σ n p
      | .move p => boxOf ops σ n p
      | .assign p => boxOf ops σ n p
      | _ => none
    | none => match lk t σ.tmps with
      | some (.ptr b _) => some b
      | _ => none
  | _, _ => none
def wsOf (ops : List Oper) (σ : St) : List Oper → Nat → List (Nat × Nat)
  | [], _ => []
  | o :: r, j => match o.op, o.dst with
    | .alloc _, some d => (j, d) :: wsOf ops σ r (j + 1)
    | .box _ _, some d => (j, d) :: wsOf ops σ r (j + 1)
    | .store _ p _, _ => match boxOf ops σ 20 p with
      | some b => (j, b) :: wsOf ops σ r (j + 1)
      | none => wsOf ops σ r (j + 1)
    | _, _ => wsOf ops σ r (j + 1)

/-- A code is run; at most so deep. -/
def evReg (Γ : List (Nat × Ty)) (R : Nat → St → Oper → Option Res) (T : Nat → St → Oper → Option St) (ops : Array Oper) (d : Bool) (σ : St) : Option St :=
  match d with
  | true => evDraw Γ R T ops.toList σ (wsOf ops.toList σ (ops.toList.take (tailFrom (clsOf ops.toList []) ops.toList.length)) 0)
  | false => tails T ops.toList ops.toList 0 σ

def exCode (Γ : List (Nat × Ty)) (R : Nat → St → Oper → Option Res) (T : Nat → St → Oper → Option St) : Nat → Option Code → Code → St → Option (Ex × St)
  | 0, _, _, _ => none
  | n + 1, some s, c, σ => match exCode Γ R T n none c (clean (newsOf s) σ) with
    | some (.goto l, σ1) => match findLabel s l with
      | some rest => exCode Γ R T n (some s) rest σ1
      | none => none
    | r => r
  | n + 1, none, c, σ => match c with
    | .scope s => exCode Γ R T n (some s) s σ
    | .skip => some (.normal, σ)
    | .label _ => some (.normal, σ)
    | .exit i => some (.exit i, σ)
    | .goto i => some (.goto i, σ)
    | .ret => some (.ret, σ)
    | .region _ ops d => match evReg Γ R T ops d σ with
      | some σ' => some (.normal, σ')
      | none => match pub 8 σ with
        | some σ1 => match evReg Γ R T ops d σ1 with
          | some σ' => some (.normal, σ')
          | none => none
        | none => none
    | .seq x y => match exCode Γ R T n none x σ with
      | some (.normal, σ1) => exCode Γ R T n none y σ1
      | r => r
    | .cond c x y => match pvOf σ c with
      | some (.v (.bool true)) => exCode Γ R T n none x σ
      | some (.v (.bool false)) => exCode Γ R T n none y σ
      | _ => none
    | .block id c => match exCode Γ R T n none c σ with
      | some (.exit i, σ1) => some (bif Nat.beq i id then .normal else .exit i, σ1)
      | r => r
    | .loop c => match exCode Γ R T n none c (clean (newsOf c) σ) with
      | some (.normal, σ1) => exCode Γ R T n none (.loop c) σ1
      | r => r
    | _ => none

section
variable {P : Program} {B : Nat} {g : G} {σ τ : St} {a : Act} {w : World}

theorem cmpT_get {N : List Nat} {t : Nat} {v : AV} : ∀ {l : List (Nat × AV)} {s : Nat}, lk t (cmpT N l s) = some v → bit s t = false ∧ lk t l = some v ∧ avOff N v = true
  | [], s, h => by simp [cmpT, lk] at h
  | (t0, v0) :: r, s, h => by
    unfold cmpT at h
    have go : ∀ {s'}, (∀ i, bit s i = true → bit s' i = true) → bit s' t0 = true → lk t (cmpT N r s') = some v → bit s t = false ∧ lk t ((t0, v0) :: r) = some v ∧ avOff N v = true := by
      intro s' hs h0 h
      obtain ⟨h1, h2, h3⟩ := cmpT_get h
      have hne : t ≠ t0 := fun e => by rw [e, h0] at h1; exact absurd h1 (by simp)
      refine ⟨?_, by rw [lk_cons, if_neg hne]; exact h2, h3⟩
      cases hb : bit s t with
      | false => rfl
      | true => rw [hs t hb] at h1; exact absurd h1 (by simp)
    have up : ∀ i, bit s i = true → bit (Nat.lor s (Nat.shiftLeft 1 t0)) i = true := fun i hi => by rw [bit_or, hi]; rfl
    have up0 : bit (Nat.lor s (Nat.shiftLeft 1 t0)) t0 = true := by
      rw [bit_or]
      have : bit (Nat.shiftLeft 1 t0) t0 = true := by
        show Nat.testBit (1 <<< t0) t0 = true
        rw [Nat.testBit_shiftLeft]; simp
      rw [this]; simp
    cases hb : bit s t0 with
    | true =>
      rw [hb] at h
      exact go (fun _ h => h) hb h
    | false =>
      rw [hb] at h
      simp only [cond_false] at h
      cases ho : avOff N v0 with
      | true =>
        rw [ho] at h
        simp only [cond_true, lk_cons] at h
        split at h
        · rename_i e
          have := Option.some.inj h
          subst this; subst e
          exact ⟨hb, by rw [lk_cons, if_pos rfl], ho⟩
        · exact go up up0 h
      | false =>
        rw [ho] at h
        exact go up up0 h
theorem cmpB_get {N : List Nat} {t : Nat} {v : List PV} : ∀ {l : List (Nat × List PV)} {s : Nat}, lk t (cmpB N l s) = some v → bit s t = false ∧ lk t l = some v
  | [], s, h => by simp [cmpB, lk] at h
  | (t0, v0) :: r, s, h => by
    unfold cmpB at h
    have go : ∀ {s'}, (∀ i, bit s i = true → bit s' i = true) → bit s' t0 = true → lk t (cmpB N r s') = some v → bit s t = false ∧ lk t ((t0, v0) :: r) = some v := by
      intro s' hs h0 h
      obtain ⟨h1, h2⟩ := cmpB_get h
      have hne : t ≠ t0 := fun e => by rw [e, h0] at h1; exact absurd h1 (by simp)
      refine ⟨?_, by rw [lk_cons, if_neg hne]; exact h2⟩
      cases hb : bit s t with
      | false => rfl
      | true => rw [hs t hb] at h1; exact absurd h1 (by simp)
    have up : ∀ i, bit s i = true → bit (Nat.lor s (Nat.shiftLeft 1 t0)) i = true := fun i hi => by rw [bit_or, hi]; rfl
    have up0 : bit (Nat.lor s (Nat.shiftLeft 1 t0)) t0 = true := by
      rw [bit_or]
      have : bit (Nat.shiftLeft 1 t0) t0 = true := by
        show Nat.testBit (1 <<< t0) t0 = true
        rw [Nat.testBit_shiftLeft]; simp
      rw [this]; simp
    cases hb : bit s t0 with
    | true =>
      rw [hb] at h
      exact go (fun _ h => h) hb h
    | false =>
      rw [hb] at h
      simp only [cond_false] at h
      cases ho : has t0 N with
      | true =>
        rw [ho] at h
        exact go up up0 h
      | false =>
        rw [ho] at h
        simp only [cond_false, lk_cons] at h
        split at h
        · rename_i e
          have := Option.some.inj h
          subst this; subst e
          exact ⟨hb, by rw [lk_cons, if_pos rfl]⟩
        · exact go up up0 h
theorem cmpB_off {N : List Nat} {t : Nat} {v : List PV} : ∀ {l : List (Nat × List PV)} {s : Nat}, lk t (cmpB N l s) = some v → has t N = false
  | [], s, h => by simp [cmpB, lk] at h
  | (t0, v0) :: r, s, h => by
    unfold cmpB at h
    cases hb : bit s t0 with
    | true => rw [hb] at h; exact cmpB_off h
    | false =>
      rw [hb] at h
      simp only [cond_false] at h
      cases ho : has t0 N with
      | true => rw [ho] at h; exact cmpB_off h
      | false =>
        rw [ho] at h
        simp only [cond_false] at h
        rw [lk_cons] at h
        split at h
        · rename_i e; rw [e]; exact ho
        · exact cmpB_off h
theorem cmpB_has {N : List Nat} {t : Nat} {v : List PV} (hN : has t N = false) : ∀ {l : List (Nat × List PV)} {s : Nat}, bit s t = false → lk t l = some v → ∃ v', lk t (cmpB N l s) = some v'
  | [], s, _, h => by simp [lk] at h
  | (t0, v0) :: r, s, hs, h => by
    have keep : ∀ {t1}, t ≠ t1 → bit (Nat.lor s (Nat.shiftLeft 1 t1)) t = false := by
      intro t1 hne
      rw [bit_or, hs]
      cases hb : bit (Nat.shiftLeft 1 t1) t with
      | false => rfl
      | true => exact absurd (bit_one hb) hne
    unfold cmpB
    by_cases e : t = t0
    · subst e
      rw [hs, hN]
      simp only [cond_false, lk_cons, if_true]
      exact ⟨v0, rfl⟩
    · rw [lk_cons, if_neg e] at h
      cases hb : bit s t0 with
      | true => exact cmpB_has hN hs h
      | false =>
        simp only [cond_false]
        cases ho : has t0 N with
        | true => exact cmpB_has hN (keep e) h
        | false =>
          simp only [cond_false, lk_cons, if_neg e]
          exact cmpB_has hN (keep e) h

theorem clean0_sub {N : List Nat} (hI : Inv P B g σ a w) (hcl : ∀ b cs, lk b σ.boxes = some cs → has b N = false → ∀ y ∈ cs, ∀ b', refP y = some b' → has b' N = false) : Sub (clean0 N σ) σ := by
  have tm : ∀ t v, lk t (clean0 N σ).tmps = some v → lk t σ.tmps = some v ∧ avOff N v = true := fun t v h => (cmpT_get h).2
  have bx : ∀ b, has b N = false → (∃ cs, lk b σ.boxes = some cs) → ∃ cs, lk b (clean0 N σ).boxes = some cs := fun b hb ⟨cs, h⟩ => cmpB_has hb (bit_zero b) h
  have ow : ∀ l E, lkL l (clean0 N σ).own = some E → lkL l σ.own = some E ∧ locOff N l = true := by
    intro l E h
    rw [show (clean0 N σ).own = σ.own.filter fun (l, _) => locOff N l from rfl, lkL_filter (locOff N)] at h
    split at h
    · exact ⟨h, by assumption⟩
    · exact absurd h (by simp)
  have al : ∀ t l, (t, l) ∈ (clean0 N σ).al → (t, l) ∈ σ.al ∧ locOff N l = true := fun t l h => List.mem_filter.1 h
  refine ⟨rfl, fun t v h => (tm t v h).1, fun b cs h => (cmpB_get h).2, fun _ h => h, fun t b off h => ?_, fun t f bs h b hb => ?_, fun l E h => (ow l E h).1, fun b c E h => ?_, fun t l h => (al t l h).1, fun t b c h => ?_, fun t b off n s h => ?_, fun b cs h y hy b' hb' => ?_⟩
  · obtain ⟨h1, h2⟩ := tm t _ h
    exact bx b (by simpa [avOff] using h2) (hI.ptr t b off h1)
  · obtain ⟨h1, h2⟩ := tm t _ h
    exact bx b (by simpa using List.all_eq_true.1 h2 b hb) (hI.fnp t f bs h1 b hb)
  · obtain ⟨h1, h2⟩ := ow _ E h
    exact bx b (by simpa [locOff] using h2) (hI.ownt (.b b c) E h1)
  · obtain ⟨h1, h2⟩ := al t _ h
    exact bx b (by simpa [locOff] using h2) (hI.alt t b c h1)
  · obtain ⟨h1, h2⟩ := tm t _ h
    exact bx b (by simpa [avOff] using h2) (hI.sl t b off n s h1)
  · have h1 := cmpB_off h
    have h2 := (cmpB_get h).2
    exact bx b' (hcl b cs h2 h1 y hy b' hb') (hI.ref b cs h2 y hy b' hb')

theorem spB_mem : ∀ {l : List (Nat × List PV)} {b : Nat} {cs : List PV}, lk b l = some cs → ∀ {y : PV}, y ∈ cs → ∀ {b' : Nat}, refP y = some b' → ∃ rs, (b, rs) ∈ spB l ∧ b' ∈ rs
  | [], b, cs, h, _, _, _, _ => by simp [lk] at h
  | (b1, c1) :: r, b, cs, h, y, hy, b', hb' => by
    rw [lk_cons] at h
    split at h
    · rename_i e
      have := Option.some.inj h
      subst this; subst e
      have hm := refsOf_mem hy hb'
      unfold spB
      split
      · rename_i hn; rw [hn] at hm; exact absurd hm (by simp)
      · exact ⟨_, List.mem_cons_self .., hm⟩
    · obtain ⟨rs, h1, h2⟩ := spB_mem h hy hb'
      unfold spB
      split
      · exact ⟨rs, h1, h2⟩
      · exact ⟨rs, List.mem_cons_of_mem _ h1, h2⟩
theorem hasK_of {α : Type} {b : Nat} : ∀ {l : List (Nat × α)} {x : α}, (b, x) ∈ l → hasK b l = true
  | [], _, h => by simp at h
  | (b', z) :: r, x, h => by
    unfold hasK
    rcases List.mem_cons.1 h with e | h
    · cases e; simp
    · rw [hasK_of h, Bool.or_true]
theorem badB_mem {N : List Nat} {sp : List (Nat × List Nat)} : ∀ {l : List (Nat × List Nat)} {b : Nat}, b ∈ badB N sp l → ∃ rs, (b, rs) ∈ l
  | [], _, h => by simp [badB] at h
  | (b1, l1) :: r, b, h => by
    unfold badB at h
    cases hb : l1.any (fun b' => has b' N || hasK b' sp) with
    | false => rw [hb] at h; obtain ⟨rs, h⟩ := badB_mem h; exact ⟨rs, List.mem_cons_of_mem _ h⟩
    | true =>
      rw [hb] at h
      rcases List.mem_cons.1 h with e | h
      · subst e; exact ⟨l1, List.mem_cons_self ..⟩
      · obtain ⟨rs, h⟩ := badB_mem h; exact ⟨rs, List.mem_cons_of_mem _ h⟩
theorem badB_of {N : List Nat} {sp : List (Nat × List Nat)} : ∀ {l : List (Nat × List Nat)} {b b' : Nat} {rs : List Nat}, (b, rs) ∈ l → b' ∈ rs → (has b' N || hasK b' sp) = true → b ∈ badB N sp l
  | [], _, _, _, h, _, _ => by simp at h
  | (b1, l1) :: r, b, b', rs, h, hm, hx => by
    unfold badB
    rcases List.mem_cons.1 h with e | h
    · obtain ⟨rfl, rfl⟩ := Prod.mk.inj e
      have : rs.any (fun b' => has b' N || hasK b' sp) = true := List.any_eq_true.2 ⟨b', hm, hx⟩
      rw [this]
      exact List.mem_cons_self ..
    · cases l1.any (fun b' => has b' N || hasK b' sp) with
      | false => exact badB_of h hm hx
      | true => exact List.mem_cons_of_mem _ (badB_of h hm hx)

theorem clean_sub {N : List Nat} (hI : Inv P B g σ a w) : Sub (clean N σ) σ := by
  unfold clean
  cases hsp : spB σ.boxes with
  | nil =>
    refine clean0_sub hI (fun b cs h _ y hy b' hb' => ?_)
    obtain ⟨rs, h1, _⟩ := spB_mem h hy hb'
    rw [hsp] at h1
    exact absurd h1 (by simp)
  | cons s1 r1 =>
    simp only
    rw [← hsp]
    refine clean0_sub hI (fun b cs h hb y hy b' hb' => ?_)
    obtain ⟨rs, h1, h2⟩ := spB_mem h hy hb'
    have hbn : b ∉ badB N (spB σ.boxes) (spB σ.boxes) := fun hm => by
      rw [has_iff.2 (List.mem_append_left _ hm)] at hb
      exact absurd hb (by simp)
    have h3 : (has b' N || hasK b' (spB σ.boxes)) = false := by
      cases hx : (has b' N || hasK b' (spB σ.boxes)) with
      | false => rfl
      | true => exact absurd (badB_of h1 h2 hx) hbn
    rw [Bool.or_eq_false_iff] at h3
    cases hq : has b' (badB N (spB σ.boxes) (spB σ.boxes) ++ N) with
    | false => rfl
    | true =>
      rcases List.mem_append.1 (has_iff.1 hq) with hm | hm
      · obtain ⟨rs', hm'⟩ := badB_mem hm
        rw [hasK_of hm'] at h3
        exact absurd h3.2 (by simp)
      · rw [has_iff.2 hm] at h3
        exact absurd h3.1 (by simp)

theorem tri_clean {N : List Nat} {c : Code} {e : Ex} {σ' : St} (h : Tri P c (clean N σ) e σ') : Tri P c σ e σ' := fun B g a w hI =>
  wp_mono (h B g a w (inv_weak hI (clean_sub hI))) fun _ _ _ ⟨h1, g', h2, h3⟩ => ⟨h1, g', h2, fr_weakL h3 (clean_sub hI)⟩

theorem tails_seq {T : Nat → St → Oper → Option St} (hT : ∀ j σ o σ', T j σ o = some σ' → ∀ B g a w, Inv P B g σ a w → Goes P B g σ a w o σ') {ops : Array Oper} {Q : Exit → Act → World → Prop} :
    ∀ {l : List Oper} {j : Nat} {σ σ' : St} {g : G} {a : Act} {w : World}, Inv P B g σ a w → tails T ops.toList l j σ = some σ' → (∀ a' w', Post P B g σ w σ' a' w' → Q .normal a' w') → wpList P ops Q l a w
  | [], j, σ, σ', g, a, w, hI, h, hQ => by
    have := Option.some.inj h
    subst this
    exact hQ a w ⟨g, hI, Fr.refl⟩
  | o :: r, j, σ, σ', g, a, w, hI, h, hQ => by
    unfold tails at h
    refine wpList_step fun K hK => ?_
    split at h
    · rename_i hg
      split at h
      · rename_i σ1 h1
        rw [guard_sound hI hg, if_pos rfl]
        exact (hT _ _ _ _ h1 B g a w hI).wp fun v w1 ⟨g1, i1, f1⟩ => hK _ _ (tails_seq hT i1 h fun a' w' hp => hQ a' w' (hp.trans f1))
      · exact absurd h (by simp)
    · rename_i hg
      rw [guard_sound hI hg, if_neg (by simp)]
      split at h
      · rename_i d hd
        rw [hd]
        exact hK _ _ (tails_seq hT (inv_skipT hI d) h fun a' w' hp => hQ a' w' (hp.trans (fr_skipT d)))
      · rename_i hd
        rw [hd]
        exact hK _ _ (tails_seq hT hI h hQ)
    · exact absurd h (by simp)

theorem evReg_sound {Γ : List (Nat × Ty)} (hΓ : TyOk P Γ) (hm : P.follows .mixedOrders = true) {R : Nat → St → Oper → Option Res} (hR : ∀ j τ o r, R j τ o = some r → QuietOk P τ o r)
    {T : Nat → St → Oper → Option St} (hT : ∀ j σ o σ', T j σ o = some σ' → ∀ B g a w, Inv P B g σ a w → Goes P B g σ a w o σ') {id : Nat} {ops : Array Oper} {d : Bool} {σ' : St} (h : evReg Γ R T ops d σ = some σ') : Tri P (.region id ops d) σ .normal σ' := by
  cases d with
  | true => exact evDraw_sound hΓ hm hR hT h
  | false => exact fun B g a w hI => wp_region_list (tails_seq hT hI h fun a' w' hp => ⟨trivial, hp⟩)

theorem exCode_sound {Γ : List (Nat × Ty)} (hΓ : TyOk P Γ) (hm : P.follows .mixedOrders = true) {R : Nat → St → Oper → Option Res} (hR : ∀ j τ o r, R j τ o = some r → QuietOk P τ o r)
    {T : Nat → St → Oper → Option St} (hT : ∀ j σ o σ', T j σ o = some σ' → ∀ B g a w, Inv P B g σ a w → Goes P B g σ a w o σ') :
    ∀ (n : Nat), (∀ (c : Code) (σ σ' : St) (e : Ex), exCode Γ R T n none c σ = some (e, σ') → Tri P c σ e σ' ∧ ∀ b, c = .loop b → ∃ k, TriL P k b σ e σ') ∧ ∀ (s c : Code) (σ σ' : St) (e : Ex), exCode Γ R T n (some s) c σ = some (e, σ') → ∃ k, TriS P s k c σ e σ' := by
  intro n
  induction n with
  | zero => exact ⟨fun c σ σ' e h => absurd h (by simp [exCode]), fun s c σ σ' e h => absurd h (by simp [exCode])⟩
  | succ n ih =>
    have one : ∀ c σ σ' e, exCode Γ R T n none c σ = some (e, σ') → Tri P c σ e σ' := fun c σ σ' e h => (ih.1 c σ σ' e h).1
    refine ⟨?_, fun s c σ σ' e h => ?_⟩
    rotate_left
    · simp only [exCode] at h
      split at h
      · rename_i l σ1 h1
        split at h
        · rename_i rest hf
          obtain ⟨k, hk⟩ := ih.2 s rest σ1 σ' e h
          exact ⟨k + 1, triS_jump (tri_clean (one _ _ _ _ h1)) hf hk⟩
        · exact absurd h (by simp)
      · rename_i r hr
        refine ⟨1, triS_out (fun l he => ?_) (tri_clean (one _ _ _ _ h))⟩
        subst he
        exact hr l σ' h
    intro c σ σ' e h
    cases c with
    | skip => refine ⟨?_, fun b hb => absurd hb (by simp)⟩; have := Option.some.inj h; cases this; exact fun B g a w hI => wp_skip ⟨trivial, g, hI, Fr.refl⟩
    | label l => refine ⟨?_, fun b hb => absurd hb (by simp)⟩; have := Option.some.inj h; cases this; exact fun B g a w hI => wp_label ⟨trivial, g, hI, Fr.refl⟩
    | exit i => refine ⟨?_, fun b hb => absurd hb (by simp)⟩; have := Option.some.inj h; cases this; exact fun B g a w hI => wp_exit ⟨rfl, g, hI, Fr.refl⟩
    | goto i => refine ⟨?_, fun b hb => absurd hb (by simp)⟩; have := Option.some.inj h; cases this; exact fun B g a w hI => wp_goto ⟨rfl, g, hI, Fr.refl⟩
    | ret => refine ⟨?_, fun b hb => absurd hb (by simp)⟩; have := Option.some.inj h; cases this; exact fun B g a w hI => wp_ret ⟨trivial, g, hI, Fr.refl⟩
    | region id ops d =>
      refine ⟨?_, fun b hb => absurd hb (by simp)⟩
      simp only [exCode] at h
      split at h
      · rename_i σ1 h1
        have := Option.some.inj h
        cases this
        exact evReg_sound hΓ hm hR hT h1
      · split at h
        · rename_i σ1 hp
          split at h
          · rename_i σ2 h1
            have := Option.some.inj h
            cases this
            exact tri_pub hp (evReg_sound hΓ hm hR hT h1)
          · exact absurd h (by simp)
        · exact absurd h (by simp)
    | seq x y =>
      refine ⟨?_, fun b hb => absurd hb (by simp)⟩
      simp only [exCode] at h
      split at h
      · rename_i σ1 h1
        exact tri_seq (one _ _ _ _ h1) (one _ _ _ _ h)
      · rename_i r hr
        refine tri_seq_out (fun he => ?_) (one _ _ _ _ h)
        subst he
        exact hr σ' h
    | cond c x y =>
      refine ⟨?_, fun b hb => absurd hb (by simp)⟩
      simp only [exCode] at h
      split at h
      · rename_i hc; exact tri_cond hc (one _ _ _ _ h)
      · rename_i hc; exact tri_cond hc (one _ _ _ _ h)
      · exact absurd h (by simp)
    | block id c =>
      refine ⟨?_, fun b hb => absurd hb (by simp)⟩
      simp only [exCode] at h
      split at h
      · rename_i i σ1 h1
        have := Option.some.inj h
        cases this
        exact tri_block_exit (one _ _ _ _ h1)
      · rename_i r hr
        refine tri_block (one _ _ _ _ h) (fun i he => ?_)
        subst he
        exact hr i σ' h
    | loop c =>
      have hl : ∃ k, TriL P k c σ e σ' := by
        simp only [exCode] at h
        split at h
        · rename_i σ1 h1
          obtain ⟨k, hk⟩ := (ih.1 _ _ _ _ h).2 c rfl
          exact ⟨k + 1, triL_round (tri_clean (one _ _ _ _ h1)) hk⟩
        · rename_i r hr
          refine ⟨1, triL_out (fun he => ?_) (tri_clean (one _ _ _ _ h))⟩
          subst he
          exact hr σ' h
      refine ⟨?_, fun b hb => by cases hb; exact hl⟩
      obtain ⟨k, hk⟩ := hl
      exact tri_loop hk
    | scope c =>
      refine ⟨?_, fun b hb => absurd hb (by simp)⟩
      simp only [exCode] at h
      obtain ⟨k, hk⟩ := ih.2 c c σ σ' e h
      exact tri_scope hk
    | _ => exact absurd h (by simp [exCode])
end
end Go.Ev
namespace Go.Ev
open Go.RowKit

/-- Are two rows of plain cells the same? (0: whole numbers, 1: truth values, 2: texts, 3: complex numbers.) -/
def eqCells : List Nat → List PV → List PV → Option Bool
  | [], [], [] => some true
  | 0 :: sh, .v (.int k a) :: r, .v (.int k' b) :: s => bif decide (k = k') then (match eqCells sh r s with | some c => some (a == b && c) | none => none) else none
  | 1 :: sh, .v (.bool a) :: r, .v (.bool b) :: s => match eqCells sh r s with | some c => some (a == b && c) | none => none
  | 2 :: sh, .str a :: r, .str b :: s => match eqCells sh r s with | some c => some (a == b && c) | none => none
  | 3 :: sh, .v (.complex k a b) :: r, .v (.complex k' a' b') :: s => bif decide (k = k') then (match eqCells sh r s with | some c => some (Op.floatEq k a a' && Op.floatEq k b b' && c) | none => none) else none
  | _, _, _ => none

/-- Values of this type are the same if their cells are. -/
def EqOk (P : Program) (T : TypeId) (sh : List Nat) : Prop :=
  P.eqGuardType P.depth T = false ∧ ∀ hw w vs ws xs ys b, ArgsRep hw w vs xs → ArgsRep hw w ws ys → eqCells sh xs ys = some b → (Op.equalIn 10000 T (.agg vs.toArray) (.agg ws.toArray)).run P w = .ok b w

/-- What the interpreter knows of the program. -/
def CCOk (P : Program) (f : FuncId) : Prop :=
  (∀ args w, (callFunc f args).run P w = .ok (.enter f args) w) ∧
  (∀ (b : Nat) (w : World), w.cell? ⟨b, 0, none⟩ = some (.pointer none) → w.shape? b = some (bldT, 2) → w.frozen? ⟨b, 0, none⟩ = false →
    Calls P f #[.pointer (some ⟨b, 0, none⟩)] w fun e w' => e = .returned (.tuple #[]) ∧ w' = w.setCell ⟨b, 0, none⟩ (.pointer (some ⟨b, 0, none⟩))) ∧
  (∀ (b : Nat) (w : World), w.cell? ⟨b, 0, none⟩ = some (.pointer (some ⟨b, 0, none⟩)) → Calls P f #[.pointer (some ⟨b, 0, none⟩)] w fun e w' => e = .returned (.tuple #[]) ∧ w' = w)
def BStrOk (P : Program) (f : FuncId) (e : TypeId) : Prop :=
  (∀ args w, (callFunc f args).run P w = .ok (.enter f args) w) ∧
  (∀ (b g cap cells : Nat) (l : List UInt8) (w : World), w.cell? ⟨b, 1, none⟩ = some (.slice (some ⟨g, 0, none⟩) l.length cap) → w.shape? g = some (e, cells) → l ≠ [] → l.length ≤ cap → l.length ≤ cells → l.length ≤ maxLen →
    (∀ (j : Nat) (x : UInt8), l[j]? = some x → w.cell? ⟨g, j, none⟩ = some (.int .u8 x.toNat)) →
    Calls P f #[.pointer (some ⟨b, 0, none⟩)] w fun e w' => e = .returned (.string ⟨l.toArray⟩) ∧ w' = w.drew.freeze ⟨g, 0, none⟩ l.length) ∧
  (∀ (b : Nat) (w : World), w.cell? ⟨b, 1, none⟩ = some (.slice none 0 0) → Calls P f #[.pointer (some ⟨b, 0, none⟩)] w fun e w' => e = .returned (.string ⟨#[]⟩) ∧ w' = w.drew)


structure Env where
  Γ : List (Nat × Ty)
  eqs : List (Nat × List Nat)
  bools : List Nat
  ints : List (Nat × IntKind)
  flts : List (Nat × FloatKind)
  ifcs : List Nat
  fns : List (Nat × Func)
  wr : List Nat
  libs : List Nat
  lib : Nat → List PV → Option PV
  inl : List Nat
  cc : List Nat
  bst : List (Nat × Nat)
  sla : List Nat

structure EnvOk (P : Program) (E : Env) : Prop where
  Γ : TyOk P E.Γ
  mixed : P.follows .mixedOrders = true
  eqs : ∀ T sh, lk T E.eqs = some sh → EqOk P T sh
  bools : ∀ T, has T E.bools = true → P.underlying T = some .bool
  ints : ∀ T k, lk T E.ints = some k → P.underlying T = some (.int k)
  flts : ∀ T k, lk T E.flts = some k → P.underlying T = some (.float k)
  ifcs : ∀ T, has T E.ifcs = true → ∃ ms, P.underlying T = some (.interface ms)
  lib : ∀ f args r, E.lib f args = some r → Con P f args r
  cc : ∀ f, has f E.cc = true → CCOk P f
  bst : ∀ f e, lk f E.bst = some e → BStrOk P f e ∧ ∃ i, P.info? e = some i ∧ i.size = 1
  fns : ∀ f fn, lk f E.fns = some fn → P.funcs[f]? = some fn ∧ ∀ args w, (callFunc f args).run P w = .ok (.enter f args) w

def bitsB (op : BinOp) (k : IntKind) (a b : Int) : Option PV :=
  match op with
  | .and => some (.v (.int k (k.wrap (BitVec.ofInt k.bits a &&& BitVec.ofInt k.bits b).toNat)))
  | .or => some (.v (.int k (k.wrap (BitVec.ofInt k.bits a ||| BitVec.ofInt k.bits b).toNat)))
  | .xor => some (.v (.int k (k.wrap (BitVec.ofInt k.bits a ^^^ BitVec.ofInt k.bits b).toNat)))
  | .andNot => some (.v (.int k (k.wrap (BitVec.ofInt k.bits a &&& ~~~(BitVec.ofInt k.bits b)).toNat)))
  | _ => none

def boolB (op : BinOp) (a b : Bool) : Option PV :=
  match op with
  | .eql => some (.v (.bool (a == b)))
  | .neq => some (.v (.bool (!(a == b))))
  | _ => none

/-- Floats, complex numbers. -/
def fltB (op : BinOp) (x y : Value) : Option Value :=
  match x, y with
  | .float k a, .float k' b => bif decide (k = k') then (match op with
    | .eql => some (.bool (k.format.order a b == some .eq))
    | .neq => some (.bool (k.format.order a b != some .eq))
    | .lss => some (.bool (k.format.order a b == some .lt))
    | .leq => some (.bool (k.format.order a b == some .lt || k.format.order a b == some .eq))
    | .gtr => some (.bool (k.format.order a b == some .gt))
    | .geq => some (.bool (k.format.order a b == some .gt || k.format.order a b == some .eq))
    | .add => match k.format.add a b with | some r => some (.float k r) | none => none
    | .sub => match k.format.sub a b with | some r => some (.float k r) | none => none
    | .mul => match k.format.mul a b with | some r => some (.float k r) | none => none
    | _ => none) else none
  | .complex k a b, .complex k' c d => bif decide (k = k') then (match op with
    | .eql => some (.bool (k.format.order a c == some .eq && k.format.order b d == some .eq))
    | .neq => some (.bool (!(k.format.order a c == some .eq && k.format.order b d == some .eq)))
    | .add => match k.format.add a c, k.format.add b d with | some r, some s => some (.complex k r s) | _, _ => none
    | .sub => match k.format.sub a c, k.format.sub b d with | some r, some s => some (.complex k r s) | _, _ => none
    | _ => none) else none
  | _, _ => none

def autoBin (E : Env) (op : BinOp) (T : TypeId) (x y : PV) : Option (List Obl) :=
  match x, y with
  | .v (.int k a), .v (.int k' b) => match op with
    | .quo => bif b == 0 then none else some [.pr True]
    | .rem => bif b == 0 then none else some [.pr True]
    | .shl => bif decide (0 ≤ b) then some [.pr True] else none
    | .shr => bif decide (0 ≤ b) then some [.pr True] else none
    | op => match bitsB op k a b with
      | some r => bif decide (k = k') then some [.bin op T x y r] else none
      | none => some []
  | .v (.bool a), .v (.bool b) => bif has T E.bools then (match boolB op a b with | some r => some [.bin op T x y r] | none => none) else none
  | .agg xs, .agg ys => match lk T E.eqs with
    | some sh => match eqCells sh xs ys with
      | some b => match op with
        | .eql => some [.bin op T x y (.v (.bool b))]
        | .neq => some [.bin op T x y (.v (.bool (!b)))]
        | _ => none
      | none => none
    | none => none
  | .v a, .v b => match fltB op a b with
    | some r => some [.bin op T x y (.v r)]
    | none => none
  | .str a, .str b => match op with
    | .add => bif Nat.ble (a.length + b.length) 9223372036854775807 then some [.pr True] else none
    | _ => some []
  | _, _ => none

section
variable {P : Program}

theorem holdsAll_nil : holdsAll P [] := fun o h => by simp at h
theorem holdsAll_one {o : Obl} (h : o.holds P) : holdsAll P [o] := fun o' h' => by simp at h'; subst h'; exact h

theorem bits_holds {op : BinOp} {T : TypeId} {k : IntKind} {a b : Int} {r : PV} (h : bitsB op k a b = some r) : (Obl.bin op T (.v (.int k a)) (.v (.int k b)) r).holds P := by
  intro hw w vx vy ox oy hx hy
  rw [rep_v hx, rep_v hy, eqGuard_at_int]
  cases op <;> simp only [bitsB, Option.some.injEq, reduceCtorEq] at h <;> (subst h; exact ⟨_, by simp [binOp, Op.intBits], .v _ rfl⟩)

theorem bool_holds {op : BinOp} {T : TypeId} {a b : Bool} {r : PV} (hT : P.underlying T = some .bool) (h : boolB op a b = some r) : (Obl.bin op T (.v (.bool a)) (.v (.bool b)) r).holds P := by
  intro hw w vx vy ox oy hx hy
  rw [rep_v hx, rep_v hy]
  have hg : (eqGuard op T ox oy (.bool a) (.bool b)).run P w = .ok () w := by cases op <;> simp [eqGuard]
  have he : (Op.equal T (.bool a) (.bool b)).run P w = .ok (a == b) w := run_equalIn_bool' w 9999 T a b hT
  cases op <;> simp only [boolB, Option.some.injEq, reduceCtorEq] at h
  · subst h
    exact ⟨.bool (a == b), by rw [Sem.run_bind, hg, Result.andThen_ok]; simp [binOp, he], .v _ rfl⟩
  · subst h
    exact ⟨.bool (!(a == b)), by rw [Sem.run_bind, hg, Result.andThen_ok]; simp [binOp, he], .v _ rfl⟩

theorem flt_holds {op : BinOp} {T : TypeId} {a b r : Value} (h : fltB op a b = some r) : (Obl.bin op T (.v a) (.v b) (.v r)).holds P := by
  intro hw w vx vy ox oy hx hy
  rw [rep_v hx, rep_v hy]
  unfold fltB at h
  split at h
  · rename_i k a k' b
    cases hk : decide (k = k') with
    | false => rw [hk] at h; exact absurd h (by simp)
    | true =>
      rw [hk] at h
      have := of_decide_eq_true hk
      subst this
      have hg : (eqGuard op T ox oy (.float k a) (.float k b)).run P w = .ok () w := by cases op <;> simp [eqGuard]
      rw [Sem.run_bind, hg, Result.andThen_ok]
      simp only [cond_true] at h
      split at h
      all_goals first
        | (have := Option.some.inj h; subst this; exact ⟨_, by simp [binOp, Op.floatCmp], .v _ rfl⟩)
        | (split at h
           · rename_i r0 hr0
             have := Option.some.inj h; subst this
             exact ⟨_, by simp [binOp, Op.floatArith, hr0], .v _ rfl⟩
           · exact absurd h (by simp))
        | exact absurd h (by simp)
  · rename_i k a b k' c d
    cases hk : decide (k = k') with
    | false => rw [hk] at h; exact absurd h (by simp)
    | true =>
      rw [hk] at h
      have := of_decide_eq_true hk
      subst this
      have hg : (eqGuard op T ox oy (.complex k a b) (.complex k c d)).run P w = .ok () w := by cases op <;> simp [eqGuard]
      rw [Sem.run_bind, hg, Result.andThen_ok]
      simp only [cond_true] at h
      split at h
      all_goals first
        | (have := Option.some.inj h; subst this; exact ⟨_, by simp [binOp, Op.complexOp, Op.Complex.cmp, Op.floatCmp, asBool], .v _ rfl⟩)
        | (split at h
           · rename_i r0 s0 hr0 hs0
             have := Option.some.inj h; subst this
             exact ⟨_, by simp [binOp, Op.complexOp, Op.Complex.arith, Op.floatArith, hr0, hs0], .v _ rfl⟩
           · exact absurd h (by simp))
        | exact absurd h (by simp)
  · exact absurd h (by simp)

theorem agg_holds {T : TypeId} {sh : List Nat} {xs ys : List PV} {b : Bool} (hE : EqOk P T sh) (h : eqCells sh xs ys = some b) :
    (Obl.bin .eql T (.agg xs) (.agg ys) (.v (.bool b))).holds P ∧ (Obl.bin .neq T (.agg xs) (.agg ys) (.v (.bool (!b)))).holds P := by
  constructor
  · intro hw w vx vy ox oy hx hy
    obtain ⟨vs, rfl, hv⟩ := agg_cells hx
    obtain ⟨ws, rfl, hu⟩ := agg_cells hy
    have := hE.2 hw w vs ws xs ys b ⟨hv.len, hv.rep⟩ ⟨hu.len, hu.rep⟩ h
    exact ⟨.bool b, by rw [Sem.run_bind, run_eqGuard_agg w _ _ _ _ _ _ hE.1, Result.andThen_ok, run_eql_struct, this, Result.andThen_ok], .v _ rfl⟩
  · intro hw w vx vy ox oy hx hy
    obtain ⟨vs, rfl, hv⟩ := agg_cells hx
    obtain ⟨ws, rfl, hu⟩ := agg_cells hy
    have := hE.2 hw w vs ws xs ys b ⟨hv.len, hv.rep⟩ ⟨hu.len, hu.rep⟩ h
    exact ⟨.bool (!b), by rw [Sem.run_bind, run_eqGuard_agg w _ _ _ _ _ _ hE.1, Result.andThen_ok, run_neq_struct, this, Result.andThen_ok], .v _ rfl⟩

theorem evBin_nil {op : BinOp} {T : TypeId} {x y : PV} {os' ob : List Obl} {r : PV} (h : evBin op T x y [] = some (r, os', ob)) : os' = [] ∧ ob = [] := by
  unfold evBin at h
  split at h
  · rename_i e; exact absurd e (by simp)
  · split at h
    all_goals first
      | (have := Option.some.inj h; cases this; exact ⟨rfl, rfl⟩)
      | (cases h; done)
      | skip
    rename_i k a k' b _ _ _ _
    cases hk : decide (k = k') with
    | false => rw [hk] at h; exact absurd h (by simp)
    | true =>
      rw [hk] at h
      simp only [cond_true] at h
      split at h
      · have := Option.some.inj h; cases this; exact ⟨rfl, rfl⟩
      · exact absurd h (by simp)

theorem autoBin_ok {E : Env} (hE : EnvOk P E) {op : BinOp} {T : TypeId} {x y : PV} {os os' ob : List Obl} {r : PV} (h : autoBin E op T x y = some os) (h' : evBin op T x y os = some (r, os', ob)) : os' = [] ∧ holdsAll P ob := by
  have binC : ∀ {r0 : PV}, os = [.bin op T x y r0] → (Obl.bin op T x y r0).holds P → os' = [] ∧ holdsAll P ob := by
    intro r0 e ho
    subst e
    unfold evBin at h'
    have := Option.some.inj h'
    cases this
    exact ⟨rfl, holdsAll_one ho⟩
  unfold autoBin at h
  split at h
  · rename_i k a k' b
    split at h
    · cases hb : (b == 0) with
      | true => rw [hb] at h; exact absurd h (by simp)
      | false =>
        rw [hb] at h
        have := Option.some.inj h
        subst this
        simp only [evBin] at h'
        cases hk : decide (k = k') with
        | false => rw [hk] at h'; exact absurd h' (by simp)
        | true =>
          rw [hk] at h'
          have := Option.some.inj h'
          cases this
          exact ⟨rfl, holdsAll_one (show b ≠ 0 from by simpa using hb)⟩
    · cases hb : (b == 0) with
      | true => rw [hb] at h; exact absurd h (by simp)
      | false =>
        rw [hb] at h
        have := Option.some.inj h
        subst this
        simp only [evBin] at h'
        cases hk : decide (k = k') with
        | false => rw [hk] at h'; exact absurd h' (by simp)
        | true =>
          rw [hk] at h'
          have := Option.some.inj h'
          cases this
          exact ⟨rfl, holdsAll_one (show b ≠ 0 from by simpa using hb)⟩
    · cases hb : decide (0 ≤ b) with
      | false => rw [hb] at h; exact absurd h (by simp)
      | true =>
        rw [hb] at h
        have := Option.some.inj h
        subst this
        simp only [evBin] at h'
        have := Option.some.inj h'
        cases this
        exact ⟨rfl, holdsAll_one (show 0 ≤ b from of_decide_eq_true hb)⟩
    · cases hb : decide (0 ≤ b) with
      | false => rw [hb] at h; exact absurd h (by simp)
      | true =>
        rw [hb] at h
        have := Option.some.inj h
        subst this
        simp only [evBin] at h'
        have := Option.some.inj h'
        cases this
        exact ⟨rfl, holdsAll_one (show 0 ≤ b from of_decide_eq_true hb)⟩
    · split at h
      · rename_i r0 hr0
        cases hk : decide (k = k') with
        | false => rw [hk] at h; exact absurd h (by simp)
        | true =>
          rw [hk] at h
          have := Option.some.inj h
          have hkk := of_decide_eq_true hk
          subst hkk
          exact binC this.symm (bits_holds hr0)
      · have := Option.some.inj h
        subst this
        obtain ⟨h1, h2⟩ := evBin_nil h'
        subst h2
        exact ⟨h1, holdsAll_nil⟩
  · rename_i a b
    cases hb : has T E.bools with
    | false => rw [hb] at h; exact absurd h (by simp)
    | true =>
      rw [hb] at h
      simp only [cond_true] at h
      split at h
      · rename_i r0 hr0
        exact binC (Option.some.inj h).symm (bool_holds (hE.bools T hb) hr0)
      · exact absurd h (by simp)
  · rename_i xs ys
    split at h
    · rename_i sh hsh
      split at h
      · rename_i b hb
        obtain ⟨h1, h2⟩ := agg_holds (hE.eqs T sh hsh) hb
        split at h
        · exact binC (Option.some.inj h).symm h1
        · exact binC (Option.some.inj h).symm h2
        · exact absurd h (by simp)
      · exact absurd h (by simp)
    · exact absurd h (by simp)
  · rename_i a b _ _
    split at h
    · rename_i r0 hr0
      exact binC (Option.some.inj h).symm (flt_holds hr0)
    · exact absurd h (by simp)
  · rename_i a b
    split at h
    · cases hb : Nat.ble (a.length + b.length) 9223372036854775807 with
      | false => rw [hb] at h; exact absurd h (by simp)
      | true =>
        rw [hb] at h
        have := Option.some.inj h
        subst this
        simp only [evBin] at h'
        have := Option.some.inj h'
        cases this
        exact ⟨rfl, holdsAll_one (show a.length + b.length ≤ 9223372036854775807 from Nat.le_of_ble_eq_true hb)⟩
    · have := Option.some.inj h
      subst this
      obtain ⟨h1, h2⟩ := evBin_nil h'
      subst h2
      exact ⟨h1, holdsAll_nil⟩
  · exact absurd h (by simp)
end
end Go.Ev
namespace Go.Ev
open Go.RowKit

abbrev CallF := Nat → List PV → Option PV

def autoIndex (Γ : List (Nat × Ty)) (T : TypeId) (x i : PV) : Option (List Obl) :=
  match lk T Γ, i with
  | some ty, .v (.int _ n) => match ty.kd, x with
    | 4, .str l => bif decide (0 ≤ n) && decide (n < l.length) then some [.pr True] else none
    | 2, .agg cs => match lk ty.elem Γ with
      | some ety => match (chunk ety.size ty.len cs)[n.toNat]? with
        | some y => bif decide (0 ≤ n) then some [.idx [] 0 y] else none
        | none => none
      | none => none
    | _, _ => none
  | _, _ => none

def autoIndexAddr (Γ : List (Nat × Ty)) (T : TypeId) (x : AV) (i : PV) : Option (List Obl) :=
  match lk T Γ, i with
  | some ty, .v (.int _ n) => match ty.kd, x with
    | 3, .p (.lst xs) => match xs[n.toNat]? with
      | some y => bif decide (0 ≤ n) then some [.idx [] 0 y] else none
      | none => none
    | 2, _ => bif decide (0 ≤ n) && decide (n < ty.len) then some [.pr True] else none
    | _, _ => none
  | _, _ => none

def lensB (n : Nat) (l : List (List PV)) : Bool := l.all fun x => Nat.beq x.length n

def autoSlice (Γ : List (Nat × Ty)) (T : TypeId) (x : PV) (lo hi : Option PV) : Option (List Obl) :=
  match lk T Γ with
  | some ty => match ty.kd, x, lo, hi with
    | 4, .str l, some (.v (.int _ a)), some (.v (.int _ b)) => bif decide (0 ≤ a) && decide (a ≤ b) && decide (b ≤ l.length) then some [.pr True] else none
    | 4, .str l, some (.v (.int _ a)), none => bif decide (0 ≤ a) && decide (a ≤ l.length) then some [.pr True] else none
    | 4, .str l, none, some (.v (.int _ b)) => bif decide (0 ≤ b) && decide (b ≤ l.length) then some [.pr True] else none
    | 3, .lst l, lo, hi => match lk ty.elem Γ, lo, hi with
      | some ety, some (.v (.int _ a)), some (.v (.int _ b)) => bif decide (0 ≤ a) && decide (a ≤ b) && decide (b ≤ l.length) && lensB ety.size l then some [.pr True] else none
      | some ety, some (.v (.int _ a)), none => bif decide (0 ≤ a) && decide (a ≤ l.length) && lensB ety.size l then some [.pr True] else none
      | some ety, none, some (.v (.int _ b)) => bif decide (0 ≤ b) && decide (b ≤ l.length) && lensB ety.size l then some [.pr True] else none
      | _, _, _ => none
    | _, _, _, _ => none
  | none => none

def bytesOf : List (List PV) → Option (List UInt8)
  | [] => some []
  | [.v (.int .u8 n)] :: r => bif decide (0 ≤ n) && decide (n < 256) then (match bytesOf r with | some l => some (UInt8.ofNat n.toNat :: l) | none => none) else none
  | _ => none
def isBytes (E : Env) (S : TypeId) : Bool :=
  match lk S E.Γ with
  | some ty => Nat.beq ty.kd 3 && (match lk ty.elem E.ints with | some .u8 => true | _ => false)
  | none => false
def isText (E : Env) (S : TypeId) : Bool :=
  match lk S E.Γ with
  | some ty => Nat.beq ty.kd 4
  | none => false
def cvtInt (E : Env) (S T : TypeId) (n : Int) : Option PV :=
  match lk S E.ints with
  | some _ => match lk T E.ints with
    | some k => some (.v (.int k (k.wrap n)))
    | none => match lk T E.flts with
      | some k => some (.v (.float k (k.nearest n)))
      | none => none
  | none => none
def cvtFlt (E : Env) (S T : TypeId) (s : FloatKind) (b : Nat) : Option PV :=
  match lk T E.ints, lk S E.flts with
  | some k, some _ => match (s.decode b).toInt .zero with
    | some n => bif decide (k.min ≤ n) && decide (n ≤ k.max) then some (.v (.int k n)) else none
    | none => none
  | _, _ => none
def cvtLst (E : Env) (S T : TypeId) (xs : List (List PV)) : Option PV :=
  bif isBytes E S && isText E T then (match bytesOf xs with | some l => some (.str l) | none => none) else none
/-- A conversion: of whole numbers, of bytes. -/
def autoCvt (E : Env) (S T : TypeId) (x : PV) : Option PV :=
  match x with
  | .v (.int _ n) => cvtInt E S T n
  | .v (.float s b) => cvtFlt E S T s b
  | .lst xs => cvtLst E S T xs
  | .nil => bif isBytes E S && isText E T then some (.str []) else none
  | .str l => bif isText E S && isText E T then some (.str l) else none
  | _ => none
def autoBlt (b : Builtin) (xs : List PV) : Option PV :=
  match b, xs with
  | .complex, [.v (.float k a), .v (.float k' c)] => bif decide (k = k') then some (.v (.complex k a c)) else none
  | .real, [.v (.complex k a _)] => some (.v (.float k a))
  | .imag, [.v (.complex k _ b)] => some (.v (.float k b))
  | _, _ => none

def autoCall (call : CallF) (σ : St) (f : Operand) (args : List Operand) : Option PV :=
  match opd σ f, mapO (opd σ) args with
  | some (.p (.fn g cs)), some l => match handAll σ.boxes l with
    | some (xs, _) => call g (xs ++ cs)
    | none => none
  | some (.fnp g bs), some l => match handAll σ.boxes l, handC σ.boxes bs with
    | some (xs, _), some cs => call g (xs ++ cs)
    | _, _ => none
  | _, _ => none

def autoQ (E : Env) (call : CallF) (σ : St) (o : Oper) : Option (List Obl) :=
  match o.op with
  | .call ⟨.value f, args, _⟩ => match autoCall call σ f args.toList with
    | some r => some [.call 0 [] r]
    | none => none
  | .binOp op T x y _ => match pvOf σ x, pvOf σ y with
    | some a, some b => autoBin E op T a b
    | _, _ => none
  | .index T x i => match pvOf σ x, pvOf σ i with
    | some a, some j => autoIndex E.Γ T a j
    | _, _ => none
  | .indexAddr T x i => match opd σ x, pvOf σ i with
    | some a, some j => autoIndexAddr E.Γ T a j
    | _, _ => none
  | .slice T x lo hi none => match pvOf σ x with
    | some a => match lo, hi with
      | none, none => none
      | some l, none => match pvOf σ l with | some l => autoSlice E.Γ T a (some l) none | none => none
      | none, some h => match pvOf σ h with | some h => autoSlice E.Γ T a none (some h) | none => none
      | some l, some h => match pvOf σ l, pvOf σ h with | some l, some h => autoSlice E.Γ T a (some l) (some h) | _, _ => none
    | none => none
  | .slice _ _ _ _ (some _) => none
  | .convert S T x => match pvOf σ x with
    | some a => match autoCvt E S T a with
      | some r => some [.cvt S T a r]
      | none => none
    | none => none
  | .call ⟨.builtin b, args, ats⟩ => match mapO (pvOf σ) args.toList with
    | some xs => match autoBlt b xs with
      | some r => some [.blt b ats o.type xs r]
      | none => some []
    | none => none
  | _ => some []

def makeS (Γ : List (Nat × Ty)) (T : TypeId) (l c : PV) : Option PV :=
  match lk T Γ, l, c with
  | some ty, .v (.int _ n), .v (.int _ m) => bif decide (n = m) && decide (0 ≤ n) && Nat.beq ty.kd 3 then
      match lk ty.elem Γ with
      | some ety => bif Nat.beq ety.size 0 || Nat.ble 16777216 (n.toNat * ety.size) || Nat.ble 16777216 (n.toNat * ety.bytes) || !(Nat.beq ety.zero.length ety.size) then none else some (.lst (chunk ety.size n.toNat (reps n.toNat ety.zero)))
      | none => none
    else none
  | _, _, _ => none

/-- Bytes of a text: a new row. -/
def bytesS (E : Env) (S T : TypeId) (l : List UInt8) : Option PV :=
  bif isText E S && isBytes E T then some (.lst (l.map fun b => [.v (.int .u8 b.toNat)])) else none

def isNilC : Operand → Bool
  | .const .nilIface => true
  | _ => false
/-- An interface value, is it nil? -/
def nilCmp (E : Env) (op : BinOp) (T : TypeId) (x : PV) : Option PV :=
  match op, x with
  | .eql, .v .nilIface => bif has T E.ifcs then some (.v (.bool true)) else none
  | .neq, .v .nilIface => bif has T E.ifcs then some (.v (.bool false)) else none
  | _, _ => none

def RRgen (E : Env) (call : CallF) (σ : St) (o : Oper) : Option Res :=
  match autoQ E call σ o with
  | some os => match evQuiet E.Γ σ o os with
    | some (r, _, _) => some r
    | none => none
  | none => none
def plainR (σ : St) (o : Oper) (x : Option PV) : Option Res :=
  match o.dst, x with
  | some d, some x => bif Nat.blt d σ.n then some ⟨.p x, none, none⟩ else none
  | _, _ => none

def RR (E : Env) (call : CallF) (_ : Nat) (σ : St) (o : Oper) : Option Res :=
  match o.op with
  | .makeSlice T l c => match pvOf σ l, pvOf σ c with
    | some l, some c => plainR σ o (makeS E.Γ T l c)
    | _, _ => none
  | .convert S T x => match pvOf σ x with
    | some (.str l) => match bytesS E S T l with
      | some r => plainR σ o (some r)
      | none => RRgen E call σ o
    | _ => RRgen E call σ o
  | .binOp op T x y _ => match isNilC y with
    | true => match pvOf σ x with
      | some a => plainR σ o (nilCmp E op T a)
      | none => none
    | false => RRgen E call σ o
  | _ => RRgen E call σ o

section
variable {P : Program} {B : Nat} {g : G} {σ τ : St} {a : Act} {w : World} {o : Oper}

theorem evUn_nil {op : UnOp} {x : PV} {os' ob : List Obl} {r : PV} (h : evUn op x [] = some (r, os', ob)) : os' = [] ∧ ob = [] := by
  unfold evUn at h
  split at h
  · rename_i e; exact absurd e (by simp)
  · split at h
    all_goals first
      | (have := Option.some.inj h; cases this; exact ⟨rfl, rfl⟩)
      | (cases h; done)

theorem evBuiltin_nil {Γ : List (Nat × Ty)} {b : Builtin} {ats : Array TypeId} {T : TypeId} {xs : List PV} {os' ob : List Obl} {r : PV} (h : evBuiltin Γ b ats T xs [] = some (r, os', ob)) : os' = [] ∧ ob = [] := by
  unfold evBuiltin at h
  split at h
  · rename_i e; exact absurd e (by simp)
  · repeat' split at h
    all_goals first
      | (have := Option.some.inj h; cases this; exact ⟨rfl, rfl⟩)
      | (cases h; done)

theorem evPure_nil {Γ : List (Nat × Ty)} {os' ob : List Obl} {r : Res} (h : evPure Γ σ o [] = some (r, os', ob)) (h1 : ∀ op T x y yT, o.op ≠ .binOp op T x y yT) (h2 : ∀ f args ats, o.op ≠ .call ⟨.value f, args, ats⟩) (h3 : ∀ T x i, o.op ≠ .index T x i) (h4 : ∀ T x i, o.op ≠ .indexAddr T x i) (h5 : ∀ T x lo hi mx, o.op ≠ .slice T x lo hi mx) : os' = [] ∧ ob = [] := by
  have val : ∀ {q : Option PV}, (match q with | some x => some ((⟨.p x, none, none⟩ : Res), ([] : List Obl), ([] : List Obl)) | none => none) = some (r, os', ob) → os' = [] ∧ ob = [] := by
    intro q h
    split at h
    · have := Option.some.inj h; cases this; exact ⟨rfl, rfl⟩
    · exact absurd h (by simp)
  have out : ∀ {q : Out PV}, (∀ x o1 o2, q = some (x, o1, o2) → o1 = [] ∧ o2 = []) → (match q with | some (x, os, ob) => some ((⟨.p x, none, none⟩ : Res), os, ob) | none => none) = some (r, os', ob) → os' = [] ∧ ob = [] := by
    intro q hq h
    obtain ⟨x, h1, _⟩ := out_plain h
    exact hq x _ _ h1
  obtain ⟨dst, op, type, pos, after, guard⟩ := o
  cases op with
  | binOp op T x y yT => exact absurd rfl (h1 op T x y yT)
  | index T x i => exact absurd rfl (h3 T x i)
  | indexAddr T x i => exact absurd rfl (h4 T x i)
  | slice T x lo hi mx => exact absurd rfl (h5 T x lo hi mx)
  | call c =>
    obtain ⟨callee, args, ats⟩ := c
    cases callee with
    | value f => exact absurd rfl (h2 f args ats)
    | builtin b =>
      simp only [evPure] at h
      split at h
      · exact out (fun x o1 o2 hq => evBuiltin_nil hq) h
      · exact absurd h (by simp)
    | invoke r m => exact absurd h (by simp [evPure])
  | unOp op T x =>
    simp only [evPure] at h
    split at h
    · exact out (fun x o1 o2 hq => evUn_nil hq) h
    · exact absurd h (by simp)
  | convert S T x =>
    simp only [evPure] at h
    split at h
    · rename_i e; exact absurd e (by simp)
    · exact absurd h (by simp)
  | pick c x y => simp only [evPure] at h; split at h <;> first | exact val h | exact absurd h (by simp)
  | build T ps => simp only [evPure] at h; split at h <;> first | exact val h | exact absurd h (by simp)
  | buildSlice T n ps => simp only [evPure] at h; split at h <;> first | exact val h | exact absurd h (by simp)
  | field T x f => simp only [evPure] at h; split at h <;> first | exact val h | exact absurd h (by simp)
  | extract x i => simp only [evPure] at h; split at h <;> first | exact val h | exact absurd h (by simp)
  | makeFunc fn first caps =>
    cases fn with
    | func f =>
      simp only [evPure] at h
      split at h
      · split at h
        · cases hb : Nat.beq first.size 0 with
          | false => rw [hb] at h; exact absurd h (by simp)
          | true => rw [hb] at h; have := Option.some.inj h; cases this; exact ⟨rfl, rfl⟩
        · exact absurd h (by simp)
      · exact absurd h (by simp)
    | _ => exact absurd h (by simp [evPure])
  | _ =>
    first
      | (simp only [evPure] at h; (repeat' split at h); all_goals first | (have := Option.some.inj h; cases this; exact ⟨rfl, rfl⟩) | (cases h; done))
      | exact absurd h (by simp [evPure])

theorem lensB_ok {n : Nat} {l : List (List PV)} (h : lensB n l = true) : Lens n l := fun x hx => Nat.eq_of_beq_eq_true (List.all_eq_true.1 h x hx)

theorem autoSlice_ok {Γ : List (Nat × Ty)} {T : TypeId} {x : PV} {lo hi : Option PV} {os os' ob : List Obl} {r : PV} (h : autoSlice Γ T x lo hi = some os) (h' : evSlice Γ T x lo hi os = some (r, os', ob)) : os' = [] ∧ holdsAll P ob := by
  unfold autoSlice at h
  split at h
  · rename_i ty hty
    split at h
    · rename_i l k a k' b hk
      cases hb : (decide (0 ≤ a) && decide (a ≤ b) && decide (b ≤ l.length)) with
      | false => rw [hb] at h; exact absurd h (by simp)
      | true =>
        rw [hb] at h
        have := Option.some.inj h
        subst this
        simp only [Bool.and_eq_true] at hb
        simp only [evSlice, hty, hk] at h'
        have := Option.some.inj h'
        cases this
        exact ⟨rfl, holdsAll_one (show 0 ≤ a ∧ a ≤ b ∧ b ≤ l.length from ⟨of_decide_eq_true hb.1.1, of_decide_eq_true hb.1.2, of_decide_eq_true hb.2⟩)⟩
    · rename_i l k a hk
      cases hb : (decide (0 ≤ a) && decide (a ≤ l.length)) with
      | false => rw [hb] at h; exact absurd h (by simp)
      | true =>
        rw [hb] at h
        have := Option.some.inj h
        subst this
        simp only [Bool.and_eq_true] at hb
        simp only [evSlice, hty, hk] at h'
        have := Option.some.inj h'
        cases this
        exact ⟨rfl, holdsAll_one (show 0 ≤ a ∧ a ≤ l.length from ⟨of_decide_eq_true hb.1, of_decide_eq_true hb.2⟩)⟩
    · rename_i l k b hk
      cases hb : (decide (0 ≤ b) && decide (b ≤ l.length)) with
      | false => rw [hb] at h; exact absurd h (by simp)
      | true =>
        rw [hb] at h
        have := Option.some.inj h
        subst this
        simp only [Bool.and_eq_true] at hb
        simp only [evSlice, hty, hk] at h'
        have := Option.some.inj h'
        cases this
        exact ⟨rfl, holdsAll_one (show 0 ≤ b ∧ b ≤ l.length from ⟨of_decide_eq_true hb.1, of_decide_eq_true hb.2⟩)⟩
    · rename_i l hk
      split at h
      · rename_i ety k a k' b hety
        cases hb : (decide (0 ≤ a) && decide (a ≤ b) && decide (b ≤ l.length) && lensB ety.size l) with
        | false => rw [hb] at h; exact absurd h (by simp)
        | true =>
          rw [hb] at h
          have := Option.some.inj h
          subst this
          simp only [Bool.and_eq_true] at hb
          simp only [evSlice, hty, hk, hety] at h'
          have := Option.some.inj h'
          cases this
          exact ⟨rfl, holdsAll_one (show 0 ≤ a ∧ a ≤ b ∧ b ≤ l.length ∧ Lens ety.size l from ⟨of_decide_eq_true hb.1.1.1, of_decide_eq_true hb.1.1.2, of_decide_eq_true hb.1.2, lensB_ok hb.2⟩)⟩
      · rename_i ety k a hety
        cases hb : (decide (0 ≤ a) && decide (a ≤ l.length) && lensB ety.size l) with
        | false => rw [hb] at h; exact absurd h (by simp)
        | true =>
          rw [hb] at h
          have := Option.some.inj h
          subst this
          simp only [Bool.and_eq_true] at hb
          simp only [evSlice, hty, hk, hety] at h'
          have := Option.some.inj h'
          cases this
          exact ⟨rfl, holdsAll_one (show 0 ≤ a ∧ a ≤ l.length ∧ Lens ety.size l from ⟨of_decide_eq_true hb.1.1, of_decide_eq_true hb.1.2, lensB_ok hb.2⟩)⟩
      · rename_i ety k b hety
        cases hb : (decide (0 ≤ b) && decide (b ≤ l.length) && lensB ety.size l) with
        | false => rw [hb] at h; exact absurd h (by simp)
        | true =>
          rw [hb] at h
          have := Option.some.inj h
          subst this
          simp only [Bool.and_eq_true] at hb
          simp only [evSlice, hty, hk, hety] at h'
          have := Option.some.inj h'
          cases this
          exact ⟨rfl, holdsAll_one (show 0 ≤ b ∧ b ≤ l.length ∧ Lens ety.size l from ⟨of_decide_eq_true hb.1.1, of_decide_eq_true hb.1.2, lensB_ok hb.2⟩)⟩
      · exact absurd h (by simp)
    · exact absurd h (by simp)
  · exact absurd h (by simp)

theorem isBytes_ok {E : Env} (hE : EnvOk P E) {S : TypeId} (h : isBytes E S = true) : ∃ e, P.underlying S = some (.slice e) ∧ P.underlying e = some (.int .u8) := by
  unfold isBytes at h
  split at h
  · rename_i ty hty
    rw [Bool.and_eq_true] at h
    obtain ⟨_, hk3, _⟩ := kd_under (tyIs (hE.Γ _ _ hty))
    refine ⟨ty.elem, hk3 (Nat.eq_of_beq_eq_true h.1), ?_⟩
    have h2 := h.2
    split at h2
    · rename_i hu; exact hE.ints _ _ hu
    · exact absurd h2 (by simp)
  · exact absurd h (by simp)
theorem isText_ok {E : Env} (hE : EnvOk P E) {S : TypeId} (h : isText E S = true) : P.underlying S = some .string := by
  unfold isText at h
  split at h
  · rename_i ty hty
    exact (kd_under (tyIs (hE.Γ _ _ hty))).2.2 (Nat.eq_of_beq_eq_true h)
  · exact absurd h (by simp)
theorem bytesOf_get : ∀ {xs : List (List PV)} {l : List UInt8}, bytesOf xs = some l → l.length = xs.length ∧ ∀ (j : Nat) (hj : j < l.length), xs[j]? = some [.v (.int .u8 (l[j].toNat : Int))]
  | [], l, h => by
    have := Option.some.inj h
    subst this
    exact ⟨rfl, fun j hj => by simp at hj⟩
  | x :: r, l, h => by
    unfold bytesOf at h
    split at h
    · rename_i e; exact absurd e (by simp)
    · rename_i n r' e
      cases e
      cases hb : (decide (0 ≤ n) && decide (n < 256)) with
      | false => rw [hb] at h; exact absurd h (by simp)
      | true =>
        rw [hb] at h
        simp only [cond_true] at h
        rw [Bool.and_eq_true] at hb
        have h0 := of_decide_eq_true hb.1
        have h1 := of_decide_eq_true hb.2
        split at h
        · rename_i l' hl'
          have := Option.some.inj h
          subst this
          obtain ⟨e1, e2⟩ := bytesOf_get hl'
          refine ⟨by simp [e1], fun j hj => ?_⟩
          cases j with
          | zero =>
            have : ((UInt8.ofNat n.toNat).toNat : Int) = n := by
              rw [UInt8.toNat_ofNat']
              omega
            simp only [List.getElem?_cons_zero, List.getElem_cons_zero, this]
          | succ j =>
            simp only [List.getElem?_cons_succ, List.getElem_cons_succ]
            exact e2 j (by simpa using hj)
        · exact absurd h (by simp)
    · exact absurd h (by simp)

theorem autoCvt_ok {E : Env} (hE : EnvOk P E) {S T : TypeId} {x r : PV} (h : autoCvt E S T x = some r) : (Obl.cvt S T x r).holds P := by
  unfold autoCvt at h
  split at h
  · rename_i k n
    unfold cvtInt at h
    split at h
    · rename_i k2 hS
      have e2 := hE.ints S k2 hS
      split at h
      · rename_i k1 hT
        have := Option.some.inj h
        subst this
        intro hw w vx hx
        rw [rep_v hx]
        have e1 := hE.ints T k1 hT
        have e3 : P.intKind T = k1 := by simp [Program.intKind, e1]
        exact ⟨.int k1 (k1.wrap n), by rw [run_convert_int w S T k n (by rw [e2]; rfl) (by rw [e3]; exact e1), e3], .v _ rfl⟩
      · split at h
        · rename_i k1 hT
          have := Option.some.inj h
          subst this
          intro hw w vx hx
          rw [rep_v hx]
          exact ⟨_, run_convert_int_float w S T k k1 n (by rw [e2]; rfl) (hE.flts T k1 hT), .v _ rfl⟩
        · exact absurd h (by simp)
    · exact absurd h (by simp)
  · rename_i s b
    unfold cvtFlt at h
    split at h
    · rename_i k k2 hT hS
      split at h
      · rename_i n hn
        cases hb : (decide (k.min ≤ n) && decide (n ≤ k.max)) with
        | false => rw [hb] at h; exact absurd h (by simp)
        | true =>
          rw [hb] at h
          have := Option.some.inj h
          subst this
          rw [Bool.and_eq_true] at hb
          have hr : k.min ≤ n ∧ n ≤ k.max := ⟨of_decide_eq_true hb.1, of_decide_eq_true hb.2⟩
          intro hw w vx hx
          rw [rep_v hx]
          refine ⟨.int k n, ?_, .v _ rfl⟩
          have e1 := hE.ints T k hT
          have e2 := hE.flts S k2 hS
          have e3 : (convert S T (.float s b)).run P w = (Conv.floatToInt s b k).run P w := by simp [convert, run_underlying e1, run_underlying e2]
          rw [e3]
          simp [Conv.floatToInt, hn, hr]
      · exact absurd h (by simp)
    · exact absurd h (by simp)
  · rename_i xs
    unfold cvtLst at h
    cases hb : (isBytes E S && isText E T) with
    | false => rw [hb] at h; exact absurd h (by simp)
    | true =>
      rw [hb] at h
      simp only [cond_true] at h
      rw [Bool.and_eq_true] at hb
      obtain ⟨e, hS, he⟩ := isBytes_ok hE hb.1
      have hT := isText_ok hE hb.2
      split at h
      · rename_i l hl
        have := Option.some.inj h
        subst this
        obtain ⟨h1, h2⟩ := bytesOf_get hl
        intro hw w vx hx
        generalize hq : (PV.lst xs) = q at *
        cases hx with
        | lnil =>
          cases hq
          cases hl
          refine ⟨.string ⟨([] : List UInt8).toArray⟩, ?_, .str []⟩
          rw [run_convert_bytes_string w S T e none 0 0 hS he hT]
          rfl
        | lst xs' blk off cap s c hcap hlen hc hr h1' hh =>
          cases hq
          refine ⟨.string ⟨l.toArray⟩, ?_, .str l⟩
          rw [← h1]
          refine run_convert_bytes_back w S T e ⟨blk, off, none⟩ cap l hS he hT fun j hj => ?_
          have hx := h2 j hj
          have hs : s = 1 := (hlen j _ hx).symm
          subst hs
          have := hc j 0 (by omega) (by omega)
          rw [Addr.add_lit]
          simp only [Nat.mul_one, Nat.add_zero] at this
          rw [this]
          have := hr j 0 _ _ hx rfl
          rw [rep_v this]
        | _ => cases hq
      · exact absurd h (by simp)
  · cases hb : (isBytes E S && isText E T) with
    | false => rw [hb] at h; exact absurd h (by simp)
    | true =>
      rw [hb] at h
      have := Option.some.inj h
      subst this
      rw [Bool.and_eq_true] at hb
      obtain ⟨e, hS, he⟩ := isBytes_ok hE hb.1
      have hT := isText_ok hE hb.2
      intro hw w vx hx
      cases hx
      refine ⟨.string ⟨([] : List UInt8).toArray⟩, ?_, .str []⟩
      rw [run_convert_bytes_string w S T e none 0 0 hS he hT]
      rfl
  · rename_i l
    cases hb : (isText E S && isText E T) with
    | false => rw [hb] at h; exact absurd h (by simp)
    | true =>
      rw [hb] at h
      have := Option.some.inj h
      subst this
      rw [Bool.and_eq_true] at hb
      intro hw w vx hx
      rw [rep_str hx]
      exact ⟨.string ⟨l.toArray⟩, by simp [convert, run_underlying (isText_ok hE hb.1), run_underlying (isText_ok hE hb.2)], .str l⟩
  · exact absurd h (by simp)

theorem args_one {hw : Nat → Nat} {w : World} {vals : List Value} {x : PV} (h : ArgsRep hw w vals [x]) : ∃ v, vals = [v] ∧ Rep hw w v x := by
  have hl := h.len
  cases vals with
  | nil => simp at hl
  | cons v r => cases r with
    | nil => exact ⟨v, rfl, h.rep 0 v x rfl rfl⟩
    | cons _ _ => simp at hl
theorem args_two {hw : Nat → Nat} {w : World} {vals : List Value} {x y : PV} (h : ArgsRep hw w vals [x, y]) : ∃ v u, vals = [v, u] ∧ Rep hw w v x ∧ Rep hw w u y := by
  have hl := h.len
  cases vals with
  | nil => simp at hl
  | cons v r => cases r with
    | nil => simp at hl
    | cons u r => cases r with
      | nil => exact ⟨v, u, rfl, h.rep 0 v x rfl rfl, h.rep 1 u y rfl rfl⟩
      | cons _ _ => simp at hl

theorem autoBlt_ok {b : Builtin} {ats : Array TypeId} {T : TypeId} {xs : List PV} {r : PV} (h : autoBlt b xs = some r) : (Obl.blt b ats T xs r).holds P := by
  intro hw w vals cs hx
  unfold autoBlt at h
  split at h
  · rename_i k a k' c
    cases hk : decide (k = k') with
    | false => rw [hk] at h; exact absurd h (by simp)
    | true =>
      rw [hk] at h
      have := of_decide_eq_true hk
      subst this
      have := Option.some.inj h
      subst this
      obtain ⟨v, u, rfl, h1, h2⟩ := args_two hx
      rw [rep_v h1, rep_v h2]
      have e : Builtin.complex_ ats T #[.float k a, .float k c] = pure (.complex k a c) := if_pos rfl
      refine ⟨.complex k a c, ?_, .v _ rfl⟩
      show (do pure (Next.value (← Builtin.complex_ ats T #[.float k a, .float k c])) : Sem Next).run P w = _
      rw [e]
      rfl
  · have := Option.some.inj h
    subst this
    obtain ⟨v, rfl, h1⟩ := args_one hx
    rw [rep_v h1]
    exact ⟨_, rfl, .v _ rfl⟩
  · have := Option.some.inj h
    subst this
    obtain ⟨v, rfl, h1⟩ := args_one hx
    rw [rep_v h1]
    exact ⟨_, rfl, .v _ rfl⟩
  · exact absurd h (by simp)

def CallOk (P : Program) (call : CallF) : Prop := ∀ f args r, call f args = some r → Con P f args r

theorem autoQ_ok {E : Env} (hE : EnvOk P E) {call : CallF} (hC : CallOk P call) {os os' ob : List Obl} {r : Res} (h : autoQ E call σ o = some os) (h' : evPure E.Γ σ o os = some (r, os', ob)) : os' = [] ∧ holdsAll P ob := by
  have nil : os = [] → (∀ op T x y yT, o.op ≠ .binOp op T x y yT) → (∀ f args ats, o.op ≠ .call ⟨.value f, args, ats⟩) → (∀ T x i, o.op ≠ .index T x i) → (∀ T x i, o.op ≠ .indexAddr T x i) → (∀ T x lo hi mx, o.op ≠ .slice T x lo hi mx) → os' = [] ∧ holdsAll P ob := by
    intro e h1 h2 h3 h4 h5
    subst e
    obtain ⟨q1, q2⟩ := evPure_nil h' h1 h2 h3 h4 h5
    subst q2
    exact ⟨q1, holdsAll_nil⟩
  unfold autoQ at h
  split at h
  · rename_i f args ats hop
    split at h
    · rename_i r0 hr0
      have := Option.some.inj h
      subst this
      obtain ⟨dst, op, type, pos, after, guard⟩ := o
      simp only at hop
      subst hop
      simp only [evPure] at h'
      unfold autoCall at hr0
      split at hr0
      · rename_i g0 cs l hf hl
        rw [hf, hl] at h'
        simp only at h'
        split at hr0
        · rename_i xs c hh
          rw [hh] at h'
          simp only at h'
          cases hb : (!c || flat r0) with
          | false => rw [hb] at h'; exact absurd h' (by simp)
          | true =>
            rw [hb] at h'
            have := Option.some.inj h'
            cases this
            exact ⟨rfl, holdsAll_one (hC _ _ _ hr0)⟩
        · exact absurd hr0 (by simp)
      · rename_i g0 bs l hf hl
        rw [hf, hl] at h'
        simp only at h'
        split at hr0
        · rename_i xs c cs hh hbs
          rw [hh, hbs] at h'
          simp only at h'
          cases hb : flat r0 with
          | false => rw [hb] at h'; exact absurd h' (by simp)
          | true =>
            rw [hb] at h'
            have := Option.some.inj h'
            cases this
            exact ⟨rfl, holdsAll_one (hC _ _ _ hr0)⟩
        · exact absurd hr0 (by simp)
      · exact absurd hr0 (by simp)
    · exact absurd h (by simp)
  · rename_i op T x y yT hop
    split at h
    · rename_i u v hu hv
      obtain ⟨dst, op', type, pos, after, guard⟩ := o
      simp only at hop
      subst hop
      simp only [evPure, hu, hv] at h'
      obtain ⟨q, h1, _⟩ := out_plain h'
      exact autoBin_ok hE h h1
    · exact absurd h (by simp)
  · rename_i T x i hop
    split at h
    · rename_i u v hu hv
      obtain ⟨dst, op', type, pos, after, guard⟩ := o
      simp only at hop
      subst hop
      simp only [evPure, hu, hv] at h'
      obtain ⟨q, h1, _⟩ := out_plain h'
      unfold autoIndex at h
      split at h
      · rename_i ty k n hty
        split at h
        · rename_i l hk
          cases hb : (decide (0 ≤ n) && decide (n < l.length)) with
          | false => rw [hb] at h; exact absurd h (by simp)
          | true =>
            rw [hb] at h
            have := Option.some.inj h
            subst this
            rw [Bool.and_eq_true] at hb
            unfold evIndex at h1
            simp only [hty, hk] at h1
            have := Option.some.inj h1
            cases this
            exact ⟨rfl, holdsAll_one (show 0 ≤ n ∧ n < l.length from ⟨of_decide_eq_true hb.1, of_decide_eq_true hb.2⟩)⟩
        · rename_i cs hk
          split at h
          · rename_i ety hety
            split at h
            · rename_i y hy
              cases hb : decide (0 ≤ n) with
              | false => rw [hb] at h; exact absurd h (by simp)
              | true =>
                rw [hb] at h
                have := Option.some.inj h
                subst this
                unfold evIndex at h1
                simp only [hty, hk, hety] at h1
                cases hb2 : (Nat.beq cs.length (ty.len * ety.size) && !(Nat.beq ety.size 0)) with
                | false => rw [hb2] at h1; exact absurd h1 (by simp)
                | true =>
                  rw [hb2] at h1
                  simp only [cond_true] at h1
                  split at h1
                  · cases hb3 : Nat.beq y.length ety.size with
                    | false => rw [hb3] at h1; exact absurd h1 (by simp)
                    | true =>
                      rw [hb3] at h1
                      have := Option.some.inj h1
                      cases this
                      exact ⟨rfl, holdsAll_one (show 0 ≤ n ∧ (chunk ety.size ty.len cs)[n.toNat]? = some y from ⟨of_decide_eq_true hb, hy⟩)⟩
                  · exact absurd h1 (by simp)
            · exact absurd h (by simp)
          · exact absurd h (by simp)
        · exact absurd h (by simp)
      · exact absurd h (by simp)
    · exact absurd h (by simp)
  · rename_i T x i hop
    split at h
    · rename_i u v hu hv
      obtain ⟨dst, op', type, pos, after, guard⟩ := o
      simp only at hop
      subst hop
      unfold autoIndexAddr at h
      split at h
      · rename_i ty k n hty
        simp only [evPure, hty, hu, hv] at h'
        split at h
        · rename_i xs hk
          split at h
          · rename_i y hy
            cases hb : decide (0 ≤ n) with
            | false => rw [hb] at h; exact absurd h (by simp)
            | true =>
              rw [hb] at h
              have := Option.some.inj h
              subst this
              simp only [hk] at h'
              split at h'
              · rename_i ety xs' i' y' os2 hety heq
                cases heq
                cases hb2 : (Nat.beq y.length ety.size && !(Nat.beq ety.size 0)) with
                | false => rw [hb2] at h'; exact absurd h' (by simp)
                | true =>
                  rw [hb2] at h'
                  have := Option.some.inj h'
                  cases this
                  exact ⟨rfl, holdsAll_one (show 0 ≤ n ∧ xs[n.toNat]? = some y from ⟨of_decide_eq_true hb, hy⟩)⟩
              · exact absurd h' (by simp)
          · exact absurd h (by simp)
        · rename_i hk
          cases hb : (decide (0 ≤ n) && decide (n < ty.len)) with
          | false => rw [hb] at h; exact absurd h (by simp)
          | true =>
            rw [hb] at h
            have := Option.some.inj h
            subst this
            rw [Bool.and_eq_true] at hb
            have hp : 0 ≤ n ∧ n < ty.len := ⟨of_decide_eq_true hb.1, of_decide_eq_true hb.2⟩
            simp only [hk] at h'
            split at h'
            · rename_i e; exact absurd e (by simp)
            · split at h'
              · rename_i e; cases e; have := Option.some.inj h'; cases this; exact ⟨rfl, holdsAll_one hp⟩
              · exact absurd h' (by simp)
            · split at h'
              · rename_i e; cases e; have := Option.some.inj h'; cases this; exact ⟨rfl, holdsAll_one hp⟩
              · exact absurd h' (by simp)
            · exact absurd h' (by simp)
        · exact absurd h (by simp)
      · exact absurd h (by simp)
    · exact absurd h (by simp)
  · rename_i T x lo hi hop
    obtain ⟨dst, op', type, pos, after, guard⟩ := o
    simp only at hop
    subst hop
    simp only [evPure] at h'
    split at h
    · rename_i u hu
      rw [hu] at h'
      simp only at h'
      split at h
      · exact absurd h (by simp)
      · rename_i l
        split at h
        · rename_i lv hlv
          simp only [hlv] at h'
          obtain ⟨q, h1, _⟩ := out_plain h'
          exact autoSlice_ok h h1
        · exact absurd h (by simp)
      · rename_i hh
        split at h
        · rename_i hv hhv
          simp only [hhv] at h'
          obtain ⟨q, h1, _⟩ := out_plain h'
          exact autoSlice_ok h h1
        · exact absurd h (by simp)
      · rename_i l hh
        split at h
        · rename_i lv hv hlv hhv
          simp only [hlv, hhv] at h'
          obtain ⟨q, h1, _⟩ := out_plain h'
          exact autoSlice_ok h h1
        · exact absurd h (by simp)
    · exact absurd h (by simp)
  · exact absurd h (by simp)
  · rename_i S T x hop
    obtain ⟨dst, op', type, pos, after, guard⟩ := o
    simp only at hop
    subst hop
    simp only [evPure] at h'
    split at h
    · rename_i u hu
      rw [hu] at h'
      split at h
      · rename_i r0 hr0
        have := Option.some.inj h
        subst this
        simp only at h'
        have := Option.some.inj h'
        cases this
        exact ⟨rfl, holdsAll_one (autoCvt_ok hE hr0)⟩
      · exact absurd h (by simp)
    · exact absurd h (by simp)
  · rename_i b args ats hop
    split at h
    · rename_i xs hxs
      split at h
      · rename_i r0 hr0
        have := Option.some.inj h
        subst this
        obtain ⟨dst, op', type, pos, after, guard⟩ := o
        simp only at hop
        subst hop
        simp only [evPure, hxs, evBuiltin] at h'
        have := Option.some.inj h'
        cases this
        exact ⟨rfl, holdsAll_one (autoBlt_ok hr0)⟩
      · exact nil (Option.some.inj h).symm (fun op T x y yT e => by rw [hop] at e; cases e) (fun f args ats e => by rw [hop] at e; cases e) (fun T x i e => by rw [hop] at e; cases e) (fun T x i e => by rw [hop] at e; cases e) (fun T x lo hi mx e => by rw [hop] at e; cases e)
    · exact absurd h (by simp)
  · rename_i q1 q2 q3 q4 q5 q6 q7 q8
    exact nil (Option.some.inj h).symm (fun op T x y yT e => q2 op T x y yT e) (fun f args ats e => q1 f args ats e) (fun T x i e => q3 T x i e) (fun T x i e => q4 T x i e) (fun T x lo hi mx e => by
      cases mx with
      | none => exact q5 T x lo hi e
      | some m => exact q6 T x lo hi m e)

theorem makeS_sound {Γ : List (Nat × Ty)} (hΓ : TyOk P Γ) {hw : Nat → Nat} (hl0 : ∀ k, w.heap.size ≤ k → hw k = 0) {T : TypeId} {l c x : PV} (h : makeS Γ T l c = some x) {vl vc : Value} (hl : Rep hw w vl l) (hc : Rep hw w vc c) :
    ∃ v w' hw', (Instr.makeSlice T vl vc).run P w = .ok v w' ∧ Qt hw w hw' w' ∧ Rep hw' w' v x := by
  unfold makeS at h
  split at h
  · rename_i ty k n k' m hty
    cases hb : (decide (n = m) && decide (0 ≤ n) && Nat.beq ty.kd 3) with
    | false => rw [hb] at h; exact absurd h (by simp)
    | true =>
      rw [hb] at h
      simp only [cond_true] at h
      simp only [Bool.and_eq_true] at hb
      obtain ⟨⟨b1, b2⟩, b3⟩ := hb
      have e1 := of_decide_eq_true b1
      have e2 := of_decide_eq_true b2
      have hkd := Nat.eq_of_beq_eq_true b3
      subst e1
      split at h
      · rename_i ety hety
        cases hb : (Nat.beq ety.size 0 || Nat.ble 16777216 (n.toNat * ety.size) || Nat.ble 16777216 (n.toNat * ety.bytes) || !(Nat.beq ety.zero.length ety.size)) with
        | true => rw [hb] at h; exact absurd h (by simp)
        | false =>
          rw [hb] at h
          have := Option.some.inj h
          subst this
          simp only [Bool.or_eq_false_iff, Bool.not_eq_false'] at hb
          obtain ⟨⟨⟨c1, c2⟩, c3⟩, c4⟩ := hb
          have hs0 : ety.size ≠ 0 := fun h0 => by rw [h0] at c1; exact absurd c1 (by decide)
          have hn1 : n.toNat * ety.size < 16777216 := by
            rcases Nat.lt_or_ge (n.toNat * ety.size) 16777216 with h | h
            · exact h
            · rw [Nat.ble_eq_true_of_le h] at c2; exact absurd c2 (by simp)
          have hn2 : n.toNat * ety.bytes < 16777216 := by
            rcases Nat.lt_or_ge (n.toNat * ety.bytes) 16777216 with h | h
            · exact h
            · rw [Nat.ble_eq_true_of_le h] at c3; exact absurd c3 (by simp)
          have hET := tyIs (hΓ _ _ hety)
          obtain ⟨i, z, hi, hz, s1, s2, s3, s4, s5⟩ := hET.info
          obtain ⟨_, hk3, _⟩ := kd_under (tyIs (hΓ _ _ hty))
          have hu := hk3 hkd
          rw [rep_v hl, rep_v hc]
          have hnn : (n.toNat : Int) = n := Int.toNat_of_nonneg e2
          have hle : n.toNat ≤ n.toNat * ety.size := Nat.le_mul_of_pos_right _ (by omega)
          have hrun := run_makeSlice (P := P) w T ty.elem i z hu hi hz k k' n n e2 (Int.le_refl _) (by rw [← s1]; omega) (by rw [← s2, ← hnn, ← Int.natCast_mul, Nat.mul_comm]; omega) (by omega)
          have hcells : madeCells z.cells (n.toNat * i.size) = (repsV n.toNat z.cells.toList ++ []).toArray := by
            rw [List.append_nil, ← s5]
            exact range_reps (by rw [s5, ← s1]; omega) n.toNat
          rw [hcells] at hrun
          have hlen : (reps n.toNat ety.zero).length = n.toNat * ety.size := by rw [reps_len, Nat.eq_of_beq_eq_true c4]
          refine ⟨_, _, fun k => if k = w.heap.size then n.toNat * ety.size else hw k, hrun, qt_alloc hl0 (fun k hk => by simp [hk]) _, ?_⟩
          refine newRow_rep hl0 ?_ hlen (Nat.le_refl _) ty.elem
          rw [s3]
          exact reps_rep s4 n.toNat
      · exact absurd h (by simp)
  · exact absurd h (by simp)

theorem bytes_sound {E : Env} (hE : EnvOk P E) {hw : Nat → Nat} (hl0 : ∀ k, w.heap.size ≤ k → hw k = 0) {S T : TypeId} {l : List UInt8} {x : PV} (h : bytesS E S T l = some x) :
    ∃ v w' hw', (convert S T (.string ⟨l.toArray⟩)).run P w = .ok v w' ∧ Qt hw w hw' w' ∧ Rep hw' w' v x := by
  unfold bytesS at h
  cases hb : (isText E S && isBytes E T) with
  | false => rw [hb] at h; exact absurd h (by simp)
  | true =>
    rw [hb] at h
    have := Option.some.inj h
    subst this
    rw [Bool.and_eq_true] at hb
    obtain ⟨e, hT, he⟩ := isBytes_ok hE hb.2
    have hrun := run_bytes_of_string (P := P) w S T e ⟨l.toArray⟩ (isText_ok hE hb.1) hT he
    have hsz : (⟨l.toArray⟩ : ByteArray).size = l.length := by show l.toArray.size = _; simp
    rw [hsz] at hrun
    refine ⟨_, _, fun k => if k = w.heap.size then l.length else hw k, hrun, ⟨((Below.refl _ _).drew).alloc (Nat.le_refl _) _, fun k hk => if_neg (by omega), fun k hk => ?_⟩, ?_⟩
    · have : w.heap.size < k := by
        have h2 : w.heap.size + 1 ≤ k := by simpa using hk
        omega
      exact (if_neg (by omega)).trans (hl0 k (by omega))
    · have key := fun j => World.cell?_alloc_mark w.drew (bytesRow ⟨l.toArray⟩ (grownCap w l.length 0 e)) e ((bytesRow ⟨l.toArray⟩ (grownCap w l.length 0 e)).size, (bytesRow ⟨l.toArray⟩ (grownCap w l.length 0 e)).size + 1) j
      have hget : ∀ j, (hj : j < l.length) → (bytesRow ⟨l.toArray⟩ (grownCap w l.length 0 e))[j]? = some (.int .u8 (l[j].toNat : Int)) := by
        intro j hj
        unfold bytesRow
        rw [Array.getElem?_append_left (by simpa using hj)]
        simp [hj]
      have hlen : (l.map fun b => [PV.v (.int .u8 b.toNat)]).length = l.length := by simp
      have := Rep.lst (hw := fun k => if k = w.heap.size then l.length else hw k) (w := w.drew.alloc (.cells (bytesRow ⟨l.toArray⟩ (grownCap w l.length 0 e)) e ((bytesRow ⟨l.toArray⟩ (grownCap w l.length 0 e)).size, (bytesRow ⟨l.toArray⟩ (grownCap w l.length 0 e)).size + 1)))
        (l.map fun b => [PV.v (.int .u8 b.toNat)]) w.heap.size 0 (grownCap w l.length 0 e) 1 (fun i _ => .int .u8 ((l.getD i 0).toNat : Int)) (by rw [hlen]; exact grownCap_ge _ _ _ _) (fun i x hx => ?_) (fun i j hi hj => ?_) (fun i j x y hx hy => ?_) (fun i j _ _ => rfl) (by rw [hlen]; simp)
      · rw [hlen] at this; exact this
      · rw [List.getElem?_map] at hx
        cases hq : l[i]? with
        | none => rw [hq] at hx; exact absurd hx (by simp)
        | some q => rw [hq] at hx; have := Option.some.inj hx; subst this; rfl
      · rw [hlen] at hi
        have hj0 : j = 0 := by omega
        subst hj0
        rw [Nat.mul_one, Nat.zero_add, Nat.add_zero]
        refine (key i).trans ?_
        rw [hget i hi]
        simp [hi]
      · rw [List.getElem?_map] at hx
        cases hq : l[i]? with
        | none => rw [hq] at hx; exact absurd hx (by simp)
        | some q =>
          rw [hq] at hx
          have := Option.some.inj hx
          subst this
          cases j with
          | zero =>
            have := Option.some.inj hy
            subst this
            have : l.getD i 0 = q := by simp [hq]
            rw [this]
            exact .v _ rfl
          | succ j => simp at hy

theorem run_equalIn_nil (d : Nat) {T : TypeId} {ms : Array (String × TypeId)} (hu : P.underlying T = some (.interface ms)) : (Op.equalIn (d + 1) T .nilIface .nilIface).run P w = .ok true w := by
  simp [Op.equalIn, run_underlying hu]
theorem nilCmp_ok {E : Env} (hE : EnvOk P E) {op : BinOp} {T : TypeId} {x r : PV} (h : nilCmp E op T x = some r) {hw : Nat → Nat} {vx : Value} (hx : Rep hw w vx x) (ox : Operand) :
    ∃ v, (do eqGuard op T ox (.const .nilIface) vx .nilIface; binOp op T vx .nilIface : Sem Value).run P w = .ok v w ∧ Rep hw w v r := by
  unfold nilCmp at h
  split at h
  · cases hb : has T E.ifcs with
    | false => rw [hb] at h; exact absurd h (by simp)
    | true =>
      rw [hb] at h
      have := Option.some.inj h
      subst this
      obtain ⟨ms, hu⟩ := hE.ifcs T hb
      rw [rep_v hx]
      have he : (Op.equal T .nilIface .nilIface).run P w = .ok true w := by
        exact run_equalIn_nil 9999 hu
      exact ⟨.bool true, by simp [eqGuard, binOp, he], .v _ rfl⟩
  · cases hb : has T E.ifcs with
    | false => rw [hb] at h; exact absurd h (by simp)
    | true =>
      rw [hb] at h
      have := Option.some.inj h
      subst this
      obtain ⟨ms, hu⟩ := hE.ifcs T hb
      rw [rep_v hx]
      have he : (Op.equal T .nilIface .nilIface).run P w = .ok true w := by
        exact run_equalIn_nil 9999 hu
      exact ⟨.bool false, by simp [eqGuard, binOp, he], .v _ rfl⟩
  · exact absurd h (by simp)

theorem plainR_get {o : Oper} {x : Option PV} {r : Res} (h : plainR σ o x = some r) : ∃ d y, o.dst = some d ∧ x = some y ∧ d < σ.n ∧ r = ⟨.p y, none, none⟩ := by
  unfold plainR at h
  split at h
  · rename_i d y hd
    cases hb : Nat.blt d σ.n with
    | false => rw [hb] at h; exact absurd h (by simp)
    | true =>
      rw [hb] at h
      exact ⟨d, y, hd, rfl, Nat.le_of_ble_eq_true hb, (Option.some.inj h).symm⟩
  · exact absurd h (by simp)

theorem RRgen_ok {E : Env} (hE : EnvOk P E) {call : CallF} (hC : CallOk P call) : ∀ τ o r, RRgen E call τ o = some r → QuietOk P τ o r := by
  intro τ o r h B g a w hI
  unfold RRgen at h
  split at h
  · rename_i os hos
    split at h
    · rename_i r0 os' ob hq
      have := Option.some.inj h
      subst this
      refine quiet_sound hE.Γ hI hq ?_
      unfold evQuiet at hq
      split at hq
      · rename_i r1 os1 ob1 h1
        obtain ⟨e1, e2⟩ := autoQ_ok hE hC hos h1
        subst e1
        split at hq
        · rename_i d hd
          split at hq
          · rename_i r2 os2 ob2 h2
            cases hb : (Nat.blt d τ.n && linkOk d r2.link) with
            | false => rw [hb] at hq; exact absurd hq (by simp)
            | true =>
              rw [hb] at hq
              have := Option.some.inj hq
              cases this
              have hob : ob2 = [] := by
                have e : rewr d r1 [] = some (r1, [], []) := rfl
                rw [e] at h2
                have := Option.some.inj h2
                cases this
                rfl
              rw [hob, List.append_nil]
              exact e2
          · exact absurd hq (by simp)
        · have := Option.some.inj hq
          cases this
          exact e2
      · exact absurd hq (by simp)
    · exact absurd h (by simp)
  · exact absurd h (by simp)

theorem RR_ok {E : Env} (hE : EnvOk P E) {call : CallF} (hC : CallOk P call) : ∀ j τ o r, RR E call j τ o = some r → QuietOk P τ o r := by
  intro j τ o r h
  have fin : ∀ {y : PV} {d : Nat}, o.dst = some d → d < τ.n → (∀ B g a w, Inv P B g τ a w → ∃ v w' hw', (execOp a.eval o).run P w = .ok (.value v) w' ∧ Qt g.hw w hw' w' ∧ Rep hw' w' v y) → QuietOk P τ o ⟨.p y, none, none⟩ := by
    intro y d hd hlt hrun B g a w hI
    refine ⟨?_, fun d' hd' => ?_⟩
    · obtain ⟨v, w', hw', h1, h2, h3⟩ := hrun B g a w hI
      exact .inl ⟨v, w', h1, ⟨g.β, hw'⟩, h2, h3, fun _ => rfl, fun _ h => absurd h (by simp), fun _ h => absurd h (by simp), fun _ => ⟨fun _ _ h => absurd h (by simp), fun _ _ h => absurd h (by simp), fun _ _ _ _ h => absurd h (by simp)⟩⟩
    · rw [hd] at hd'
      have := Option.some.inj hd'
      subst this
      exact ⟨hlt, fun l h => absurd h (by simp)⟩
  unfold RR at h
  split at h
  · rename_i T l c hop
    split at h
    · rename_i pl pc hl hc
      obtain ⟨d, y, hd, hx, hlt, rfl⟩ := plainR_get h
      refine fin hd hlt fun B g a w hI => ?_
      obtain ⟨v, w', hw', h1, h2, h3⟩ := makeS_sound hE.Γ hI.hwlt hx (pvOf_sound hI hl) (pvOf_sound hI hc)
      refine ⟨v, w', hw', ?_, h2, h3⟩
      unfold execOp
      rw [hop]
      exact run_val h1
    · exact absurd h (by simp)
  · rename_i S T x hop
    split at h
    · rename_i l hx
      split at h
      · rename_i r0 hr0
        obtain ⟨d, y, hd, hy, hlt, rfl⟩ := plainR_get h
        cases hy
        refine fin hd hlt fun B g a w hI => ?_
        obtain ⟨v, w', hw', h1, h2, h3⟩ := bytes_sound hE hI.hwlt hr0
        refine ⟨v, w', hw', ?_, h2, h3⟩
        have h1' : (convert S T (a.eval x)).run P w = .ok v w' := by rw [rep_str (pvOf_sound hI hx)]; exact h1
        unfold execOp
        rw [hop]
        exact run_val h1'
      · exact RRgen_ok hE hC τ o r h
    · exact RRgen_ok hE hC τ o r h
  · rename_i op T x y yT hop
    split at h
    · rename_i hn
      split at h
      · rename_i u hu
        obtain ⟨d, q, hd, hq, hlt, rfl⟩ := plainR_get h
        have hyc : y = .const .nilIface := by
          unfold isNilC at hn
          split at hn
          · rfl
          · exact absurd hn (by simp)
        refine fin hd hlt fun B g a w hI => ?_
        obtain ⟨v, h1, h2⟩ := nilCmp_ok (P := P) (w := w) hE hq (pvOf_sound hI hu) x
        refine ⟨v, w, g.hw, ?_, Qt.refl hI.hwlt, h2⟩
        unfold execOp
        rw [hop, hyc]
        exact run_val h1
      · exact absurd h (by simp)
    · exact RRgen_ok hE hC τ o r h
  · exact RRgen_ok hE hC τ o r h
end
end Go.Ev
