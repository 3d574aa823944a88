/- A logic of frames, written for these claims: what a function is known to do is said of what is known of its arguments, in whatever memory; an evaluator of the program's code in that logic, and its soundness. (Part EvB.) -/
import Derived.Test.YtbbnkadjmioalaaGreatDoorFiEvA
namespace Go.Ev
open Go.RowKit
section
variable {P : Program} {B : Nat} {g : G} {σ : St} {a : Act} {w : World} {o : Oper}

theorem lk_mem {α : Type} {t : Nat} {x : α} : ∀ {l : List (Nat × α)}, lk t l = some x → (t, x) ∈ l
  | [], h => by simp [lk] at h
  | (k, y) :: r, h => by
    rw [lk_cons] at h
    split at h
    · rename_i e; have := Option.some.inj h; subst this; subst e; simp
    · exact List.mem_cons_of_mem _ (lk_mem h)

/-- A place that holds a list is named by where it came from. -/
theorem link_move (hI : Inv P B g σ a w) {t : Nat} {v : PV} {l : Loc} (h : linkOf σ v (.t t) = some l) : LocIs g a w l (a.tmps.getD t undef) := by
  unfold linkOf at h
  split at h
  · simp only at h
    split at h
    · rename_i l' hl
      have := Option.some.inj h
      subst this
      exact hI.al t l' (lk_mem hl)
    · have := Option.some.inj h
      subst this
      exact rfl
  · have := Option.some.inj h
    subst this
    exact rfl
  · exact absurd h (by simp)

theorem link_loc {v : PV} {b c : Nat} {l : Loc} (h : linkOf σ v (.b b c) = some l) : l = .b b c := by
  unfold linkOf at h
  split at h
  · exact (Option.some.inj h).symm
  · exact (Option.some.inj h).symm
  · exact absurd h (by simp)

/-- A list or nil is one cell. -/
theorem link_list {v : PV} {l l' : Loc} (h : linkOf σ v l = some l') : (∃ xs, v = .lst xs) ∨ v = .nil := by
  unfold linkOf at h
  split at h
  · exact .inl ⟨_, rfl⟩
  · exact .inr rfl
  · exact absurd h (by simp)

theorem rd_list {ty : Ty} {cs : List PV} {off : Nat} {x : PV} (h : rd ty cs off = some x) (hx : (∃ xs, x = .lst xs) ∨ x = .nil) : cs[off]? = some x ∧ ty.agg = false := by
  unfold rd at h
  cases hb : Nat.ble (off + ty.size) cs.length with
  | false => rw [hb] at h; exact absurd h (by simp)
  | true =>
    rw [hb] at h
    simp only [cond_true] at h
    cases ha : ty.agg with
    | true =>
      rw [ha] at h
      simp only [cond_true] at h
      cases hd : hdOk ((cs.drop off).take ty.size) with
      | false => rw [hd] at h; exact absurd h (by simp)
      | true =>
      rw [hd] at h
      have := Option.some.inj h
      subst this
      rcases hx with ⟨xs, hx⟩ | hx <;> exact absurd hx (by simp)
    | false =>
      rw [ha] at h
      simp only [cond_false] at h
      cases hb1 : Nat.beq ty.size 1 with
      | false => rw [hb1] at h; exact absurd h (by simp)
      | true => rw [hb1] at h; exact ⟨(rd1_get h).1, rfl⟩

theorem reps_of {l : List Operand} {r : List PV} (hI : Inv P B g σ a w) (h : mapO (pvOf σ) l = some r) : ArgsRep g.hw w (l.map a.eval) r := by
  obtain ⟨e1, e2⟩ := mapO_get h
  refine ⟨by simp [e1], fun j x y hx hy => ?_⟩
  rw [List.getElem?_map] at hx
  cases hl : l[j]? with
  | none => rw [hl] at hx; exact absurd hx (by simp)
  | some z =>
    rw [hl] at hx
    have := Option.some.inj hx
    subst this
    exact pvOf_sound hI (e2 j z y hl hy)

theorem avs_of {l : List Operand} {r : List AV} (hI : Inv P B g σ a w) (h : mapO (opd σ) l = some r) : (l.map a.eval).length = r.length ∧ ∀ (j : Nat) (v : Value) (av : AV), (l.map a.eval)[j]? = some v → r[j]? = some av → RepA g w v av := by
  obtain ⟨e1, e2⟩ := mapO_get h
  refine ⟨by simp [e1], fun j x y hx hy => ?_⟩
  rw [List.getElem?_map] at hx
  cases hl : l[j]? with
  | none => rw [hl] at hx; exact absurd hx (by simp)
  | some z =>
    rw [hl] at hx
    have := Option.some.inj hx
    subst this
    exact opd_sound hI (e2 j z y hl hy)

theorem parts_of {l : List (Nat × Operand)} {r : List (Nat × PV)} (hI : Inv P B g σ a w) (h : mapO (fun (x : Nat × Operand) => match pvOf σ x.2 with | some v => some (x.1, v) | none => none) l = some r) :
    (l.map fun x => (x.1, a.eval x.2)).length = r.length ∧ ∀ (j : Nat) (v : Nat × Value) (p : Nat × PV), (l.map fun x => (x.1, a.eval x.2))[j]? = some v → r[j]? = some p → v.1 = p.1 ∧ Rep g.hw w v.2 p.2 := by
  obtain ⟨e1, e2⟩ := mapO_get h
  refine ⟨by simp [e1], fun j x y hx hy => ?_⟩
  rw [List.getElem?_map] at hx
  cases hl : l[j]? with
  | none => rw [hl] at hx; exact absurd hx (by simp)
  | some z =>
    rw [hl] at hx
    have := Option.some.inj hx
    subst this
    have := e2 j z y hl hy
    split at this
    · rename_i v hv
      have := Option.some.inj this
      subst this
      exact ⟨rfl, pvOf_sound hI hv⟩
    · exact absurd this (by simp)

theorem boxesOf_get : ∀ {l : List AV} {bs : List Nat}, boxesOf l = some bs → l.length = bs.length ∧ ∀ (j : Nat) (av : AV) (b : Nat), l[j]? = some av → bs[j]? = some b → av = .ptr b 0
  | [], bs, h => by have := Option.some.inj h; subst this; exact ⟨rfl, fun j av b h => by simp at h⟩
  | .p x :: r, bs, h => by simp [boxesOf] at h
  | .fnp f l :: r, bs, h => by simp [boxesOf] at h
  | .ptr b off :: r, bs, h => by
    unfold boxesOf at h
    cases hb : Nat.beq off 0 with
    | false => rw [hb] at h; exact absurd h (by simp)
    | true =>
      rw [hb] at h
      simp only [cond_true] at h
      have := Nat.eq_of_beq_eq_true hb
      subst this
      split at h
      · rename_i l hl
        have := Option.some.inj h
        subst this
        obtain ⟨e1, e2⟩ := boxesOf_get hl
        refine ⟨by simp [e1], fun j av c h1 h2 => ?_⟩
        cases j with
        | zero => simp at h1 h2; subst h1; subst h2; rfl
        | succ j => exact e2 j av c (by simpa using h1) (by simpa using h2)
      · exact absurd h (by simp)

abbrev Good (P : Program) (g : G) (σ : St) (a : Act) (w : World) (o : Oper) (res : Res) : Prop := OpRes P o a w fun v w' => ∃ g', PRes g σ a w o res v w' g'

theorem run_val {s : Sem Value} {v : Value} {w w' : World} (h : s.run P w = .ok v w') : (do pure (.value (← s)) : Sem Next).run P w = .ok (.value v) w' := by
  rw [Sem.run_bind, h]; rfl

theorem isSlice_idx {T : TypeId} {ty : Ty} (hT : TyIs P T ty) (hk : ty.kd = 3) {w : World} {xs : List (List PV)} {hw : Nat → Nat} {v : Value} (hv : Rep hw w v (.lst xs)) {n : Int} {k : IntKind} {y : List PV} {ety : Ty} (hE : TyIs P ty.elem ety)
    (h0 : 0 ≤ n) (hy : xs[n.toNat]? = some y) (hl : y.length = ety.size) : ∃ u, (Instr.indexAt T v (.int k n)).run P w = .ok u w ∧ Rep hw w u (.lptr y 0) := by
  obtain ⟨_, hk3, _⟩ := kd_under hT
  have hu := hk3 hk
  have hlt : n.toNat < xs.length := (List.getElem?_eq_some_iff.1 hy).1
  cases hv with
  | lnil => simp at hy
  | lst xs blk off cap s c hcap hlen hc hr h1 hh =>
    have hs : s = ety.size := by rw [← hl]; exact (hlen _ _ hy).symm
    subst hs
    refine ⟨.pointer (some ⟨blk, off + n.toNat * ety.size + 0, none⟩), ?_, ?_⟩
    · have hc1 : (0 : Int) ≤ n ∧ n < (xs.length : Int) := ⟨h0, by omega⟩
      simp [Instr.indexAt, asIntOf, run_underlying hu, hc1, run_sizeOf hE, Addr.add_lit]
    · refine .lptr y blk (off + n.toNat * ety.size) 0 (fun j => c n.toNat j) (fun j hj => ?_) (fun j z hz => hr _ _ y z hy hz) (fun j hj => h1 _ _ hlt (by omega)) ?_
      · rw [show off + n.toNat * ety.size + j = off + (n.toNat * ety.size + j) by omega]
        exact hc _ _ hlt (by omega)
      · rw [hl]
        have : (n.toNat + 1) * ety.size ≤ xs.length * ety.size := Nat.mul_le_mul_right _ hlt
        rw [Nat.succ_mul] at this
        omega

theorem isArr_idx {T : TypeId} {ty : Ty} (hT : TyIs P T ty) (hk : ty.kd = 2) {w : World} {k0 b0 : Nat} {n : Int} {k : IntKind} {ety : Ty} (hE : TyIs P ty.elem ety) (h0 : 0 ≤ n ∧ n < ty.len) :
    (Instr.indexAt T (.pointer (some ⟨k0, b0, none⟩)) (.int k n)).run P w = .ok (.pointer (some ⟨k0, b0 + n.toNat * ety.size, none⟩)) w := by
  obtain ⟨hk2, _, _⟩ := kd_under hT
  have hu := hk2 hk
  simp [Instr.indexAt, asIntOf, run_underlying hu, Instr.sureAddr, h0, run_sizeOf hE, Addr.add_lit]
end
end Go.Ev
namespace Go.Ev
open Go.RowKit
section
variable {P : Program} {B : Nat} {g : G} {σ : St} {a : Act} {w : World} {o : Oper}

/-- A value with nothing beside it. -/
theorem plainOut {v : Value} {x : PV} {os os' ob : List Obl} {res : Res} (hI : Inv P B g σ a w) (hr : (execOp a.eval o).run P w = .ok (.value v) w) (hrep : Rep g.hw w v x)
    (h : some ((⟨.p x, none, none⟩ : Res), os, ([] : List Obl)) = some (res, os', ob)) : Good P g σ a w o res := by
  injection h with h
  injection h with h1 _
  subst h1
  exact hereP hI hr hrep

theorem sound_move (hI : Inv P B g σ a w) {x : Operand} (hop : (execOp a.eval o).run P w = .ok (.value (a.eval x)) w) {os os' ob : List Obl} {res : Res}
    (h : (match opd σ x with
      | some (.p v) => some ((⟨.p v, none, mvLink σ v x⟩ : Res), os, ([] : List Obl))
      | some a => some (⟨a, none, none⟩, os, [])
      | none => none) = some (res, os', ob)) : Good P g σ a w o res := by
  split at h
  · rename_i v hv
    injection h with h
    injection h with h1 _
    subst h1
    refine here hI hop (opd_sound hI hv) (fun l hl => ?_) ⟨fun _ _ h => absurd h (by simp), fun _ _ h => absurd h (by simp), fun _ _ _ _ h => absurd h (by simp)⟩
    cases x with
    | tmp t => exact link_move hI hl
    | const _ => exact absurd hl (by simp [mvLink])
    | global _ => exact absurd hl (by simp [mvLink])
    | func _ => exact absurd hl (by simp [mvLink])
  · rename_i av hav hv
    injection h with h
    injection h with h1 _
    subst h1
    refine here hI hop (opd_sound hI hv) (fun _ h => absurd h (by simp)) ?_
    have ht : ∃ t, x = .tmp t ∧ lk t σ.tmps = some av ∨ ∃ y, av = .p y := by
      cases x with
      | tmp t => exact ⟨t, .inl ⟨rfl, hv⟩⟩
      | const v =>
        simp only [opd] at hv
        split at hv
        · exact ⟨0, .inr ⟨_, (Option.some.inj hv).symm⟩⟩
        · exact absurd hv (by simp)
      | global g =>
        simp only [opd] at hv
        split at hv
        · exact ⟨0, .inr ⟨_, (Option.some.inj hv).symm⟩⟩
        · exact absurd hv (by simp)
      | func f => exact ⟨0, .inr ⟨_, (Option.some.inj hv).symm⟩⟩
    obtain ⟨t, ht⟩ := ht
    rcases ht with ⟨_, ht⟩ | ⟨y, hy⟩
    · exact ⟨fun b off e => by subst e; exact hI.ptr t b off ht, fun f bs e => by subst e; exact hI.fnp t f bs ht, fun b off n s e => by subst e; exact hI.sl t b off n s ht⟩
    · subst hy; exact ⟨fun _ _ h => absurd h (by simp), fun _ _ h => absurd h (by simp), fun _ _ _ _ h => absurd h (by simp)⟩
  · exact absurd h (by simp)

theorem sound_load {Γ : List (Nat × Ty)} (hΓ : TyOk P Γ) (hI : Inv P B g σ a w) {T : TypeId} {p : Operand} (hop : ∀ v, (Instr.loadAt T (a.eval p)).run P w = .ok v w → (execOp a.eval o).run P w = .ok (.value v) w) {os os' ob : List Obl} {res : Res}
    (h : (match opd σ p with
      | some a => (match evLoad Γ σ.boxes T a with
        | some x => some ((⟨.p x, none, ldLink σ x a⟩ : Res), os, ([] : List Obl))
        | none => none)
      | none => none) = some (res, os', ob)) : Good P g σ a w o res := by
  split at h
  · rename_i av hav
    split at h
    · rename_i x hx
      injection h with h
      injection h with h1 _
      subst h1
      have hrep := opd_sound hI hav
      obtain ⟨v, h1, h2⟩ := load_sound hΓ hI hx hrep
      refine here hI (hop v h1) h2 (fun l hl => ?_) ⟨fun _ _ h => absurd h (by simp), fun _ _ h => absurd h (by simp), fun _ _ _ _ h => absurd h (by simp)⟩
      cases av with
      | p y => exact absurd hl (by simp [ldLink])
      | fnp f bs => exact absurd hl (by simp [ldLink])
      | sl b off n s => exact absurd hl (by simp [ldLink])
      | ptr b off =>
        have hl : linkOf σ x (.b b off) = some l := hl
        have hll := link_list hl
        have := link_loc hl
        subst this
        unfold evLoad at hx
        simp only at hx
        split at hx
        · rename_i ty cs hty hcs
          obtain ⟨hcell, hagg⟩ := rd_list hx hll
          obtain ⟨k, base, hk, hp⟩ := hrep
          obtain ⟨k', base', hk', _, hok, _⟩ := hI.box b cs hcs
          rw [hk] at hk'
          have := Option.some.inj hk'
          cases this
          obtain ⟨u, hu, _⟩ := hok.cell off x hcell
          refine ⟨k, base, hk, ?_⟩
          rw [hu]
          have hT := tyIs (hΓ T ty hty)
          have : (Instr.loadAt T (a.eval p)).run P w = .ok u w := by
            rw [hp]
            simp only [Instr.loadAt, Instr.sureAddr, Sem.run_bind, Sem.run_pure, Result.andThen_ok]
            unfold loadVar
            rw [Sem.run_bind, run_isAgg hT w, Result.andThen_ok, hagg]
            simp [hu]
          rw [this] at h1
          injection h1 with h1
          rw [h1]
        · exact absurd hx (by simp)
    · exact absurd h (by simp)
  · exact absurd h (by simp)

theorem sound_fieldAddr {Γ : List (Nat × Ty)} (hΓ : TyOk P Γ) (hI : Inv P B g σ a w) {T : TypeId} {p : Operand} {f : Nat} (hop : ∀ v, (Instr.fieldAt T (a.eval p) f).run P w = .ok v w → (execOp a.eval o).run P w = .ok (.value v) w) {os os' ob : List Obl} {res : Res}
    (h : (match opd σ p with
      | some a => (match evFieldAddr Γ T f a with
        | some a' => some ((⟨a', none, none⟩ : Res), os, ([] : List Obl))
        | none => none)
      | none => none) = some (res, os', ob)) : Good P g σ a w o res := by
  split at h
  · rename_i av hav
    split at h
    · rename_i a' ha'
      injection h with h
      injection h with h1 _
      subst h1
      have hrep := opd_sound hI hav
      unfold evFieldAddr at ha'
      split at ha'
      · rename_i off fty hf
        split at ha'
        · rename_i b o'
          have := Option.some.inj ha'
          subst this
          obtain ⟨k, base, hk, hp⟩ := hrep
          refine here hI (hop _ ?_) ⟨k, base, hk, rfl⟩ (fun _ h => absurd h (by simp)) ⟨fun b' off' e => ?_, fun _ _ h => absurd h (by simp), fun _ _ _ _ h => absurd h (by simp)⟩
          · rw [hp, fieldAddr_run hΓ hf]
            rw [Nat.add_assoc]
          · cases e
            cases p with
            | tmp t => exact hI.ptr t b o' hav
            | const v => simp only [opd] at hav; split at hav <;> exact absurd hav (by simp)
            | global _ => simp only [opd] at hav; split at hav <;> exact absurd hav (by simp)
            | func _ => exact absurd hav (by simp [opd])
        · rename_i cs o'
          have := Option.some.inj ha'
          subst this
          have hrep' : Rep g.hw w (a.eval p) (.lptr cs o') := hrep
          generalize hv : a.eval p = v at *
          cases hrep' with
          | lptr cs blk base off' c hc hr h1 hh =>
            refine hereP hI (v := .pointer (some ⟨blk, base + (o' + off), none⟩)) (hop _ ?_) (.lptr cs blk base (o' + off) c hc hr h1 hh)
            rw [fieldAddr_run hΓ hf, Nat.add_assoc]
        · exact absurd ha' (by simp)
      · exact absurd ha' (by simp)
    · exact absurd h (by simp)
  · exact absurd h (by simp)

theorem opd_ptr (hI : Inv P B g σ a w) {x : Operand} {b off : Nat} (h : opd σ x = some (.ptr b off)) : ∃ cs, lk b σ.boxes = some cs := by
  cases x with
  | tmp t => exact hI.ptr t b off h
  | const v => simp only [opd] at h; split at h <;> exact absurd h (by simp)
  | global _ => simp only [opd] at h; split at h <;> exact absurd h (by simp)
  | func _ => exact absurd h (by simp [opd])

theorem out_plain {r : Out PV} {os' ob : List Obl} {res : Res} (h : (match r with | some (x, os, ob) => some ((⟨.p x, none, none⟩ : Res), os, ob) | none => none) = some (res, os', ob)) :
    ∃ x, r = some (x, os', ob) ∧ res = ⟨.p x, none, none⟩ := by
  split at h
  · rename_i x os ob'
    injection h with h
    injection h with h1 h2
    injection h2 with h2 h3
    subst h1; subst h2; subst h3
    exact ⟨x, rfl, rfl⟩
  · exact absurd h (by simp)

theorem val_plain {r : Option PV} {os os' ob : List Obl} {res : Res} (h : (match r with | some x => some ((⟨.p x, none, none⟩ : Res), os, ([] : List Obl)) | none => none) = some (res, os', ob)) :
    ∃ x, r = some x ∧ res = ⟨.p x, none, none⟩ := by
  split at h
  · rename_i x
    injection h with h
    injection h with h1 h2
    subst h1
    exact ⟨x, rfl, rfl⟩
  · exact absurd h (by simp)

theorem listPairs (ps : Array (Nat × Operand)) (f : Operand → Value) : (ps.map fun (i, x) => (i, f x)) = (ps.toList.map fun x => (x.1, f x.2)).toArray := by
  apply Array.ext'
  simp

theorem evPure_sound {Γ : List (Nat × Ty)} (hΓ : TyOk P Γ) (hI : Inv P B g σ a w) {os os' ob : List Obl} {res : Res} (h : evPure Γ σ o os = some (res, os', ob)) (ho : holdsAll P ob) : Good P g σ a w o res := by
  obtain ⟨dst, op, type, pos, after, guard⟩ := o
  cases op with
  | move x => exact sound_move hI (by simp [execOp]) h
  | assign x => exact sound_move hI (by simp [execOp]) h
  | pick c x y =>
    simp only [evPure] at h
    split at h
    · rename_i hc
      obtain ⟨v, hv, rfl⟩ := val_plain h
      have := rep_v (pvOf_sound hI hc)
      exact hereP hI (by simp [execOp, this, asBool]) (pvOf_sound hI hv)
    · rename_i hc
      obtain ⟨v, hv, rfl⟩ := val_plain h
      have := rep_v (pvOf_sound hI hc)
      exact hereP hI (by simp [execOp, this, asBool]) (pvOf_sound hI hv)
    · exact absurd h (by simp)
  | alloc T =>
    simp only [evPure] at h
    split at h
    · rename_i ty d hty
      split at h
      · rename_i hn
        injection h with h
        injection h with h1 _
        subst h1
        obtain ⟨z, hz, hzc, h1, _⟩ := run_zeroValue (tyIs (hΓ T ty hty)) w
        rw [hzc]
        exact newBox hI rfl hn (.inl (CellsRep.zero h1)) (T := T) (by simp [execOp, Instr.alloc, hz, newVar, newRow])
      · exact absurd h (by simp)
    · exact absurd h (by simp)
  | box T x =>
    simp only [evPure] at h
    split at h
    · rename_i v d hv
      split at h
      · rename_i hn
        injection h with h
        injection h with h1 _
        subst h1
        have hr := pvOf_sound hI hv
        refine newBox hI rfl hn (vs := (a.eval x).cells.toList) (T := T) ?_ (by simp [execOp, Instr.box, newVar, newRow])
        by_cases he : v.cells = []
        · exact .inr he
        · exact .inl (hr.cellsRep he)
      · exact absurd h (by simp)
    · exact absurd h (by simp)
  | build T ps =>
    simp only [evPure] at h
    split at h
    · rename_i l hl
      obtain ⟨v, hv, rfl⟩ := val_plain h
      obtain ⟨e1, e2⟩ := parts_of hI hl
      obtain ⟨u, h1, h2⟩ := evBuild_sound (w := w) hΓ hv e1 e2
      refine hereP hI ?_ h2
      simp only [execOp]
      rw [listPairs]
      exact run_val h1
    · exact absurd h (by simp)
  | buildSlice T n ps =>
    simp only [evPure] at h
    split at h
    · rename_i l hl
      obtain ⟨v, hv, rfl⟩ := val_plain h
      obtain ⟨e1, e2⟩ := parts_of hI hl
      obtain ⟨u, w', hw', h1, h2, h3⟩ := evBuildSlice_sound (w := w) hΓ hv hI.hwlt e1 e2
      refine .inl ⟨u, w', ?_, ⟨g.β, hw'⟩, h2, h3, fun _ => rfl, fun _ h => absurd h (by simp), fun _ h => absurd h (by simp), fun _ => ⟨fun _ _ h => absurd h (by simp), fun _ _ h => absurd h (by simp), fun _ _ _ _ h => absurd h (by simp)⟩⟩
      simp only [execOp]
      rw [listPairs]
      exact run_val h1
    · exact absurd h (by simp)
  | load T p => exact sound_load hΓ hI (fun v hv => by simp only [execOp]; exact run_val hv) h
  | fieldAddr T p f => exact sound_fieldAddr hΓ hI (fun v hv => by simp only [execOp]; exact run_val hv) h
  | field T x f =>
    simp only [evPure] at h
    split at h
    · rename_i cs off fty hc hf
      obtain ⟨v, hv, rfl⟩ := val_plain h
      obtain ⟨u, h1, h2⟩ := field_sound (w := w) hΓ hf (pvOf_sound hI hc) hv
      exact hereP hI (by simp only [execOp]; exact run_val h1) h2
    · exact absurd h (by simp)
  | nilCheck x =>
    simp only [evPure] at h
    split at h
    · rename_i b off hx
      injection h with h
      injection h with h1 _
      subst h1
      have hr := opd_sound hI hx
      obtain ⟨k, base, hk, hp⟩ := hr
      exact here hI (v := .pointer (some ⟨k, base + off, none⟩)) (by simp [execOp, hp]) ⟨k, base, hk, rfl⟩ (fun _ h => absurd h (by simp))
        ⟨fun b' off' e => by cases e; exact opd_ptr hI hx, fun _ _ h => absurd h (by simp), fun _ _ _ _ h => absurd h (by simp)⟩
    · rename_i cs off hx
      injection h with h
      injection h with h1 _
      subst h1
      have hr : Rep g.hw w (a.eval x) (.lptr cs off) := opd_sound hI hx
      obtain ⟨k, base, hp, _⟩ := lptr_cells hr
      refine hereP hI (v := a.eval x) ?_ hr
      rw [hp] 
      simp [execOp, hp]
    · rename_i f cs hx
      injection h with h
      injection h with h1 _
      subst h1
      have hr : Rep g.hw w (a.eval x) (.fn f cs) := opd_sound hI hx
      refine hereP hI (v := a.eval x) ?_ hr
      generalize hv : a.eval x = v at *
      cases hr
      simp [execOp, hv]
    · exact absurd h (by simp)
  | binOp op T x y yT =>
    simp only [evPure] at h
    split at h
    · rename_i u v hu hv
      obtain ⟨r, hr, rfl⟩ := out_plain h
      obtain ⟨q, h1, h2⟩ := evBin_sound hr ho (pvOf_sound hI hu) (pvOf_sound hI hv) x y
      exact hereP hI (by simp only [execOp]; exact run_val h1) h2
    · exact absurd h (by simp)
  | unOp op T x =>
    simp only [evPure] at h
    split at h
    · rename_i u hu
      obtain ⟨r, hr, rfl⟩ := out_plain h
      obtain ⟨q, h1, h2⟩ := evUn_sound hr ho (pvOf_sound hI hu)
      exact hereP hI (by simp only [execOp]; exact run_val h1) h2
    · exact absurd h (by simp)
  | convert S T x =>
    simp only [evPure] at h
    split at h
    · rename_i u S' T' x' r os2 hu
      injection h with h
      injection h with h1 h2
      injection h2 with h2 h3
      subst h1; subst h3
      obtain ⟨q, h1, h2⟩ := ho (.cvt S T u r) (by simp) g.hw w _ (pvOf_sound hI hu)
      exact hereP hI (by simp only [execOp]; exact run_val h1) h2
    · exact absurd h (by simp)
  | extract x i =>
    simp only [evPure] at h
    split at h
    · rename_i vs hx
      obtain ⟨v, hv, rfl⟩ := val_plain h
      have hr := pvOf_sound hI hx
      generalize hq : a.eval x = q at *
      cases hr with
      | tup vv cs hl hrep =>
        have hi : i < vv.length := by rw [hl]; exact (List.getElem?_eq_some_iff.1 hv).1
        refine hereP hI (v := vv[i]) ?_ (hrep i vv[i] v (List.getElem?_eq_getElem hi) hv)
        simp [execOp, hq, Instr.extract, hi]
    · exact absurd h (by simp)
  | slice T x lo hi mx =>
    cases mx with
    | some m => exact absurd h (by simp [evPure])
    | none =>
      simp only [evPure] at h
      split at h
      · rename_i u hu
        have hru := pvOf_sound hI hu
        split at h
        · exact absurd h (by simp)
        · rename_i l
          split at h
          · rename_i lv hlv
            obtain ⟨r, hr, rfl⟩ := out_plain h
            obtain ⟨q, h1, h2⟩ := evSlice_sound hΓ hr ho (vlo := some (a.eval l)) (vhi := none) hru (pvOf_sound hI hlv) trivial
            exact hereP hI (by simp only [execOp]; exact run_val h1) h2
          · exact absurd h (by simp)
        · rename_i hh
          split at h
          · rename_i hv hhv
            obtain ⟨r, hr, rfl⟩ := out_plain h
            obtain ⟨q, h1, h2⟩ := evSlice_sound hΓ hr ho (vlo := none) (vhi := some (a.eval hh)) hru trivial (pvOf_sound hI hhv)
            exact hereP hI (by simp only [execOp]; exact run_val h1) h2
          · exact absurd h (by simp)
        · rename_i l hh
          split at h
          · rename_i lv hv hlv hhv
            obtain ⟨r, hr, rfl⟩ := out_plain h
            obtain ⟨q, h1, h2⟩ := evSlice_sound hΓ hr ho (vlo := some (a.eval l)) (vhi := some (a.eval hh)) hru (pvOf_sound hI hlv) (pvOf_sound hI hhv)
            exact hereP hI (by simp only [execOp]; exact run_val h1) h2
          · exact absurd h (by simp)
      · exact absurd h (by simp)
  | index T x i =>
    simp only [evPure] at h
    split at h
    · rename_i u v hu hv
      obtain ⟨r, hr, rfl⟩ := out_plain h
      obtain ⟨q, h1, h2⟩ := evIndex_sound hΓ hr ho (pvOf_sound hI hu) (pvOf_sound hI hv)
      exact hereP hI (by simp only [execOp]; exact run_val h1) h2
    · exact absurd h (by simp)
  | indexAddr T x i =>
    simp only [evPure] at h
    split at h
    · rename_i ty av k n hty hav hn
      have hT := tyIs (hΓ T ty hty)
      have hi := rep_v (pvOf_sound hI hn)
      have hrep := opd_sound hI hav
      split at h
      · rename_i xs hk
        split at h
        · rename_i ety xs' i' y os2 hety
          cases hb : (Nat.beq y.length ety.size && !(Nat.beq ety.size 0)) with
          | false => rw [hb] at h; exact absurd h (by simp)
          | true =>
            rw [hb] at h
            simp only [cond_true] at h
            injection h with h
            injection h with h1 h2
            injection h2 with h2 h3
            subst h1; subst h3
            rw [Bool.and_eq_true] at hb
            obtain ⟨q1, q2⟩ : 0 ≤ n ∧ xs[n.toNat]? = some y := ho (.idx xs n y) (by simp)
            obtain ⟨u, h1, h2⟩ := isSlice_idx hT hk hrep (k := k) (tyIs (hΓ _ _ hety)) q1 q2 (Nat.eq_of_beq_eq_true hb.1)
            exact hereP hI (by simp only [execOp, hi]; exact run_val h1) h2
        · exact absurd h (by simp)
      · rename_i b off hk
        split at h
        · rename_i ety p os2 hety
          injection h with h
          injection h with h1 h2
          injection h2 with h2 h3
          subst h1; subst h3
          have q1 : 0 ≤ n ∧ n < ty.len := ho (.pr _) (by simp)
          obtain ⟨k0, base, hk0, hp⟩ := hrep
          refine here hI (v := .pointer (some ⟨k0, base + (off + n.toNat * ety.size), none⟩)) ?_ ⟨k0, base, hk0, rfl⟩ (fun _ h => absurd h (by simp)) ⟨fun b' off' e => by cases e; exact opd_ptr hI hav, fun _ _ h => absurd h (by simp), fun _ _ _ _ h => absurd h (by simp)⟩
          simp only [execOp, hi, hp]
          rw [← Nat.add_assoc]
          exact run_val (isArr_idx hT hk (tyIs (hΓ _ _ hety)) q1)
        · exact absurd h (by simp)
      · rename_i cs off hk
        split at h
        · rename_i ety p os2 hety
          injection h with h
          injection h with h1 h2
          injection h2 with h2 h3
          subst h1; subst h3
          have q1 : 0 ≤ n ∧ n < ty.len := ho (.pr _) (by simp)
          have hrep' : Rep g.hw w (a.eval x) (.lptr cs off) := hrep
          generalize hv : a.eval x = v at *
          cases hrep' with
          | lptr cs blk base off' c hc hr h1 hh =>
            refine hereP hI (v := .pointer (some ⟨blk, base + (off + n.toNat * ety.size), none⟩)) ?_ (.lptr cs blk base _ c hc hr h1 hh)
            simp only [execOp, hi, hv]
            rw [← Nat.add_assoc]
            exact run_val (isArr_idx hT hk (tyIs (hΓ _ _ hety)) q1)
        · exact absurd h (by simp)
      · exact absurd h (by simp)
    · exact absurd h (by simp)
  | makeFunc fn first caps =>
    cases fn with
    | func f =>
      simp only [evPure] at h
      split at h
      · rename_i l hl
        split at h
        · rename_i bs hbs
          cases hb : Nat.beq first.size 0 with
          | false => rw [hb] at h; exact absurd h (by simp)
          | true =>
            rw [hb] at h
            simp only [cond_true] at h
            injection h with h
            injection h with h1 _
            subst h1
            have hfe : first = #[] := Array.eq_empty_of_size_eq_zero (Nat.eq_of_beq_eq_true hb)
            subst hfe
            obtain ⟨e1, e2⟩ := avs_of hI hl
            obtain ⟨e3, e4⟩ := boxesOf_get hbs
            obtain ⟨m1, m2⟩ := mapO_get hl
            refine here hI (v := .func (.func f) #[] (caps.toList.map a.eval).toArray) ?_ ⟨caps.toList.map a.eval, rfl, by omega, fun j v b hv hb' => ?_⟩ (fun _ h => absurd h (by simp)) ⟨fun _ _ h => absurd h (by simp), fun f' bs' e b hb' => ?_, fun _ _ _ _ h => absurd h (by simp)⟩
            · have : caps.map a.eval = (caps.toList.map a.eval).toArray := by apply Array.ext'; simp
              simp [execOp, Instr.makeFunc, this]
            · have hj : j < l.length := by have := (List.getElem?_eq_some_iff.1 hv).1; omega
              have hav := e4 j l[j] b (List.getElem?_eq_getElem hj) hb'
              have := e2 j v l[j] hv (List.getElem?_eq_getElem hj)
              rw [hav] at this
              obtain ⟨k, base, h1, h2⟩ := this
              exact ⟨k, base, h1, by rw [h2]; rfl⟩
            · cases e
              obtain ⟨j, hj⟩ := List.getElem?_of_mem hb'
              have hjl : j < l.length := by have := (List.getElem?_eq_some_iff.1 hj).1; omega
              have hav := e4 j l[j] b (List.getElem?_eq_getElem hjl) hj
              have hjc : j < caps.toList.length := by omega
              have := m2 j caps.toList[j] l[j] (List.getElem?_eq_getElem hjc) (List.getElem?_eq_getElem hjl)
              rw [hav] at this
              exact opd_ptr hI this
        · exact absurd h (by simp)
      · exact absurd h (by simp)
    | _ => exact absurd h (by simp [evPure])
  | call c =>
    obtain ⟨callee, args, ats⟩ := c
    cases callee with
    | builtin b =>
      simp only [evPure] at h
      split at h
      · rename_i xs hxs
        obtain ⟨r, hr, rfl⟩ := out_plain h
        have ha := reps_of hI hxs
        obtain ⟨q, h1, h2⟩ := evBuiltin_sound (w := w) hΓ hr ho ha (args.map fun | .const _ => true | _ => false)
        refine hereP hI ?_ h2
        have e : args.map a.eval = (args.toList.map a.eval).toArray := by apply Array.ext'; simp
        simp only [execOp, resolve, pure_bind, invoke, e]
        exact h1
      · exact absurd h (by simp)
    | value f =>
      simp only [evPure] at h
      have e : args.map a.eval = (args.toList.map a.eval).toArray := by apply Array.ext'; simp
      split at h
      · rename_i fid cs l f' as' r os2 hf hl
        split at h
        · rename_i xs c hh
          cases hb : (!c || flat r) with
          | false => rw [hb] at h; exact absurd h (by simp)
          | true =>
            rw [hb] at h
            simp only [cond_true] at h
            injection h with h
            injection h with h1 h2
            injection h2 with h2 h3
            subst h1; subst h3
            have hc : Con P fid (xs ++ cs) r := ho (.call fid (xs ++ cs) r) (by simp)
            obtain ⟨e1, e2⟩ := avs_of hI hl
            have hrf : Rep g.hw w (a.eval f) (.fn fid cs) := opd_sound hI hf
            generalize hv : a.eval f = v at *
            cases hrf with
            | fn _ cv _ hcl hcr =>
              refine callRes_op (call_sound hI (o := ⟨dst, .call ⟨.value f, args, ats⟩, type, pos, after, guard⟩) e1 e2 hh ⟨hcl, hcr⟩ hc hb) (fun r hr => ?_)
              simp only [execOp, resolve, Deferred.ofValue, hv, pure_bind, invoke, e]
              rw [← hr]
              congr 2
              simp
        · exact absurd h (by simp)
      · rename_i fid bs l f' as' r os2 hf hl
        split at h
        · rename_i xs c cs hh hbs
          cases hb : flat r with
          | false => rw [hb] at h; exact absurd h (by simp)
          | true =>
            rw [hb] at h
            simp only [cond_true] at h
            injection h with h
            injection h with h1 h2
            injection h2 with h2 h3
            subst h1; subst h3
            have hc : Con P fid (xs ++ cs) r := ho (.call fid (xs ++ cs) r) (by simp)
            obtain ⟨e1, e2⟩ := avs_of hI hl
            obtain ⟨cv, hv, hcl, hcv⟩ := opd_sound hI hf
            refine callRes_op (callp_sound hI (o := ⟨dst, .call ⟨.value f, args, ats⟩, type, pos, after, guard⟩) e1 e2 hh hbs hcl hcv hc hb) (fun r hr => ?_)
            simp only [execOp, resolve, Deferred.ofValue, hv, pure_bind, invoke, e]
            rw [← hr]
            congr 2
            simp
        · exact absurd h (by simp)
      · exact absurd h (by simp)
    | invoke r m => exact absurd h (by simp [evPure])
  | _ => exact absurd h (by simp [evPure])
end
end Go.Ev
namespace Go.Ev
open Go.RowKit
section
variable {P : Program} {w : World}

theorem append_more {base : Nat} {t ty e : TypeId} {i : TypeInfo} {z : Value} (ht : P.underlying t = some (.slice e)) (hi : P.info? e = some i) (hz : i.zero = some z) (hzs : z.cells.size = i.size) (hsz : 0 < i.size)
    {v : Value} {n : Nat} {xs : List Value} (hown : w.ownsRow base e i.size v n xs) {a : Addr} {m c : Nat} {news : List Value} (hl : news.length = m * i.size) (hnews : ∀ j u, news[j]? = some u → w.cell? (a.add j) = some u)
    (h1 : ∀ u ∈ news, u.oneCell' = true) (h63 : n + m ≤ maxLen) (hbytes : (n + m) * i.bytes ≤ 140737488355328) (hbase : base ≤ w.heap.size) :
    ∃ v' w', (Builtin.append_ #[t, t] ty #[v, .slice (some a) m c]).run P w = .ok v' w' ∧ w'.ownsRow base e i.size v' (n + m) (xs ++ news) ∧ w.grownBy w' v.ownBlock ∧
      (v'.ownBlock = v.ownBlock ∨ ∀ k, v'.ownBlock = some k → w.heap.size ≤ k) ∧ (∀ k off, v.ownBlock = some k → off < n * i.size → w'.cell? ⟨k, off, none⟩ = w.cell? ⟨k, off, none⟩) ∧ (∀ k off, w'.frozen? ⟨k, off, none⟩ = w.frozen? ⟨k, off, none⟩) := by
  obtain ⟨v', w', hr, ho, hg, hnil⟩ := run_append_own (P := P) w base t ty e i z i.size i.bytes ht hi hz rfl rfl hzs hsz v n xs hown a m c news hl hnews h1 h63 hbytes hbase
  have hfr : ∀ (A : Array Value) (k off : Nat), (w.drew.alloc (.cells A e)).frozen? ⟨k, off, none⟩ = w.frozen? ⟨k, off, none⟩ := by
    intro A k off
    by_cases hk : k = w.heap.size
    · subst hk
      have h1 := World.frozen?_alloc_new w.drew A e off
      simp only [World.size_drew] at h1
      rw [h1]
      simp [World.frozen?]
    · exact World.frozen?_alloc_old w.drew _ ⟨k, off, none⟩ (by simpa using hk)
  have hsmall : n + m ≤ 9223372036854775807 := by simp only [maxLen] at h63; omega
  refine ⟨v', w', hr, ho, hg, ?_⟩
  rcases hown.2 with ⟨rfl, rfl⟩ | ⟨gb, cap, cur, rfl, hbg, hgb, hnc, hcm, hcs, htake⟩
  · refine (and_assoc).1 ⟨?_, ?_⟩
    · refine ⟨?_, fun k off hk => by simp [Value.ownBlock] at hk⟩
      by_cases hm : m = 0
      · exact .inl (by rw [hnil.2 ⟨rfl, hm⟩])
      · have hr2 := run_append_nil (P := P) w t ty e i z ht hi hz a m c news hl hnews (by omega) (by omega) (by have hb := hbytes; simp only [Nat.zero_add] at hb; omega)
        rw [hr2] at hr
        injection hr with e1 e2
        subst e1
        exact .inr (fun k hk => by simp [Value.ownBlock] at hk; omega)
    · by_cases hm : m = 0
      · intro k off
        subst hm
        have hn : news = [] := List.eq_nil_of_length_eq_zero (by simpa using hl)
        subst hn
        have hr2 : (Builtin.append_ #[t, t] ty #[.slice none 0 0, .slice (some a) 0 c]).run P w = .ok (.slice none 0 0) w := by
          simp [Builtin.append_, run_underlying ht, sizeOf, typeInfo, hi, Builtin.lenOf, Builtin.firstCells, loadCells, loadCellsFrom]
        rw [hr2] at hr
        injection hr with e1 e2
        subst e2
        rfl
      · have hr2 := run_append_nil (P := P) w t ty e i z ht hi hz a m c news hl hnews (by omega) (by omega) (by have hb := hbytes; simp only [Nat.zero_add] at hb; omega)
        rw [hr2] at hr
        injection hr with e1 e2
        subst e2
        exact fun k off => hfr _ k off
  · by_cases hroom : n + m ≤ cap
    · have hfit : n * i.size + news.length ≤ cur.size := by rw [hl, hcs, ← Nat.add_mul]; exact Nat.mul_le_mul_right _ hroom
      have hr2 := run_append_room (P := P) w t ty e i ht hi gb n cap cur hgb a m c news hl hnews h1 hroom hfit
      rw [hr2] at hr
      injection hr with e1 e2
      subst e1
      refine ⟨.inl rfl, fun k off hk hoff => ?_, fun k off => ?_⟩
      · have hx : off < xs.length := by rw [hown.1]; exact hoff
        have c1 := hown.cells hk off xs[off] (List.getElem?_eq_getElem hx)
        have c2 := ho.cells (g := k) hk off xs[off] (by rw [List.getElem?_append_left hx]; exact List.getElem?_eq_getElem hx)
        rw [Addr.add_lit] at c1 c2
        simp only [Nat.zero_add] at c1 c2
        rw [c1, c2]
      · subst e2
        by_cases hk : k = gb
        · subst hk
          have h2 := setRow_heap w k cur (cur.toList.take (n * i.size) ++ news ++ cur.toList.drop (n * i.size + news.length)).toArray e (0, 0) hgb
          simp only [World.frozen?, h2, hgb]
        · have h2 := setRow_other w gb k (cur.toList.take (n * i.size) ++ news ++ cur.toList.drop (n * i.size + news.length)).toArray (fun e => hk e)
          unfold World.frozen?
          rw [h2]
    · have holds : ∀ j u, xs[j]? = some u → w.cell? ((⟨gb, 0, none⟩ : Addr).add j) = some u := hown.cells (g := gb) rfl
      have hr2 := run_append_grow (P := P) w t ty e i z ht hi hz ⟨gb, 0, none⟩ n cap xs hown.1 holds a m c news hl hnews (by omega) (by omega) (growslice_fits (by omega) hbytes)
      rw [hr2] at hr
      injection hr with e1 e2
      subst e1
      subst e2
      refine ⟨.inr (fun k hk => by simp [Value.ownBlock] at hk; omega), fun k off hk _ => ?_, fun k off => hfr _ k off⟩
      have : k = gb := by simp [Value.ownBlock] at hk; exact hk.symm
      subst this
      have hlt : k < w.heap.size := (Array.getElem?_eq_some_iff.1 hgb).1
      exact World.cell?_alloc_old w.drew _ ⟨k, off, none⟩ (by simp; omega)
end
end Go.Ev
namespace Go.Ev
open Go.RowKit

def inBox (b off size : Nat) : Loc → Bool
  | .b b' c => Nat.beq b b' && Nat.ble off c && Nat.blt c (off + size)
  | _ => false
def has (b : Nat) : List Nat → Bool
  | [] => false
  | x :: r => Nat.beq b x || has b r

/-- Cells of a box are written. -/
def wrBox (σ : St) (b off : Nat) (cs : List PV) (old : List PV) (own' : List (Loc × Nat)) : St :=
  { σ with boxes := (b, lay old off cs) :: σ.boxes,
           own := own' ++ σ.own.filter fun (l, _) => !(inBox b off cs.length l),
           al := σ.al.filter fun (_, l) => !(inBox b off cs.length l) }

def dropOwn (σ : St) (l : Loc) : St := { σ with own := σ.own.filter fun (k, _) => !(k.eq l) }

def evStore (Γ : List (Nat × Ty)) (σ : St) (T : TypeId) (p x : Operand) : Option St :=
  match opd σ p, pvOf σ x, lk T Γ with
  | some (.ptr b off), some v, some ty => match lk b σ.boxes with
    | some cs => bif Nat.beq v.cells.length ty.size && Nat.ble (off + ty.size) cs.length && !(Nat.beq ty.size 0) && !(has b σ.ro) then
        match x with
        | .tmp t => match lkL (.t t) σ.own with
          | some E => some (wrBox (dropOwn σ (.t t)) b off v.cells cs [(.b b off, E)])
          | none => some (wrBox σ b off v.cells cs [])
        | _ => some (wrBox σ b off v.cells cs [])
      else none
    | none => none
  | _, _, _ => none

section
variable {P : Program} {B : Nat} {g : G} {σ : St} {a : Act} {w : World} {o : Oper}

theorem has_iff {b : Nat} : ∀ {l : List Nat}, has b l = true ↔ b ∈ l
  | [] => by simp [has]
  | x :: r => by
    unfold has
    rw [Bool.or_eq_true, has_iff, List.mem_cons]
    constructor
    · rintro (h | h)
      · exact .inl (Nat.eq_of_beq_eq_true h)
      · exact .inr h
    · rintro (h | h)
      · exact .inl (by subst h; simp)
      · exact .inr h

theorem heap_setCells (b : Nat) : ∀ (vs : List Value) (o : Nat) (w : World) (j : Nat), j ≠ b → (w.setCells b o vs).heap[j]? = w.heap[j]?
  | [], _, _, _, _ => rfl
  | v :: r, o, w, j, h => by
    rw [World.setCells, heap_setCells b r (o + 1) _ j h]
    exact Below.heap_setCell w ⟨b, o, none⟩ v j h
theorem size_setCells (b : Nat) : ∀ (vs : List Value) (o : Nat) (w : World), (w.setCells b o vs).heap.size = w.heap.size
  | [], _, _ => rfl
  | v :: r, o, w => by rw [World.setCells, size_setCells b r]; simp
theorem shape_setCell (w : World) (a : Addr) (v : Value) (k : Nat) : (w.setCell a v).shape? k = w.shape? k := by
  unfold World.shape?
  simp only [World.setCell, Array.getElem?_modify]
  by_cases h : a.block = k
  · rw [if_pos h]
    cases w.heap[k]? with
    | none => rfl
    | some o =>
      cases o with
      | cells c e fr => simp only [Option.map_some]; split <;> simp
      | _ => rfl
  · rw [if_neg h]
theorem shape_setCells (k b : Nat) : ∀ (vs : List Value) (o : Nat) (w : World), (w.setCells b o vs).shape? k = w.shape? k
  | [], _, _ => rfl
  | v :: r, o, w => by rw [World.setCells, shape_setCells k b r (o + 1)]; exact shape_setCell w _ _ _
theorem rest_setCells (b : Nat) : ∀ (vs : List Value) (o : Nat) (w : World), (w.setCells b o vs).os = w.os ∧ (w.setCells b o vs).tape = w.tape ∧ (w.setCells b o vs).output = w.output
  | [], _, _ => ⟨rfl, rfl, rfl⟩
  | v :: r, o, w => by
    rw [World.setCells]
    exact rest_setCells b r (o + 1) (w.setCell ⟨b, o, none⟩ v)

/-- A world in which of one block a row of cells may have been turned. -/
structure Turned (g : G) (w : World) (hw' : Nat → Nat) (w' : World) (k lo n : Nat) : Prop where
  os : w'.os = w.os
  tape : w'.tape = w.tape
  output : w'.output = w.output
  size : w.heap.size ≤ w'.heap.size
  block : ∀ j, j < w.heap.size → j ≠ k → w'.heap[j]? = w.heap[j]?
  cell : ∀ off, ¬ (lo ≤ off ∧ off < lo + n) → w'.cell? ⟨k, off, none⟩ = w.cell? ⟨k, off, none⟩
  frozen : ∀ off, w'.frozen? ⟨k, off, none⟩ = w.frozen? ⟨k, off, none⟩
  hw : ∀ j, j < w.heap.size → hw' j = g.hw j
  hwlt : ∀ j, w'.heap.size ≤ j → hw' j = 0

theorem Turned.ext {hw' : Nat → Nat} {w' : World} {k lo n : Nat} (hl : ∀ k, w.heap.size ≤ k → g.hw k = 0) (h : Turned g w hw' w' k lo n) (hk : g.hw k = 0) : Ext g.hw w hw' w' := by
  refine ⟨fun j off hj => ?_, fun j => ?_⟩
  · have hlt : j < w.heap.size := by
      rcases Nat.lt_or_ge j w.heap.size with h | h
      · exact h
      · rw [hl j h] at hj; omega
    have hne : j ≠ k := fun e => by rw [e, hk] at hj; omega
    exact World.cell?_of_block (w := w) (a := ⟨j, off, none⟩) (h.block j hlt hne)
  · rcases Nat.lt_or_ge j w.heap.size with hj | hj
    · rw [h.hw j hj]; exact Nat.le_refl _
    · rw [hl j hj]; exact Nat.zero_le _

theorem lay_get {cs x : List PV} {off : Nat} (h : off + x.length ≤ cs.length) (j : Nat) : (lay cs off x)[j]? = if off ≤ j ∧ j < off + x.length then x[j - off]? else cs[j]? := by
  unfold lay
  have ht : (cs.take off).length = off := by simp; omega
  by_cases h1 : j < off
  · rw [List.getElem?_append_left (by omega), List.getElem?_take_of_lt h1, if_neg (by omega)]
  · rw [List.getElem?_append_right (by omega), ht]
    by_cases h2 : j - off < x.length
    · rw [List.getElem?_append_left h2, if_pos (by omega)]
    · rw [List.getElem?_append_right (by omega), List.getElem?_drop, if_neg (by omega)]
      congr 1
      omega

theorem lay_len {cs x : List PV} {off : Nat} (h : off + x.length ≤ cs.length) : (lay cs off x).length = cs.length := by
  unfold lay; simp; omega

theorem inBox_iff {b off size : Nat} {l : Loc} : inBox b off size l = true ↔ ∃ c, l = .b b c ∧ off ≤ c ∧ c < off + size := by
  cases l with
  | t t => simp [inBox]
  | b b' c =>
    simp only [inBox, Bool.and_eq_true]
    constructor
    · rintro ⟨⟨h1, h2⟩, h3⟩
      have e := Nat.eq_of_beq_eq_true h1
      subst e
      exact ⟨c, rfl, Nat.le_of_ble_eq_true h2, by have := Nat.le_of_ble_eq_true h3; omega⟩
    · rintro ⟨c', e, h2, h3⟩
      cases e
      exact ⟨⟨by simp, Nat.ble_eq_true_of_le h2⟩, Nat.ble_eq_true_of_le (by omega)⟩

/-- Places that were not written hold what they held. -/
theorem loc_turned (hI : Inv P B g σ a w) {hw' : Nat → Nat} {w' : World} {b : Nat} {cs0 : List PV} {k base off n : Nat} (hb : lk b σ.boxes = some cs0) (hk : g.β b = some (k, base)) (h : Turned g w hw' w' k (base + off) n)
    {l : Loc} (hl : inBox b off n l = false) (hbx : ∀ b' c, l = .b b' c → ∃ cs, lk b' σ.boxes = some cs) {val : Value} : LocIs ⟨g.β, hw'⟩ a w' l val ↔ LocIs g a w l val := by
  cases l with
  | t t => exact Iff.rfl
  | b b' c =>
    obtain ⟨cs', hcs'⟩ := hbx b' c rfl
    obtain ⟨k', base', hk', hlt, _⟩ := hI.box b' cs' hcs'
    show (∃ k base, g.β b' = some (k, base) ∧ w'.cell? ⟨k, base + c, none⟩ = some val) ↔ ∃ k base, g.β b' = some (k, base) ∧ w.cell? ⟨k, base + c, none⟩ = some val
    have hc : w'.cell? ⟨k', base' + c, none⟩ = w.cell? ⟨k', base' + c, none⟩ := by
      by_cases e : k' = k
      · subst e
        have eb := hI.inj b b' cs0 cs' k' base base' hb hcs' hk hk'
        subst eb
        rw [hk] at hk'
        have := Option.some.inj hk'
        cases this
        refine h.cell _ (fun hr => ?_)
        have : inBox b off n (.b b c) = true := inBox_iff.2 ⟨c, rfl, by omega, by omega⟩
        rw [this] at hl
        exact absurd hl (by simp)
      · exact World.cell?_of_block (w := w) (a := ⟨k', base' + c, none⟩) (h.block k' hlt e)
    constructor
    · rintro ⟨k2, base2, h1, h2⟩
      rw [hk'] at h1
      have := Option.some.inj h1
      cases this
      exact ⟨k', base', hk', by rw [← hc]; exact h2⟩
    · rintro ⟨k2, base2, h1, h2⟩
      rw [hk'] at h1
      have := Option.some.inj h1
      cases this
      exact ⟨k', base', hk', by rw [hc]; exact h2⟩

theorem lkL_append {α : Type} (l : Loc) : ∀ (x y : List (Loc × α)), lkL l (x ++ y) = (match lkL l x with | some e => some e | none => lkL l y)
  | [], y => rfl
  | (k, e) :: r, y => by
    rw [List.cons_append, lkL_cons, lkL_cons]
    split
    · rfl
    · exact lkL_append l r y

/-- A box was written: the frame as it is known then. (own': claims that are new: all on places that were written.) -/
theorem wrBox_inv (hI : Inv P B g σ a w) {hw' : Nat → Nat} {w' : World} {b : Nat} {cs0 cs : List PV} {k base off : Nat} (hb : lk b σ.boxes = some cs0) (hro : b ∉ σ.ro) (hk : g.β b = some (k, base)) (hle : off + cs.length ≤ cs0.length)
    (h : Turned g w hw' w' k (base + off) cs.length) (hnew : BoxOk ⟨g.β, hw'⟩ w' k (base + off) cs) (hs : hdOk cs0 = true ∨ w'.shape? k = w.shape? k) (href : ∀ y ∈ cs, ∀ b', refP y = some b' → ∃ cs', lk b' σ.boxes = some cs') {own' : List (Loc × Nat)}
    (hown : ∀ l E, lkL l own' = some E → ∃ c val, l = .b b c ∧ off ≤ c ∧ c < off + cs.length ∧ w'.cell? ⟨k, base + c, none⟩ = some val ∧ OwnV P B g.hw w E val ∧
      (∀ j, val.ownBlock = some j → ∀ b cs base, lk b σ.boxes = some cs → g.β b ≠ some (j, base)) ∧
      ∀ l' E' val' j, lkL l' σ.own = some E' → inBox b off cs.length l' = false → LocIs g a w l' val' → val.ownBlock = some j → val'.ownBlock ≠ some j)
    (hown1 : ∀ l l' E E', lkL l own' = some E → lkL l' own' = some E' → l = l') :
    Inv P B ⟨g.β, hw'⟩ (wrBox σ b off cs cs0 own') a w' ∧ Fr B g σ w ⟨g.β, hw'⟩ (wrBox σ b off cs cs0 own') w' := by
  obtain ⟨k', base', hk', hlt, hok, hhw, hB⟩ := hI.box b cs0 hb
  rw [hk] at hk'
  have := Option.some.inj hk'
  cases this
  have hx := h.ext hI.hwlt (hhw hro)
  have bxs : ∀ b', lk b' (wrBox σ b off cs cs0 own').boxes = if b' = b then some (lay cs0 off cs) else lk b' σ.boxes := fun b' => lk_cons b' b _ _
  have isbox : ∀ b' cs', lk b' σ.boxes = some cs' → ∃ c2, lk b' (wrBox σ b off cs cs0 own').boxes = some c2 := by
    intro b' cs' h'
    by_cases e : b' = b
    · exact ⟨_, by rw [bxs, if_pos e]⟩
    · exact ⟨cs', by rw [bxs, if_neg e]; exact h'⟩
  have back : ∀ b' cs', lk b' (wrBox σ b off cs cs0 own').boxes = some cs' → ∃ cs2, lk b' σ.boxes = some cs2 ∧ cs2.length = cs'.length := by
    intro b' cs' h'
    rw [bxs] at h'
    split at h'
    · rename_i e
      subst e
      have := Option.some.inj h'
      subst this
      exact ⟨cs0, hb, (lay_len hle).symm⟩
    · exact ⟨cs', h', rfl⟩
  have ownsplit : ∀ l E, lkL l (wrBox σ b off cs cs0 own').own = some E → lkL l own' = some E ∨ (inBox b off cs.length l = false ∧ lkL l σ.own = some E) := by
    intro l E hl
    have e : (wrBox σ b off cs cs0 own').own = own' ++ σ.own.filter fun (l, _) => !(inBox b off cs.length l) := rfl
    rw [e, lkL_append] at hl
    cases ho : lkL l own' with
    | some E' => rw [ho] at hl; exact .inl hl
    | none =>
      rw [ho] at hl
      simp only at hl
      rw [lkL_filter (fun l => !(inBox b off cs.length l))] at hl
      split at hl
      · rename_i h2; exact .inr ⟨by simpa using h2, hl⟩
      · exact absurd hl (by simp)
  have ownbox : ∀ l E, lkL l σ.own = some E → ∀ b' c, l = .b b' c → ∃ cs, lk b' σ.boxes = some cs := fun l E hl b' c e => by
    have := hI.ownt l E hl
    subst e
    exact this
  refine ⟨⟨hI.size, hI.defers, ?_, ?_, ?_, ?_, ?_, h.hwlt, Nat.le_trans hI.base h.size, hI.glob.mono hx (fun _ _ hy => h.block _ (hI.glob.1.lt hy) (fun e => by have := hI.glob.1.pos hy; rw [e, hhw hro] at this; exact absurd this (by simp))), ?_, ?_, ?_, ?_, ?_, ?_, ?_⟩, ?_⟩
  · intro t av ht
    obtain ⟨h1, h2⟩ := hI.tmp t av ht
    exact ⟨h1, h2.mono (g' := ⟨g.β, hw'⟩) hx (fun _ => .inr rfl) (fun _ _ _ _ _ => rfl)⟩
  · intro t b' off' ht
    obtain ⟨cs', h'⟩ := hI.ptr t b' off' ht
    exact isbox b' cs' h'
  · intro t f bs ht b' hb'
    obtain ⟨cs', h'⟩ := hI.fnp t f bs ht b' hb'
    exact isbox b' cs' h'
  · intro b' cs' h'
    rw [bxs] at h'
    split at h'
    · rename_i e
      subst e
      have := Option.some.inj h'
      subst this
      refine ⟨k, base, hk, Nat.lt_of_lt_of_le hlt h.size, ⟨fun j y hy => ?_⟩, fun _ => (h.hw k hlt).trans (hhw hro), hB⟩
      rw [lay_get hle] at hy
      split at hy
      · rename_i hj
        obtain ⟨v, h1, h2, h3, h4⟩ := hnew.cell (j - off) y hy
        rw [show base + off + (j - off) = base + j by omega] at h1 h3
        exact ⟨v, h1, h2, h3, h4.at (by omega)⟩
      · rename_i hj
        obtain ⟨v, h1, h2, h3, h4⟩ := hok.cell j y hy
        exact ⟨v, by rw [h.cell _ (by omega)]; exact h1, h2, by rw [h.frozen]; exact h3, hs.elim (fun hd => .rep ((h4.plain (hd_plain hd hy)).mono hx)) (fun hs => h4.mono hx hs (fun _ _ => rfl))⟩
    · rename_i hne
      obtain ⟨k2, base2, h1, h2, h3, h4, h5⟩ := hI.box b' cs' h'
      have hkk : k2 ≠ k := fun e => by
        subst e
        exact hne (hI.inj b' b cs' cs0 k2 base2 base h' hb h1 hk)
      have hbl := h.block k2 h2 hkk
      refine ⟨k2, base2, h1, Nat.lt_of_lt_of_le h2 h.size, ?_, fun hr => (h.hw k2 h2).trans (h4 hr), h5⟩
      exact BoxOk.mono (g' := ⟨g.β, hw'⟩) hx (fun off => World.cell?_of_block (w := w) (a := ⟨k2, off, none⟩) hbl) (fun off => World.frozen?_of_block (w := w) (a := ⟨k2, off, none⟩) hbl) (shape_block hbl) (fun _ _ _ _ => rfl) h3
  · intro b1 b2 cs1 cs2 k2 base1 base2 h1 h2 h3 h4
    obtain ⟨c1, e1, _⟩ := back b1 cs1 h1
    obtain ⟨c2, e2, _⟩ := back b2 cs2 h2
    exact hI.inj b1 b2 c1 c2 k2 base1 base2 e1 e2 h3 h4
  · intro l E hl
    have ownmono : ∀ E val, OwnV P B g.hw w E val → (∀ j, val.ownBlock = some j → ∀ b cs base, lk b σ.boxes = some cs → g.β b ≠ some (j, base)) → OwnV P B hw' w' E val := by
      intro E val ho hbl
      refine ho.mono fun j hj => ?_
      have hlt' := (own_block_lt ho j hj).1
      exact ⟨h.block j hlt' (fun e => by subst e; exact hbl j hj b cs0 base hb hk), h.hw j hlt'⟩
    have nobox : ∀ (val : Value), (∀ j, val.ownBlock = some j → ∀ b cs base, lk b σ.boxes = some cs → g.β b ≠ some (j, base)) → ∀ j, val.ownBlock = some j → ∀ b' cs' base', lk b' (wrBox σ b off cs cs0 own').boxes = some cs' → g.β b' ≠ some (j, base') := by
      intro val hbl j hj b' cs' base' h'
      obtain ⟨c, e, _⟩ := back b' cs' h'
      exact hbl j hj b' c base' e
    rcases ownsplit l E hl with hl | ⟨hin, hl⟩
    · obtain ⟨c, val, rfl, c1, c2, c3, c4, c5, _⟩ := hown l E hl
      exact ⟨val, ⟨k, base, hk, c3⟩, ownmono E val c4 c5, nobox val c5⟩
    · obtain ⟨val, h1, h2, h3⟩ := hI.own l E hl
      exact ⟨val, (loc_turned hI hb hk h hin (ownbox l E hl)).2 h1, ownmono E val h2 h3, nobox val h3⟩
  · intro l E hl
    rcases ownsplit l E hl with hl | ⟨hin, hl⟩
    · obtain ⟨c, val, rfl, _⟩ := hown l E hl
      exact isbox b cs0 hb
    · have := hI.ownt l E hl
      cases l with
      | t t => exact this
      | b b' c => obtain ⟨cs', h'⟩ := this; exact isbox b' cs' h'
  · intro l l' E E' val val' j hl hl' h1 h2 h3 h4
    have fix : ∀ {c : Nat} {u v : Value}, w'.cell? ⟨k, base + c, none⟩ = some u → LocIs ⟨g.β, hw'⟩ a w' (.b b c) v → u = v := by
      rintro c u v hu ⟨k2, base2, e1, e2⟩
      have e1 : g.β b = some (k2, base2) := e1
      rw [hk] at e1
      have := Option.some.inj e1
      cases this
      rw [hu] at e2
      exact Option.some.inj e2
    rcases ownsplit l E hl with hl | ⟨hin, hl⟩ <;> rcases ownsplit l' E' hl' with hl' | ⟨hin', hl'⟩
    · exact hown1 l l' E E' hl hl'
    · obtain ⟨c, val2, rfl, c1, c2, c3, c4, c5, c6⟩ := hown l E hl
      have := fix c3 h1
      subst this
      exact absurd h4 (c6 l' E' val' j hl' hin' ((loc_turned hI hb hk h hin' (ownbox l' E' hl')).1 h2) h3)
    · obtain ⟨c, val2, rfl, c1, c2, c3, c4, c5, c6⟩ := hown l' E' hl'
      have := fix c3 h2
      subst this
      exact absurd h3 (c6 l E val j hl hin ((loc_turned hI hb hk h hin (ownbox l E hl)).1 h1) h4)
    · exact hI.owninj l l' E E' val val' j hl hl' ((loc_turned hI hb hk h hin (ownbox l E hl)).1 h1) ((loc_turned hI hb hk h hin' (ownbox l' E' hl')).1 h2) h3 h4
  · intro t l hm
    have hm' : (t, l) ∈ σ.al.filter fun (_, l) => !(inBox b off cs.length l) := hm
    rw [List.mem_filter] at hm'
    refine (loc_turned hI hb hk h (by simpa using hm'.2) (fun b' c e => ?_)).2 (hI.al t l hm'.1)
    subst e
    exact hI.alt t b' c hm'.1
  · intro t b' c hm
    have hm' : (t, Loc.b b' c) ∈ σ.al.filter fun (_, l) => !(inBox b off cs.length l) := hm
    rw [List.mem_filter] at hm'
    obtain ⟨cs', h'⟩ := hI.alt t b' c hm'.1
    exact isbox b' cs' h'
  · intro t b' off' n s ht
    obtain ⟨cs', h'⟩ := hI.sl t b' off' n s ht
    exact isbox b' cs' h'
  · intro b' cs' h' y hy b2 hb2
    have old : ∀ cs2, lk b' σ.boxes = some cs2 → y ∈ cs2 → ∃ c, lk b2 (wrBox σ b off cs cs0 own').boxes = some c := fun cs2 h2 hy2 => by
      obtain ⟨c, hc⟩ := hI.ref b' cs2 h2 y hy2 b2 hb2
      exact isbox b2 c hc
    rw [bxs] at h'
    split at h'
    · rename_i e
      subst e
      have := Option.some.inj h'
      subst this
      obtain ⟨j, hj, rfl⟩ := List.getElem_of_mem hy
      have hg := lay_get hle j
      rw [List.getElem?_eq_getElem hj] at hg
      split at hg
      · obtain ⟨c, hc⟩ := href _ (List.mem_of_getElem? hg.symm) b2 hb2
        exact isbox b2 c hc
      · exact old cs0 hb (List.mem_of_getElem? hg.symm)
    · exact old cs' h' hy
  · have lent : ∀ j, j < B → ¬ LentB g σ j → j ≠ k := by
      intro j hj hn e
      subst e
      rcases Nat.lt_or_ge b σ.n with hbn | hbn
      · have := hB hbn; omega
      · exact hn ⟨b, cs0, base, hbn, hb, hk⟩
    have hBs := hI.base
    refine ⟨h.os, h.tape, h.output, h.size, rfl, fun j hj hn => h.block j (by omega) (lent j hj hn), fun j off' hj hn => ?_, fun j off' hj => ?_, fun j hj hn => h.hw j (by omega), fun b' cs' hn h' => ?_, hx⟩
    · by_cases e : j = k
      · subst e
        refine h.cell off' (fun hr => hn ?_)
        rcases Nat.lt_or_ge b σ.n with hbn | hbn
        · have := hB hbn; omega
        · exact ⟨b, cs0, base, hbn, hb, hk, by omega, by omega⟩
      · exact World.cell?_of_block (w := w) (a := ⟨j, off', none⟩) (h.block j (by omega) e)
    · by_cases e : j = k
      · subst e; exact h.frozen off'
      · exact World.frozen?_of_block (w := w) (a := ⟨j, off', none⟩) (h.block j (by omega) e)
    · obtain ⟨c, e1, e2⟩ := back b' cs' h'
      exact ⟨c, e1, e2, rfl⟩
end
end Go.Ev
namespace Go.Ev
open Go.RowKit
section
variable {P : Program} {B : Nat} {g : G} {σ : St} {a : Act} {w : World} {o : Oper}

/-- The world goes on beside the frame: of old blocks all stays but, in one row that the frame no longer claims, what is not covered. -/
structure Grew (g : G) (w : World) (hw' : Nat → Nat) (w' : World) (row : Option Nat) : Prop where
  os : w'.os = w.os
  tape : w'.tape = w.tape
  output : w'.output = w.output
  size : w.heap.size ≤ w'.heap.size
  block : ∀ j, j < w.heap.size → some j ≠ row → w'.heap[j]? = w.heap[j]?
  cell : ∀ j off, row = some j → off < g.hw j → w'.cell? ⟨j, off, none⟩ = w.cell? ⟨j, off, none⟩
  hw : ∀ j, j < w.heap.size → some j ≠ row → hw' j = g.hw j
  hwr : ∀ j, j < w.heap.size → row = some j → g.hw j ≤ hw' j
  hwlt : ∀ j, w'.heap.size ≤ j → hw' j = 0

theorem Grew.ext {hw' : Nat → Nat} {w' : World} {row : Option Nat} (hl : ∀ k, w.heap.size ≤ k → g.hw k = 0) (h : Grew g w hw' w' row) : Ext g.hw w hw' w' := by
  refine ⟨fun j off hj => ?_, fun j => ?_⟩
  · by_cases e : some j = row
    · exact h.cell j off e.symm hj
    · have hlt : j < w.heap.size := by
        rcases Nat.lt_or_ge j w.heap.size with h | h
        · exact h
        · rw [hl j h] at hj; omega
      exact World.cell?_of_block (w := w) (a := ⟨j, off, none⟩) (h.block j hlt e)
  · rcases Nat.lt_or_ge j w.heap.size with hj | hj
    · by_cases e : some j = row
      · exact h.hwr j hj e.symm
      · rw [h.hw j hj e]; exact Nat.le_refl _
    · rw [hl j hj]; exact Nat.zero_le _

theorem inv_grew (hI : Inv P B g σ a w) {hw' : Nat → Nat} {w' : World} {row : Option Nat} (h : Grew g w hw' w' row) (hbox : ∀ j, row = some j → ∀ b cs base, lk b σ.boxes = some cs → g.β b ≠ some (j, base)) (hrB : ∀ j, row = some j → B ≤ j)
    {own' : List (Loc × Nat)} (hown : ∀ l E, lkL l own' = some E → lkL l σ.own = some E) (hfree : ∀ l E val j, lkL l own' = some E → LocIs g a w l val → row = some j → val.ownBlock ≠ some j) :
    Inv P B ⟨g.β, hw'⟩ { σ with own := own' } a w' ∧ Fr B g σ w ⟨g.β, hw'⟩ { σ with own := own' } w' := by
  have hx := h.ext hI.hwlt
  have bl : ∀ b cs k base, lk b σ.boxes = some cs → g.β b = some (k, base) → some k ≠ row := fun b cs k base hb hk e => hbox k e.symm b cs base hb hk
  have locs : ∀ l, (∀ b c, l = .b b c → ∃ cs, lk b σ.boxes = some cs) → ∀ val, LocIs ⟨g.β, hw'⟩ a w' l val ↔ LocIs g a w l val := by
    intro l hl val
    cases l with
    | t t => exact Iff.rfl
    | b b c =>
      obtain ⟨cs, hcs⟩ := hl b c rfl
      obtain ⟨k, base, hk, hlt, _⟩ := hI.box b cs hcs
      have hc : w'.cell? ⟨k, base + c, none⟩ = w.cell? ⟨k, base + c, none⟩ := World.cell?_of_block (w := w) (a := ⟨k, base + c, none⟩) (h.block k hlt (bl b cs k base hcs hk))
      show (∃ k base, g.β b = some (k, base) ∧ w'.cell? ⟨k, base + c, none⟩ = some val) ↔ ∃ k base, g.β b = some (k, base) ∧ w.cell? ⟨k, base + c, none⟩ = some val
      constructor
      · rintro ⟨k2, base2, h1, h2⟩
        rw [hk] at h1
        have := Option.some.inj h1
        cases this
        exact ⟨k, base, hk, by rw [← hc]; exact h2⟩
      · rintro ⟨k2, base2, h1, h2⟩
        rw [hk] at h1
        have := Option.some.inj h1
        cases this
        exact ⟨k, base, hk, by rw [hc]; exact h2⟩
  have ob : ∀ l E, lkL l own' = some E → ∀ b c, l = .b b c → ∃ cs, lk b σ.boxes = some cs := fun l E hl b c e => by
    have := hI.ownt l E (hown l E hl)
    subst e
    exact this
  refine ⟨⟨hI.size, hI.defers, ?_, hI.ptr, hI.fnp, ?_, hI.inj, h.hwlt, Nat.le_trans hI.base h.size, hI.glob.mono hx (fun _ _ hy => h.block _ (hI.glob.1.lt hy) (fun e => by have := hrB _ e.symm; have := hI.glob.2 _ _ hy; omega)), ?_, fun l E hl => hI.ownt l E (hown l E hl), ?_, ?_, hI.alt, hI.sl, hI.ref⟩, ?_⟩
  · intro t av ht
    obtain ⟨h1, h2⟩ := hI.tmp t av ht
    exact ⟨h1, h2.mono (g' := ⟨g.β, hw'⟩) hx (fun _ => .inr rfl) (fun _ _ _ _ _ => rfl)⟩
  · intro b cs hb
    obtain ⟨k, base, h1, h2, h3, h4, h5⟩ := hI.box b cs hb
    have hne := bl b cs k base hb h1
    have hbl := h.block k h2 hne
    exact ⟨k, base, h1, Nat.lt_of_lt_of_le h2 h.size, BoxOk.mono (g' := ⟨g.β, hw'⟩) hx (fun off => World.cell?_of_block (w := w) (a := ⟨k, off, none⟩) hbl) (fun off => World.frozen?_of_block (w := w) (a := ⟨k, off, none⟩) hbl) (shape_block hbl) (fun _ _ _ _ => rfl) h3,
      fun hr => (h.hw k h2 hne).trans (h4 hr), h5⟩
  · intro l E hl
    obtain ⟨val, h1, h2, h3⟩ := hI.own l E (hown l E hl)
    refine ⟨val, (locs l (ob l E hl) val).2 h1, h2.mono (fun j hj => ?_), h3⟩
    have hlt := (own_block_lt h2 j hj).1
    have hne : some j ≠ row := fun e => hfree l E val j hl h1 e.symm hj
    exact ⟨h.block j hlt hne, h.hw j hlt hne⟩
  · intro l l' E E' val val' k hl hl' h1 h2 h3 h4
    exact hI.owninj l l' E E' val val' k (hown l E hl) (hown l' E' hl') ((locs l (ob l E hl) val).1 h1) ((locs l' (ob l' E' hl') val').1 h2) h3 h4
  · intro t l hm
    exact (locs l (fun b c e => by subst e; exact hI.alt t b c hm) _).2 (hI.al t l hm)
  · have hBs := hI.base
    have ne : ∀ j, j < B → some j ≠ row := fun j hj e => by have := hrB j e.symm; omega
    exact ⟨h.os, h.tape, h.output, h.size, rfl, fun j hj _ => h.block j (by omega) (ne j hj), fun j off hj _ => World.cell?_of_block (w := w) (a := ⟨j, off, none⟩) (h.block j (by omega) (ne j hj)),
      fun j off hj => World.frozen?_of_block (w := w) (a := ⟨j, off, none⟩) (h.block j (by omega) (ne j hj)), fun j hj _ => h.hw j (by omega) (ne j hj), fun b cs' _ hb => ⟨cs', hb, rfl, rfl⟩, hx⟩

theorem Qt.grew {hw' : Nat → Nat} {w' : World} (q : Qt g.hw w hw' w') : Grew g w hw' w' none :=
  ⟨q.below.os, q.below.tape, q.below.output, q.below.size, fun j hj _ => q.below.block j hj, fun _ _ h => absurd h (by simp), fun j hj _ => q.hw j hj, fun _ _ h => absurd h (by simp), q.hwlt⟩

/-- A call that leaves no value in a slot. -/
theorem inv_qt (hI : Inv P B g σ a w) {hw' : Nat → Nat} {w' : World} (q : Qt g.hw w hw' w') : Inv P B ⟨g.β, hw'⟩ σ a w' ∧ Fr B g σ w ⟨g.β, hw'⟩ σ w' := by
  have := inv_grew hI q.grew (own' := σ.own) (fun _ h => absurd h (by simp)) (fun _ h => absurd h (by simp)) (fun _ _ h => h) (fun _ _ _ _ _ _ h => absurd h (by simp))
  exact this

/-- A value is laid into a slot. -/
theorem put_inv (hI : Inv P B g σ a w) {d : Nat} (hd : d < σ.n) {v : Value} {x : PV} (h : Rep g.hw w v x) : Inv P B g (put σ d (.p x)) (a.put (some d) v) w := by
  have hp : PRes g σ a w ⟨some d, .alloc 0, 0, "", #[], none⟩ ⟨.p x, none, none⟩ v w g :=
    ⟨Qt.refl hI.hwlt, h, fun _ => rfl, fun _ h => absurd h (by simp), fun _ h => absurd h (by simp), fun _ => ⟨fun _ _ h => absurd h (by simp), fun _ _ h => absurd h (by simp), fun _ _ _ _ h => absurd h (by simp)⟩⟩
  exact addRes_inv hI hp rfl hd (fun _ h => absurd h (by simp))

/-- A slot is claimed. -/
theorem claim_inv (hI : Inv P B g σ a w) {d : Nat} (hd : d < σ.n) {E : Nat} {val : Value} (hv : a.tmps.getD d undef = val) (ho : OwnV P B g.hw w E val) (hb : ∀ k, val.ownBlock = some k → ∀ b cs base, lk b σ.boxes = some cs → g.β b ≠ some (k, base))
    (hother : ∀ l E val' k, lkL l σ.own = some E → LocIs g a w l val' → val.ownBlock = some k → val'.ownBlock ≠ some k) : Inv P B g { σ with own := (.t d, E) :: σ.own } a w := by
  have lkc : ∀ l E', lkL l ((Loc.t d, E) :: σ.own) = some E' → (l = .t d ∧ E' = E) ∨ (l ≠ .t d ∧ lkL l σ.own = some E') := by
    intro l E' hl
    rw [lkL_cons] at hl
    split at hl
    · rename_i e; exact .inl ⟨e, (Option.some.inj hl).symm⟩
    · rename_i e; exact .inr ⟨e, hl⟩
  refine ⟨hI.size, hI.defers, hI.tmp, hI.ptr, hI.fnp, hI.box, hI.inj, hI.hwlt, hI.base, hI.glob, ?_, ?_, ?_, hI.al, hI.alt, hI.sl, hI.ref⟩
  · intro l E' hl
    rcases lkc l E' hl with ⟨rfl, rfl⟩ | ⟨_, hl⟩
    · exact ⟨val, hv, ho, hb⟩
    · exact hI.own l E' hl
  · intro l E' hl
    rcases lkc l E' hl with ⟨rfl, rfl⟩ | ⟨_, hl⟩
    · exact hd
    · exact hI.ownt l E' hl
  · intro l l' E1 E2 v1 v2 k hl hl' h1 h2 h3 h4
    rcases lkc l E1 hl with ⟨rfl, rfl⟩ | ⟨hne, hq⟩ <;> rcases lkc l' E2 hl' with ⟨rfl, rfl⟩ | ⟨hne', hq'⟩
    · rfl
    · have e : v1 = val := by rw [← hv]; exact h1.symm
      subst e
      exact absurd h4 (hother l' E2 v2 k hq' h2 h3)
    · have e : v2 = val := by rw [← hv]; exact h2.symm
      subst e
      exact absurd h3 (hother l E1 v1 k hq h1 h4)
    · exact hI.owninj l l' E1 E2 v1 v2 k hq hq' h1 h2 h3 h4

/-- A box is only read from now on. -/
theorem freeze_inv (hI : Inv P B g σ a w) {b : Nat} {cs : List PV} {k base : Nat} (hb : lk b σ.boxes = some cs) (hk : g.β b = some (k, base)) :
    Inv P B ⟨g.β, fun j => if j = k then max (g.hw j) (base + cs.length) else g.hw j⟩ { σ with ro := b :: σ.ro } a w ∧ Fr B g σ w ⟨g.β, fun j => if j = k then max (g.hw j) (base + cs.length) else g.hw j⟩ { σ with ro := b :: σ.ro } w := by
  obtain ⟨k', base', hk', hlt, hok, hhw, hB⟩ := hI.box b cs hb
  rw [hk] at hk'
  have := Option.some.inj hk'
  cases this
  have hx : Ext g.hw w (fun j => if j = k then max (g.hw j) (base + cs.length) else g.hw j) w := ⟨fun _ _ _ => rfl, fun j => by by_cases e : j = k <;> simp [e]; omega⟩
  refine ⟨⟨hI.size, hI.defers, ?_, hI.ptr, hI.fnp, ?_, hI.inj, ?_, hI.base, hI.glob.mono hx (fun _ _ _ => rfl), ?_, hI.ownt, hI.owninj, hI.al, hI.alt, hI.sl, hI.ref⟩, ?_⟩
  · intro t av ht
    obtain ⟨h1, h2⟩ := hI.tmp t av ht
    exact ⟨h1, h2.mono (g' := ⟨g.β, _⟩) hx (fun _ => .inr rfl) (fun _ _ _ _ _ => rfl)⟩
  · intro b' cs' h'
    obtain ⟨k2, base2, h1, h2, h3, h4, h5⟩ := hI.box b' cs' h'
    refine ⟨k2, base2, h1, h2, BoxOk.mono (g' := ⟨g.β, _⟩) hx (fun _ => rfl) (fun _ => rfl) rfl (fun _ _ _ _ => rfl) h3, fun hr => ?_, h5⟩
    have hne : b' ≠ b := fun e => hr (by rw [e]; simp)
    have hkk : k2 ≠ k := fun e => by subst e; exact hne (hI.inj b' b cs' cs k2 base2 base h' hb h1 hk)
    simp only [hkk, if_false]
    exact h4 (fun hm => hr (List.mem_cons_of_mem _ hm))
  · intro j hj
    have : j ≠ k := by omega
    simp only [this, if_false]
    exact hI.hwlt j hj
  · intro l E hl
    obtain ⟨val, h1, h2, h3⟩ := hI.own l E hl
    refine ⟨val, h1, h2.mono (fun j hj => ⟨rfl, ?_⟩), h3⟩
    have : j ≠ k := fun e => by subst e; exact h3 j hj b cs base hb hk
    simp [this]
  · refine ⟨rfl, rfl, rfl, Nat.le_refl _, rfl, fun _ _ _ => rfl, fun _ _ _ _ => rfl, fun _ _ _ => rfl, fun j hj hn => ?_, fun b' cs' _ h' => ⟨cs', h', rfl, rfl⟩, hx⟩
    have : j ≠ k := fun e => by
      subst e
      rcases Nat.lt_or_ge b σ.n with hbn | hbn
      · have := hB hbn; omega
      · exact hn ⟨b, cs, base, hbn, hb, hk⟩
    simp [this]
end
end Go.Ev
namespace Go.Ev
open Go.RowKit

def addOwn (σ : St) (d E : Nat) : St := { σ with own := (.t d, E) :: σ.own }

def evAppend (Γ : List (Nat × Ty)) (σ : St) (d : Nat) (x y : Operand) (t t' : TypeId) (os : List Obl) : Option (St × List Obl × List Obl) :=
  match lk t Γ, pvOf σ x, pvOf σ y, os with
  | some ty, some xv, some (.lst ys), .pr _ :: os' => bif Nat.beq t t' && Nat.beq ty.kd 3 then
      match lk ty.elem Γ with
      | some ety => bif Nat.beq ety.size 0 || Nat.beq ety.bytes 0 then none else
        match xv, x with
        | .nil, _ => some (addOwn (put σ d (.p (.lst ys))) d ty.elem, os', [.pr (0 < ys.length ∧ (0 + ys.length) * ety.bytes ≤ 140737488355328 ∧ Lens ety.size ys)])
        | .lst xs, .tmp t1 =>
          let l := match lk t1 σ.al with | some l => l | none => .t t1
          match lkL l σ.own with
          | some E => bif Nat.beq E ty.elem then some (addOwn (put (dropOwn σ l) d (.p (.lst (xs ++ ys)))) d ty.elem, os', [.pr (0 < ys.length ∧ (xs.length + ys.length) * ety.bytes ≤ 140737488355328 ∧ Lens ety.size (xs ++ ys))]) else none
          | none => none
        | _, _ => none
      | none => none
    else none
  | _, _, _, _ => none

section
variable {P : Program} {B : Nat} {g : G} {σ : St} {a : Act} {w : World} {o : Oper}

/-- The cells of a list, one behind the other. -/
theorem list_cells {hw : Nat → Nat} {w : World} {v : Value} {ys : List (List PV)} (h : Rep hw w v (.lst ys)) (h0 : 0 < ys.length) {s : Nat} (hs : Lens s ys) :
    ∃ blk off cap, v = .slice (some ⟨blk, off, none⟩) ys.length cap ∧ ∃ news : List Value, news.length = ys.length * s ∧ (∀ j u, news[j]? = some u → w.cell? ((⟨blk, off, none⟩ : Addr).add j) = some u) ∧ (∀ u ∈ news, u.oneCell' = true) ∧
      ∀ i j x y, ys[i]? = some x → x[j]? = some y → ∃ u, news[i * s + j]? = some u ∧ Rep hw w u y := by
  cases h with
  | lnil => simp at h0
  | lst xs blk off cap s' c hcap hlen hc hr h1 hh =>
    have hss : s' = s := by
      have := hlen 0 ys[0] (List.getElem?_eq_getElem h0)
      rw [← this]; exact hs _ (List.getElem_mem h0)
    subst hss
    by_cases hs0 : s' = 0
    · subst hs0
      refine ⟨blk, off, cap, rfl, [], by simp, fun j u hu => by simp at hu, fun u hu => by simp at hu, fun i j x y hx hy => ?_⟩
      have := hlen i x hx
      have hj := (List.getElem?_eq_some_iff.1 hy).1
      omega
    · refine ⟨blk, off, cap, rfl, (List.range (ys.length * s')).map fun k => c (k / s') (k % s'), by simp, fun j u hu => ?_, fun u hu => ?_, fun i j x y hx hy => ?_⟩
      · rw [List.getElem?_map] at hu
        by_cases hj : j < ys.length * s'
        · rw [List.getElem?_range hj] at hu
          simp at hu
          subst hu
          have h1 : j / s' < ys.length := Nat.div_lt_of_lt_mul (by rw [Nat.mul_comm]; exact hj)
          have h2 : j % s' < s' := Nat.mod_lt _ (by omega)
          have := hc (j / s') (j % s') h1 h2
          rw [Addr.add_lit]
          rw [show off + j = off + (j / s' * s' + j % s') by rw [Nat.div_add_mod' j s']]
          exact this
        · rw [List.getElem?_eq_none (by simp; omega)] at hu
          exact absurd hu (by simp)
      · rw [List.mem_map] at hu
        obtain ⟨k, hk, rfl⟩ := hu
        have hk := List.mem_range.1 hk
        exact h1 _ _ (Nat.div_lt_of_lt_mul (by rw [Nat.mul_comm]; exact hk)) (Nat.mod_lt _ (by omega))
      · have hi := (List.getElem?_eq_some_iff.1 hx).1
        have hj : j < s' := by rw [← hlen i x hx]; exact (List.getElem?_eq_some_iff.1 hy).1
        have hlt : i * s' + j < ys.length * s' := by have := seg_lt (off := 0) hi hj; omega
        refine ⟨c i j, ?_, hr i j x y hx hy⟩
        rw [List.getElem?_map, List.getElem?_range hlt]
        simp only [Option.map_some]
        rw [Nat.add_comm (i * s') j, Nat.add_mul_div_right _ _ (by omega), Nat.div_eq_of_lt hj, Nat.zero_add, Nat.add_mul_mod_self_right, Nat.mod_eq_of_lt hj]

theorem own_cells {hw : Nat → Nat} {w : World} {v : Value} {xs : List (List PV)} (h : Rep hw w v (.lst xs)) {base e s n : Nat} {xv : List Value} (ho : w.ownsRow base e s v n xv) (hs : Lens s xs) :
    n = xs.length ∧ ∀ (i j : Nat) (x : List PV) (y : PV), xs[i]? = some x → x[j]? = some y → ∃ u, xv[i * s + j]? = some u ∧ u.oneCell' = true ∧ Rep hw w u y := by
  cases h with
  | lnil =>
    rcases ho.2 with ⟨_, h⟩ | ⟨gb, cap, cur, hv, _⟩
    · exact ⟨h, fun i j x y hx => by simp at hx⟩
    · exact absurd hv (by simp)
  | lst xs blk off cap s' c hcap hlen hc hr h1 hh =>
    rcases ho.2 with ⟨hv, _⟩ | ⟨gb, cap', cur, hv, _, _, _, _, _, _⟩
    · exact absurd hv (by simp)
    · injection hv with e1 e2 e3
      injection e1 with e1
      injection e1 with e1 e4
      subst e1; subst e4
      refine ⟨e2.symm, fun i j x y hx hy => ?_⟩
      have hxs : x.length = s := hs x (List.mem_of_getElem? hx)
      have hss : s' = s := by rw [← hlen i x hx]; exact hxs
      subst hss
      have hi := (List.getElem?_eq_some_iff.1 hx).1
      have hj : j < s' := by rw [← hxs]; exact (List.getElem?_eq_some_iff.1 hy).1
      refine ⟨c i j, ?_, h1 i j hi hj, hr i j x y hx hy⟩
      have hlt : i * s' + j < xv.length := by
        rw [ho.1, ← e2]
        have := seg_lt (off := 0) hi hj; omega
      have hcell := ho.cells (g := blk) rfl (i * s' + j) xv[i * s' + j] (List.getElem?_eq_getElem hlt)
      rw [Addr.add_lit, hc i j hi hj] at hcell
      rw [List.getElem?_eq_getElem hlt]
      exact hcell.symm

/-- A row that is owned, as a list. -/
theorem own_rep {hw : Nat → Nat} {w : World} {v : Value} {xs : List (List PV)} {base e s : Nat} {xv : List Value} (ho : w.ownsRow base e s v xs.length xv) (hs : Lens s xs) (hh : ∀ k, v.ownBlock = some k → xs.length * s ≤ hw k)
    (hr : ∀ (i j : Nat) (x : List PV) (y : PV), xs[i]? = some x → x[j]? = some y → ∃ u, xv[i * s + j]? = some u ∧ u.oneCell' = true ∧ Rep hw w u y) : Rep hw w v (.lst xs) := by
  rcases ho.2 with ⟨rfl, h⟩ | ⟨gb, cap, cur, rfl, _, _, hc, _, _, _⟩
  · have : xs = [] := List.eq_nil_of_length_eq_zero h
    subst this
    exact .lnil
  · have get : ∀ i j, i < xs.length → j < s → ∃ u, xv[i * s + j]? = some u ∧ u.oneCell' = true ∧ ∀ x y, xs[i]? = some x → x[j]? = some y → Rep hw w u y := by
      intro i j hi hj
      have hx := List.getElem?_eq_getElem hi
      have hl : xs[i].length = s := hs _ (List.getElem_mem hi)
      have hy := List.getElem?_eq_getElem (l := xs[i]) (i := j) (by omega)
      obtain ⟨u, h1, h2, h3⟩ := hr i j _ _ hx hy
      refine ⟨u, h1, h2, fun x y hx' hy' => ?_⟩
      rw [hx] at hx'
      have := Option.some.inj hx'
      subst this
      rw [hy] at hy'
      have := Option.some.inj hy'
      subst this
      exact h3
    refine .lst xs gb 0 cap s (fun i j => xv.getD (i * s + j) undef) hc (fun i x hx => hs x (List.mem_of_getElem? hx)) (fun i j hi hj => ?_) (fun i j x y hx hy => ?_) (fun i j hi hj => ?_) (by rw [Nat.zero_add]; exact hh gb rfl)
    · obtain ⟨u, h1, _⟩ := get i j hi hj
      have := ho.cells (g := gb) rfl _ u h1
      rw [Addr.add_lit] at this
      rw [this, List.getD_eq_getElem?_getD, h1]
      rfl
    · have hi := (List.getElem?_eq_some_iff.1 hx).1
      have hj : j < s := by rw [← hs x (List.mem_of_getElem? hx)]; exact (List.getElem?_eq_some_iff.1 hy).1
      obtain ⟨u, h1, _, h3⟩ := get i j hi hj
      rw [List.getD_eq_getElem?_getD, h1]
      exact h3 x y hx hy
    · obtain ⟨u, h1, h2, _⟩ := get i j hi hj
      rw [List.getD_eq_getElem?_getD, h1]
      exact h2

/-- The append itself. -/
theorem append_core {Γ : List (Nat × Ty)} (hΓ : TyOk P Γ) (hI : Inv P B g σ a w) {t : TypeId} {ty ety : Ty} (hty : lk t Γ = some ty) (hk : ty.kd = 3) (hety : lk ty.elem Γ = some ety) (hs0 : ety.size ≠ 0) (hb0 : ety.bytes ≠ 0)
    {v vy : Value} {xs ys : List (List PV)} (hv : Rep g.hw w v (.lst xs)) (ho : OwnV P B g.hw w ty.elem v) (hy : Rep g.hw w vy (.lst ys)) (h0 : 0 < ys.length) (hbytes : (xs.length + ys.length) * ety.bytes ≤ 140737488355328) (hl : Lens ety.size (xs ++ ys)) (T : TypeId) :
    ∃ v' w' hw', (Builtin.append_ #[t, t] T #[v, vy]).run P w = .ok v' w' ∧ Grew g w hw' w' v.ownBlock ∧ Rep hw' w' v' (.lst (xs ++ ys)) ∧ OwnV P B hw' w' ty.elem v' ∧ (v'.ownBlock = v.ownBlock ∨ ∀ k, v'.ownBlock = some k → w.heap.size ≤ k) := by
  have hET := tyIs (hΓ _ _ hety)
  obtain ⟨i, z, hi, hz, e1, e2, _, _, hzs⟩ := hET.info
  obtain ⟨_, hk3, _⟩ := kd_under (tyIs (hΓ _ _ hty))
  have hu := hk3 hk
  obtain ⟨i', n, xv, hi', hown, hfr⟩ := ho
  rw [hi] at hi'
  have := Option.some.inj hi'
  subst this
  rw [e1] at hs0 hl
  rw [e2] at hb0 hbytes
  have hlx : Lens i.size xs := fun x hx => hl x (List.mem_append_left _ hx)
  have hly : Lens i.size ys := fun x hx => hl x (List.mem_append_right _ hx)
  obtain ⟨rfl, hcx⟩ := own_cells hv hown hlx
  obtain ⟨blk, off, cap, rfl, news, n1, n2, n3, n4⟩ := list_cells hy h0 hly
  have hsum : xs.length + ys.length ≤ 140737488355328 := Nat.le_trans (Nat.le_mul_of_pos_right _ (by omega)) hbytes
  obtain ⟨v', w', hr, how, hg, hblk, hst, hfz⟩ := append_more (ty := T) hu hi hz hzs (by omega) hown n1 n2 n3 (by simp only [maxLen]; omega) hbytes hI.base
  have olt : ∀ k, v.ownBlock = some k → k < w.heap.size := fun k hk => (hown.lt k hk).2
  have nlt : ∀ k, v'.ownBlock = some k → k < w'.heap.size := fun k hk => (how.lt k hk).2
  let hw' : Nat → Nat := fun k => if v'.ownBlock = some k then (xs.length + ys.length) * i.size else g.hw k
  have hgrew : Grew g w hw' w' v.ownBlock := by
    refine ⟨hg.os, hg.tape, hg.output, hg.size, hg.block, fun j off hj hoff => hst j off hj ?_, fun j hj hne => ?_, fun j hj he => ?_, fun j hj => ?_⟩
    · rw [hfr j hj] at hoff; exact hoff
    · have : v'.ownBlock ≠ some j := fun e => by
        rcases hblk with h | h
        · rw [h] at e; exact hne e.symm
        · have := h j e; omega
      simp only [hw', this, if_false]
    · by_cases e : v'.ownBlock = some j
      · simp only [hw', e, if_true]
        rw [hfr j he]
        exact Nat.mul_le_mul_right _ (Nat.le_add_right _ _)
      · simp only [hw', e, if_false]; exact Nat.le_refl _
    · have : v'.ownBlock ≠ some j := fun e => by have := nlt j e; omega
      simp only [hw', this, if_false]
      exact hI.hwlt j (Nat.le_trans hg.size hj)
  have hx := hgrew.ext hI.hwlt
  have hlen : (xs ++ ys).length = xs.length + ys.length := List.length_append
  refine ⟨v', w', hw', hr, hgrew, own_rep (by rw [hlen]; exact how) hl (fun k hk => by rw [hlen]; simp only [hw', hk, if_true]; exact Nat.le_refl _) (fun p q x y hx' hy' => ?_), ⟨i, _, _, hi, how, fun k hk => by simp only [hw', hk, if_true]⟩, hblk⟩
  have hq : q < i.size := by rw [← hl x (List.mem_of_getElem? hx')]; exact (List.getElem?_eq_some_iff.1 hy').1
  rw [List.getElem?_append] at hx'
  split at hx'
  · obtain ⟨u, h1, h2, h3⟩ := hcx p q x y hx' hy'
    have := (List.getElem?_eq_some_iff.1 h1).1
    exact ⟨u, by rw [List.getElem?_append_left this]; exact h1, h2, h3.mono hx⟩
  · rename_i hp
    obtain ⟨u, h1, h3⟩ := n4 (p - xs.length) q x y hx' hy'
    have hlt := (List.getElem?_eq_some_iff.1 h1).1
    refine ⟨u, ?_, n3 u (List.mem_of_getElem? h1), h3.mono hx⟩
    have e : p * i.size + q = xv.length + ((p - xs.length) * i.size + q) := by
      rw [hown.1, ← Nat.add_assoc, ← Nat.add_mul]
      congr 2
      omega
    rw [e, List.getElem?_append_right (by omega), Nat.add_sub_cancel_left]
    exact h1
end
end Go.Ev
namespace Go.Ev
open Go.RowKit

/-- A call that writes through its first argument: a pointer into a box. -/
def evCallp (σ : St) (dst : Option Nat) (f : Operand) (args : List Operand) (os : List Obl) : Option (St × List Obl × List Obl) :=
  match opd σ f, args, os with
  | some (.p (.fn fid [])), p :: rest, .callp _ _ _ r cs' :: os' => match opd σ p, mapO (opd σ) rest with
    | some (.ptr b off), some l => match lk b σ.boxes, handAll σ.boxes l with
      | some cs, some (xs, false) => bif Nat.ble (off + cs'.length) cs.length && !(has b σ.ro) && hdOk cs && hdOk cs' then
          let σ1 := wrBox σ b off cs' cs []
          match dst with
          | none => some (σ1, os', [.callp fid ((cs.drop off).take cs'.length) xs r cs'])
          | some d => bif Nat.blt d σ.n then some (put σ1 d (.p r), os', [.callp fid ((cs.drop off).take cs'.length) xs r cs']) else none
        else none
      | _, _ => none
    | _, _ => none
  | _, _, _ => none

/-- A whole array in a box, as a list. -/
def evFreeze (Γ : List (Nat × Ty)) (σ : St) (d : Nat) (T : TypeId) (x : Operand) : Option St :=
  match opd σ x, lk T Γ with
  | some (.ptr b off), some ty => bif Nat.beq ty.kd 2 && !(Nat.beq ty.len 0) then
      match lk b σ.boxes, lk ty.elem Γ with
      | some cs, some ety => bif Nat.ble (off + ty.len * ety.size) cs.length && hdOk ((cs.drop off).take (ty.len * ety.size)) then
          some (put { σ with ro := b :: σ.ro } d (.p (.lst (chunk ety.size ty.len ((cs.drop off).take (ty.len * ety.size)))))) else none
      | _, _ => none
    else none
  | _, _ => none

def linkOk (d : Nat) : Option Loc → Bool
  | some (.t t) => !(Nat.beq t d)
  | _ => true

def isNone {α : Type} : Option α → Bool
  | none => true
  | some _ => false

/-- An operation that writes no box. -/
def evQuiet (Γ : List (Nat × Ty)) (σ : St) (o : Oper) (os : List Obl) : Option (Res × List Obl × List Obl) :=
  match evPure Γ σ o os with
  | some (r, os1, ob1) => match o.dst with
    | some d => match rewr d r os1 with
      | some (r', os2, ob2) => bif Nat.blt d σ.n && linkOk d r'.link then some (r', os2, ob1 ++ ob2) else none
      | none => none
    | none => some (r, os1, ob1)
  | none => none

def evRun (Γ : List (Nat × Ty)) (σ : St) (o : Oper) (os : List Obl) : Option (St × List Obl × List Obl) :=
  let quiet : Option (St × List Obl × List Obl) := match evQuiet Γ σ o os with
    | some (r, os', ob) => match o.dst with
      | some d => some (addRes σ d r, os', ob)
      | none => bif isNone r.box then some (σ, os', ob) else none
    | none => none
  match o.op with
  | .store T p x => match o.dst, evStore Γ σ T p x with
    | none, some σ' => some (σ', os, [])
    | _, _ => none
  | .call ⟨.builtin .append, args, ats⟩ => match args.toList, ats.toList, o.dst with
    | [x, y], [t, t'], some d => bif Nat.blt d σ.n then
        (match evAppend Γ σ d x y t t' os with
        | some (σ', os1, ob1) => match os1 with
          | .re d' _ r :: os2 => bif Nat.beq d d' then (match lk d σ'.tmps with | some (.p x) => some ({ σ' with tmps := (d, .p r) :: σ'.tmps }, os2, ob1 ++ [.re d x r]) | _ => none) else some (σ', os1, ob1)
          | _ => some (σ', os1, ob1)
        | none => none) else none
    | _, _, _ => none
  | .slice T x none none none => match o.dst with
    | some d => bif Nat.blt d σ.n then (match evFreeze Γ σ d T x with
      | some σ' => match os with
        | .re d' _ r :: os2 => bif Nat.beq d d' then (match lk d σ'.tmps with | some (.p x) => some ({ σ' with tmps := (d, .p r) :: σ'.tmps }, os2, [.re d x r]) | _ => none) else some (σ', os, [])
        | _ => some (σ', os, [])
      | none => none) else none
    | none => none
  | .call ⟨.value f, args, _⟩ => match os with
    | .callp _ _ _ _ _ :: _ => evCallp σ o.dst f args.toList os
    | _ => quiet
  | _ => quiet

section
variable {P : Program} {B : Nat} {g : G} {σ : St} {a : Act} {w : World} {o : Oper}

/-- The operation runs, and the frame is then as it is known. -/
def Goes (P : Program) (B : Nat) (g : G) (σ : St) (a : Act) (w : World) (o : Oper) (σ' : St) : Prop :=
  OpRes P o a w fun v w' => ∃ g', Inv P B g' σ' (a.put o.dst v) w' ∧ Fr B g σ w g' σ' w'

theorem holdsAll_left {x y : List Obl} (h : holdsAll P (x ++ y)) : holdsAll P x := fun o ho => h o (List.mem_append_left _ ho)
theorem holdsAll_right {x y : List Obl} (h : holdsAll P (x ++ y)) : holdsAll P y := fun o ho => h o (List.mem_append_right _ ho)

theorem rewr_sound {d : Nat} {r r' : Res} {os os' ob : List Obl} (h : rewr d r os = some (r', os', ob)) (ho : holdsAll P ob) {v : Value} {w' : World} {g' : G} (hp : PRes g σ a w o r v w' g') : PRes g σ a w o r' v w' g' := by
  unfold rewr at h
  split at h
  · rename_i d' b' v' os2 h' bx l
    cases hb : Nat.beq d d' with
    | false =>
      rw [hb] at h
      have := Option.some.inj h
      cases this
      exact hp
    | true =>
      rw [hb] at h
      have := Option.some.inj h
      cases this
      have e : h' = v' := ho (.rb d h' v') (by simp)
      subst e
      exact hp
  · rename_i d' x' y os2 x bx l
    cases hb : Nat.beq d d' with
    | false =>
      rw [hb] at h
      have := Option.some.inj h
      cases this
      exact hp
    | true =>
      rw [hb] at h
      have := Option.some.inj h
      cases this
      have e : x = y := ho (.re d x y) (by simp)
      subst e
      exact hp
  · have := Option.some.inj h
    cases this
    exact hp

/-- Where a list came from is a box of the frame. -/
theorem link_box {Γ : List (Nat × Ty)} (hI : Inv P B g σ a w) {os os' ob : List Obl} {r : Res} (h : evPure Γ σ o os = some (r, os', ob)) : ∀ b c, r.link = some (.b b c) → ∃ cs, lk b σ.boxes = some cs := by
  have lo : ∀ (v : PV) (l : Loc) b c, (∀ b c, l = .b b c → ∃ cs, lk b σ.boxes = some cs) → linkOf σ v l = some (.b b c) → ∃ cs, lk b σ.boxes = some cs := by
    intro v l b c hl h
    unfold linkOf at h
    split at h
    · split at h
      · split at h
        · rename_i l' hl'
          have := Option.some.inj h
          subst this
          exact hI.alt _ b c (lk_mem hl')
        · exact absurd (Option.some.inj h) (by simp)
      · exact hl b c (Option.some.inj h)
    · exact hl b c (Option.some.inj h)
    · exact absurd h (by simp)
  have no : ∀ {x : AV} {bx : Option (List PV)} {os1 os2 ob1 ob2 : List Obl}, some ((⟨x, bx, none⟩ : Res), os1, ob1) = some (r, os2, ob2) → ∀ b c, r.link = some (.b b c) → ∃ cs, lk b σ.boxes = some cs := by
    intro x bx os1 os2 ob1 ob2 h b c hl
    have := Option.some.inj h
    cases this
    exact absurd hl (by simp)
  have noV : ∀ {q : Option PV} {os1 os2 ob2 : List Obl}, (match q with | some x => some ((⟨.p x, none, none⟩ : Res), os1, ([] : List Obl)) | none => none) = some (r, os2, ob2) → ∀ b c, r.link = some (.b b c) → ∃ cs, lk b σ.boxes = some cs := by
    intro q os1 os2 ob2 h
    obtain ⟨x, _, rfl⟩ := val_plain h
    exact fun b c hl => absurd hl (by simp)
  have noO : ∀ {q : Out PV} {os2 ob2 : List Obl}, (match q with | some (x, os, ob) => some ((⟨.p x, none, none⟩ : Res), os, ob) | none => none) = some (r, os2, ob2) → ∀ b c, r.link = some (.b b c) → ∃ cs, lk b σ.boxes = some cs := by
    intro q os2 ob2 h
    obtain ⟨x, _, rfl⟩ := out_plain h
    exact fun b c hl => absurd hl (by simp)
  have mv : ∀ {x : Operand} {os1 os2 ob2 : List Obl}, (match opd σ x with
      | some (.p v) => some ((⟨.p v, none, mvLink σ v x⟩ : Res), os1, ([] : List Obl))
      | some a => some (⟨a, none, none⟩, os1, [])
      | none => none) = some (r, os2, ob2) → ∀ b c, r.link = some (.b b c) → ∃ cs, lk b σ.boxes = some cs := by
    intro x os1 os2 ob2 h b c hl
    split at h
    · have := Option.some.inj h
      cases this
      cases x with
      | tmp t => exact lo _ (.t t) b c (fun _ _ e => absurd e (by simp)) hl
      | const _ => exact absurd hl (by simp [mvLink])
      | global _ => exact absurd hl (by simp [mvLink])
      | func _ => exact absurd hl (by simp [mvLink])
    · exact no h b c hl
    · exact absurd h (by simp)
  obtain ⟨dst, op, type, pos, after, guard⟩ := o
  cases op with
  | move x => exact mv h
  | assign x => exact mv h
  | load T p =>
    simp only [evPure] at h
    intro b c hl
    split at h
    · rename_i av hav
      split at h
      · have := Option.some.inj h
        cases this
        cases av with
        | p y => exact absurd hl (by simp [ldLink])
        | fnp f bs => exact absurd hl (by simp [ldLink])
        | sl b off n s => exact absurd hl (by simp [ldLink])
        | ptr b' off =>
          refine lo _ (.b b' off) b c (fun b2 c2 e => ?_) hl
          cases e
          exact opd_ptr hI hav
      · exact absurd h (by simp)
    · exact absurd h (by simp)
  | pick c x y => simp only [evPure] at h; split at h <;> first | exact noV h | exact absurd h (by simp)
  | alloc T => simp only [evPure] at h; (repeat' split at h) <;> first | exact no h | exact absurd h (by simp)
  | box T x => simp only [evPure] at h; (repeat' split at h) <;> first | exact no h | exact absurd h (by simp)
  | build T ps => simp only [evPure] at h; split at h <;> first | exact noV h | exact absurd h (by simp)
  | buildSlice T n ps => simp only [evPure] at h; split at h <;> first | exact noV h | exact absurd h (by simp)
  | fieldAddr T p f => simp only [evPure] at h; (repeat' split at h) <;> first | exact no h | exact absurd h (by simp)
  | field T x f => simp only [evPure] at h; split at h <;> first | exact noV h | exact absurd h (by simp)
  | nilCheck x => simp only [evPure] at h; (repeat' split at h) <;> first | exact no h | exact absurd h (by simp)
  | binOp op T x y yT => simp only [evPure] at h; split at h <;> first | exact noO h | exact absurd h (by simp)
  | unOp op T x => simp only [evPure] at h; split at h <;> first | exact noO h | exact absurd h (by simp)
  | convert S T x => simp only [evPure] at h; split at h <;> first | exact no h | exact absurd h (by simp)
  | extract x i => simp only [evPure] at h; split at h <;> first | exact noV h | exact absurd h (by simp)
  | slice T x lo hi mx =>
    cases mx with
    | some m => exact absurd h (by simp [evPure])
    | none =>
      simp only [evPure] at h
      split at h
      · split at h
        · exact absurd h (by simp)
        · split at h <;> first | exact noO h | exact absurd h (by simp)
        · split at h <;> first | exact noO h | exact absurd h (by simp)
        · split at h <;> first | exact noO h | exact absurd h (by simp)
      · exact absurd h (by simp)
  | index T x i => simp only [evPure] at h; split at h <;> first | exact noO h | exact absurd h (by simp)
  | indexAddr T x i =>
    simp only [evPure] at h
    split at h
    · split at h
      · split at h
        · rename_i ety xs' i' y os2 hety
          cases hb : (Nat.beq y.length ety.size && !(Nat.beq ety.size 0)) with
          | false => rw [hb] at h; exact absurd h (by simp)
          | true => rw [hb] at h; exact no h
        · exact absurd h (by simp)
      · split at h <;> first | exact no h | exact absurd h (by simp)
      · split at h <;> first | exact no h | exact absurd h (by simp)
      · exact absurd h (by simp)
    · exact absurd h (by simp)
  | makeFunc fn first caps =>
    cases fn with
    | func f =>
      simp only [evPure] at h
      split at h
      · split at h
        · cases hb : Nat.beq first.size 0 with
          | false => rw [hb] at h; exact absurd h (by simp)
          | true => rw [hb] at h; exact no h
        · exact absurd h (by simp)
      · exact absurd h (by simp)
    | _ => exact absurd h (by simp [evPure])
  | call c =>
    obtain ⟨callee, args, ats⟩ := c
    cases callee with
    | builtin b => simp only [evPure] at h; split at h <;> first | exact noO h | exact absurd h (by simp)
    | value f =>
      simp only [evPure] at h
      split at h
      · split at h
        · rename_i r' _ _ _ _ xs c hh
          revert h
          cases (!c || flat _) with
          | false => intro h; exact absurd h (by simp)
          | true => intro h; exact no h
        · exact absurd h (by simp)
      · split at h
        · revert h
          cases flat _ with
          | false => intro h; exact absurd h (by simp)
          | true => intro h; exact no h
        · exact absurd h (by simp)
      · exact absurd h (by simp)
    | invoke r m => exact absurd h (by simp [evPure])
  | _ => exact absurd h (by simp [evPure])
end
end Go.Ev
namespace Go.Ev
open Go.RowKit
section
variable {P : Program} {B : Nat} {g : G} {σ : St} {a : Act} {w : World} {o : Oper}

theorem inv_over (hI : Inv P B g σ a w) {d : Nat} {av : AV} (h : lk d σ.tmps = some av) : Inv P B g { σ with tmps := (d, av) :: σ.tmps } a w := by
  have e : ∀ t, lk t ((d, av) :: σ.tmps) = lk t σ.tmps := by
    intro t
    rw [lk_cons]
    split
    · rename_i e; rw [e, h]
    · rfl
  exact ⟨hI.size, hI.defers, fun t v ht => hI.tmp t v ((e t).symm.trans ht), fun t b off ht => hI.ptr t b off ((e t).symm.trans ht), fun t f bs ht => hI.fnp t f bs ((e t).symm.trans ht), hI.box, hI.inj, hI.hwlt, hI.base, hI.glob, hI.own, hI.ownt, hI.owninj, hI.al, hI.alt, fun t b off n s ht => hI.sl t b off n s ((e t).symm.trans ht), hI.ref⟩

theorem put_none (a : Act) (v : Value) : a.put none v = a := rfl

theorem quiet_sound {Γ : List (Nat × Ty)} (hΓ : TyOk P Γ) (hI : Inv P B g σ a w) {os os' ob : List Obl} {r : Res} (h : evQuiet Γ σ o os = some (r, os', ob)) (ho : holdsAll P ob) :
    Good P g σ a w o r ∧ ∀ d, o.dst = some d → d < σ.n ∧ ∀ l, r.link = some l → l ≠ .t d ∧ ∀ b c, l = .b b c → ∃ cs, lk b σ.boxes = some cs := by
  unfold evQuiet at h
  split at h
  · rename_i r1 os1 ob1 h1
    split at h
    · rename_i d hd
      split at h
      · rename_i r2 os2 ob2 h2
        cases hb : (Nat.blt d σ.n && linkOk d r2.link) with
        | false => rw [hb] at h; exact absurd h (by simp)
        | true =>
          rw [hb] at h
          have := Option.some.inj h
          cases this
          rw [Bool.and_eq_true] at hb
          refine ⟨(evPure_sound hΓ hI h1 (holdsAll_left ho)).mono fun v w' ⟨g', hp⟩ => ⟨g', rewr_sound h2 (holdsAll_right ho) hp⟩, fun d' hd' => ?_⟩
          rw [hd] at hd'
          have := Option.some.inj hd'
          subst this
          refine ⟨Nat.le_of_ble_eq_true hb.1, fun l hl => ⟨fun e => ?_, fun b c e => ?_⟩⟩
          · rw [hl, e] at hb
            simp [linkOk] at hb
          · subst e
            have : r1.link = some (.b b c) := by
              unfold rewr at h2
              split at h2
              · rename_i d' b' v' os2 h' bx l'
                cases hq : Nat.beq d d' with
                | false => rw [hq] at h2; have := Option.some.inj h2; cases this; exact hl
                | true => rw [hq] at h2; have := Option.some.inj h2; cases this; exact hl
              · rename_i d' x' y os2 x bx l'
                cases hq : Nat.beq d d' with
                | false => rw [hq] at h2; have := Option.some.inj h2; cases this; exact hl
                | true => rw [hq] at h2; have := Option.some.inj h2; cases this; exact hl
              · have := Option.some.inj h2; cases this; exact hl
            exact link_box hI h1 b c this
      · exact absurd h (by simp)
    · rename_i hd
      have := Option.some.inj h
      cases this
      exact ⟨evPure_sound hΓ hI h1 ho, fun d hd' => by rw [hd] at hd'; exact absurd hd' (by simp)⟩
  · exact absurd h (by simp)

theorem addRes_fr (hI : Inv P B g σ a w) {r : Res} {v : Value} {w' : World} {g' : G} (hp : PRes g σ a w o r v w' g') {d : Nat} (hd : d < σ.n) : Fr B g σ w g' (addRes σ d r) w' := by
  refine Fr.of_qt hI.hwlt hI.base hp.qt rfl (fun b cs' hn hb => ?_)
  have hne : b ≠ d := by omega
  have : lk b σ.boxes = some cs' := by
    rw [boxes_addRes] at hb
    cases hr : r.box with
    | none => rw [hr] at hb; exact hb
    | some cs => rw [hr] at hb; simpa [hne] using hb
  exact ⟨cs', this, rfl, hp.beta ⟨cs', this⟩⟩

theorem quiet_goes {Γ : List (Nat × Ty)} (hΓ : TyOk P Γ) (hI : Inv P B g σ a w) {os os' ob : List Obl} {r : Res} (h : evQuiet Γ σ o os = some (r, os', ob)) (ho : holdsAll P ob) {d : Nat} (hd : o.dst = some d) : Goes P B g σ a w o (addRes σ d r) := by
  obtain ⟨h1, h2⟩ := quiet_sound hΓ hI h ho
  obtain ⟨hlt, hlk⟩ := h2 d hd
  refine h1.mono fun v w' ⟨g', hp⟩ => ⟨g', ?_, addRes_fr hI hp hlt⟩
  rw [hd]
  exact addRes_inv hI hp hd hlt hlk

theorem store_goes {Γ : List (Nat × Ty)} (hΓ : TyOk P Γ) (hI : Inv P B g σ a w) {T : TypeId} {p x : Operand} {σ' : St} (hop : o.op = .store T p x) (hd : o.dst = none) (h : evStore Γ σ T p x = some σ') : Goes P B g σ a w o σ' := by
  unfold evStore at h
  split at h
  · rename_i b off v ty hp hv hty
    split at h
    · rename_i cs hcs
      cases hb : (Nat.beq v.cells.length ty.size && Nat.ble (off + ty.size) cs.length && !(Nat.beq ty.size 0) && !(has b σ.ro)) with
      | false => rw [hb] at h; exact absurd h (by simp)
      | true =>
        rw [hb] at h
        simp only [cond_true] at h
        simp only [Bool.and_eq_true, Bool.not_eq_true'] at hb
        obtain ⟨⟨⟨hb1, hb2⟩, hb3⟩, hb4⟩ := hb
        have e1 := Nat.eq_of_beq_eq_true hb1
        have e2 := Nat.le_of_ble_eq_true hb2
        have e3 : ty.size ≠ 0 := fun h0 => by rw [h0] at hb3; exact absurd hb3 (by decide)
        have hro : b ∉ σ.ro := fun hm => by rw [has_iff.2 hm] at hb4; exact absurd hb4 (by simp)
        have hrep := pvOf_sound hI hv
        have hvc := hrep.cellsRep (by intro h0; rw [h0] at e1; exact e3 e1.symm)
        obtain ⟨k, base, hk, hpv⟩ := opd_sound hI hp
        obtain ⟨k', base', hk', hlt, hok, hhw, hB⟩ := hI.box b cs hcs
        rw [hk] at hk'
        have := Option.some.inj hk'
        cases this
        have hT := tyIs (hΓ T ty hty)
        have hsz : (a.eval x).cells.size = ty.size := by have := hvc.len; rw [e1] at this; simpa using this
        have hcell : ∀ j, j < (a.eval x).cells.toList.length → ∃ u, w.cell? ⟨k, base + off + j, none⟩ = some u ∧ w.frozen? ⟨k, base + off + j, none⟩ = false := by
          intro j hj
          have hj' : off + j < cs.length := by simp at hj; omega
          obtain ⟨u, h1, _, h3, _⟩ := hok.cell (off + j) cs[off + j] (List.getElem?_eq_getElem hj')
          rw [← Nat.add_assoc] at h1 h3
          exact ⟨u, h1, h3⟩
        have hrun := run_storeCells_cells (P := P) k (base + off) (a.eval x).cells.toList 0 w (fun j hj => by obtain ⟨u, h1, _⟩ := hcell j hj; simp [h1]) (fun j hj => by obtain ⟨u, _, h2⟩ := hcell j hj; simpa using h2) hvc.one
        simp only [Nat.add_zero] at hrun
        have hturn : Turned g w g.hw (w.setCells k (base + off) (a.eval x).cells.toList) k (base + off) v.cells.length := by
          obtain ⟨r1, r2, r3⟩ := rest_setCells k (a.eval x).cells.toList (base + off) w
          refine ⟨r1, r2, r3, by rw [size_setCells]; exact Nat.le_refl _, fun j _ hj => heap_setCells k _ _ w j hj, fun off' ho => World.cell?_setCells_out k _ _ w _ (fun _ _ => ?_), fun off' => World.frozen?_setCells k _ _ w _, fun _ _ => rfl, fun j hj => hI.hwlt j (by rw [size_setCells] at hj; exact hj)⟩
          rw [← hvc.len] at ho
          show off' < base + off ∨ base + off + _ ≤ off'
          omega
        have hx := hturn.ext hI.hwlt (hhw hro)
        have hshape : (w.setCells k (base + off) (a.eval x).cells.toList).shape? k = w.shape? k := shape_setCells k k _ _ w
        have hnew : BoxOk ⟨g.β, g.hw⟩ (w.setCells k (base + off) (a.eval x).cells.toList) k (base + off) v.cells := by
          refine ⟨fun j y hy => ?_⟩
          have hj : j < (a.eval x).cells.toList.length := by rw [hvc.len]; exact (List.getElem?_eq_some_iff.1 hy).1
          refine ⟨(a.eval x).cells.toList[j], World.cell?_setCells_in k _ _ w (fun i hi => by obtain ⟨u, h1, _⟩ := hcell i hi; simp [h1]) j hj, hvc.one _ (List.getElem_mem hj), ?_, .rep ((hvc.rep j _ y (List.getElem?_eq_getElem hj) hy).mono hx)⟩
          rw [World.frozen?_setCells]
          obtain ⟨u, _, h2⟩ := hcell j hj
          exact h2
        have href : ∀ y ∈ v.cells, ∀ b', refP y = some b' → ∃ cs', lk b' σ.boxes = some cs' := fun y hy b' hb' => by
          obtain ⟨j, hj, rfl⟩ := List.getElem_of_mem hy
          rw [rep_ref (hvc.rep j _ _ (List.getElem?_eq_getElem (l := (a.eval x).cells.toList) (i := j) (by rw [hvc.len]; exact hj)) (List.getElem?_eq_getElem hj))] at hb'
          exact absurd hb' (by simp)
        have hgo : ∀ σ2, Inv P B ⟨g.β, g.hw⟩ σ2 a (w.setCells k (base + off) (a.eval x).cells.toList) ∧ Fr B g σ w ⟨g.β, g.hw⟩ σ2 (w.setCells k (base + off) (a.eval x).cells.toList) → Goes P B g σ a w o σ2 := by
          intro σ2 ⟨h1, h2⟩
          refine .inr (.inl ⟨undef, w.setCells k (base + off) (a.eval x).cells.toList, rfl, ?_, ⟨g.β, g.hw⟩, by rw [hd]; exact h1, h2⟩)
          unfold execOp
          rw [hop]
          simp [Instr.storeAt, Instr.sureAddr, hpv, storeVar, hsz, run_sizeOf hT, hrun]
        have hle : off + v.cells.length ≤ cs.length := by rw [e1]; exact e2
        have plain : Goes P B g σ a w o (wrBox σ b off v.cells cs []) :=
          hgo _ (wrBox_inv hI hcs hro hk hle hturn hnew (.inr hshape) href (fun l E hl => by simp [lkL] at hl) (fun l l' E E' hl => by simp [lkL] at hl))
        split at h
        · rename_i t
          split at h
          · rename_i E hE
            have := Option.some.inj h
            subst this
            obtain ⟨val, hval, hown, hnb⟩ := hI.own _ E hE
            have hvv : a.tmps.getD t undef = val := hval
            have hev : a.eval (.tmp t) = val := hvv
            obtain ⟨i, n, xs, hi, hrow, hfr⟩ := hown
            have hone : val.oneCell' = true ∧ val.cells = #[val] := by
              rcases hrow.2 with ⟨rfl, _⟩ | ⟨gb, cap, cur, rfl, _⟩ <;> exact ⟨rfl, rfl⟩
            have hs1 : v.cells.length = 1 := by
              have := hvc.len
              rw [hev, hone.2] at this
              simpa using this.symm
            have hI1 : Inv P B ⟨g.β, g.hw⟩ (dropOwn σ (.t t)) a w ∧ Fr B g σ w ⟨g.β, g.hw⟩ (dropOwn σ (.t t)) w := inv_grew hI (Qt.grew (Qt.refl hI.hwlt)) (own' := (dropOwn σ (.t t)).own) (fun _ h => absurd h (by simp)) (fun _ h => absurd h (by simp))
              (fun l E' hl => by
                rw [show (dropOwn σ (.t t)).own = σ.own.filter (fun (k, _) => !(k.eq (.t t))) from rfl, lkL_filter (fun k => !(k.eq (.t t)))] at hl
                split at hl
                · exact hl
                · exact absurd hl (by simp)) (fun _ _ _ _ _ _ h => absurd h (by simp))
            have := wrBox_inv (own' := [(.b b off, E)]) hI1.1 hcs hro hk hle hturn hnew (.inr hshape) href (fun l E' hl => by
                rw [lkL_cons] at hl
                split at hl
                · rename_i e
                  have := Option.some.inj hl
                  subst this; subst e
                  refine ⟨off, val, rfl, Nat.le_refl _, by omega, ?_, ⟨i, n, xs, hi, hrow, hfr⟩, hnb, fun l' E2 val' j hl' _ hloc hj hj' => ?_⟩
                  · have := World.cell?_setCells_in k (a.eval (.tmp t)).cells.toList (base + off) w (fun i hi => by obtain ⟨u, h1, _⟩ := hcell i hi; simp [h1]) 0 (by rw [hvc.len]; omega)
                    rw [Nat.add_zero] at this
                    rw [this]
                    congr 1
                    simp [hev, hone.2]
                  · rw [show (dropOwn σ (.t t)).own = σ.own.filter (fun (k, _) => !(k.eq (.t t))) from rfl, lkL_filter (fun k => !(k.eq (.t t)))] at hl'
                    split at hl'
                    · rename_i hne
                      have := hI.owninj (.t t) l' _ E2 val val' j hE hl' hval hloc hj hj'
                      rw [← this, Loc.eq_iff.2 rfl] at hne
                      exact absurd hne (by simp)
                    · exact absurd hl' (by simp)
                · simp [lkL] at hl) (fun l l' E1 E2 h1 h2 => by
                rw [lkL_cons] at h1 h2
                split at h1
                · split at h2
                  · rename_i e1 e2; rw [e1, e2]
                  · simp [lkL] at h2
                · simp [lkL] at h1)
            exact hgo _ ⟨this.1, hI1.2.trans this.2⟩
          · have := Option.some.inj h
            subst this
            exact plain
        · have := Option.some.inj h
          subst this
          exact plain
    · exact absurd h (by simp)
  · exact absurd h (by simp)
end
end Go.Ev
