/- A logic of frames, written for these claims: what a function is known to do is said of what is known of its arguments, in whatever memory; an evaluator of the program's code in that logic, and its soundness. (Part EvC.) -/
import Derived.Test.YtbbnkadjmioalaaGreatDoorFiEvB
import Derived.LoopN
import Derived.Scope
import Derived.Orders
namespace Go.Ev
open Go.RowKit
section
variable {P : Program} {B : Nat} {g : G} {σ : St} {a : Act} {w : World} {o : Oper}

/-- Where a place is, and it was not in the row that grew. -/
theorem grew_loc (hI : Inv P B g σ a w) {hw' : Nat → Nat} {w' : World} {row : Option Nat} (h : Grew g w hw' w' row) (hbox : ∀ j, row = some j → ∀ b cs base, lk b σ.boxes = some cs → g.β b ≠ some (j, base))
    {l : Loc} (hl : ∀ b c, l = .b b c → ∃ cs, lk b σ.boxes = some cs) {val : Value} (hv : LocIs g a w l val) : LocIs ⟨g.β, hw'⟩ a w' l val := by
  cases l with
  | t t => exact hv
  | b b c =>
    obtain ⟨cs, hcs⟩ := hl b c rfl
    obtain ⟨k, base, h1, h2⟩ := hv
    obtain ⟨k', base', hk, hlt, _⟩ := hI.box b cs hcs
    rw [h1] at hk
    have := Option.some.inj hk
    cases this
    have hc : w'.cell? ⟨k, base + c, none⟩ = w.cell? ⟨k, base + c, none⟩ := World.cell?_of_block (w := w) (a := ⟨k, base + c, none⟩) (h.block k hlt (fun e => hbox k e.symm b cs base hcs h1))
    exact ⟨k, base, h1, by rw [hc]; exact h2⟩

theorem locIs_fun {l : Loc} {v1 v2 : Value} (h1 : LocIs g a w l v1) (h2 : LocIs g a w l v2) : v1 = v2 := by
  cases l with
  | t t => exact h1.symm.trans h2
  | b b c =>
    obtain ⟨k, base, e1, e2⟩ := h1
    obtain ⟨k', base', e3, e4⟩ := h2
    rw [e1] at e3
    have := Option.some.inj e3
    cases this
    rw [e2] at e4
    exact Option.some.inj e4

theorem locIs_put {l : Loc} {d : Nat} {v val : Value} (hl : l ≠ .t d) (h : LocIs g a w l val) : LocIs g (a.put (some d) v) w l val := by
  cases l with
  | t t =>
    have hne : t ≠ d := fun e => hl (by rw [e])
    show (a.put (some d) v).tmps.getD t undef = val
    rw [← h]
    simp [Act.put, Array.getD_eq_getD_getElem?, Ne.symm hne]
  | b b c => exact h

theorem put_get (hI : Inv P B g σ a w) {d : Nat} (hd : d < σ.n) {v : Value} : (a.put (some d) v).tmps.getD d undef = v := by
  have : d < a.tmps.size := by rw [hI.size]; exact hd
  simp [Act.put, Array.getD_eq_getD_getElem?, this]

theorem own_put {σ : St} {d : Nat} {av : AV} {l : Loc} {E : Nat} (h : lkL l (put σ d av).own = some E) : l ≠ .t d ∧ lkL l σ.own = some E := by
  have e : (put σ d av).own = σ.own.filter fun (l, _) => !(l.eq (.t d)) := rfl
  rw [e, lkL_filter (fun l => !(l.eq (.t d)))] at h
  split at h
  · rename_i hne
    refine ⟨fun e => ?_, h⟩
    rw [e, Loc.eq_iff.2 rfl] at hne
    exact absurd hne (by simp)
  · exact absurd h (by simp)
theorem own_drop {σ : St} {l l' : Loc} {E : Nat} (h : lkL l (dropOwn σ l').own = some E) : l ≠ l' ∧ lkL l σ.own = some E := by
  have e : (dropOwn σ l').own = σ.own.filter fun (k, _) => !(k.eq l') := rfl
  rw [e, lkL_filter (fun k => !(k.eq l'))] at h
  split at h
  · rename_i hne
    refine ⟨fun e => ?_, h⟩
    rw [e, Loc.eq_iff.2 rfl] at hne
    exact absurd hne (by simp)
  · exact absurd h (by simp)

/-- Behind an append: the row that grew lies in the slot, and is claimed there. -/
theorem append_inv (hI : Inv P B g σ a w) {own' : List (Loc × Nat)} {d : Nat} (hd : d < σ.n) {E : Nat} {v v' : Value} {w' : World} {hw' : Nat → Nat} {x : PV}
    (hlt : ∀ k, v.ownBlock = some k → B ≤ k ∧ k < w.heap.size) (hbox : ∀ k, v.ownBlock = some k → ∀ b cs base, lk b σ.boxes = some cs → g.β b ≠ some (k, base))
    (hown : ∀ l E, lkL l own' = some E → lkL l σ.own = some E) (hfree : ∀ l E val j, lkL l own' = some E → LocIs g a w l val → v.ownBlock = some j → val.ownBlock ≠ some j)
    (h : Grew g w hw' w' v.ownBlock) (hr : Rep hw' w' v' x) (ho : OwnV P B hw' w' E v') (hb : v'.ownBlock = v.ownBlock ∨ ∀ k, v'.ownBlock = some k → w.heap.size ≤ k) :
    Inv P B ⟨g.β, hw'⟩ (addOwn (put { σ with own := own' } d (.p x)) d E) (a.put (some d) v') w' ∧ Fr B g σ w ⟨g.β, hw'⟩ (addOwn (put { σ with own := own' } d (.p x)) d E) w' := by
  obtain ⟨h1, h2⟩ := inv_grew hI h hbox (fun j e => (hlt j e).1) hown hfree
  have h3 := put_inv h1 (d := d) hd hr
  refine ⟨claim_inv h3 (val := v') hd (put_get h1 hd) ho (fun k hk b cs base hbx hk' => ?_) (fun l E' val' k hl hloc hk hk' => ?_), ⟨h2.os, h2.tape, h2.output, h2.size, h2.n, h2.block, h2.cell, h2.frozen, h2.hw, h2.par, h2.ext⟩⟩
  · rcases hb with e | e
    · rw [e] at hk; exact hbox k hk b cs base hbx hk'
    · have := e k hk
      obtain ⟨k2, base2, e1, e2, _⟩ := hI.box b cs hbx
      have hk2 : g.β b = some (k, base) := hk'
      rw [e1] at hk2
      have := Option.some.inj hk2
      cases this
      omega
  · obtain ⟨hne, hl1⟩ := own_put hl
    have hl2 : lkL l own' = some E' := hl1
    have hl3 := hown l E' hl2
    obtain ⟨val0, q1, q2, q3⟩ := hI.own l E' hl3
    have hbx : ∀ b c, l = .b b c → ∃ cs, lk b σ.boxes = some cs := fun b c e => by have := hI.ownt l E' hl3; subst e; exact this
    have q4 := locIs_put (v := v') hne (grew_loc hI h hbox hbx q1)
    have := locIs_fun q4 hloc
    subst this
    rcases hb with e | e
    · rw [e] at hk; exact hfree l E' val0 k hl2 q1 hk hk'
    · have := e k hk
      have := (own_block_lt q2 k hk').1
      omega

theorem append_goes {Γ : List (Nat × Ty)} (hΓ : TyOk P Γ) (hI : Inv P B g σ a w) {args : Array Operand} {ats : Array TypeId} {x y : Operand} {t t' : TypeId} {d : Nat} (hop : o.op = .call ⟨.builtin .append, args, ats⟩) (hargs : args.toList = [x, y]) (hats : ats.toList = [t, t'])
    (hdst : o.dst = some d) (hd : d < σ.n) {os os' ob : List Obl} {σ' : St} (h : evAppend Γ σ d x y t t' os = some (σ', os', ob)) (ho : holdsAll P ob) : Goes P B g σ a w o σ' := by
  have ea : args = #[x, y] := by apply Array.ext'; simpa using hargs
  have et : ats = #[t, t'] := by apply Array.ext'; simpa using hats
  subst ea; subst et
  unfold evAppend at h
  split at h
  · rename_i ty xv ys p os1 hty hx hy
    cases hb : (Nat.beq t t' && Nat.beq ty.kd 3) with
    | false => rw [hb] at h; exact absurd h (by simp)
    | true =>
      rw [hb] at h
      simp only [cond_true] at h
      rw [Bool.and_eq_true] at hb
      have htt := Nat.eq_of_beq_eq_true hb.1
      subst htt
      have hkd := Nat.eq_of_beq_eq_true hb.2
      split at h
      · rename_i ety hety
        cases hb2 : (Nat.beq ety.size 0 || Nat.beq ety.bytes 0) with
        | true => rw [hb2] at h; exact absurd h (by simp)
        | false =>
          rw [hb2] at h
          simp only [cond_false] at h
          rw [Bool.or_eq_false_iff] at hb2
          have s0 : ety.size ≠ 0 := fun e => by rw [e] at hb2; exact absurd hb2.1 (by decide)
          have b0 : ety.bytes ≠ 0 := fun e => by rw [e] at hb2; exact absurd hb2.2 (by decide)
          have hrx := pvOf_sound hI hx
          have hry := pvOf_sound hI hy
          have fin : ∀ (v' : Value) (w' : World) (σ2 : St), (Builtin.append_ #[t, t] o.type #[a.eval x, a.eval y]).run P w = .ok v' w' → (∃ g', Inv P B g' σ2 (a.put (some d) v') w' ∧ Fr B g σ w g' σ2 w') → Goes P B g σ a w o σ2 := by
            intro v' w' σ2 hrun hinv
            refine .inl ⟨v', w', ?_, by rw [hdst]; exact hinv⟩
            unfold execOp
            rw [hop]
            simp only [resolve, pure_bind, invoke]
            rw [show (#[x, y] : Array Operand).map a.eval = #[a.eval x, a.eval y] from by simp]
            exact run_val hrun
          split at h
          · have := Option.some.inj h
            cases this
            obtain ⟨q1, q2, q3⟩ : 0 < ys.length ∧ (0 + ys.length) * ety.bytes ≤ 140737488355328 ∧ Lens ety.size ys := ho (.pr _) (by simp)
            have hn : a.eval x = .slice none 0 0 := by generalize a.eval x = v at *; cases hrx; rfl
            obtain ⟨i, z, hi, _⟩ := (tyIs (hΓ _ _ hety)).info
            have hov : OwnV P B g.hw w ty.elem (.slice none 0 0) := ⟨i, 0, [], hi, World.ownsRow_nil _ _ _ _, fun k hk => absurd hk (by simp [Value.ownBlock])⟩
            obtain ⟨v', w', hw', r1, r2, r3, r4, r5⟩ := append_core (xs := []) hΓ hI hty hkd hety s0 b0 .lnil hov hry q1 q2 q3 o.type
            rw [← hn] at r1
            have := append_inv (v := .slice none 0 0) (own' := σ.own) hI hd (fun k hk => absurd hk (by simp [Value.ownBlock])) (fun k hk => absurd hk (by simp [Value.ownBlock])) (fun _ _ h => h) (fun _ _ _ j _ _ hk => absurd hk (by simp [Value.ownBlock])) r2 r3 r4 r5
            exact fin v' w' _ r1 ⟨_, this⟩
          · rename_i xs t1
            split at h
            · rename_i E hE
              cases hb3 : Nat.beq E ty.elem with
              | false => rw [hb3] at h; exact absurd h (by simp)
              | true =>
                rw [hb3] at h
                have := Option.some.inj h
                cases this
                have hEe := Nat.eq_of_beq_eq_true hb3
                subst hEe
                obtain ⟨q1, q2, q3⟩ : 0 < ys.length ∧ (xs.length + ys.length) * ety.bytes ≤ 140737488355328 ∧ Lens ety.size (xs ++ ys) := ho (.pr _) (by simp)
                obtain ⟨val, hl, hov, hbx⟩ := hI.own _ ty.elem hE
                have hlv : LocIs g a w (match lk t1 σ.al with | some l => l | none => .t t1) (a.eval (.tmp t1)) := by
                  split
                  · rename_i l hl; exact hI.al _ _ (lk_mem hl)
                  · rfl
                have hv := locIs_fun hl hlv
                subst hv
                obtain ⟨v', w', hw', r1, r2, r3, r4, r5⟩ := append_core hΓ hI hty hkd hety s0 b0 hrx hov hry q1 q2 q3 o.type
                have := append_inv (own' := (dropOwn σ (match lk t1 σ.al with | some l => l | none => .t t1)).own) hI hd (fun k hk => by have := own_block_lt hov k hk; exact ⟨this.2, this.1⟩) hbx (fun l E h => (own_drop h).2)
                  (fun l E' val' j hl' hloc hj hj' => (own_drop hl').1 (hI.owninj l _ E' ty.elem val' _ j (own_drop hl').2 hE hloc hl hj' hj)) r2 r3 r4 r5
                exact fin v' w' _ r1 ⟨_, this⟩
            · exact absurd h (by simp)
          · exact absurd h (by simp)
      · exact absurd h (by simp)
  · exact absurd h (by simp)
end
end Go.Ev
namespace Go.Ev
open Go.RowKit
section
variable {P : Program} {B : Nat} {g : G} {σ : St} {a : Act} {w : World} {o : Oper}

theorem goes_of {σ' : St} {d : Option Nat} (hd : o.dst = d) (h : OpRes P o a w fun v w' => ∃ g', Inv P B g' σ' (a.put d v) w' ∧ Fr B g σ w g' σ' w') : Goes P B g σ a w o σ' := by
  subst hd; exact h

theorem BoxOk.part {k base off n : Nat} {cs : List PV} (h : BoxOk g w k base cs) : BoxOk g w k (base + off) ((cs.drop off).take n) := by
  refine ⟨fun j y hy => ?_⟩
  rw [List.getElem?_take] at hy
  split at hy
  · rw [List.getElem?_drop] at hy
    have := h.cell (off + j) y hy
    rw [← Nat.add_assoc] at this
    obtain ⟨v, h1, h2, h3, h4⟩ := this
    exact ⟨v, h1, h2, h3, h4.at (by omega)⟩
  · exact absurd hy (by simp)

theorem callp_goes (hI : Inv P B g σ a w) {f : Operand} {args : Array Operand} {ats : Array TypeId} {os os' ob : List Obl} {σ' : St} (hop : o.op = .call ⟨.value f, args, ats⟩)
    (h : evCallp σ o.dst f args.toList os = some (σ', os', ob)) (ho : holdsAll P ob) : Goes P B g σ a w o σ' := by
  unfold evCallp at h
  split at h
  · rename_i fid p rest f0 cs0 as0 r cs' os1 hf hargs
    split at h
    · rename_i b off l hp hl
      split at h
      · rename_i cs xs hcs hxs
        cases hb : (Nat.ble (off + cs'.length) cs.length && !(has b σ.ro) && hdOk cs && hdOk cs') with
        | false => rw [hb] at h; exact absurd h (by simp)
        | true =>
          rw [hb] at h
          simp only [cond_true] at h
          simp only [Bool.and_eq_true, Bool.not_eq_true'] at hb
          have hle := Nat.le_of_ble_eq_true hb.1.1.1
          have hro : b ∉ σ.ro := fun hm => by rw [has_iff.2 hm] at hb; exact absurd hb.1.1.2 (by simp)
          obtain ⟨k, base, hk, hlt, hok, hhw, hB⟩ := hI.box b cs hcs
          obtain ⟨k', base', hk', hpv⟩ := opd_sound hI hp
          rw [hk] at hk'
          have := Option.some.inj hk'
          cases this
          have hrf : Rep g.hw w (a.eval f) (.fn fid []) := opd_sound hI hf
          have hfv : a.eval f = .func (.func fid) #[] #[] := by
            generalize a.eval f = v at *
            cases hrf with
            | fn _ vs _ hl _ => have := List.eq_nil_of_length_eq_zero hl; subst this; rfl
          obtain ⟨e1, e2⟩ := avs_of hI hl
          obtain ⟨n1, n2⟩ := handAll_get hxs
          have hargsR : ArgsRep g.hw w (rest.map a.eval) xs := by
            refine ⟨by simpa using e1.trans n1, fun j x y hx hy => ?_⟩
            have hj : j < l.length := by have := (List.getElem?_eq_some_iff.1 hy).1; omega
            obtain ⟨dd, h3, h4⟩ := n2 j l[j] y (List.getElem?_eq_getElem hj) hy
            have hd := h4 rfl
            subst hd
            have hr := e2 j x l[j] hx (List.getElem?_eq_getElem hj)
            generalize l[j] = av at *
            cases av with
            | p z => have := Option.some.inj h3; cases this; exact norm_rep hr
            | ptr b off =>
              unfold hand at h3
              split at h3
              · rename_i e; exact absurd e (by simp)
              · split at h3
                · rename_i cs0 _
                  cases hd : hdOk cs0 <;> rw [hd] at h3 <;> exact absurd h3 (by simp)
                · exact absurd h3 (by simp)
              · rename_i e; exact absurd e (by simp)
              · rename_i e; exact absurd e (by simp)
            | sl _ _ _ _ => exact absurd h3 (by simp [hand])
            | fnp f bs =>
              unfold hand at h3
              split at h3
              · rename_i e; exact absurd e (by simp)
              · rename_i e; exact absurd e (by simp)
              · split at h3 <;> exact absurd h3 (by simp)
              · rename_i e; exact absurd e (by simp)
          have key : ∀ σ2 : St, ∀ ob2, ob2 = [Obl.callp fid ((cs.drop off).take cs'.length) xs r cs'] → holdsAll P ob2 →
              (∀ v w' hw', Inv P B ⟨g.β, hw'⟩ (wrBox σ b off cs' cs []) a w' → Fr B g σ w ⟨g.β, hw'⟩ (wrBox σ b off cs' cs []) w' → Rep hw' w' v r → Inv P B ⟨g.β, hw'⟩ σ2 (a.put o.dst v) w' ∧ Fr B g σ w ⟨g.β, hw'⟩ σ2 w') → Goes P B g σ a w o σ2 := by
            intro σ2 ob2 hob ho2 hnext
            subst hob
            have hc : ConP P fid ((cs.drop off).take cs'.length) xs r cs' := ho2 (.callp _ _ _ _ _) (by simp)
            have hlen : ((cs.drop off).take cs'.length).length = cs'.length := by simp; omega
            refine callRes_op (hc g w k (base + off) (rest.map a.eval) hI.hwlt hI.glob.1 hargsR hlt hok.part (hhw hro) |>.mono fun v w' ⟨hw', q1, q2, q3, q4, q5, q6, q7, q8, q9, q10, q11, q12⟩ => ?_) (fun res hres => ?_)
            · have ht : Turned g w hw' w' k (base + off) cs'.length := ⟨q1, q2, q3, q4, q5, by rw [hlen] at q6; exact q6, q7, q8, q9⟩
              obtain ⟨h1, h2⟩ := wrBox_inv hI hcs hro hk hle ht q10 (.inl hb.1.2) (fun y hy b' hb' => by rw [hd_ref hb.2 hy] at hb'; exact absurd hb' (by simp)) (own' := []) (fun l E hl => by simp [lkL] at hl) (fun l l' E E' hl => by simp [lkL] at hl)
              obtain ⟨h3, h4⟩ := hnext v w' hw' h1 h2 q12
              exact ⟨_, h3, h4⟩
            · have e : args.map a.eval = (a.eval p :: rest.map a.eval).toArray := by apply Array.ext'; rw [Array.toList_map, hargs]; rfl
              unfold execOp
              rw [hop]
              simp only [resolve, Deferred.ofValue, hfv, pure_bind, invoke, e, hpv]
              rw [← hres]
              congr 2
              simp
          split at h
          · rename_i hd
            have := Option.some.inj h
            cases this
            exact key _ _ rfl ho (fun v w' hw' h1 h2 _ => ⟨by rw [hd]; exact h1, h2⟩)
          · rename_i d hd
            cases hb4 : Nat.blt d σ.n with
            | false => rw [hb4] at h; exact absurd h (by simp)
            | true =>
              rw [hb4] at h
              have := Option.some.inj h
              cases this
              refine key _ _ rfl ho (fun v w' hw' h1 h2 h3 => ⟨by rw [hd]; exact put_inv h1 (show d < σ.n from Nat.le_of_ble_eq_true hb4) h3, ?_⟩)
              exact ⟨h2.os, h2.tape, h2.output, h2.size, h2.n, h2.block, h2.cell, h2.frozen, h2.hw, h2.par, h2.ext⟩
      · exact absurd h (by simp)
    · exact absurd h (by simp)
  · exact absurd h (by simp)
end
end Go.Ev
namespace Go.Ev
open Go.RowKit
section
variable {P : Program} {B : Nat} {g : G} {σ : St} {a : Act} {w : World} {o : Oper}

theorem run_whole {T : TypeId} {ty ety : Ty} (hT : TyIs P T ty) (hk : ty.kd = 2) (hE : TyIs P ty.elem ety) (k off : Nat) (w : World) :
    (Instr.sliceAt T (.pointer (some ⟨k, off, none⟩)) none none none).run P w = .ok (.slice (some ⟨k, off, none⟩) ty.len ty.len) w := by
  obtain ⟨hk2, _⟩ := kd_under hT
  have hu := hk2 hk
  simp [Instr.sliceAt, run_underlying hu, Instr.sureAddr, Instr.sliceBounds, run_sizeOf hE, Addr.add]

theorem whole_rep_cap {hw : Nat → Nat} {w : World} {k base n s cap : Nat} {cs : List PV} (hl : cs.length = n * s) (hc : CellsAt hw w k base cs) (hd : hdOk cs = true) (hcap : n ≤ cap) (hh : base + n * s ≤ hw k) : Rep hw w (.slice (some ⟨k, base, none⟩) n cap) (.lst (chunk s n cs)) := by
  have e := chunk_len s n cs
  have hget : ∀ j, j < cs.length → ∃ v, w.cell? ⟨k, base + j, none⟩ = some v ∧ v.oneCell' = true ∧ ∀ y, cs[j]? = some y → Rep hw w v y := by
    intro j hj
    obtain ⟨v, h1, h2, h3⟩ := hc j cs[j] (List.getElem?_eq_getElem hj)
    refine ⟨v, h1, h2, fun y hy => ?_⟩
    rw [List.getElem?_eq_getElem hj] at hy
    have := Option.some.inj hy
    subst this
    exact h3 (hd_plain hd (List.getElem?_eq_getElem hj))
  have idx : ∀ i j, i < n → j < s → i * s + j < cs.length := fun i j hi hj => by have := seg_lt (off := 0) hi hj; omega
  have := Rep.lst (hw := hw) (w := w) (chunk s n cs) k base cap s (fun i j => (w.cell? ⟨k, base + (i * s + j), none⟩).getD undef) (by rw [e]; exact hcap) (fun i x hx => ?_) (fun i j hi hj => ?_) (fun i j x y hx hy => ?_) (fun i j hi hj => ?_) (by rw [e]; exact hh)
  · rw [e] at this; exact this
  · obtain ⟨hi, rfl⟩ := chunk_get s n cs i x hx
    have : (i + 1) * s ≤ n * s := Nat.mul_le_mul_right s hi
    rw [Nat.succ_mul] at this
    rw [List.length_take, List.length_drop]
    omega
  · rw [e] at hi
    obtain ⟨v, h1, _⟩ := hget _ (idx i j hi hj)
    rw [h1]; rfl
  · obtain ⟨hi, rfl⟩ := chunk_get s n cs i x hx
    rw [List.getElem?_take] at hy
    split at hy
    · rename_i hj
      rw [List.getElem?_drop] at hy
      obtain ⟨v, h1, _, h3⟩ := hget _ (idx i j hi hj)
      rw [h1]
      exact h3 y hy
    · exact absurd hy (by simp)
  · rw [e] at hi
    obtain ⟨v, h1, h2, _⟩ := hget _ (idx i j hi hj)
    rw [h1]; exact h2

theorem whole_rep {hw : Nat → Nat} {w : World} {k base n s : Nat} {cs : List PV} (hl : cs.length = n * s) (hc : CellsAt hw w k base cs) (hd : hdOk cs = true) (hh : base + n * s ≤ hw k) : Rep hw w (.slice (some ⟨k, base, none⟩) n n) (.lst (chunk s n cs)) := whole_rep_cap hl hc hd (Nat.le_refl _) hh

theorem freeze_goes {Γ : List (Nat × Ty)} (hΓ : TyOk P Γ) (hI : Inv P B g σ a w) {T : TypeId} {x : Operand} {d : Nat} (hop : o.op = .slice T x none none none) (hdst : o.dst = some d) (hd : d < σ.n) {σ' : St} (h : evFreeze Γ σ d T x = some σ') :
    Goes P B g σ a w o σ' := by
  unfold evFreeze at h
  split at h
  · rename_i b off ty hx hty
    cases hb : (Nat.beq ty.kd 2 && !(Nat.beq ty.len 0)) with
    | false => rw [hb] at h; exact absurd h (by simp)
    | true =>
      rw [hb] at h
      simp only [cond_true] at h
      simp only [Bool.and_eq_true, Bool.not_eq_true'] at hb
      have hkd := Nat.eq_of_beq_eq_true hb.1
      split at h
      · rename_i cs ety hcs hety
        cases hb2 : (Nat.ble (off + ty.len * ety.size) cs.length && hdOk ((cs.drop off).take (ty.len * ety.size))) with
        | false => rw [hb2] at h; exact absurd h (by simp)
        | true =>
          rw [hb2] at h
          have := Option.some.inj h
          subst this
          rw [Bool.and_eq_true] at hb2
          have hle := Nat.le_of_ble_eq_true hb2.1
          obtain ⟨k, base, hk, hpv⟩ := opd_sound hI hx
          obtain ⟨h1, h2⟩ := freeze_inv hI hcs hk
          obtain ⟨k', base', hk', hlt, hok, _⟩ := h1.box b cs hcs
          have hk2 : g.β b = some (k', base') := hk'
          rw [hk] at hk2
          have := Option.some.inj hk2
          cases this
          have hrep : Rep (fun j => if j = k then max (g.hw j) (base + cs.length) else g.hw j) w (.slice (some ⟨k, base + off, none⟩) ty.len ty.len) (.lst (chunk ety.size ty.len ((cs.drop off).take (ty.len * ety.size)))) := by
            refine whole_rep (by simp; omega) (hok.part.cells) hb2.2 ?_
            simp only [if_true]
            omega
          refine .inl ⟨_, w, ?_, _, by rw [hdst]; exact put_inv h1 (d := d) hd hrep, ⟨h2.os, h2.tape, h2.output, h2.size, h2.n, h2.block, h2.cell, h2.frozen, h2.hw, h2.par, h2.ext⟩⟩
          unfold execOp
          rw [hop]
          simp only [Option.map_none, hpv]
          exact run_val (run_whole (tyIs (hΓ T ty hty)) hkd (tyIs (hΓ _ _ hety)) k (base + off) w)
      · exact absurd h (by simp)
  · exact absurd h (by simp)

/-- A value said otherwise. -/
theorem goes_over {σ' : St} {d : Nat} {x r : PV} (h : Goes P B g σ a w o σ') (hx : lk d σ'.tmps = some (.p x)) (e : x = r) : Goes P B g σ a w o { σ' with tmps := (d, .p r) :: σ'.tmps } := by
  subst e
  exact h.mono fun v w' ⟨g', h1, h2⟩ => ⟨g', inv_over h1 hx, ⟨h2.os, h2.tape, h2.output, h2.size, h2.n, h2.block, h2.cell, h2.frozen, h2.hw, h2.par, h2.ext⟩⟩

theorem evRun_goes {Γ : List (Nat × Ty)} (hΓ : TyOk P Γ) (hI : Inv P B g σ a w) {os os' ob : List Obl} {σ' : St} (h : evRun Γ σ o os = some (σ', os', ob)) (ho : holdsAll P ob) : Goes P B g σ a w o σ' := by
  have quiet : ∀ {σ' : St} {os os' ob : List Obl}, (match evQuiet Γ σ o os with
    | some (r, os', ob) => match o.dst with
      | some d => some (addRes σ d r, os', ob)
      | none => bif isNone r.box then some (σ, os', ob) else none
    | none => none) = some (σ', os', ob) → holdsAll P ob → Goes P B g σ a w o σ' := by
    intro σ' os os' ob h ho
    split at h
    · rename_i r os1 ob1 h1
      split at h
      · rename_i d hd
        have := Option.some.inj h
        cases this
        exact quiet_goes hΓ hI h1 ho hd
      · rename_i hd
        cases hb : isNone r.box with
        | false => rw [hb] at h; exact absurd h (by simp)
        | true =>
          rw [hb] at h
          have := Option.some.inj h
          cases this
          have hbx : r.box = none := by
            cases hr : r.box with
            | none => rfl
            | some cs => rw [hr] at hb; exact absurd hb (by simp [isNone])
          refine goes_of hd ((quiet_sound hΓ hI h1 ho).1.mono fun v w' ⟨g', hp⟩ => ?_)
          obtain ⟨k1, k2⟩ := inv_qt hI hp.qt
          have := hp.noBox hbx
          obtain ⟨β', hw'⟩ := g'
          have this : β' = g.β := this
          subst this
          exact ⟨_, k1, k2⟩
    · exact absurd h (by simp)
  unfold evRun at h
  simp only at h
  split at h
  · rename_i T p x hop
    split at h
    · rename_i σ2 hd hs
      have := Option.some.inj h
      cases this
      exact store_goes hΓ hI hop hd hs
    · exact absurd h (by simp)
  · rename_i args ats hop
    split at h
    · rename_i x y t t' d hargs hats hdst
      cases hb : Nat.blt d σ.n with
      | false => rw [hb] at h; exact absurd h (by simp)
      | true =>
        rw [hb] at h
        simp only [cond_true] at h
        have hd : d < σ.n := Nat.le_of_ble_eq_true hb
        split at h
        · rename_i σ2 os1 ob1 h1
          split at h
          · rename_i d' a' r os2
            cases hb2 : Nat.beq d d' with
            | false =>
              rw [hb2] at h
              have := Option.some.inj h
              cases this
              exact append_goes hΓ hI hop hargs hats hdst hd h1 ho
            | true =>
              rw [hb2] at h
              simp only [cond_true] at h
              split at h
              · rename_i x' hx'
                have := Option.some.inj h
                cases this
                exact goes_over (append_goes hΓ hI hop hargs hats hdst hd h1 (holdsAll_left ho)) hx' (holdsAll_right ho (.re d x' r) (by simp))
              · exact absurd h (by simp)
          · have := Option.some.inj h
            cases this
            exact append_goes hΓ hI hop hargs hats hdst hd h1 ho
        · exact absurd h (by simp)
    · exact absurd h (by simp)
  · rename_i T x hop
    split at h
    · rename_i d hdst
      cases hb : Nat.blt d σ.n with
      | false => rw [hb] at h; exact absurd h (by simp)
      | true =>
        rw [hb] at h
        simp only [cond_true] at h
        have hd : d < σ.n := Nat.le_of_ble_eq_true hb
        split at h
        · rename_i σ2 h1
          split at h
          · rename_i d' a' r os2
            cases hb2 : Nat.beq d d' with
            | false =>
              rw [hb2] at h
              have := Option.some.inj h
              cases this
              exact freeze_goes hΓ hI hop hdst hd h1
            | true =>
              rw [hb2] at h
              simp only [cond_true] at h
              split at h
              · rename_i x' hx'
                have := Option.some.inj h
                cases this
                exact goes_over (freeze_goes hΓ hI hop hdst hd h1) hx' (ho (.re d x' r) (by simp))
              · exact absurd h (by simp)
          · have := Option.some.inj h
            cases this
            exact freeze_goes hΓ hI hop hdst hd h1
        · exact absurd h (by simp)
    · exact absurd h (by simp)
  · rename_i f args ats hop
    split at h
    · exact callp_goes hI hop h ho
    · exact quiet h ho
  · exact quiet h ho
end
end Go.Ev
namespace Go.Ev
open Go.RowKit

/-- A frame of which less is known. -/
structure Sub (τ ρ : St) : Prop where
  n : τ.n = ρ.n
  tmps : ∀ t v, lk t τ.tmps = some v → lk t ρ.tmps = some v
  boxes : ∀ b cs, lk b τ.boxes = some cs → lk b ρ.boxes = some cs
  ro : ∀ b, b ∈ ρ.ro → b ∈ τ.ro
  ptr : ∀ t b off, lk t τ.tmps = some (.ptr b off) → ∃ cs, lk b τ.boxes = some cs
  fnp : ∀ t f bs, lk t τ.tmps = some (.fnp f bs) → ∀ b ∈ bs, ∃ cs, lk b τ.boxes = some cs
  own : ∀ l E, lkL l τ.own = some E → lkL l ρ.own = some E
  ownb : ∀ b c E, lkL (.b b c) τ.own = some E → ∃ cs, lk b τ.boxes = some cs
  al : ∀ t l, (t, l) ∈ τ.al → (t, l) ∈ ρ.al
  alb : ∀ t b c, (t, .b b c) ∈ τ.al → ∃ cs, lk b τ.boxes = some cs
  sl : ∀ t b off n s, lk t τ.tmps = some (.sl b off n s) → ∃ cs, lk b τ.boxes = some cs
  ref : ∀ b cs, lk b τ.boxes = some cs → ∀ y ∈ cs, ∀ b', refP y = some b' → ∃ cs', lk b' τ.boxes = some cs'

/-- The slots and places that a frame no longer speaks of. -/
def dropT (σ : St) (d : Nat) : St :=
  { σ with tmps := σ.tmps.filter fun (t, _) => !(Nat.beq t d),
           own := σ.own.filter fun (l, _) => !(l.eq (.t d)),
           al := σ.al.filter fun (t, l) => !(Nat.beq t d) && !(l.eq (.t d)) }

/-- Behind an operation that its guard keeps out. -/
def skipT (σ : St) (d : Nat) : St := bif Nat.blt d σ.n then put σ d (.p (.tup [])) else dropT σ d

def evGuard (σ : St) (ops : List Oper) (o : Oper) : Option Bool :=
  match o.guard with
  | none => some true
  | some (j, want) => match ops[j]? with
    | some oj => match oj.dst with
      | some d => match lk d σ.tmps with
        | some (.p (.v (.bool b))) => some (b == want)
        | some (.p (.tup _)) => some false
        | _ => none
      | none => none
    | none => none

def evOps (Γ : List (Nat × Ty)) (ops : List Oper) : List Oper → St → List Obl → Option (St × List Obl × List Obl)
  | [], σ, os => some (σ, os, [])
  | o :: r, σ, os => match evGuard σ ops o with
    | some true => match evRun Γ σ o os with
      | some (σ1, os1, ob1) => match evOps Γ ops r σ1 os1 with
        | some (σ2, os2, ob2) => some (σ2, os2, ob1 ++ ob2)
        | none => none
      | none => none
    | some false => match o.dst with
      | some d => evOps Γ ops r (dropT σ d) os
      | none => evOps Γ ops r σ os
    | none => none

section
variable {P : Program} {B : Nat} {g : G} {σ τ ρ : St} {a : Act} {w : World} {o : Oper}

theorem inv_weak (hI : Inv P B g ρ a w) (h : Sub τ ρ) : Inv P B g τ a w := by
  refine ⟨hI.size.trans h.n.symm, hI.defers, fun t v ht => ?_, h.ptr, h.fnp, fun b cs hb => ?_, fun b b' cs cs' k base base' hb hb' => hI.inj b b' cs cs' k base base' (h.boxes b cs hb) (h.boxes b' cs' hb'), hI.hwlt, hI.base, hI.glob, fun l E hl => ?_, fun l E hl => ?_,
    fun l l' E E' val val' k hl hl' => hI.owninj l l' E E' val val' k (h.own l E hl) (h.own l' E' hl'), fun t l hm => hI.al t l (h.al t l hm), h.alb, h.sl, h.ref⟩
  · obtain ⟨h1, h2⟩ := hI.tmp t v (h.tmps t v ht)
    exact ⟨by rw [h.n]; exact h1, h2⟩
  · obtain ⟨k, base, h1, h2, h3, h4, h5⟩ := hI.box b cs (h.boxes b cs hb)
    exact ⟨k, base, h1, h2, h3, fun hr => h4 (fun hm => hr (h.ro b hm)), fun hn => h5 (by rw [← h.n]; exact hn)⟩
  · obtain ⟨val, h1, h2, h3⟩ := hI.own l E (h.own l E hl)
    exact ⟨val, h1, h2, fun k hk b cs base hb => h3 k hk b cs base (h.boxes b cs hb)⟩
  · have := hI.ownt l E (h.own l E hl)
    cases l with
    | t t => rw [h.n]; exact this
    | b b c => exact h.ownb b c E hl

theorem fr_weakR {g' : G} {w' : World} (h : Fr B g σ w g' ρ w') (hs : Sub τ ρ) : Fr B g σ w g' τ w' :=
  ⟨h.os, h.tape, h.output, h.size, hs.n.trans h.n, h.block, h.cell, h.frozen, h.hw, fun b cs hn hb => h.par b cs hn (hs.boxes b cs hb), h.ext⟩

theorem fr_weakL {g' : G} {w' : World} {σ' : St} (h : Fr B g τ w g' σ' w') (hs : Sub τ ρ) : Fr B g ρ w g' σ' w' := by
  have l1 : ∀ k, LentB g τ k → LentB g ρ k := fun k ⟨b, cs, base, h1, h2, h3⟩ => ⟨b, cs, base, by rw [← hs.n]; exact h1, hs.boxes b cs h2, h3⟩
  have l2 : ∀ k off, Lent g τ k off → Lent g ρ k off := fun k off ⟨b, cs, base, h1, h2, h3⟩ => ⟨b, cs, base, by rw [← hs.n]; exact h1, hs.boxes b cs h2, h3⟩
  exact ⟨h.os, h.tape, h.output, h.size, h.n.trans hs.n, fun k hk hn => h.block k hk (fun hl => hn (l1 k hl)), fun k off hk hn => h.cell k off hk (fun hl => hn (l2 k off hl)), h.frozen, fun k hk hn => h.hw k hk (fun hl => hn (l1 k hl)),
    fun b cs hn hb => by obtain ⟨cs0, h1, h2, h3⟩ := h.par b cs (by rw [hs.n]; exact hn) hb; exact ⟨cs0, hs.boxes b cs0 h1, h2, h3⟩, h.ext⟩

theorem beq_ne {x y : Nat} (h : x ≠ y) : Nat.beq x y = false := by
  cases hh : Nat.beq x y with
  | true => exact absurd (Nat.eq_of_beq_eq_true hh) h
  | false => rfl

theorem lk_filter {α : Type} (p : Nat → Bool) (l : List (Nat × α)) (k : Nat) : lk k (l.filter fun (x, _) => p x) = if p k = true then lk k l else none := by
  induction l with
  | nil => simp [lk]
  | cons hd tl ih =>
    obtain ⟨k', x⟩ := hd
    by_cases hp : p k' = true
    · rw [List.filter_cons_of_pos (by simpa using hp), lk_cons, lk_cons, ih]
      by_cases hk : k = k'
      · subst hk; simp [hp]
      · simp [hk]
    · rw [List.filter_cons_of_neg (by simpa using hp), ih, lk_cons]
      by_cases hk : k = k'
      · subst hk; simp [hp]
      · simp [hk]

theorem sub_dropT (hI : Inv P B g σ a w) (d : Nat) : Sub (dropT σ d) σ := by
  have ht : ∀ t v, lk t (dropT σ d).tmps = some v → lk t σ.tmps = some v := by
    intro t v h
    rw [show (dropT σ d).tmps = σ.tmps.filter fun (t, _) => !(Nat.beq t d) from rfl, lk_filter (fun t => !(Nat.beq t d))] at h
    split at h
    · exact h
    · exact absurd h (by simp)
  have ho : ∀ l E, lkL l (dropT σ d).own = some E → lkL l σ.own = some E := by
    intro l E h
    rw [show (dropT σ d).own = σ.own.filter fun (l, _) => !(l.eq (.t d)) from rfl, lkL_filter (fun l => !(l.eq (.t d)))] at h
    split at h
    · exact h
    · exact absurd h (by simp)
  have ha : ∀ t l, (t, l) ∈ (dropT σ d).al → (t, l) ∈ σ.al := fun t l h => (List.mem_filter.1 h).1
  exact ⟨rfl, ht, fun _ _ h => h, fun _ h => h, fun t b off h => hI.ptr t b off (ht _ _ h), fun t f bs h => hI.fnp t f bs (ht _ _ h), ho, fun b c E h => hI.ownt (.b b c) E (ho _ _ h), ha, fun t b c h => hI.alt t b c (ha _ _ h), fun t b off n s h => hI.sl t b off n s (ht _ _ h), hI.ref⟩

/-- A slot of which nothing is known may hold anything. -/
theorem inv_put_any (hI : Inv P B g σ a w) {d : Nat} (ht : lk d σ.tmps = none) (ho : lkL (.t d) σ.own = none) (ha : ∀ t l, (t, l) ∈ σ.al → t ≠ d ∧ l ≠ .t d) (v : Value) : Inv P B g σ (a.put (some d) v) w := by
  have get : ∀ t, t ≠ d → (a.put (some d) v).tmps.getD t undef = a.tmps.getD t undef := by
    intro t hne
    simp [Act.put, Array.getD_eq_getD_getElem?, Ne.symm hne]
  have loc : ∀ l val, l ≠ .t d → (LocIs g (a.put (some d) v) w l val ↔ LocIs g a w l val) := by
    intro l val hl
    cases l with
    | t t =>
      have hne : t ≠ d := fun e => hl (by rw [e])
      show (a.put (some d) v).tmps.getD t undef = val ↔ a.tmps.getD t undef = val
      rw [get t hne]
    | b b c => exact Iff.rfl
  have hol : ∀ l E, lkL l σ.own = some E → l ≠ .t d := fun l E h e => by rw [e, ho] at h; exact absurd h (by simp)
  refine ⟨?_, hI.defers, fun t x hx => ?_, hI.ptr, hI.fnp, hI.box, hI.inj, hI.hwlt, hI.base, hI.glob, fun l E hl => ?_, hI.ownt, fun l l' E E' val val' k hl hl' h1 h2 => ?_, fun t l hm => ?_, hI.alt, hI.sl, hI.ref⟩
  · simp [Act.put]; exact hI.size
  · have hne : t ≠ d := fun e => by rw [e, ht] at hx; exact absurd hx (by simp)
    rw [get t hne]
    exact hI.tmp t x hx
  · obtain ⟨val, h1, h2⟩ := hI.own l E hl
    exact ⟨val, (loc l val (hol l E hl)).2 h1, h2⟩
  · exact hI.owninj l l' E E' val val' k hl hl' ((loc l val (hol l E hl)).1 h1) ((loc l' val' (hol l' E' hl')).1 h2)
  · obtain ⟨h1, h2⟩ := ha t l hm
    rw [get t h1]
    exact (loc l _ h2).2 (hI.al t l hm)

theorem inv_skip (hI : Inv P B g σ a w) (d : Nat) (v : Value) : Inv P B g (dropT σ d) (a.put (some d) v) w := by
  refine inv_put_any (inv_weak hI (sub_dropT hI d)) ?_ ?_ (fun t l hm => ?_) v
  · rw [show (dropT σ d).tmps = σ.tmps.filter fun (t, _) => !(Nat.beq t d) from rfl, lk_filter (fun t => !(Nat.beq t d))]
    simp
  · rw [show (dropT σ d).own = σ.own.filter fun (l, _) => !(l.eq (.t d)) from rfl, lkL_filter (fun l => !(l.eq (.t d)))]
    simp [Loc.eq_iff.2]
  · have := (List.mem_filter.1 hm).2
    simp only [Bool.and_eq_true, Bool.not_eq_true'] at this
    refine ⟨fun e => ?_, fun e => ?_⟩
    · subst e; simp at this
    · rw [e, Loc.eq_iff.2 rfl] at this; exact absurd this.2 (by simp)

theorem guard_sound (hI : Inv P B g σ a w) {ops : Array Oper} {b : Bool} (h : evGuard σ ops.toList o = some b) : Region.wanted o (yielded ops a.tmps) = b := by
  unfold evGuard at h
  unfold Region.wanted
  split at h
  · rename_i hg
    rw [hg]
    exact Option.some.inj h
  · rename_i j want hg
    rw [hg]
    simp only
    split at h
    · rename_i oj hj
      split at h
      · rename_i d hd
        split at h
        · rename_i c hc
          have := Option.some.inj h
          subst this
          obtain ⟨h1, h2⟩ := hI.tmp d _ hc
          have hv : a.tmps.getD d undef = .bool c := rep_v h2
          have hlt : d < a.tmps.size := by rw [hI.size]; exact h1
          have hs : a.tmps[d]? = some (.bool c) := by
            rw [Array.getD_eq_getD_getElem?, Array.getElem?_eq_getElem hlt] at hv
            rw [Array.getElem?_eq_getElem hlt]
            exact congrArg some hv
          have : yielded ops a.tmps j = some c := by
            unfold yielded
            rw [← Array.getElem?_toList, hj]
            simp [hd, hs]
          rw [this]
          cases c <;> cases want <;> rfl
        · rename_i vs hc
          have := Option.some.inj h
          subst this
          obtain ⟨h1, h2⟩ := hI.tmp d _ hc
          have hlt : d < a.tmps.size := by rw [hI.size]; exact h1
          have h2 : Rep g.hw w (a.tmps.getD d undef) (.tup vs) := h2
          have hs : a.tmps[d]? = some (a.tmps.getD d undef) := by
            rw [Array.getD_eq_getD_getElem?, Array.getElem?_eq_getElem hlt]
            rfl
          have : yielded ops a.tmps j = none := by
            unfold yielded
            rw [← Array.getElem?_toList, hj]
            generalize a.tmps.getD d undef = u at *
            cases h2
            simp [hd, hs]
          rw [this]
          cases want <;> rfl
        · exact absurd h (by simp)
      · exact absurd h (by simp)
    · exact absurd h (by simp)

/-- What a walk comes to. -/
def Post (P : Program) (B : Nat) (g : G) (σ : St) (w : World) (σ' : St) (a' : Act) (w' : World) : Prop := ∃ g', Inv P B g' σ' a' w' ∧ Fr B g σ w g' σ' w'

theorem Post.trans {B : Nat} {g g1 : G} {σ σ1 σ2 : St} {w w1 w2 : World} {a2 : Act} (h1 : Fr B g σ w g1 σ1 w1) (h2 : Post P B g1 σ1 w1 σ2 a2 w2) : Post P B g σ w σ2 a2 w2 := by
  obtain ⟨g2, h3, h4⟩ := h2
  exact ⟨g2, h3, h1.trans h4⟩

theorem inv_skipT (hI : Inv P B g σ a w) (d : Nat) : Inv P B g (skipT σ d) (a.put (some d) undef) w := by
  unfold skipT
  cases hb : Nat.blt d σ.n with
  | true => exact put_inv hI (Nat.le_of_ble_eq_true hb) (.tup [] [] rfl fun j x y hx => by simp at hx)
  | false => exact inv_skip hI d undef
theorem fr_skipT (d : Nat) : Fr B g σ w g (skipT σ d) w := by
  unfold skipT
  cases Nat.blt d σ.n <;> exact ⟨rfl, rfl, rfl, Nat.le_refl _, rfl, fun _ _ _ => rfl, fun _ _ _ _ => rfl, fun _ _ _ => rfl, fun _ _ _ => rfl, fun _ cs' _ h => ⟨cs', h, rfl, rfl⟩, Ext.refl _ _⟩
theorem fr_dropT (d : Nat) : Fr B g σ w g (dropT σ d) w := ⟨rfl, rfl, rfl, Nat.le_refl _, rfl, fun _ _ _ => rfl, fun _ _ _ _ => rfl, fun _ _ _ => rfl, fun _ _ _ => rfl, fun _ cs' _ h => ⟨cs', h, rfl, rfl⟩, Ext.refl _ _⟩

theorem evOps_sound {Γ : List (Nat × Ty)} (hΓ : TyOk P Γ) {ops : Array Oper} {Q : Exit → Act → World → Prop} : ∀ {l : List Oper} {σ σ' : St} {os os' ob : List Obl} {g : G} {a : Act} {w : World}, Inv P B g σ a w → evOps Γ ops.toList l σ os = some (σ', os', ob) → holdsAll P ob →
    (∀ a' w', Post P B g σ w σ' a' w' → Q .normal a' w') → wpList P ops Q l a w
  | [], σ, σ', os, os', ob, g, a, w, hI, h, ho, hQ => by
    have := Option.some.inj h
    cases this
    exact hQ a w ⟨g, hI, Fr.refl⟩
  | o :: r, σ, σ', os, os', ob, g, a, w, hI, h, ho, hQ => by
    unfold evOps at h
    split at h
    · rename_i hg
      split at h
      · rename_i σ1 os1 ob1 h1
        split at h
        · rename_i σ2 os2 ob2 h2
          have := Option.some.inj h
          cases this
          refine wpList_step fun K hK => ?_
          rw [guard_sound hI hg, if_pos rfl]
          exact (evRun_goes hΓ hI h1 (holdsAll_left ho)).wp fun v w1 ⟨g1, i1, f1⟩ => hK _ _ (evOps_sound hΓ i1 h2 (holdsAll_right ho) fun a' w' hp => hQ a' w' (hp.trans f1))
        · exact absurd h (by simp)
      · exact absurd h (by simp)
    · rename_i hg
      refine wpList_step fun K hK => ?_
      rw [guard_sound hI hg, if_neg (by simp)]
      split at h
      · rename_i d hd
        rw [hd]
        exact hK _ _ (evOps_sound hΓ (inv_skip hI d undef) h ho fun a' w' hp => hQ a' w' (hp.trans (fr_dropT d)))
      · rename_i hd
        rw [hd]
        exact hK _ _ (evOps_sound hΓ hI h ho hQ)
    · exact absurd h (by simp)
end
end Go.Ev
namespace Go.Ev
open Go.RowKit

def leP (x y : PV) : Prop := x = y ∨ (x = .lst [] ∧ y = .nil)
def leA (x y : AV) : Prop := x = y ∨ (x = .p (.lst []) ∧ y = .p .nil)
def leCells : List PV → List PV → Prop
  | [], [] => True
  | x :: r, y :: s => leP x y ∧ leCells r s
  | _, _ => False

def leT (σ : St) : List (Nat × AV) → Option Prop
  | [] => some True
  | (t, x) :: r => match lk t σ.tmps, leT σ r with
    | some y, some p => some (leA x y ∧ p)
    | _, _ => none
def leB (σ : St) : List (Nat × List PV) → Option Prop
  | [] => some True
  | (b, cs) :: r => match lk b σ.boxes, leB σ r with
    | some cs', some p => some (leCells cs cs' ∧ p)
    | _, _ => none

def isSome' {α : Type} : Option α → Bool
  | some _ => true
  | none => false
def avIn (bx : List (Nat × List PV)) : AV → Bool
  | .p _ => true
  | .ptr b _ => isSome' (lk b bx)
  | .fnp _ bs => bs.all fun b => isSome' (lk b bx)
  | .sl b _ _ _ => isSome' (lk b bx)
def allIn (bx : List (Nat × List PV)) : List (Nat × AV) → Bool
  | [] => true
  | (_, x) :: r => avIn bx x && allIn bx r

/-- Where a claim comes from: a place of the frame; none: the list is nil. -/
inductive Src where
  | at (l : Loc)
  | nil

def srcOf (Γ : List (Nat × Ty)) (σ : St) (l : Loc) (E : Nat) : Option Src :=
  match lkL l σ.own with
  | some E' => bif Nat.beq E E' then some (.at l) else none
  | none => match l with
    | .t x => match lk x σ.al with
      | some l' => match lkL l' σ.own with
        | some E' => bif Nat.beq E E' then some (.at l') else none
        | none => none
      | none => match lk x σ.tmps, lk E Γ with
        | some (.p .nil), some _ => some .nil
        | _, _ => none
    | .b b c => match lk b σ.boxes, lk E Γ with
      | some cs, some _ => match cs[c]? with
        | some .nil => some .nil
        | _ => none
      | _, _ => none

def hasL (l : Loc) : List Loc → Bool
  | [] => false
  | x :: r => l.eq x || hasL l r

def leO (Γ : List (Nat × Ty)) (σ : St) (bx : List (Nat × List PV)) : List (Loc × Nat) → List Loc → Bool
  | [], _ => true
  | (l, E) :: r, seen => (match l with | .t t => Nat.blt t σ.n | .b b _ => isSome' (lk b bx)) && match srcOf Γ σ l E with
    | some (.at l') => !(hasL l' seen) && leO Γ σ bx r (l' :: seen)
    | some .nil => leO Γ σ bx r seen
    | none => false

def noRefs : List (Nat × List PV) → Bool
  | [] => true
  | (_, cs) :: r => match refsOf cs with
    | [] => noRefs r
    | _ => false
def isNilL {α : Type} : List α → Bool
  | [] => true
  | _ => false

/-- Less is known: as an obligation. -/
def leS (Γ : List (Nat × Ty)) (τ σ : St) : Option Prop :=
  bif Nat.beq τ.n σ.n && isNilL τ.al && allIn τ.boxes τ.tmps && leO Γ σ τ.boxes τ.own [] && σ.ro.all (fun b => has b τ.ro) && noRefs τ.boxes then
    match leT σ τ.tmps, leB σ τ.boxes with
    | some p, some q => some (p ∧ q)
    | _, _ => none
  else none

def ev (Γ : List (Nat × Ty)) : Code → St → List Obl → Option (Ex × St × List Obl × List Obl)
  | .skip, σ, os => some (.normal, σ, os, [])
  | .label _, σ, os => some (.normal, σ, os, [])
  | .exit i, σ, os => some (.exit i, σ, os, [])
  | .goto i, σ, os => some (.goto i, σ, os, [])
  | .ret, σ, os => some (.ret, σ, os, [])
  | .region id ops d, σ, os => match d, os with
    | true, .tri _ _ σ0 e σ1 :: os' => match leS Γ σ0 σ with
      | some p => some (e, σ1, os', [.tri 0 (.region id ops true) σ0 e σ1, .pr p])
      | none => none
    | false, os => match evOps Γ ops.toList ops.toList σ os with
      | some (σ', os', ob) => some (.normal, σ', os', ob)
      | none => none
    | _, _ => none
  | .seq x y, σ, os => match ev Γ x σ os with
    | some (.normal, σ1, os1, ob1) => match ev Γ y σ1 os1 with
      | some (e, σ2, os2, ob2) => some (e, σ2, os2, ob1 ++ ob2)
      | none => none
    | r => r
  | .cond c x y, σ, os => match pvOf σ c with
    | some (.v (.bool true)) => ev Γ x σ os
    | some (.v (.bool false)) => ev Γ y σ os
    | _ => match os with
      | .tri _ _ σ0 e σ1 :: os' => match leS Γ σ0 σ with
        | some p => some (e, σ1, os', [.tri 0 (.cond c x y) σ0 e σ1, .pr p])
        | none => none
      | _ => none
  | .block id c, σ, os => match ev Γ c σ os with
    | some (.exit i, σ1, os1, ob1) => some (bif Nat.beq i id then .normal else .exit i, σ1, os1, ob1)
    | r => r
  | .loop c, σ, os => match os with
    | .tri _ _ σ0 e σ1 :: os' => match leS Γ σ0 σ with
      | some p => some (e, σ1, os', [.tri 0 (.loop c) σ0 e σ1, .pr p])
      | none => none
    | _ => none
  | .scope c, σ, os => match os with
    | .tri _ _ σ0 e σ1 :: os' => match leS Γ σ0 σ with
      | some p => some (e, σ1, os', [.tri 0 (.scope c) σ0 e σ1, .pr p])
      | none => none
    | _ => none
  | .rangeFunc f ps as c, σ, os => match os with
    | .tri _ _ σ0 e σ1 :: os' => match leS Γ σ0 σ with
      | some p => some (e, σ1, os', [.tri 0 (.rangeFunc f ps as c) σ0 e σ1, .pr p])
      | none => none
    | _ => none
  | _, _, _ => none

section
variable {P : Program} {B : Nat} {g : G} {σ τ : St} {a : Act} {w : World}

theorem leP_rep {hw : Nat → Nat} {v : Value} {x y : PV} (h : leP x y) (hr : Rep hw w v y) : Rep hw w v x := by
  rcases h with rfl | ⟨rfl, rfl⟩
  · exact hr
  · cases hr; exact .lnil
theorem leA_rep {v : Value} {x y : AV} (h : leA x y) (hr : RepA g w v y) : RepA g w v x := by
  rcases h with rfl | ⟨rfl, rfl⟩
  · exact hr
  · exact leP_rep (.inr ⟨rfl, rfl⟩) hr
theorem leCells_get : ∀ {x y : List PV}, leCells x y → x.length = y.length ∧ ∀ (j : Nat) (p : PV), x[j]? = some p → ∃ q, y[j]? = some q ∧ leP p q
  | [], [], _ => ⟨rfl, fun j p h => by simp at h⟩
  | x :: r, y :: s, h => by
    obtain ⟨h1, h2⟩ := h
    obtain ⟨e1, e2⟩ := leCells_get h2
    refine ⟨by simp [e1], fun j p hj => ?_⟩
    cases j with
    | zero => simp at hj; subst hj; exact ⟨y, rfl, h1⟩
    | succ j => exact e2 j p (by simpa using hj)
  | [], _ :: _, h => h.elim
  | _ :: _, [], h => h.elim

theorem leT_get : ∀ {l : List (Nat × AV)} {p : Prop}, leT σ l = some p → p → ∀ t x, lk t l = some x → ∃ y, lk t σ.tmps = some y ∧ leA x y
  | [], p, _, _, t, x, h => by simp [lk] at h
  | (t', x') :: r, p, h, hp, t, x, hx => by
    unfold leT at h
    split at h
    · rename_i y q h1 h2
      have := Option.some.inj h
      subst this
      rw [lk_cons] at hx
      split at hx
      · rename_i e
        have := Option.some.inj hx
        subst this; subst e
        exact ⟨y, h1, hp.1⟩
      · exact leT_get h2 hp.2 t x hx
    · exact absurd h (by simp)
theorem leB_get : ∀ {l : List (Nat × List PV)} {p : Prop}, leB σ l = some p → p → ∀ t x, lk t l = some x → ∃ y, lk t σ.boxes = some y ∧ leCells x y
  | [], p, _, _, t, x, h => by simp [lk] at h
  | (t', x') :: r, p, h, hp, t, x, hx => by
    unfold leB at h
    split at h
    · rename_i y q h1 h2
      have := Option.some.inj h
      subst this
      rw [lk_cons] at hx
      split at hx
      · rename_i e
        have := Option.some.inj hx
        subst this; subst e
        exact ⟨y, h1, hp.1⟩
      · exact leB_get h2 hp.2 t x hx
    · exact absurd h (by simp)

theorem isSome'_iff {α : Type} {x : Option α} : isSome' x = true ↔ ∃ y, x = some y := by cases x <;> simp [isSome']

theorem allIn_get {bx : List (Nat × List PV)} : ∀ {l : List (Nat × AV)}, allIn bx l = true → ∀ t x, lk t l = some x → avIn bx x = true
  | [], _, t, x, h => by simp [lk] at h
  | (t', x') :: r, h, t, x, hx => by
    unfold allIn at h
    rw [Bool.and_eq_true] at h
    rw [lk_cons] at hx
    split at hx
    · have := Option.some.inj hx; subst this; exact h.1
    · exact allIn_get h.2 t x hx

theorem hasL_iff {l : Loc} : ∀ {s : List Loc}, hasL l s = true ↔ l ∈ s
  | [] => by simp [hasL]
  | x :: r => by unfold hasL; rw [Bool.or_eq_true, hasL_iff, List.mem_cons, Loc.eq_iff]

def LocOk (σ : St) (bx : List (Nat × List PV)) : Loc → Prop
  | .t t => t < σ.n
  | .b b _ => ∃ cs, lk b bx = some cs

/-- What of claims was looked at. -/
theorem leO_get {Γ : List (Nat × Ty)} {bx : List (Nat × List PV)} : ∀ {l : List (Loc × Nat)} {seen : List Loc}, leO Γ σ bx l seen = true → ∀ k E, lkL k l = some E →
    LocOk σ bx k ∧ ∃ s, srcOf Γ σ k E = some s ∧ (∀ k', s = .at k' → k' ∉ seen ∧ ∀ j E', lkL j l = some E' → srcOf Γ σ j E' = some (.at k') → j = k)
  | [], seen, _, k, E, hk => by simp [lkL] at hk
  | (l0, E0) :: r, seen, h, k, E, hk => by
    unfold leO at h
    rw [Bool.and_eq_true] at h
    obtain ⟨h0, h⟩ := h
    have p0 : LocOk σ bx l0 := by
      clear h
      cases l0 with
      | t t => exact Nat.le_of_ble_eq_true h0
      | b b c => exact isSome'_iff.1 h0
    clear h0
    split at h
    · rename_i l' hs
      rw [Bool.and_eq_true] at h
      have hns : l' ∉ seen := fun hm => by rw [hasL_iff.2 hm] at h; exact absurd h.1 (by simp)
      have ih := fun k E hk => leO_get h.2 k E hk
      rw [lkL_cons] at hk
      split at hk
      · rename_i e
        have := Option.some.inj hk
        subst this; subst e
        refine ⟨p0, _, hs, fun k' e => ?_⟩
        cases e
        refine ⟨hns, fun j E' hj hj' => ?_⟩
        rw [lkL_cons] at hj
        split at hj
        · assumption
        · obtain ⟨_, s, hs', hd⟩ := ih j E' hj
          rw [hj'] at hs'
          have := Option.some.inj hs'
          exact absurd List.mem_cons_self (hd _ this.symm).1
      · rename_i hne
        obtain ⟨p1, s, hs', hd⟩ := ih k E hk
        refine ⟨p1, s, hs', fun k' e => ⟨fun hm => (hd k' e).1 (List.mem_cons_of_mem _ hm), fun j E' hj hj' => ?_⟩⟩
        rw [lkL_cons] at hj
        split at hj
        · rename_i e2
          have := Option.some.inj hj
          subst this; subst e2
          rw [hs] at hj'
          have e3 := Option.some.inj hj'
          injection e3 with e3
          subst e3
          exact absurd List.mem_cons_self (hd _ e).1
        · exact (hd k' e).2 j E' hj hj'
    · rename_i hs
      have ih := fun k E hk => leO_get h k E hk
      rw [lkL_cons] at hk
      split at hk
      · rename_i e
        have := Option.some.inj hk
        subst this; subst e
        exact ⟨p0, _, hs, fun k' e => absurd e (by simp)⟩
      · rename_i hne
        obtain ⟨p1, s, hs', hd⟩ := ih k E hk
        refine ⟨p1, s, hs', fun k' e => ⟨(hd k' e).1, fun j E' hj hj' => ?_⟩⟩
        rw [lkL_cons] at hj
        split at hj
        · rename_i e2
          have := Option.some.inj hj
          subst this; subst e2
          rw [hs] at hj'
          exact absurd hj' (by simp)
        · exact (hd k' e).2 j E' hj hj'
    · exact absurd h (by simp)

theorem srcOf_val {Γ : List (Nat × Ty)} (hΓ : TyOk P Γ) (hI : Inv P B g σ a w) {l : Loc} {E : Nat} {s : Src} (h : srcOf Γ σ l E = some s) :
    ∃ val, LocIs g a w l val ∧ OwnV P B g.hw w E val ∧ (∀ k, val.ownBlock = some k → ∀ b cs base, lk b σ.boxes = some cs → g.β b ≠ some (k, base)) ∧
      ∀ k, val.ownBlock = some k → ∃ l', s = .at l' ∧ (∃ E', lkL l' σ.own = some E') ∧ LocIs g a w l' val := by
  have nil : ∀ {E : Nat} {ty : Ty}, lk E Γ = some ty → OwnV P B g.hw w E (.slice none 0 0) := fun hE => by
    obtain ⟨i, z, hi, _⟩ := (tyIs (hΓ _ _ hE)).info
    exact ⟨i, 0, [], hi, World.ownsRow_nil _ _ _ _, fun k hk => absurd hk (by simp [Value.ownBlock])⟩
  have nob : ∀ k, (Value.slice none 0 0).ownBlock ≠ some k := fun k => by simp [Value.ownBlock]
  unfold srcOf at h
  split at h
  · rename_i E' hE'
    cases hb : Nat.beq E E' with
    | false => rw [hb] at h; exact absurd h (by simp)
    | true =>
      rw [hb] at h
      have e := Nat.eq_of_beq_eq_true hb
      subst e
      have := Option.some.inj h
      subst this
      obtain ⟨val, h1, h2, h3⟩ := hI.own l E hE'
      exact ⟨val, h1, h2, h3, fun k _ => ⟨l, rfl, ⟨E, hE'⟩, h1⟩⟩
  · split at h
    · rename_i x _
      split at h
      · rename_i l' hl'
        split at h
        · rename_i E' hE'
          cases hb : Nat.beq E E' with
          | false => rw [hb] at h; exact absurd h (by simp)
          | true =>
            rw [hb] at h
            have e := Nat.eq_of_beq_eq_true hb
            subst e
            have := Option.some.inj h
            subst this
            obtain ⟨val, h1, h2, h3⟩ := hI.own l' E hE'
            have h4 := hI.al x l' (lk_mem hl')
            have h5 := locIs_fun h1 h4
            exact ⟨val, h5.symm, h2, h3, fun k _ => ⟨l', rfl, ⟨E, hE'⟩, h1⟩⟩
        · exact absurd h (by simp)
      · split at h
        · rename_i ty hx hE
          have hr : Rep g.hw w (a.tmps.getD x undef) .nil := (hI.tmp x _ hx).2
          have hv : a.tmps.getD x undef = .slice none 0 0 := by
            generalize a.tmps.getD x undef = v at *
            cases hr; rfl
          exact ⟨.slice none 0 0, hv, nil hE, fun k hk => absurd hk (nob k), fun k hk => absurd hk (nob k)⟩
        · exact absurd h (by simp)
    · rename_i b c _
      split at h
      · rename_i cs ty hcs hE
        split at h
        · rename_i hc
          obtain ⟨k, base, h1, _, h3, _⟩ := hI.box b cs hcs
          obtain ⟨v, e1, _, _, e4⟩ := h3.cell c _ hc
          have hv : v = .slice none 0 0 := by cases e4.plain rfl; rfl
          subst hv
          exact ⟨.slice none 0 0, ⟨k, base, h1, e1⟩, nil hE, fun k hk => absurd hk (nob k), fun k hk => absurd hk (nob k)⟩
        · exact absurd h (by simp)
      · exact absurd h (by simp)

theorem noRefs_get : ∀ {l : List (Nat × List PV)} {b : Nat} {cs : List PV}, noRefs l = true → lk b l = some cs → ∀ y ∈ cs, ∀ b', refP y = some b' → False
  | [], b, cs, _, h => by simp [lk] at h
  | (b1, c1) :: r, b, cs, hn, h => by
    intro y hy b' hb'
    unfold noRefs at hn
    split at hn
    · rename_i e
      rw [lk_cons] at h
      split at h
      · have := Option.some.inj h
        subst this
        have := refsOf_mem hy hb'
        rw [e] at this
        exact absurd this (by simp)
      · exact noRefs_get hn h y hy b' hb'
    · exact absurd hn (by simp)

theorem leS_spec {Γ : List (Nat × Ty)} {p : Prop} (h : leS Γ τ σ = some p) (hp : p) :
    τ.n = σ.n ∧ τ.al = [] ∧ allIn τ.boxes τ.tmps = true ∧ leO Γ σ τ.boxes τ.own [] = true ∧ (∀ b ∈ σ.ro, b ∈ τ.ro) ∧
    (∀ t x, lk t τ.tmps = some x → ∃ y, lk t σ.tmps = some y ∧ leA x y) ∧ (∀ t x, lk t τ.boxes = some x → ∃ y, lk t σ.boxes = some y ∧ leCells x y) ∧ noRefs τ.boxes = true := by
  unfold leS at h
  cases hb : (Nat.beq τ.n σ.n && isNilL τ.al && allIn τ.boxes τ.tmps && leO Γ σ τ.boxes τ.own [] && σ.ro.all (fun b => has b τ.ro) && noRefs τ.boxes) with
  | false => rw [hb] at h; exact absurd h (by simp)
  | true =>
    rw [hb] at h
    simp only [cond_true] at h
    simp only [Bool.and_eq_true] at hb
    obtain ⟨⟨⟨⟨⟨b1, b2⟩, b3⟩, b4⟩, b5⟩, b6⟩ := hb
    split at h
    · rename_i q r h1 h2
      have := Option.some.inj h
      subst this
      exact ⟨Nat.eq_of_beq_eq_true b1, by generalize τ.al = l at *; cases l <;> first | rfl | exact absurd b2 (by simp [isNilL]), b3, b4, fun b hb => has_iff.1 (List.all_eq_true.1 b5 b hb), leT_get h1 hp.1, leB_get h2 hp.2, b6⟩
    · exact absurd h (by simp)

theorem inv_le {Γ : List (Nat × Ty)} (hΓ : TyOk P Γ) (hI : Inv P B g σ a w) {p : Prop} (h : leS Γ τ σ = some p) (hp : p) : Inv P B g τ a w := by
  obtain ⟨e1, e2, e3, e4, e5, e6, e7, e8⟩ := leS_spec h hp
  refine ⟨hI.size.trans e1.symm, hI.defers, fun t x hx => ?_, fun t b off hx => isSome'_iff.1 (allIn_get e3 t _ hx), fun t f bs hx b hb => isSome'_iff.1 (List.all_eq_true.1 (allIn_get e3 t _ hx) b hb), fun b cs hb => ?_,
    fun b b' cs cs' k base base' hb hb' => ?_, hI.hwlt, hI.base, hI.glob, fun l E hl => ?_, fun l E hl => ?_, fun l l' E E' val val' k hl hl' h1 h2 h3 h4 => ?_, fun t l hm => ?_, fun t b c hm => ?_, fun t b off n s hx => isSome'_iff.1 (allIn_get e3 t _ hx), fun b cs hb y hy b' hb' => (noRefs_get e8 hb y hy b' hb').elim⟩
  · obtain ⟨y, h1, h2⟩ := e6 t x hx
    obtain ⟨h3, h4⟩ := hI.tmp t y h1
    exact ⟨by rw [e1]; exact h3, leA_rep h2 h4⟩
  · obtain ⟨cs', h1, h2⟩ := e7 b cs hb
    obtain ⟨k, base, q1, q2, q3, q4, q5⟩ := hI.box b cs' h1
    refine ⟨k, base, q1, q2, ⟨fun j y hy => ?_⟩, fun hr => q4 (fun hm => hr (e5 b hm)), fun hn => q5 (by rw [← e1]; exact hn)⟩
    obtain ⟨z, hz, hle⟩ := (leCells_get h2).2 j y hy
    obtain ⟨v, r1, r2, r3, r4⟩ := q3.cell j z hz
    refine ⟨v, r1, r2, r3, ?_⟩
    cases r4 with
    | rep r4 => exact .rep (leP_rep hle r4)
    | bld u h0 hs hv =>
      rcases hle with rfl | ⟨_, he⟩
      · exact .bld u h0 hs hv
      · cases he
    | bp b off h =>
      rcases hle with rfl | ⟨_, he⟩
      · exact .bp b off h
      · cases he
    | bs b off n s h =>
      rcases hle with rfl | ⟨_, he⟩
      · exact .bs b off n s h
      · cases he
  · obtain ⟨c1, h1, _⟩ := e7 b cs hb
    obtain ⟨c2, h2, _⟩ := e7 b' cs' hb'
    exact hI.inj b b' c1 c2 k base base' h1 h2
  · obtain ⟨_, s, hs, _⟩ := leO_get e4 l E hl
    obtain ⟨val, h1, h2, h3, _⟩ := srcOf_val hΓ hI hs
    refine ⟨val, h1, h2, fun k hk b cs base hb => ?_⟩
    obtain ⟨c1, h4, _⟩ := e7 b cs hb
    exact h3 k hk b c1 base h4
  · have := (leO_get e4 l E hl).1
    cases l with
    | t t => rw [e1]; exact this
    | b b c => exact this
  · obtain ⟨_, s, hs, hd⟩ := leO_get e4 l E hl
    obtain ⟨_, s', hs', hd'⟩ := leO_get e4 l' E' hl'
    obtain ⟨v1, q1, _, _, q4⟩ := srcOf_val hΓ hI hs
    obtain ⟨v2, r1, _, _, r4⟩ := srcOf_val hΓ hI hs'
    have := locIs_fun h1 q1
    subst this
    have := locIs_fun h2 r1
    subst this
    obtain ⟨m, rfl, ⟨F, hF⟩, hm⟩ := q4 k h3
    obtain ⟨m', rfl, ⟨F', hF'⟩, hm'⟩ := r4 k h4
    have hmm := hI.owninj m m' F F' _ _ k hF hF' hm hm' h3 h4
    subst hmm
    exact (hd' m rfl).2 l E hl hs
  · rw [e2] at hm; exact absurd hm (by simp)
  · rw [e2] at hm; exact absurd hm (by simp)

theorem fr_le {Γ : List (Nat × Ty)} {g' : G} {w' : World} {σ' : St} {p : Prop} (h : leS Γ τ σ = some p) (hp : p) (hf : Fr B g τ w g' σ' w') : Fr B g σ w g' σ' w' := by
  obtain ⟨e1, _, _, _, _, _, e7, _⟩ := leS_spec h hp
  have l1 : ∀ k, LentB g τ k → LentB g σ k := fun k ⟨b, cs, base, h1, h2, h3⟩ => by
    obtain ⟨cs', h4, _⟩ := e7 b cs h2
    exact ⟨b, cs', base, by rw [← e1]; exact h1, h4, h3⟩
  have l2 : ∀ k off, Lent g τ k off → Lent g σ k off := fun k off ⟨b, cs, base, h1, h2, h3, h4, h5⟩ => by
    obtain ⟨cs', h6, h7⟩ := e7 b cs h2
    exact ⟨b, cs', base, by rw [← e1]; exact h1, h6, h3, h4, by rw [← (leCells_get h7).1]; exact h5⟩
  exact ⟨hf.os, hf.tape, hf.output, hf.size, hf.n.trans e1, fun k hk hn => hf.block k hk (fun hl => hn (l1 k hl)), fun k off hk hn => hf.cell k off hk (fun hl => hn (l2 k off hl)), hf.frozen, fun k hk hn => hf.hw k hk (fun hl => hn (l1 k hl)),
    fun b cs hn hb => by
      obtain ⟨cs0, h1, h2, h3⟩ := hf.par b cs (by rw [e1]; exact hn) hb
      obtain ⟨cs1, h4, h5⟩ := e7 b cs0 h1
      exact ⟨cs1, h4, (leCells_get h5).1.symm.trans h2, h3⟩, hf.ext⟩
end
end Go.Ev
namespace Go.Ev
open Go.RowKit
section
variable {P : Program} {B : Nat} {g : G} {σ τ : St} {a : Act} {w : World}

/-- A part that was shown by itself, in a frame of which more is known. -/
theorem tri_le {Γ : List (Nat × Ty)} (hΓ : TyOk P Γ) {c : Code} {σ0 σ1 : St} {e : Ex} (ht : Tri P c σ0 e σ1) {p : Prop} (h : leS Γ σ0 σ = some p) (hp : p) : Tri P c σ e σ1 := fun B g a w hI =>
  wp_mono (ht B g a w (inv_le hΓ hI h hp)) fun _ _ _ ⟨h1, g', h2, h3⟩ => ⟨h1, g', h2, fr_le h hp h3⟩

theorem tri_seq {x y : Code} {σ1 σ2 : St} {e : Ex} (h1 : Tri P x σ .normal σ1) (h2 : Tri P y σ1 e σ2) : Tri P (.seq x y) σ e σ2 := by
  intro B g a w hI
  refine wp_seq (wp_mono (h1 B g a w hI) fun ex a1 w1 hq => ?_)
  obtain ⟨he, g1, i1, f1⟩ := hq
  cases ex <;> first | exact he.elim | skip
  exact wp_mono (h2 B g1 a1 w1 i1) fun ex' a' w' ⟨h3, g', h4, h5⟩ => ⟨h3, g', h4, f1.trans h5⟩

theorem tri_seq_out {x y : Code} {σ1 : St} {e : Ex} (he : e ≠ .normal) (h1 : Tri P x σ e σ1) : Tri P (.seq x y) σ e σ1 := by
  intro B g a w hI
  refine wp_seq (wp_mono (h1 B g a w hI) fun ex a1 w1 hq => ?_)
  cases ex <;> first | exact hq | skip
  obtain ⟨h, _⟩ := hq
  cases e <;> first | exact absurd rfl he | exact h.elim

theorem tri_block {id : Nat} {c : Code} {σ1 : St} {e : Ex} (h : Tri P c σ e σ1) (hn : ∀ i, e ≠ .exit i) : Tri P (.block id c) σ e σ1 := by
  intro B g a w hI
  refine wp_block (wp_mono (h B g a w hI) fun ex a1 w1 hq => ?_)
  cases ex <;> first | exact hq | skip
  obtain ⟨h, _⟩ := hq
  cases e <;> first | exact absurd rfl (hn _) | exact h.elim
theorem tri_block_exit {id i : Nat} {c : Code} {σ1 : St} (h : Tri P c σ (.exit i) σ1) : Tri P (.block id c) σ (bif Nat.beq i id then .normal else .exit i) σ1 := by
  intro B g a w hI
  refine wp_block (wp_mono (h B g a w hI) fun ex a1 w1 hq => ?_)
  cases ex <;> first | exact hq.1.elim | skip
  rename_i j
  obtain ⟨h1, h2⟩ := hq
  have : i = j := h1
  subst this
  show (if i = id then _ else _)
  by_cases e : i = id
  · subst e
    rw [if_pos rfl]
    have : Nat.beq i i = true := by simp
    rw [this]
    exact ⟨trivial, h2⟩
  · rw [if_neg e, beq_ne e]
    exact ⟨rfl, h2⟩

/-- Rounds of a loop: at most so many. -/
def TriL (P : Program) (n : Nat) (c : Code) (σ : St) (e : Ex) (σ' : St) : Prop :=
  ∀ B g a w, Inv P B g σ a w → Code.rounds P c (fun ex a' w' => exOk e ex ∧ ∃ g', Inv P B g' σ' a' w' ∧ Fr B g σ w g' σ' w') n a w

theorem rounds_mono {c : Code} {Q Q' : Exit → Act → World → Prop} (hq : ∀ e a w, Q e a w → Q' e a w) : ∀ n a w, Code.rounds P c Q n a w → Code.rounds P c Q' n a w
  | 0, _, _, h => h
  | n + 1, a, w, h => wp_mono h fun e a w q => by
    cases e <;> first | exact rounds_mono hq n a w q | exact hq _ _ _ q

theorem triL_round {n : Nat} {c : Code} {σ1 σ2 : St} {e : Ex} (h1 : Tri P c σ .normal σ1) (h2 : TriL P n c σ1 e σ2) : TriL P (n + 1) c σ e σ2 := by
  intro B g a w hI
  refine wp_mono (h1 B g a w hI) fun ex a1 w1 hq => ?_
  obtain ⟨he, g1, i1, f1⟩ := hq
  cases ex <;> first | exact he.elim | skip
  exact rounds_mono (fun ex' a' w' ⟨h3, g', h4, h5⟩ => ⟨h3, g', h4, f1.trans h5⟩) n a1 w1 (h2 B g1 a1 w1 i1)
theorem triL_out {n : Nat} {c : Code} {σ1 : St} {e : Ex} (he : e ≠ .normal) (h1 : Tri P c σ e σ1) : TriL P (n + 1) c σ e σ1 := by
  intro B g a w hI
  refine wp_mono (h1 B g a w hI) fun ex a1 w1 hq => ?_
  cases ex <;> first | exact hq | skip
  obtain ⟨h, _⟩ := hq
  cases e <;> first | exact absurd rfl he | exact h.elim
theorem tri_loop {n : Nat} {c : Code} {σ1 : St} {e : Ex} (h : TriL P n c σ e σ1) : Tri P (.loop c) σ e σ1 := fun B g a w hI => wp_loop_rounds n (h B g a w hI)
theorem triL_le {n : Nat} {Γ : List (Nat × Ty)} (hΓ : TyOk P Γ) {c : Code} {σ0 σ1 : St} {e : Ex} (ht : TriL P n c σ0 e σ1) {p : Prop} (h : leS Γ σ0 σ = some p) (hp : p) : TriL P n c σ e σ1 := fun B g a w hI =>
  rounds_mono (fun _ _ _ ⟨h1, g', h2, h3⟩ => ⟨h1, g', h2, fr_le h hp h3⟩) n a w (ht B g a w (inv_le hΓ hI h hp))
/-- A scope in which the run jumps: at most so often. -/
def scopeR (P : Program) (c : Code) (Q : Exit → Act → World → Prop) : Nat → Code → Act → World → Prop
  | 0, _, _, _ => False
  | n + 1, x, a, w => x.wp P (fun e a' w' => match e with
      | .goto l => ∃ rest, findLabel c l = some rest ∧ scopeR P c Q n rest a' w'
      | e => Q e a' w') a w

theorem wp_scope_rounds {c : Code} {Q : Exit → Act → World → Prop} (n : Nat) (h : scopeR P c Q n c a w) : (Code.scope c).wp P Q a w := by
  intro b k cs
  have key : ∀ n x a w, scopeR P c Q n x a w → ∃ e a' w', Q e a' w' ∧ Arrives P (lone (b.at a (.code x :: .inScope c :: k)) cs w) b k cs e a' w' := by
    intro n
    induction n with
    | zero => intro x a w h; exact h.elim
    | succ n ih =>
      intro x a w h
      obtain ⟨e, a₁, w₁, hq, harr⟩ := h b (.inScope c :: k) cs
      cases e with
      | normal => exact ⟨.normal, a₁, w₁, hq, Steps.trans harr (.one step_inScope)⟩
      | exit id => exact ⟨.exit id, a₁, w₁, hq, fun k' hk => harr k' (by simp [exitTo, hk])⟩
      | goto l =>
        obtain ⟨rest, hf, hr⟩ := hq
        have hg : gotoIn l (.inScope c :: k) = some (.code rest :: .inScope c :: k) := by simp [gotoIn, hf]
        obtain ⟨e₂, a₂, w₂, hq₂, harr₂⟩ := ih rest a₁ w₁ hr
        exact ⟨e₂, a₂, w₂, hq₂, .of_steps (harr _ hg) harr₂⟩
      | ret => exact ⟨_, a₁, w₁, hq, harr⟩
      | panic ch => exact ⟨_, a₁, w₁, hq, harr⟩
      | outgrown => exact ⟨_, a₁, w₁, hq, harr⟩
  obtain ⟨e, a', w', hq, harr⟩ := key n c a w h
  exact ⟨e, a', w', hq, .of_steps (.one step_scope) harr⟩

def TriS (P : Program) (c : Code) (n : Nat) (x : Code) (σ : St) (e : Ex) (σ' : St) : Prop :=
  ∀ B g a w, Inv P B g σ a w → scopeR P c (fun ex a' w' => exOk e ex ∧ ∃ g', Inv P B g' σ' a' w' ∧ Fr B g σ w g' σ' w') n x a w

theorem scopeR_mono {c : Code} {Q Q' : Exit → Act → World → Prop} (hq : ∀ e a w, Q e a w → Q' e a w) : ∀ n x a w, scopeR P c Q n x a w → scopeR P c Q' n x a w
  | 0, _, _, _, h => h
  | n + 1, x, a, w, h => wp_mono h fun e a w q => by
    cases e <;> first | exact hq _ _ _ q | (obtain ⟨rest, h1, h2⟩ := q; exact ⟨rest, h1, scopeR_mono hq n rest a w h2⟩)

theorem triS_jump {c x rest : Code} {n l : Nat} {σ1 σ2 : St} {e : Ex} (h1 : Tri P x σ (.goto l) σ1) (hf : findLabel c l = some rest) (h2 : TriS P c n rest σ1 e σ2) : TriS P c (n + 1) x σ e σ2 := by
  intro B g a w hI
  refine wp_mono (h1 B g a w hI) fun ex a1 w1 hq => ?_
  obtain ⟨he, g1, i1, f1⟩ := hq
  cases ex <;> first | exact he.elim | skip
  have he : l = _ := he
  subst he
  exact ⟨rest, hf, scopeR_mono (fun ex' a' w' ⟨h3, g', h4, h5⟩ => ⟨h3, g', h4, f1.trans h5⟩) n rest a1 w1 (h2 B g1 a1 w1 i1)⟩
theorem triS_out {c x : Code} {n : Nat} {σ1 : St} {e : Ex} (he : ∀ l, e ≠ .goto l) (h1 : Tri P x σ e σ1) : TriS P c (n + 1) x σ e σ1 := by
  intro B g a w hI
  refine wp_mono (h1 B g a w hI) fun ex a1 w1 hq => ?_
  cases ex <;> first | exact hq | skip
  obtain ⟨h, _⟩ := hq
  cases e <;> first | exact absurd rfl (he _) | exact h.elim
theorem tri_scope {c : Code} {n : Nat} {σ1 : St} {e : Ex} (h : TriS P c n c σ e σ1) : Tri P (.scope c) σ e σ1 := fun B g a w hI => wp_scope_rounds n (h B g a w hI)

theorem tri_cond {c : Operand} {x y : Code} {b : Bool} {e : Ex} {σ1 : St} (hc : pvOf σ c = some (.v (.bool b))) (h : Tri P (bif b then x else y) σ e σ1) : Tri P (.cond c x y) σ e σ1 := by
  intro B g a w hI
  have hv : a.eval c = .bool b := rep_v (pvOf_sound hI hc)
  refine wp_cond hv ?_
  have := h B g a w hI
  cases b <;> exact this

theorem tri_region {Γ : List (Nat × Ty)} (hΓ : TyOk P Γ) {id : Nat} {ops : Array Oper} {os os' ob : List Obl} {σ1 : St} (h : evOps Γ ops.toList ops.toList σ os = some (σ1, os', ob)) (ho : holdsAll P ob) : Tri P (.region id ops false) σ .normal σ1 :=
  fun _ _ _ _ hI => wp_region_list (evOps_sound hΓ hI h ho fun _ _ hp => ⟨trivial, hp⟩)

theorem ev_sound {Γ : List (Nat × Ty)} (hΓ : TyOk P Γ) : ∀ {c : Code} {σ σ' : St} {os os' ob : List Obl} {e : Ex}, ev Γ c σ os = some (e, σ', os', ob) → holdsAll P ob → Tri P c σ e σ' := by
  have tri : ∀ {c : Code} {σ σ' σ0 σ1 : St} {os os' ob : List Obl} {e e' : Ex}, (match leS Γ σ0 σ with | some p => some (e, σ1, os', [Obl.tri 0 c σ0 e σ1, .pr p]) | none => none) = some (e', σ', os, ob) → holdsAll P ob → Tri P c σ e' σ' := by
    intro c σ σ' σ0 σ1 os os' ob e e' h ho
    split at h
    · rename_i p hp
      have := Option.some.inj h
      cases this
      exact tri_le hΓ (ho (.tri 0 c σ0 _ _) (by simp)) hp (ho (.pr p) (by simp))
    · exact absurd h (by simp)
  intro c
  induction c with
  | skip => intro σ σ' os os' ob e h ho; have := Option.some.inj h; cases this; exact fun B g a w hI => wp_skip ⟨trivial, g, hI, Fr.refl⟩
  | label l => intro σ σ' os os' ob e h ho; have := Option.some.inj h; cases this; exact fun B g a w hI => wp_label ⟨trivial, g, hI, Fr.refl⟩
  | exit i => intro σ σ' os os' ob e h ho; have := Option.some.inj h; cases this; exact fun B g a w hI => wp_exit ⟨rfl, g, hI, Fr.refl⟩
  | goto i => intro σ σ' os os' ob e h ho; have := Option.some.inj h; cases this; exact fun B g a w hI => wp_goto ⟨rfl, g, hI, Fr.refl⟩
  | ret => intro σ σ' os os' ob e h ho; have := Option.some.inj h; cases this; exact fun B g a w hI => wp_ret ⟨trivial, g, hI, Fr.refl⟩
  | region id ops d =>
    intro σ σ' os os' ob e h ho
    unfold ev at h
    split at h
    · exact tri h ho
    · split at h
      · rename_i σ1 os1 ob1 h1
        have := Option.some.inj h
        cases this
        exact tri_region hΓ h1 ho
      · exact absurd h (by simp)
    · exact absurd h (by simp)
  | seq x y ihx ihy =>
    intro σ σ' os os' ob e h ho
    unfold ev at h
    split at h
    · rename_i σ1 os1 ob1 h1
      split at h
      · rename_i e2 σ2 os2 ob2 h2
        have := Option.some.inj h
        cases this
        exact tri_seq (ihx h1 (holdsAll_left ho)) (ihy h2 (holdsAll_right ho))
      · exact absurd h (by simp)
    · rename_i r hr
      refine tri_seq_out (fun he => ?_) (ihx h ho)
      subst he
      exact hr σ' os' ob h
  | cond c x y ihx ihy =>
    intro σ σ' os os' ob e h ho
    unfold ev at h
    split at h
    · rename_i hc; exact tri_cond hc (ihx h ho)
    · rename_i hc; exact tri_cond hc (ihy h ho)
    · split at h
      · exact tri h ho
      · exact absurd h (by simp)
  | block id c ih =>
    intro σ σ' os os' ob e h ho
    unfold ev at h
    split at h
    · rename_i i σ1 os1 ob1 h1
      have := Option.some.inj h
      cases this
      exact tri_block_exit (ih h1 ho)
    · rename_i r hr
      refine tri_block (ih h ho) (fun i he => ?_)
      subst he
      exact hr i σ' os' ob h
  | loop c _ => intro σ σ' os os' ob e h ho; unfold ev at h; split at h <;> first | exact tri h ho | exact absurd h (by simp)
  | scope c _ => intro σ σ' os os' ob e h ho; unfold ev at h; split at h <;> first | exact tri h ho | exact absurd h (by simp)
  | rangeFunc f ps as c _ _ => intro σ σ' os os' ob e h ho; unfold ev at h; split at h <;> first | exact tri h ho | exact absurd h (by simp)
  | _ => intro σ σ' os os' ob e h ho; exact absurd h (by simp [ev])
end
end Go.Ev
namespace Go.Ev
open Go.RowKit

def initT : Nat → List PV → List (Nat × AV)
  | _, [] => []
  | i, x :: r => (i, .p x) :: initT (i + 1) r

/-- A frame at its entry. -/
def initSt (n : Nat) (args : List PV) : St := ⟨n, initT 0 args, [], [], [], []⟩
/-- The same, of a function that writes through its first argument: the box that was lent bears the number n. -/
def initStP (n : Nat) (cs : List PV) (args : List PV) : St := ⟨n, (0, .ptr n 0) :: initT 1 args, [(n, cs)], [], [], []⟩

def evRes (Γ : List (Nat × Ty)) (σ : St) : List ResultVar → Option (List PV)
  | [] => some []
  | .tmp t :: r => match lk t σ.tmps, evRes Γ σ r with
    | some (.p x), some l => some (norm x :: l)
    | _, _ => none
  | .cell t T :: r => match lk t σ.tmps, evRes Γ σ r with
    | some (.ptr b off), some l => match evLoad Γ σ.boxes T (.ptr b off) with
      | some x => some (norm x :: l)
      | none => none
    | _, _ => none

def oneOf : List PV → PV
  | [x] => x
  | l => .tup l

def resOf (tmps : Array Value) : ResultVar → Sem Value
  | .tmp t => pure (tmps.getD t undef)
  | .cell t T => do loadVar T (← asAddr (tmps.getD t undef))

def isOut : Ex → Bool
  | .normal => true
  | .ret => true
  | _ => false

section
variable {P : Program} {B : Nat} {g : G} {σ : St} {a : Act} {w : World}

theorem initT_get : ∀ {args : List PV} {i t : Nat} {v : AV}, lk t (initT i args) = some v → ∃ j x, t = i + j ∧ args[j]? = some x ∧ v = .p x
  | [], _, _, _, h => by simp [initT, lk] at h
  | x :: r, i, t, v, h => by
    rw [initT, lk_cons] at h
    split at h
    · rename_i e
      exact ⟨0, x, by omega, rfl, (Option.some.inj h).symm⟩
    · obtain ⟨j, y, h1, h2, h3⟩ := initT_get h
      exact ⟨j + 1, y, by omega, by simpa using h2, h3⟩

theorem arg_get {vals : List Value} {n j : Nat} {v : Value} (h : vals[j]? = some v) : ((vals.toArray ++ Array.replicate n undef : Array Value)).getD j undef = v := by
  have hj := (List.getElem?_eq_some_iff.1 h).1
  rw [Array.getD_eq_getD_getElem?, Array.getElem?_append_left (by simpa using hj)]
  simp [h]

theorem init_inv {hw : Nat → Nat} {vals : List Value} {args : List PV} {n : Nat} (hl : ∀ k, w.heap.size ≤ k → hw k = 0) (hgl : GlobOk hw w) (ha : ArgsRep hw w vals args) (hn : args.length ≤ n) :
    Inv P w.heap.size ⟨fun _ => none, hw⟩ (initSt n args) { tmps := vals.toArray ++ Array.replicate (n - vals.toArray.size) undef, defers := [] } w := by
  have hlen := ha.len
  refine ⟨by simp [initSt]; omega, rfl, fun t v ht => ?_, fun t b off ht => ?_, fun t f bs ht => ?_, fun b cs h => absurd h (by simp [initSt, lk]), fun b b' cs cs' k base base' h => absurd h (by simp [initSt, lk]), hl, Nat.le_refl _, ⟨hgl, fun _ _ hy => hgl.lt hy⟩,
    fun l E h => absurd h (by simp [initSt, lkL]), fun l E h => absurd h (by simp [initSt, lkL]), fun l l' E E' v v' k h => absurd h (by simp [initSt, lkL]), fun t l h => absurd h (by simp [initSt]), fun t b c h => absurd h (by simp [initSt]), fun t b off n s ht => ?_, fun b cs h => absurd h (by simp [initSt, lk])⟩
  · obtain ⟨j, x, h1, h2, rfl⟩ := initT_get ht
    have hj := (List.getElem?_eq_some_iff.1 h2).1
    refine ⟨by simp only [initSt]; omega, ?_⟩
    have hv := List.getElem?_eq_getElem (l := vals) (i := j) (by omega)
    rw [h1, Nat.zero_add, arg_get hv]
    exact ha.rep j _ x hv h2
  · obtain ⟨j, x, h1, h2, h3⟩ := initT_get ht; exact absurd h3 (by simp)
  · obtain ⟨j, x, h1, h2, h3⟩ := initT_get ht; exact absurd h3 (by simp)
  · obtain ⟨j, x, h1, h2, h3⟩ := initT_get ht; exact absurd h3 (by simp)

theorem evRes_sound {Γ : List (Nat × Ty)} (hΓ : TyOk P Γ) (hI : Inv P B g σ a w) : ∀ {l : List ResultVar} {r : List PV}, evRes Γ σ l = some r →
    ∃ vs : List Value, (l.mapM (resOf a.tmps)).run P w = .ok vs w ∧ ArgsRep g.hw w vs r
  | [], r, h => by
    have := Option.some.inj h
    subst this
    exact ⟨[], by simp, rfl, fun j x y hx => by simp at hx⟩
  | .tmp t :: l, r, h => by
    unfold evRes at h
    split at h
    · rename_i x l' h1 h2
      have := Option.some.inj h
      subst this
      obtain ⟨vs, e1, e2⟩ := evRes_sound hΓ hI h2
      have hr := norm_rep ((hI.tmp t _ h1).2 : Rep g.hw w _ x)
      refine ⟨a.tmps.getD t undef :: vs, by rw [List.mapM_cons, show resOf a.tmps (.tmp t) = pure (a.tmps.getD t undef) from rfl]; simp only [Sem.run_bind, Sem.run_pure, Result.andThen_ok, e1], by simp [e2.len], fun j p q hp hq => ?_⟩
      cases j with
      | zero => exact (by cases hp; cases hq; exact hr)
      | succ j => exact e2.rep j p q (by simpa using hp) (by simpa using hq)
    · exact absurd h (by simp)
  | .cell t T :: l, r, h => by
    unfold evRes at h
    split at h
    · rename_i b off l' h1 h2
      split at h
      · rename_i x hx
        have := Option.some.inj h
        subst this
        obtain ⟨vs, e1, e2⟩ := evRes_sound hΓ hI h2
        obtain ⟨v, e3, e4⟩ := load_sound hΓ hI hx (hI.tmp t _ h1).2
        have hr := norm_rep e4
        obtain ⟨k, base, _, hp⟩ := (hI.tmp t _ h1).2
        rw [hp] at e3
        have e5 : (loadVar T ⟨k, base + off, none⟩).run P w = .ok v w := by simpa [Instr.loadAt, Instr.sureAddr] using e3
        refine ⟨v :: vs, by rw [List.mapM_cons, show resOf a.tmps (.cell t T) = (do loadVar T (← asAddr (a.tmps.getD t undef))) from rfl, hp]; simp only [asAddr, pure_bind, Sem.run_bind, Sem.run_pure, Result.andThen_ok, e5, e1], by simp [e2.len], fun j p q hp hq => ?_⟩
        cases j with
        | zero => exact (by cases hp; cases hq; exact hr)
        | succ j => exact e2.rep j p q (by simpa using hp) (by simpa using hq)
      · exact absurd h (by simp)
    · exact absurd h (by simp)

theorem res_run {Γ : List (Nat × Ty)} (hΓ : TyOk P Γ) (hI : Inv P B g σ a w) {fn : Func} {r : List PV} (h : evRes Γ σ fn.results.toList = some r) :
    ∃ v, (results fn a.tmps).run P w = .ok v w ∧ Rep g.hw w v (oneOf r) := by
  obtain ⟨vs, e1, e2⟩ := evRes_sound hΓ hI h
  refine ⟨if h : vs.toArray.size = 1 then vs.toArray[0] else .tuple vs.toArray, ?_, ?_⟩
  · have e : results fn a.tmps = (fn.results.mapM (resOf a.tmps) >>= fun vs => pure (if h : vs.size = 1 then vs[0] else .tuple vs)) := by
      unfold results
      rfl
    rw [e, Array.mapM_eq_mapM_toList]
    simp only [map_eq_pure_bind, bind_assoc, pure_bind, Sem.run_bind, e1, Result.andThen_ok, Sem.run_pure]
  · cases vs with
    | nil =>
      have := e2.len
      have : r = [] := List.eq_nil_of_length_eq_zero (by simpa using this.symm)
      subst this
      exact .tup [] [] rfl (fun j x y hx => by simp at hx)
    | cons v vs =>
      cases vs with
      | nil =>
        obtain ⟨x, rfl⟩ : ∃ x, r = [x] := by
          have := e2.len
          cases r with
          | nil => simp at this
          | cons x r => cases r with
            | nil => exact ⟨x, rfl⟩
            | cons y r => simp at this
        exact e2.rep 0 v x rfl rfl
      | cons v' vs =>
        obtain ⟨x, y, r', rfl⟩ : ∃ x y r', r = x :: y :: r' := by
          have := e2.len
          cases r with
          | nil => simp at this
          | cons x r => cases r with
            | nil => simp at this
            | cons y r => exact ⟨x, y, r, rfl⟩
        rw [dif_neg (by simp)]
        exact .tup _ _ e2.len e2.rep

theorem con_of {Γ : List (Nat × Ty)} (hΓ : TyOk P Γ) {f : FuncId} {fn : Func} {c : Code} (hcall : ∀ args w, (callFunc f args).run P w = .ok (.enter f args) w) (hf : P.funcs[f]? = some fn) (hb : fn.body = some c)
    {args : List PV} (hn : Nat.ble args.length fn.ntmps = true) {e : Ex} {σ' : St} (ht : Tri P c (initSt fn.ntmps args) e σ') (he : isOut e = true) {r : List PV} (hr : evRes Γ σ' fn.results.toList = some r) : Con P f args (oneOf r) := by
  intro hw w vals hl hgl ha
  refine .inr ⟨f, hcall _ _, calls_of_wp hf hb (wp_mono (ht _ _ _ w (init_inv hl hgl ha (Nat.le_of_ble_eq_true hn))) fun ex a' w' ⟨hx, g', hI, hF⟩ => ?_)⟩
  have key : a'.defers = [] ∧ ∃ v, (results fn a'.tmps).run P w' = .ok v w' ∧ ∃ v0, Ending.returned v = .returned v0 ∧ ∃ hw', Qt hw w hw' w' ∧ Rep hw' w' v0 (oneOf r) := by
    obtain ⟨v, h1, h2⟩ := res_run hΓ hI hr
    have nl : ∀ k, ¬ LentB ⟨fun _ => none, hw⟩ (initSt fn.ntmps args) k := fun k ⟨b, cs, base, _, h, _⟩ => by simp [initSt, lk] at h
    exact ⟨hI.defers, v, h1, v, rfl, g'.hw, ⟨⟨hF.os, hF.tape, hF.output, hF.size, fun k hk => hF.block k hk (nl k)⟩, fun k hk => hF.hw k hk (nl k), hI.hwlt⟩, h2⟩
  cases ex <;> first | exact key | (cases e <;> first | exact hx.elim | exact absurd he (by simp [isOut]))

theorem conP_of {Γ : List (Nat × Ty)} (hΓ : TyOk P Γ) {f : FuncId} {fn : Func} {c : Code} (hcall : ∀ args w, (callFunc f args).run P w = .ok (.enter f args) w) (hf : P.funcs[f]? = some fn) (hb : fn.body = some c)
    {cs cs' args : List PV} (hn : Nat.ble (args.length + 1) fn.ntmps = true) {e : Ex} {σ' : St} (ht : Tri P c (initStP fn.ntmps cs args) e σ') (he : isOut e = true) {r : List PV} (hr : evRes Γ σ' fn.results.toList = some r)
    (hcs : lk fn.ntmps σ'.boxes = some cs') (hro : has fn.ntmps σ'.ro = false) (hd : hdOk cs = true) (hd' : hdOk cs' = true) : ConP P f cs args (oneOf r) cs' := by
  intro g w k base vals hl hgl ha hk hbx h0
  have hn' := Nat.le_of_ble_eq_true hn
  have hlen := ha.len
  have hsz : (((Value.pointer (some ⟨k, base, none⟩) :: vals).toArray ++ Array.replicate (fn.ntmps - (Value.pointer (some ⟨k, base, none⟩) :: vals).toArray.size) undef : Array Value)).size = fn.ntmps := by simp; omega
  have hI0 : Inv P w.heap.size ⟨fun b => if b = fn.ntmps then some (k, base) else none, g.hw⟩ (initStP fn.ntmps cs args) { tmps := (Value.pointer (some ⟨k, base, none⟩) :: vals).toArray ++ Array.replicate (fn.ntmps - (Value.pointer (some ⟨k, base, none⟩) :: vals).toArray.size) undef, defers := [] } w := by
    have bx : ∀ b cs', lk b (initStP fn.ntmps cs args).boxes = some cs' → b = fn.ntmps ∧ cs' = cs := by
      intro b cs' h
      simp only [initStP, lk_cons] at h
      split at h
      · rename_i e; exact ⟨e, (Option.some.inj h).symm⟩
      · simp [lk] at h
    refine ⟨hsz, rfl, fun t v ht => ?_, fun t b off ht => ?_, fun t f bs ht => ?_, fun b cs' h => ?_, fun b b' cs1 cs2 k' base1 base2 h1 h2 _ _ => (bx b _ h1).1.trans (bx b' _ h2).1.symm, hl, Nat.le_refl _, ⟨hgl, fun _ _ hy => hgl.lt hy⟩,
      fun l E h => absurd h (by simp [initStP, lkL]), fun l E h => absurd h (by simp [initStP, lkL]), fun l l' E E' v v' k h => absurd h (by simp [initStP, lkL]), fun t l h => absurd h (by simp [initStP]), fun t b c h => absurd h (by simp [initStP]), fun t b off n s ht => ?_, fun b cs' h y hy b' hb' => ?_⟩
    · simp only [initStP, lk_cons] at ht
      split at ht
      · rename_i e
        have := Option.some.inj ht
        subst this; subst e
        refine ⟨by simp only [initStP]; omega, k, base, by simp, ?_⟩
        exact arg_get (vals := .pointer (some ⟨k, base, none⟩) :: vals) rfl
      · obtain ⟨j, x, h1, h2, rfl⟩ := initT_get ht
        have hj := (List.getElem?_eq_some_iff.1 h2).1
        refine ⟨by simp only [initStP]; omega, ?_⟩
        have hv := List.getElem?_eq_getElem (l := vals) (i := j) (by omega)
        have hv' : (Value.pointer (some ⟨k, base, none⟩) :: vals)[1 + j]? = some vals[j] := by rw [Nat.add_comm]; exact hv
        rw [h1, arg_get hv']
        exact ha.rep j _ x hv h2
    · simp only [initStP, lk_cons] at ht
      split at ht
      · have := Option.some.inj ht
        cases this
        exact ⟨cs, by simp [initStP, lk_cons]⟩
      · obtain ⟨j, x, h1, h2, h3⟩ := initT_get ht; exact absurd h3 (by simp)
    · simp only [initStP, lk_cons] at ht
      split at ht
      · exact absurd (Option.some.inj ht) (by simp)
      · obtain ⟨j, x, h1, h2, h3⟩ := initT_get ht; exact absurd h3 (by simp)
    · obtain ⟨rfl, rfl⟩ := bx b cs' h
      exact ⟨k, base, by simp, hk, hbx.plain hd _, fun _ => h0, fun hlt => absurd hlt (by simp [initStP])⟩
    · simp only [initStP, lk_cons] at ht
      split at ht
      · exact absurd (Option.some.inj ht) (by simp)
      · obtain ⟨j, x, h1, h2, h3⟩ := initT_get ht; exact absurd h3 (by simp)
    · obtain ⟨rfl, rfl⟩ := bx b cs' h
      rw [hd_ref hd hy] at hb'
      exact absurd hb' (by simp)
  refine .inr ⟨f, hcall _ _, calls_of_wp hf hb (wp_mono (ht _ _ _ w hI0) fun ex a' w' ⟨hx, g', hI, hF⟩ => ?_)⟩
  have key : a'.defers = [] ∧ ∃ v, (results fn a'.tmps).run P w' = .ok v w' ∧ ∃ v0, Ending.returned v = .returned v0 ∧ ∃ hw',
      w'.os = w.os ∧ w'.tape = w.tape ∧ w'.output = w.output ∧ w.heap.size ≤ w'.heap.size ∧
      (∀ j, j < w.heap.size → j ≠ k → w'.heap[j]? = w.heap[j]?) ∧
      (∀ off, ¬ (base ≤ off ∧ off < base + cs.length) → w'.cell? ⟨k, off, none⟩ = w.cell? ⟨k, off, none⟩) ∧
      (∀ off, w'.frozen? ⟨k, off, none⟩ = w.frozen? ⟨k, off, none⟩) ∧
      (∀ j, j < w.heap.size → hw' j = g.hw j) ∧ (∀ j, w'.heap.size ≤ j → hw' j = 0) ∧
      BoxOk ⟨g.β, hw'⟩ w' k base cs' ∧ cs'.length = cs.length ∧ Rep hw' w' v0 (oneOf r) := by
    obtain ⟨v, h1, h2⟩ := res_run hΓ hI hr
    have bx0 : ∀ b cs1, lk b (initStP fn.ntmps cs args).boxes = some cs1 → b = fn.ntmps ∧ cs1 = cs := by
      intro b cs' h
      simp only [initStP, lk_cons] at h
      split at h
      · rename_i e; exact ⟨e, (Option.some.inj h).symm⟩
      · simp [lk] at h
    have nl : ∀ j, j ≠ k → ¬ LentB ⟨fun b => if b = fn.ntmps then some (k, base) else none, g.hw⟩ (initStP fn.ntmps cs args) j := fun j hj ⟨b, cs1, base1, _, h, h'⟩ => by
      obtain ⟨rfl, rfl⟩ := bx0 b cs1 h
      simp at h'
      exact hj h'.1.symm
    have nl2 : ∀ off, ¬ (base ≤ off ∧ off < base + cs.length) → ¬ Lent ⟨fun b => if b = fn.ntmps then some (k, base) else none, g.hw⟩ (initStP fn.ntmps cs args) k off := fun off ho ⟨b, cs1, base1, _, h, h', h3, h4⟩ => by
      obtain ⟨rfl, rfl⟩ := bx0 b cs1 h
      simp at h'
      rw [← h'] at h3 h4
      exact ho ⟨h3, h4⟩
    obtain ⟨cs0, p1, p2, p3⟩ := hF.par fn.ntmps cs' (Nat.le_refl _) hcs
    obtain ⟨_, rfl⟩ := bx0 _ _ p1
    have hβ : g'.β fn.ntmps = some (k, base) := p3.trans (by simp)
    obtain ⟨k', base', q1, q2, q3, q4, _⟩ := hI.box _ _ hcs
    rw [hβ] at q1
    have := Option.some.inj q1
    cases this
    have hw0 : g'.hw k = 0 := q4 (fun hm => by rw [has_iff.2 hm] at hro; exact absurd hro (by simp))
    refine ⟨hI.defers, v, h1, v, rfl, g'.hw, hF.os, hF.tape, hF.output, hF.size, fun j hj hne => hF.block j hj (nl j hne), fun off ho => hF.cell k off hk (nl2 off ho), fun off => hF.frozen k off hk, fun j hj => ?_, hI.hwlt, q3.plain hd' _, p2.symm, h2⟩
    by_cases e : j = k
    · subst e; exact hw0.trans h0.symm
    · exact hF.hw j hj (nl j e)
  cases ex <;> first | exact key | (cases e <;> first | exact hx.elim | exact absurd he (by simp [isOut]))
end
end Go.Ev
namespace Go.Ev
open Go.RowKit

/-- What one operation of a drawing region leaves: a slot, a box, a link. -/
structure En where
  i : Nat
  tm : Option (Nat × AV)
  bx : Option (Nat × List PV)
  ln : Option (Nat × Loc)

def deps (o : Oper) : List Nat := (o.after.toList.filter (Region.binds .any)).map (·.on)

def bit (m i : Nat) : Bool := Nat.testBit m i
def nthN : List Nat → Nat → Nat
  | [], _ => 0
  | x :: _, 0 => x
  | _ :: r, n + 1 => nthN r n
def clOf (acc : List Nat) : List Nat → Nat
  | [] => 0
  | i :: r => Nat.lor (Nat.lor (Nat.shiftLeft 1 i) (nthN acc i)) (clOf acc r)
def clsOf : List Oper → List Nat → List Nat
  | [], acc => acc
  | o :: r, acc => clsOf r (acc ++ [clOf acc (deps o)])

def lookT (cl : Nat) (t : Nat) (β : List (Nat × AV)) : List En → Option AV
  | [] => lk t β
  | e :: r => match e.tm with
    | some (t', v) => bif Nat.beq t t' && bit cl e.i then some v else lookT cl t β r
    | none => lookT cl t β r
def lookB (cl : Nat) (b : Nat) (β : List (Nat × List PV)) : List En → Option (List PV)
  | [] => lk b β
  | e :: r => match e.bx with
    | some (b', v) => bif Nat.beq b b' && bit cl e.i then some v else lookB cl b β r
    | none => lookB cl b β r
def lookL (cl : Nat) (t : Nat) (β : List (Nat × Loc)) : List En → Option Loc
  | [] => lk t β
  | e :: r => match e.ln with
    | some (t', v) => bif Nat.beq t t' && bit cl e.i then some v else lookL cl t β r
    | none => lookL cl t β r

def avBoxes : AV → List Nat
  | .p _ => []
  | .ptr b _ => [b]
  | .fnp _ bs => bs
  | .sl b _ _ _ => [b]

/-- May the operation look at the box? All that write it come ahead of it, or behind it, for sure. -/
def okBox (ws : List (Nat × Nat)) (cls : List Nat) (j cl b : Nat) : Bool :=
  ws.all fun (s, b') => !(Nat.beq b b') || bit cl s || bit (nthN cls s) j || Nat.beq s j

def bxFor (ws : List (Nat × Nat)) (cls : List Nat) (A : List En) (β : St) (j cl b : Nat) : Option (List PV) :=
  bif okBox ws cls j cl b then lookB cl b β.boxes A else none

def tauT (ws : List (Nat × Nat)) (cls : List Nat) (A : List En) (β : St) (j cl : Nat) : List Nat → List (Nat × AV)
  | [] => []
  | t :: r => match lookT cl t β.tmps A with
    | some v => bif (avBoxes v).all (fun b => isSome' (bxFor ws cls A β j cl b)) then (t, v) :: tauT ws cls A β j cl r else tauT ws cls A β j cl r
    | none => tauT ws cls A β j cl r
def tauB1 (ws : List (Nat × Nat)) (cls : List Nat) (A : List En) (β : St) (j cl : Nat) : List Nat → List (Nat × List PV) → List (Nat × List PV)
  | [], r => r
  | b :: bs, r => match bxFor ws cls A β j cl b with
    | some cs => (b, cs) :: tauB1 ws cls A β j cl bs r
    | none => tauB1 ws cls A β j cl bs r
def tauB (ws : List (Nat × Nat)) (cls : List Nat) (A : List En) (β : St) (j cl : Nat) : List (Nat × AV) → List (Nat × List PV)
  | [] => []
  | (_, v) :: r => tauB1 ws cls A β j cl (avBoxes v) (tauB ws cls A β j cl r)
def tauL (cl : Nat) (A : List En) (β : St) (bx : List (Nat × List PV)) : List Nat → List (Nat × Loc)
  | [] => []
  | t :: r => match lookL cl t β.al A with
    | some l => bif (match l with | .t _ => true | .b b _ => isSome' (lk b bx)) then (t, l) :: tauL cl A β bx r else tauL cl A β bx r
    | none => tauL cl A β bx r

def refsB : List (Nat × List PV) → List Nat
  | [] => []
  | (_, cs) :: r => refsOf cs ++ refsB r
def flatB (bx : List (Nat × List PV)) : List Nat → Bool
  | [] => true
  | b :: r => match lk b bx with
    | some cs => match refsOf cs with
      | [] => flatB bx r
      | _ => false
    | none => false
/-- .. with the boxes that its boxes lead to. -/
def tauR (β : St) (tm : List (Nat × AV)) (bx0 bx : List (Nat × List PV)) (al0 al : List (Nat × Loc)) : St :=
  match refsB bx0 with
  | [] => ⟨β.n, tm, bx0, β.ro, [], al0⟩
  | rs => bif flatB bx rs then ⟨β.n, tm, bx, β.ro, [], al⟩ else ⟨β.n, [], [], β.ro, [], []⟩
/-- The frame as the operation j may know it, whatever came up ahead of it. -/
def tau (ws : List (Nat × Nat)) (cls : List Nat) (A : List En) (β : St) (j cl : Nat) (looks : List Nat) : St :=
  let tm := tauT ws cls A β j cl looks
  let bx0 := tauB ws cls A β j cl tm
  let bx := tauB1 ws cls A β j cl (refsB bx0) bx0
  tauR β tm bx0 bx (tauL cl A β bx0 looks) (tauL cl A β bx looks)

section
variable {P : Program} {B : Nat} {g : G} {σ β ρ : St} {a : Act} {w : World}

/-- What holds of the frame while the operations of 'S' have come up. -/
structure RI (β : St) (A : List En) (S : Nat → Prop) (ρ : St) : Prop where
  n : β.n = ρ.n
  ro : β.ro = ρ.ro
  tm : ∀ e ∈ A, S e.i → ∀ t v, e.tm = some (t, v) → lk t ρ.tmps = some v
  tm0 : ∀ t v, lk t β.tmps = some v → lk t ρ.tmps = some v
  bx : ∀ e ∈ A, S e.i → ∀ b cs, e.bx = some (b, cs) → (∀ e' ∈ A, ∀ cs', e'.bx = some (b, cs') → S e'.i → e'.i ≤ e.i) → lk b ρ.boxes = some cs
  bx0 : ∀ b, (∀ e ∈ A, ∀ cs, e.bx = some (b, cs) → ¬ S e.i) → lk b ρ.boxes = lk b β.boxes
  ln : ∀ e ∈ A, S e.i → ∀ t l, e.ln = some (t, l) → (t, l) ∈ ρ.al
  al0 : ∀ t l, (t, l) ∈ β.al → (t, l) ∈ ρ.al
  own0 : ∀ l E, lkL l β.own = some E → lkL l ρ.own = some E

theorem lookT_get {cl t : Nat} {bt : List (Nat × AV)} : ∀ {A : List En} {v : AV}, lookT cl t bt A = some v → (∃ e ∈ A, bit cl e.i = true ∧ e.tm = some (t, v)) ∨ lk t bt = some v
  | [], v, h => .inr h
  | e :: r, v, h => by
    unfold lookT at h
    split at h
    · rename_i t' v' he
      cases hb : (Nat.beq t t' && bit cl e.i) with
      | true =>
        rw [hb] at h
        rw [Bool.and_eq_true] at hb
        have e1 := Nat.eq_of_beq_eq_true hb.1
        have := Option.some.inj h
        subst this; subst e1
        exact .inl ⟨e, by simp, hb.2, he⟩
      | false =>
        rw [hb] at h
        rcases lookT_get h with ⟨e', h1, h2⟩ | h1
        · exact .inl ⟨e', List.mem_cons_of_mem _ h1, h2⟩
        · exact .inr h1
    · rcases lookT_get h with ⟨e', h1, h2⟩ | h1
      · exact .inl ⟨e', List.mem_cons_of_mem _ h1, h2⟩
      · exact .inr h1

theorem lookL_get {cl t : Nat} {bt : List (Nat × Loc)} : ∀ {A : List En} {v : Loc}, lookL cl t bt A = some v → (∃ e ∈ A, bit cl e.i = true ∧ e.ln = some (t, v)) ∨ lk t bt = some v
  | [], v, h => .inr h
  | e :: r, v, h => by
    unfold lookL at h
    split at h
    · rename_i t' v' he
      cases hb : (Nat.beq t t' && bit cl e.i) with
      | true =>
        rw [hb] at h
        rw [Bool.and_eq_true] at hb
        have e1 := Nat.eq_of_beq_eq_true hb.1
        have := Option.some.inj h
        subst this; subst e1
        exact .inl ⟨e, by simp, hb.2, he⟩
      | false =>
        rw [hb] at h
        rcases lookL_get h with ⟨e', h1, h2⟩ | h1
        · exact .inl ⟨e', List.mem_cons_of_mem _ h1, h2⟩
        · exact .inr h1
    · rcases lookL_get h with ⟨e', h1, h2⟩ | h1
      · exact .inl ⟨e', List.mem_cons_of_mem _ h1, h2⟩
      · exact .inr h1

/-- The list of what came up, the last first. -/
def Desc : List En → Prop
  | [] => True
  | e :: r => (∀ e' ∈ r, e'.i < e.i) ∧ Desc r

theorem lookB_get {cl b : Nat} {bt : List (Nat × List PV)} : ∀ {A : List En} {v : List PV}, Desc A → lookB cl b bt A = some v →
    (∃ e ∈ A, bit cl e.i = true ∧ e.bx = some (b, v) ∧ ∀ e' ∈ A, ∀ cs, e'.bx = some (b, cs) → bit cl e'.i = true → e'.i ≤ e.i) ∨ (lk b bt = some v ∧ ∀ e ∈ A, ∀ cs, e.bx = some (b, cs) → bit cl e.i = false)
  | [], v, _, h => .inr ⟨h, fun e he => by simp at he⟩
  | e :: r, v, hd, h => by
    unfold lookB at h
    have go : lookB cl b bt r = some v → (∀ cs, e.bx = some (b, cs) → bit cl e.i = false) →
        (∃ e0 ∈ e :: r, bit cl e0.i = true ∧ e0.bx = some (b, v) ∧ ∀ e' ∈ e :: r, ∀ cs, e'.bx = some (b, cs) → bit cl e'.i = true → e'.i ≤ e0.i) ∨ (lk b bt = some v ∧ ∀ e0 ∈ e :: r, ∀ cs, e0.bx = some (b, cs) → bit cl e0.i = false) := by
      intro h hn
      rcases lookB_get hd.2 h with ⟨e', h1, h2, h3, h4⟩ | ⟨h1, h2⟩
      · refine .inl ⟨e', List.mem_cons_of_mem _ h1, h2, h3, fun e'' he'' cs hcs hbit => ?_⟩
        rcases List.mem_cons.1 he'' with rfl | he''
        · rw [hn cs hcs] at hbit; exact absurd hbit (by simp)
        · exact h4 e'' he'' cs hcs hbit
      · refine .inr ⟨h1, fun e'' he'' cs hcs => ?_⟩
        rcases List.mem_cons.1 he'' with rfl | he''
        · exact hn cs hcs
        · exact h2 e'' he'' cs hcs
    split at h
    · rename_i b' v' he
      cases hb : (Nat.beq b b' && bit cl e.i) with
      | true =>
        rw [hb] at h
        rw [Bool.and_eq_true] at hb
        have e1 := Nat.eq_of_beq_eq_true hb.1
        have := Option.some.inj h
        subst this; subst e1
        refine .inl ⟨e, by simp, hb.2, he, fun e' he' cs _ _ => ?_⟩
        rcases List.mem_cons.1 he' with rfl | he'
        · exact Nat.le_refl _
        · exact Nat.le_of_lt (hd.1 e' he')
      | false =>
        rw [hb] at h
        refine go h (fun cs hcs => ?_)
        rw [he] at hcs
        have := Option.some.inj hcs
        cases this
        cases hq : bit cl e.i with
        | false => rfl
        | true => rw [hq] at hb; simp at hb
    · rename_i he
      exact go h (fun cs hcs => by rw [he] at hcs; exact absurd hcs (by simp))

theorem tauT_get {ws : List (Nat × Nat)} {cls : List Nat} {A : List En} {β : St} {j cl : Nat} : ∀ {looks : List Nat} {t : Nat} {v : AV}, lk t (tauT ws cls A β j cl looks) = some v →
    lookT cl t β.tmps A = some v ∧ ∀ b ∈ avBoxes v, ∃ cs, bxFor ws cls A β j cl b = some cs
  | [], t, v, h => by simp [tauT, lk] at h
  | t0 :: r, t, v, h => by
    unfold tauT at h
    split at h
    · rename_i v0 h0
      cases hb : (avBoxes v0).all (fun b => isSome' (bxFor ws cls A β j cl b)) with
      | false => rw [hb] at h; exact tauT_get h
      | true =>
        rw [hb] at h
        simp only [cond_true, lk_cons] at h
        split at h
        · rename_i e
          have := Option.some.inj h
          subst this; subst e
          exact ⟨h0, fun b hbm => isSome'_iff.1 (List.all_eq_true.1 hb b hbm)⟩
        · exact tauT_get h
    · exact tauT_get h

theorem tauB1_get {ws : List (Nat × Nat)} {cls : List Nat} {A : List En} {β : St} {j cl : Nat} {r : List (Nat × List PV)} (hr : ∀ b cs, lk b r = some cs → bxFor ws cls A β j cl b = some cs) : ∀ {bs : List Nat} {b : Nat} {cs : List PV}, lk b (tauB1 ws cls A β j cl bs r) = some cs → bxFor ws cls A β j cl b = some cs
  | [], b, cs, h => hr b cs h
  | b0 :: bs, b, cs, h => by
    unfold tauB1 at h
    split at h
    · rename_i cs0 h0
      rw [lk_cons] at h
      split at h
      · rename_i e
        have := Option.some.inj h
        subst this; subst e
        exact h0
      · exact tauB1_get hr h
    · exact tauB1_get hr h
theorem tauB1_has {ws : List (Nat × Nat)} {cls : List Nat} {A : List En} {β : St} {j cl : Nat} {r : List (Nat × List PV)} : ∀ {bs : List Nat} {b : Nat}, ((b ∈ bs ∧ ∃ cs, bxFor ws cls A β j cl b = some cs) ∨ ∃ cs, lk b r = some cs) → ∃ cs, lk b (tauB1 ws cls A β j cl bs r) = some cs
  | [], b, h => by
    rcases h with ⟨h, _⟩ | h
    · simp at h
    · exact h
  | b0 :: bs, b, h => by
    unfold tauB1
    split
    · rename_i cs0 h0
      by_cases e : b = b0
      · exact ⟨cs0, by rw [lk_cons, if_pos e]⟩
      · obtain ⟨cs, h1⟩ := tauB1_has (bs := bs) (b := b) (r := r) (ws := ws) (cls := cls) (A := A) (β := β) (j := j) (cl := cl) (by
          rcases h with ⟨h, h'⟩ | h
          · rcases List.mem_cons.1 h with h | h
            · exact absurd h e
            · exact .inl ⟨h, h'⟩
          · exact .inr h)
        exact ⟨cs, by rw [lk_cons, if_neg e]; exact h1⟩
    · rename_i h0
      refine tauB1_has ?_
      rcases h with ⟨h, h'⟩ | h
      · rcases List.mem_cons.1 h with h | h
        · subst h; rw [h0] at h'; exact absurd h' (by simp)
        · exact .inl ⟨h, h'⟩
      · exact .inr h

theorem tauB_get {ws : List (Nat × Nat)} {cls : List Nat} {A : List En} {β : St} {j cl : Nat} : ∀ {l : List (Nat × AV)} {b : Nat} {cs : List PV}, lk b (tauB ws cls A β j cl l) = some cs → bxFor ws cls A β j cl b = some cs
  | [], b, cs, h => by simp [tauB, lk] at h
  | (t, v) :: r, b, cs, h => tauB1_get (fun b cs h => tauB_get h) h
theorem tauB_has {ws : List (Nat × Nat)} {cls : List Nat} {A : List En} {β : St} {j cl : Nat} : ∀ {l : List (Nat × AV)} {t b : Nat} {v : AV}, lk t l = some v → b ∈ avBoxes v → (∃ cs, bxFor ws cls A β j cl b = some cs) → ∃ cs, lk b (tauB ws cls A β j cl l) = some cs
  | [], t, b, v, h, _, _ => by simp [lk] at h
  | (t0, v0) :: r, t, b, v, h, hb, hx => by
    rw [lk_cons] at h
    split at h
    · have := Option.some.inj h
      subst this
      exact tauB1_has (.inl ⟨hb, hx⟩)
    · exact tauB1_has (.inr (tauB_has h hb hx))

theorem tauL_get {cl : Nat} {A : List En} {β : St} {bx : List (Nat × List PV)} : ∀ {looks : List Nat} {t : Nat} {l : Loc}, (t, l) ∈ tauL cl A β bx looks → lookL cl t β.al A = some l ∧ (∀ b c, l = .b b c → ∃ cs, lk b bx = some cs)
  | [], t, l, h => by simp [tauL] at h
  | t0 :: r, t, l, h => by
    unfold tauL at h
    split at h
    · rename_i l0 h0
      cases hb : (match l0 with | .t _ => true | .b b _ => isSome' (lk b bx)) with
      | false => rw [hb] at h; exact tauL_get h
      | true =>
        rw [hb] at h
        simp only [cond_true] at h
        rcases List.mem_cons.1 h with h | h
        · cases h
          refine ⟨h0, fun b c e => ?_⟩
          subst e
          exact isSome'_iff.1 hb
        · exact tauL_get h
    · exact tauL_get h

theorem refsB_mem : ∀ {l : List (Nat × List PV)} {b : Nat} {cs : List PV}, lk b l = some cs → ∀ {y : PV}, y ∈ cs → ∀ {b' : Nat}, refP y = some b' → b' ∈ refsB l
  | [], b, cs, h, _, _, _, _ => by simp [lk] at h
  | (b1, c1) :: r, b, cs, h, y, hy, b', hb' => by
    rw [lk_cons] at h
    split at h
    · have := Option.some.inj h
      subst this
      exact List.mem_append_left _ (refsOf_mem hy hb')
    · exact List.mem_append_right _ (refsB_mem h hy hb')
theorem flatB_get {bx : List (Nat × List PV)} : ∀ {l : List Nat}, flatB bx l = true → ∀ b ∈ l, (∃ cs, lk b bx = some cs) ∧ ∀ cs, lk b bx = some cs → refsOf cs = []
  | [], _, b, hb => by simp at hb
  | b1 :: r, h, b, hb => by
    unfold flatB at h
    split at h
    · rename_i cs hcs
      split at h
      · rename_i hn
        rcases List.mem_cons.1 hb with e | hb
        · subst e
          exact ⟨⟨cs, hcs⟩, fun cs' h' => by rw [hcs] at h'; rw [← Option.some.inj h', hn]⟩
        · exact flatB_get h b hb
      · exact absurd h (by simp)
    · exact absurd h (by simp)
theorem tauB1_old {ws : List (Nat × Nat)} {cls : List Nat} {A : List En} {β : St} {j cl : Nat} {r : List (Nat × List PV)} : ∀ {bs : List Nat} {b : Nat} {cs : List PV}, b ∉ bs → lk b (tauB1 ws cls A β j cl bs r) = some cs → lk b r = some cs
  | [], _, _, _, h => h
  | b1 :: bs, b, cs, hm, h => by
    unfold tauB1 at h
    have h1 : b ≠ b1 := fun e => hm (by rw [e]; exact List.mem_cons_self ..)
    have h2 : b ∉ bs := fun e => hm (List.mem_cons_of_mem _ e)
    split at h
    · rw [lk_cons, if_neg h1] at h
      exact tauB1_old h2 h
    · exact tauB1_old h2 h

theorem tau_ro (ws : List (Nat × Nat)) (cls : List Nat) (A : List En) (β : St) (j cl : Nat) (looks : List Nat) : (tau ws cls A β j cl looks).ro = β.ro := by
  unfold tau tauR
  simp only
  split
  · rfl
  · cases flatB _ _ <;> rfl

/-- What the operation knows holds of the frame in which it comes up. -/
theorem tau_sub {ws : List (Nat × Nat)} {cls : List Nat} {A A' : List En} {S : Nat → Prop} {j : Nat} (hR : RI β A' S ρ) (hA : ∀ e ∈ A, e ∈ A') (hd : Desc A) (hcl : ∀ i, bit (nthN cls j) i = true → S i) (hj : ¬ S j) (hcls : ∀ s, S s → ∀ i, bit (nthN cls s) i = true → S i)
    (hw : ∀ e ∈ A', ∀ b cs, e.bx = some (b, cs) → (e.i, b) ∈ ws) (hA2 : ∀ e ∈ A', bit (nthN cls j) e.i = true → e ∈ A) (looks : List Nat) : Sub (tau ws cls A β j (nthN cls j) looks) ρ := by
  have bxs : ∀ b cs, bxFor ws cls A β j (nthN cls j) b = some cs → lk b ρ.boxes = some cs := by
    intro b cs h
    unfold bxFor at h
    cases hok : okBox ws cls j (nthN cls j) b with
    | false => rw [hok] at h; exact absurd h (by simp)
    | true =>
      rw [hok] at h
      simp only [cond_true] at h
      have hbit : ∀ e ∈ A', ∀ cs', e.bx = some (b, cs') → S e.i → bit (nthN cls j) e.i = true := by
        intro e he cs' hcs hS
        have := List.all_eq_true.1 hok _ (hw e he b cs' hcs)
        simp only [Bool.or_eq_true, Bool.not_eq_true'] at this
        rcases this with ((h1 | h1) | h1) | h1
        · simp at h1
        · exact h1
        · exact absurd (hcls e.i hS j h1) hj
        · have := Nat.eq_of_beq_eq_true h1
          rw [this] at hS
          exact absurd hS hj
      rcases lookB_get hd h with ⟨e, h1, h2, h3, h4⟩ | ⟨h1, h2⟩
      · exact hR.bx e (hA e h1) (hcl _ h2) b cs h3 (fun e' he' cs' hcs' hS => h4 e' (hA2 e' he' (hbit e' he' cs' hcs' hS)) cs' hcs' (hbit e' he' cs' hcs' hS))
      · rw [hR.bx0 b (fun e he cs' hcs' hS => ?_)]
        · exact h1
        · have hb := hbit e he cs' hcs' hS
          have := h2 e (hA2 e he hb) cs' hcs'
          rw [hb] at this
          exact absurd this (by simp)
  have key : ∀ bx : List (Nat × List PV), (∀ b cs, lk b bx = some cs → bxFor ws cls A β j (nthN cls j) b = some cs) → (∀ b cs, lk b (tauB ws cls A β j (nthN cls j) (tauT ws cls A β j (nthN cls j) looks)) = some cs → ∃ cs', lk b bx = some cs') →
      (∀ b cs, lk b bx = some cs → ∀ y ∈ cs, ∀ b', refP y = some b' → ∃ cs', lk b' bx = some cs') → Sub ⟨β.n, tauT ws cls A β j (nthN cls j) looks, bx, β.ro, [], tauL (nthN cls j) A β bx looks⟩ ρ := by
    intro bx h1 h2 h3
    have tms : ∀ t v, lk t (tauT ws cls A β j (nthN cls j) looks) = some v → lk t ρ.tmps = some v ∧ ∀ b ∈ avBoxes v, ∃ cs, lk b bx = some cs := by
      intro t v h
      obtain ⟨q1, q2⟩ := tauT_get h
      refine ⟨?_, fun b hb => by obtain ⟨cs, hcs⟩ := tauB_has h hb (q2 b hb); exact h2 b cs hcs⟩
      rcases lookT_get q1 with ⟨e, e1, e2, e3⟩ | e1
      · exact hR.tm e (hA e e1) (hcl _ e2) t v e3
      · exact hR.tm0 t v e1
    refine ⟨hR.n, fun t v h => (tms t v h).1, fun b cs h => bxs b cs (h1 b cs h), fun b hb => by rw [← hR.ro] at hb; exact hb, fun t b off h => (tms t _ h).2 b (by simp [avBoxes]), fun t f bs h b hb => (tms t _ h).2 b hb, fun l E h => absurd h (by simp [lkL]),
      fun b c E h => absurd h (by simp [lkL]), fun t l h => ?_, fun t b c h => (tauL_get h).2 b c rfl, fun t b off n s h => (tms t _ h).2 b (by simp [avBoxes]), h3⟩
    rcases lookL_get (tauL_get h).1 with ⟨e, e1, e2, e3⟩ | e1
    · exact hR.ln e (hA e e1) (hcl _ e2) t l e3
    · exact hR.al0 t l (lk_mem e1)
  unfold tau tauR
  simp only
  cases hrs : refsB (tauB ws cls A β j (nthN cls j) (tauT ws cls A β j (nthN cls j) looks)) with
  | nil =>
    have hn := hrs
    simp only
    refine key _ (fun b cs h => tauB_get h) (fun b cs h => ⟨cs, h⟩) (fun b cs h y hy b' hb' => ?_)
    have := refsB_mem h hy hb'
    rw [hn] at this
    exact absurd this (by simp)
  | cons r1 rs1 =>
    simp only
    generalize hgrs : r1 :: rs1 = rs at *
    cases hf : flatB (tauB1 ws cls A β j (nthN cls j) rs (tauB ws cls A β j (nthN cls j) (tauT ws cls A β j (nthN cls j) looks))) rs with
    | false =>
      exact ⟨hR.n, fun t v h => absurd h (by simp [lk]), fun b cs h => absurd h (by simp [lk]), fun b hb => by rw [← hR.ro] at hb; exact hb, fun t b off h => absurd h (by simp [lk]), fun t f bs h => absurd h (by simp [lk]), fun l E h => absurd h (by simp [lkL]),
        fun b c E h => absurd h (by simp [lkL]), fun t l h => absurd h (by simp), fun t b c h => absurd h (by simp), fun t b off n s h => absurd h (by simp [lk]), fun b cs h => absurd h (by simp [lk])⟩
    | true =>
      refine key _ (fun b cs h => tauB1_get (fun b cs h => tauB_get h) h) (fun b cs h => tauB1_has (.inr ⟨cs, h⟩)) (fun b cs h y hy b' hb' => ?_)
      by_cases hm : b ∈ rs
      · have := (flatB_get hf b hm).2 cs h
        have h5 := refsOf_mem hy hb'
        rw [this] at h5
        exact absurd h5 (by simp)
      · have h0 := tauB1_old hm h
        have := refsB_mem h0 hy hb'
        rw [hrs] at this
        exact (flatB_get hf b' this).1
end
end Go.Ev
