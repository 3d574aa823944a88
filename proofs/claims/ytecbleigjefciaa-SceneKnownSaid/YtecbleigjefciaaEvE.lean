/- A logic of frames, written for these claims: what a function is known to do is said of what is known of its arguments, in whatever memory; an evaluator of the program's code in that logic, and its soundness. (Part EvE.) -/
import Derived.Test.YtecbleigjefciaaEvD
namespace Go.Ev
open Go.RowKit

/-! The same evaluation, so written that the kernel keeps what it has found. Each 'f..' hands on its argument, taken apart and put together again. -/
section force
universe u
variable {α : Sort u}
def fN (n : Nat) (k : Nat → α) : α := match n with
  | 0 => k 0
  | m + 1 => k (Nat.succ m)
def fI (i : Int) (k : Int → α) : α := match i with
  | .ofNat n => fN n fun n => k (.ofNat n)
  | .negSucc n => fN n fun n => k (.negSucc n)
def fB (b : Bool) (k : Bool → α) : α := match b with
  | true => k true
  | false => k false
def fVal (v : Value) (k : Value → α) : α := match v with
  | .int kd i => fI i fun i => k (.int kd i)
  | .bool b => fB b fun b => k (.bool b)
  | x => k x
def fStr : List UInt8 → (List UInt8 → α) → α
  | [], k => k []
  | x :: r, k => fStr r fun r => k (x :: r)
theorem fN_eq (n : Nat) (k : Nat → α) : fN n k = k n := by cases n <;> rfl
theorem fI_eq (n : Int) (k : Int → α) : fI n k = k n := by cases n <;> simp only [fI, fN_eq]
theorem fB_eq (n : Bool) (k : Bool → α) : fB n k = k n := by cases n <;> rfl
theorem fVal_eq (v : Value) (k : Value → α) : fVal v k = k v := by cases v <;> simp only [fVal, fI_eq, fB_eq]
theorem fStr_eq : ∀ (l : List UInt8) (k : List UInt8 → α), fStr l k = k l
  | [], _ => rfl
  | x :: r, k => by simp only [fStr]; rw [fStr_eq r]

mutual
def fPV : PV → (PV → α) → α
  | .v x, k => fVal x fun x => k (.v x)
  | .str l, k => fStr l fun l => k (.str l)
  | .nil, k => k .nil
  | .lst xs, k => fPLL xs fun xs => k (.lst xs)
  | .lptr cs off, k => fPL cs fun cs => fN off fun off => k (.lptr cs off)
  | .agg cs, k => fPL cs fun cs => k (.agg cs)
  | .tup cs, k => fPL cs fun cs => k (.tup cs)
  | .fn f cs, k => fPL cs fun cs => fN f fun f => k (.fn f cs)
def fPL : List PV → (List PV → α) → α
  | [], k => k []
  | x :: r, k => fPV x fun x => fPL r fun r => k (x :: r)
def fPLL : List (List PV) → (List (List PV) → α) → α
  | [], k => k []
  | x :: r, k => fPL x fun x => fPLL r fun r => k (x :: r)
end
mutual
theorem fPV_eq : ∀ (x : PV) (k : PV → α), fPV x k = k x
  | .v x, k => by simp only [fPV, fVal_eq]
  | .str l, k => by simp only [fPV, fStr_eq]
  | .nil, k => by simp only [fPV]
  | .lst xs, k => by simp only [fPV]; rw [fPLL_eq xs]
  | .lptr cs off, k => by simp only [fPV, fN_eq]; rw [fPL_eq cs]
  | .agg cs, k => by simp only [fPV]; rw [fPL_eq cs]
  | .tup cs, k => by simp only [fPV]; rw [fPL_eq cs]
  | .fn f cs, k => by simp only [fPV, fN_eq]; rw [fPL_eq cs]
theorem fPL_eq : ∀ (x : List PV) (k : List PV → α), fPL x k = k x
  | [], k => by simp only [fPL]
  | x :: r, k => by simp only [fPL]; rw [fPV_eq x, fPL_eq r]
theorem fPLL_eq : ∀ (x : List (List PV)) (k : List (List PV) → α), fPLL x k = k x
  | [], k => by simp only [fPLL]
  | x :: r, k => by simp only [fPLL]; rw [fPL_eq x, fPLL_eq r]
end

def fNs : List Nat → (List Nat → α) → α
  | [], k => k []
  | x :: r, k => fN x fun x => fNs r fun r => k (x :: r)
theorem fNs_eq : ∀ (l : List Nat) (k : List Nat → α), fNs l k = k l
  | [], _ => rfl
  | x :: r, k => by simp only [fNs, fN_eq]; rw [fNs_eq r]
def fAV (a : AV) (k : AV → α) : α := match a with
  | .p x => fPV x fun x => k (.p x)
  | .ptr b off => fN b fun b => fN off fun off => k (.ptr b off)
  | .fnp f bs => fN f fun f => fNs bs fun bs => k (.fnp f bs)
theorem fAV_eq (a : AV) (k : AV → α) : fAV a k = k a := by cases a <;> simp only [fAV, fPV_eq, fN_eq, fNs_eq]
def fLoc (a : Loc) (k : Loc → α) : α := match a with
  | .t t => fN t fun t => k (.t t)
  | .b b c => fN b fun b => fN c fun c => k (.b b c)
theorem fLoc_eq (a : Loc) (k : Loc → α) : fLoc a k = k a := by cases a <;> simp only [fLoc, fN_eq]
def fTop {β : Type} (l : List β) (k : List β → α) : α := match l with
  | [] => k []
  | x :: r => k (x :: r)
theorem fTop_eq {β : Type} (l : List β) (k : List β → α) : fTop l k = k l := by cases l <;> rfl
def fTm : List (Nat × AV) → (List (Nat × AV) → α) → α
  | [], k => k []
  | (t, v) :: r, k => fN t fun t => fAV v fun v => fTm r fun r => k ((t, v) :: r)
theorem fTm_eq : ∀ (l : List (Nat × AV)) (k : List (Nat × AV) → α), fTm l k = k l
  | [], _ => rfl
  | (t, v) :: r, k => by simp only [fTm, fN_eq, fAV_eq]; rw [fTm_eq r]
def fTm1 (l : List (Nat × AV)) (k : List (Nat × AV) → α) : α := match l with
  | [] => k []
  | (t, v) :: r => fN t fun t => fAV v fun v => fTop r fun r => k ((t, v) :: r)
theorem fTm1_eq (l : List (Nat × AV)) (k : List (Nat × AV) → α) : fTm1 l k = k l := by
  match l with
  | [] => rfl
  | (t, v) :: r => simp only [fTm1, fN_eq, fAV_eq, fTop_eq]
def fBx : List (Nat × List PV) → (List (Nat × List PV) → α) → α
  | [], k => k []
  | (t, v) :: r, k => fN t fun t => fPL v fun v => fBx r fun r => k ((t, v) :: r)
theorem fBx_eq : ∀ (l : List (Nat × List PV)) (k : List (Nat × List PV) → α), fBx l k = k l
  | [], _ => rfl
  | (t, v) :: r, k => by simp only [fBx, fN_eq, fPL_eq]; rw [fBx_eq r]
def fBx1 (l : List (Nat × List PV)) (k : List (Nat × List PV) → α) : α := match l with
  | [] => k []
  | (t, v) :: r => fN t fun t => fPL v fun v => fTop r fun r => k ((t, v) :: r)
theorem fBx1_eq (l : List (Nat × List PV)) (k : List (Nat × List PV) → α) : fBx1 l k = k l := by
  match l with
  | [] => rfl
  | (t, v) :: r => simp only [fBx1, fN_eq, fPL_eq, fTop_eq]
def fOw : List (Loc × Nat) → (List (Loc × Nat) → α) → α
  | [], k => k []
  | (t, v) :: r, k => fLoc t fun t => fN v fun v => fOw r fun r => k ((t, v) :: r)
theorem fOw_eq : ∀ (l : List (Loc × Nat)) (k : List (Loc × Nat) → α), fOw l k = k l
  | [], _ => rfl
  | (t, v) :: r, k => by simp only [fOw, fN_eq, fLoc_eq]; rw [fOw_eq r]
def fAl : List (Nat × Loc) → (List (Nat × Loc) → α) → α
  | [], k => k []
  | (t, v) :: r, k => fN t fun t => fLoc v fun v => fAl r fun r => k ((t, v) :: r)
theorem fAl_eq : ∀ (l : List (Nat × Loc)) (k : List (Nat × Loc) → α), fAl l k = k l
  | [], _ => rfl
  | (t, v) :: r, k => by simp only [fAl, fN_eq, fLoc_eq]; rw [fAl_eq r]

def fSt (σ : St) (k : St → α) : α := match σ with
  | ⟨n, tm, bx, ro, ow, al⟩ => fN n fun n => fTm tm fun tm => fBx bx fun bx => fNs ro fun ro => fOw ow fun ow => fAl al fun al => k ⟨n, tm, bx, ro, ow, al⟩
theorem fSt_eq (σ : St) (k : St → α) : fSt σ k = k σ := by cases σ; simp only [fSt, fN_eq, fTm_eq, fBx_eq, fNs_eq, fOw_eq, fAl_eq]
/-- Behind one operation: only what it laid on top. -/
def fSt1 (mem : Bool) (σ : St) (k : St → α) : α := match σ with
  | ⟨n, tm, bx, ro, ow, al⟩ => fN n fun n => fTm1 tm fun tm => (bif mem then fBx1 bx else fTop bx) fun bx => fTop ro fun ro => fOw ow fun ow => fAl al fun al => k ⟨n, tm, bx, ro, ow, al⟩
theorem fSt1_eq (mem : Bool) (σ : St) (k : St → α) : fSt1 mem σ k = k σ := by
  cases σ; cases mem <;> simp only [fSt1, fN_eq, fTm1_eq, cond_true, cond_false, fBx1_eq, fTop_eq, fOw_eq, fAl_eq]
def fEn (e : En) (k : En → α) : α := match e with
  | ⟨i, tm, bx, ln⟩ => fN i fun i =>
    (match tm with
     | none => fun (k : Option (Nat × AV) → α) => k none
     | some (t, v) => fun k => fN t fun t => fAV v fun v => k (some (t, v))) fun tm =>
    (match bx with
     | none => fun (k : Option (Nat × List PV) → α) => k none
     | some (t, v) => fun k => fN t fun t => fPL v fun v => k (some (t, v))) fun bx =>
    (match ln with
     | none => fun (k : Option (Nat × Loc) → α) => k none
     | some (t, v) => fun k => fN t fun t => fLoc v fun v => k (some (t, v))) fun ln => k ⟨i, tm, bx, ln⟩
theorem fEn_eq (e : En) (k : En → α) : fEn e k = k e := by
  obtain ⟨i, tm, bx, ln⟩ := e
  rcases tm with _ | ⟨t, v⟩ <;> rcases bx with _ | ⟨b, cs⟩ <;> rcases ln with _ | ⟨l, x⟩ <;> simp only [fEn, fN_eq, fAV_eq, fPL_eq, fLoc_eq]
end force

def isMem : Op → Bool
  | .alloc _ => true
  | .box _ _ => true
  | .store _ _ _ => true
  | .call _ => true
  | _ => false

def tailsF (T : Nat → St → Oper → Option St) (ops : List Oper) : List Oper → Nat → St → Option St
  | [], _, σ => some σ
  | o :: r, j, σ => match evGuard σ ops o with
    | some true => match T j σ o with
      | some σ1 => fSt1 (isMem o.op) σ1 fun σ1 => tailsF T ops r (j + 1) σ1
      | none => none
    | some false => match o.dst with
      | some d => fSt (dropT σ d) fun σ => tailsF T ops r (j + 1) σ
      | none => tailsF T ops r (j + 1) σ
    | none => none
theorem tailsF_eq (T : Nat → St → Oper → Option St) (ops : List Oper) : ∀ l j σ, tailsF T ops l j σ = tails T ops l j σ
  | [], _, _ => rfl
  | o :: r, j, σ => by
    unfold tailsF tails
    simp only [fSt1_eq, fSt_eq, tailsF_eq T ops r]
    rfl

def freesF (Γ : List (Nat × Ty)) (R : Nat → St → Oper → Option Res) (ops : List Oper) (cls : List Nat) (ws : List (Nat × Nat)) (D Src : List Nat) (β : St) : List Oper → Nat → List En → Option (List En)
  | [], _, A => some A
  | o :: r, j, A => match freeOp Γ R ops cls ws D Src β A j o with
    | some e => fEn e fun e => freesF Γ R ops cls ws D Src β r (j + 1) (e :: A)
    | none => none
theorem freesF_eq {Γ : List (Nat × Ty)} {R : Nat → St → Oper → Option Res} {ops : List Oper} {cls : List Nat} {ws : List (Nat × Nat)} {D Src : List Nat} {β : St} : ∀ l j A, freesF Γ R ops cls ws D Src β l j A = frees Γ R ops cls ws D Src β l j A
  | [], _, _ => rfl
  | o :: r, j, A => by
    unfold freesF frees
    simp only [fEn_eq, freesF_eq r]
    rfl

def fWs {α : Sort _} : List (Nat × Nat) → (List (Nat × Nat) → α) → α
  | [], k => k []
  | (x, y) :: r, k => fN x fun x => fN y fun y => fWs r fun r => k ((x, y) :: r)
theorem fWs_eq {α : Sort _} : ∀ (l : List (Nat × Nat)) (k : List (Nat × Nat) → α), fWs l k = k l
  | [], _ => rfl
  | (x, y) :: r, k => by simp only [fWs, fN_eq]; rw [fWs_eq r]

def evDrawF (Γ : List (Nat × Ty)) (R : Nat → St → Oper → Option Res) (T : Nat → St → Oper → Option St) (ops : List Oper) (σ : St) (ws : List (Nat × Nat)) : Option St :=
  fNs (clsOf ops []) fun cls => fN (tailFrom cls ops.length) fun k => fNs (dstsOf (ops.take k)) fun D => fNs (srcsOf (ops.take k)) fun Src => fWs ws fun ws =>
  bif depsOk ops 0 && nodupB D && ordW cls ws then
    fSt (clearD D Src ws σ) fun β =>
    match freesF Γ R ops cls ws D Src β (ops.take k) 0 [] with
    | some A => fSt (finSt β A) fun σ => tailsF T ops (ops.drop k) k σ
    | none => none
  else none
theorem evDrawF_eq {Γ : List (Nat × Ty)} {R : Nat → St → Oper → Option Res} {T : Nat → St → Oper → Option St} {ops : List Oper} {σ : St} {ws : List (Nat × Nat)} : evDrawF Γ R T ops σ ws = evDraw Γ R T ops σ ws := by
  unfold evDrawF evDraw
  simp only [fNs_eq, fN_eq, fWs_eq, fSt_eq, freesF_eq, tailsF_eq]
  rfl

def exCodeF (Γ : List (Nat × Ty)) (R : Nat → St → Oper → Option Res) (T : Nat → St → Oper → Option St) : Nat → Code → St → Option (Ex × St)
  | 0, _, _ => none
  | n + 1, c, σ => match c with
    | .skip => some (.normal, σ)
    | .label _ => some (.normal, σ)
    | .exit i => some (.exit i, σ)
    | .goto i => some (.goto i, σ)
    | .ret => some (.ret, σ)
    | .region _ ops d => match d with
      | true => let l := ops.toList
        match evDrawF Γ R T l σ (wsOf l σ (l.take (tailFrom (clsOf l []) l.length)) 0) with
        | some σ' => some (.normal, σ')
        | none => none
      | false => match tailsF T ops.toList ops.toList 0 σ with
        | some σ' => some (.normal, σ')
        | none => none
    | .seq x y => match exCodeF Γ R T n x σ with
      | some (.normal, σ1) => exCodeF Γ R T n y σ1
      | r => r
    | .cond c x y => match pvOf σ c with
      | some (.v (.bool true)) => exCodeF Γ R T n x σ
      | some (.v (.bool false)) => exCodeF Γ R T n y σ
      | _ => none
    | .block id c => match exCodeF Γ R T n c σ with
      | some (.exit i, σ1) => some (bif Nat.beq i id then .normal else .exit i, σ1)
      | r => r
    | .loop c => match fSt (clean (newsOf c) σ) fun σ => exCodeF Γ R T n c σ with
      | some (.normal, σ1) => exCodeF Γ R T n (.loop c) σ1
      | r => r
    | _ => none
theorem exCodeF_eq {Γ : List (Nat × Ty)} {R : Nat → St → Oper → Option Res} {T : Nat → St → Oper → Option St} : ∀ n c σ, exCodeF Γ R T n c σ = exCode Γ R T n c σ := by
  intro n
  induction n with
  | zero => intro c σ; simp only [exCodeF, exCode]
  | succ n ih =>
    intro c σ
    cases c <;> simp only [exCodeF, exCode, fSt_eq, ih, evDrawF_eq, tailsF_eq] <;> rfl

def fOut (x : Option PV) : Option PV := match x with
  | some r => fPV r fun r => some r
  | none => none
theorem fOut_eq (x : Option PV) : fOut x = x := by cases x <;> simp only [fOut, fPV_eq]

def exFF (E : Env) (n : Nat) : Nat → CallF × CallP
  | 0 => (fun _ _ => none, fun _ _ _ => none)
  | d + 1 =>
    (fun f args => match lk f E.fns with
      | some fn => match fn.body with
        | some c => bif Nat.ble args.length fn.ntmps then
            match fSt (initSt fn.ntmps args) fun σ => exCodeF E.Γ (RR E (exFF E n d).1) (TT E (exFF E n d).1 (exFF E n d).2) n c σ with
            | some (e, σ') => bif isOut e then
                match evRes E.Γ σ' fn.results.toList with
                | some r => fOut (some (oneOf r))
                | none => none
              else none
            | none => none
          else none
        | none => none
      | none => none,
     fun f cs args => match lk f E.fns with
      | some fn => match fn.body with
        | some c => bif Nat.ble (args.length + 1) fn.ntmps then
            match fSt (initStP fn.ntmps cs args) fun σ => exCodeF E.Γ (RR E (exFF E n d).1) (TT E (exFF E n d).1 (exFF E n d).2) n c σ with
            | some (e, σ') => bif isOut e && !(has fn.ntmps σ'.ro) then
                match evRes E.Γ σ' fn.results.toList, lk fn.ntmps σ'.boxes with
                | some r, some cs' => fPL cs' fun cs' => fPV (oneOf r) fun r => some (r, cs')
                | _, _ => none
              else none
            | none => none
          else none
        | none => none
      | none => none)
theorem exFF_eq (E : Env) (n : Nat) : ∀ d, exFF E n d = exF E n d
  | 0 => rfl
  | d + 1 => by
    unfold exFF exF
    simp only [exFF_eq E n d, fSt_eq, exCodeF_eq, fOut_eq, fPL_eq, fPV_eq]
    rfl

theorem exFF_ok {P : Program} {E : Env} (hE : EnvOk P E) (n d : Nat) : CallOk P (exFF E n d).1 := by
  rw [exFF_eq]
  exact (exF_ok hE n d).1
end Go.Ev
namespace Go.Ev
open Go.RowKit

def vEq : Value → Value → Bool
  | .int k a, .int k' b => decide (k = k') && decide (a = b)
  | .bool a, .bool b => a == b
  | _, _ => false
def sEq : List UInt8 → List UInt8 → Bool
  | [], [] => true
  | a :: r, b :: s => Nat.beq a.toNat b.toNat && sEq r s
  | _, _ => false
mutual
def pvEq : PV → PV → Bool
  | .v x, y => match y with | .v y => vEq x y | _ => false
  | .str l, y => match y with | .str m => sEq l m | _ => false
  | .nil, y => match y with | .nil => true | _ => false
  | .lst xs, y => match y with | .lst ys => pvEqLL xs ys | _ => false
  | .agg xs, y => match y with | .agg ys => pvEqL xs ys | _ => false
  | .tup xs, y => match y with | .tup ys => pvEqL xs ys | _ => false
  | .lptr _ _, _ => false
  | .fn _ _, _ => false
def pvEqL : List PV → List PV → Bool
  | [], l => match l with | [] => true | _ => false
  | x :: r, l => match l with | y :: s => pvEq x y && pvEqL r s | [] => false
def pvEqLL : List (List PV) → List (List PV) → Bool
  | [], l => match l with | [] => true | _ => false
  | x :: r, l => match l with | y :: s => pvEqL x y && pvEqLL r s | [] => false
end

theorem vEq_ok {x y : Value} (h : vEq x y = true) : x = y := by
  unfold vEq at h
  split at h
  · rw [Bool.and_eq_true] at h; rw [of_decide_eq_true h.1, of_decide_eq_true h.2]
  · simp at h; rw [h]
  · exact absurd h (by simp)
theorem sEq_ok : ∀ {x y : List UInt8}, sEq x y = true → x = y
  | [], [], _ => rfl
  | a :: r, b :: s, h => by
    unfold sEq at h
    rw [Bool.and_eq_true] at h
    rw [UInt8.toNat_inj.1 (Nat.eq_of_beq_eq_true h.1), sEq_ok h.2]
  | [], _ :: _, h => by simp [sEq] at h
  | _ :: _, [], h => by simp [sEq] at h
mutual
theorem pvEq_ok : ∀ (x y : PV), pvEq x y = true → x = y
  | .v x, y, h => by
    simp only [pvEq] at h
    split at h
    · rw [vEq_ok h]
    · exact absurd h (by simp)
  | .str l, y, h => by
    simp only [pvEq] at h
    split at h
    · rw [sEq_ok h]
    · exact absurd h (by simp)
  | .nil, y, h => by
    simp only [pvEq] at h
    split at h
    · rfl
    · exact absurd h (by simp)
  | .lst xs, y, h => by
    simp only [pvEq] at h
    split at h
    · rw [pvEqLL_ok xs _ h]
    · exact absurd h (by simp)
  | .agg xs, y, h => by
    simp only [pvEq] at h
    split at h
    · rw [pvEqL_ok xs _ h]
    · exact absurd h (by simp)
  | .tup xs, y, h => by
    simp only [pvEq] at h
    split at h
    · rw [pvEqL_ok xs _ h]
    · exact absurd h (by simp)
  | .lptr _ _, _, h => by simp only [pvEq] at h; exact absurd h (by simp)
  | .fn _ _, _, h => by simp only [pvEq] at h; exact absurd h (by simp)
theorem pvEqL_ok : ∀ (x y : List PV), pvEqL x y = true → x = y
  | [], y, h => by
    simp only [pvEqL] at h
    split at h
    · rfl
    · exact absurd h (by simp)
  | x :: r, l, h => by
    simp only [pvEqL] at h
    split at h
    · rename_i y s
      rw [Bool.and_eq_true] at h
      rw [pvEq_ok x y h.1, pvEqL_ok r s h.2]
    · exact absurd h (by simp)
theorem pvEqLL_ok : ∀ (x y : List (List PV)), pvEqLL x y = true → x = y
  | [], y, h => by
    simp only [pvEqLL] at h
    split at h
    · rfl
    · exact absurd h (by simp)
  | x :: r, l, h => by
    simp only [pvEqLL] at h
    split at h
    · rename_i y s
      rw [Bool.and_eq_true] at h
      rw [pvEqL_ok x y h.1, pvEqLL_ok r s h.2]
    · exact absurd h (by simp)
end

/-- Calls that were shown by themselves. -/
abbrev Tab := List (Nat × List PV × PV)
def tabLk (f : Nat) (args : List PV) : Tab → Option PV
  | [] => none
  | (g, as, r) :: t => bif Nat.beq f g && pvEqL args as then some r else tabLk f args t
def TabOk (P : Program) (t : Tab) : Prop := ∀ f args r, tabLk f args t = some r → Con P f args r
theorem tabOk_nil {P : Program} : TabOk P [] := fun f args r h => by simp [tabLk] at h
theorem tabOk_cons {P : Program} {f : Nat} {args : List PV} {r : PV} {t : Tab} (h : Con P f args r) (ht : TabOk P t) : TabOk P ((f, args, r) :: t) := fun g as q hq => by
  unfold tabLk at hq
  cases hb : (Nat.beq g f && pvEqL as args) with
  | false => rw [hb] at hq; exact ht g as q hq
  | true =>
    rw [hb] at hq
    have := Option.some.inj hq
    subst this
    rw [Bool.and_eq_true] at hb
    rw [Nat.eq_of_beq_eq_true hb.1, pvEqL_ok _ _ hb.2]
    exact h

/-- The same, with calls that are known. -/
def exFT (E : Env) (tab : Tab) (n : Nat) : Nat → CallF × CallP
  | 0 => (fun _ _ => none, fun _ _ _ => none)
  | d + 1 =>
    (fun f args => match tabLk f args tab with
      | some r => some r
      | none => match lk f E.fns with
      | some fn => match fn.body with
        | some c => bif Nat.ble args.length fn.ntmps then
            match fSt (initSt fn.ntmps args) fun σ => exCodeF E.Γ (RR E (exFT E tab n d).1) (TT E (exFT E tab n d).1 (exFT E tab n d).2) n c σ with
            | some (e, σ') => bif isOut e then
                match evRes E.Γ σ' fn.results.toList with
                | some r => fOut (some (oneOf r))
                | none => none
              else none
            | none => none
          else none
        | none => none
      | none => none,
     fun f cs args => match lk f E.fns with
      | some fn => match fn.body with
        | some c => bif Nat.ble (args.length + 1) fn.ntmps then
            match fSt (initStP fn.ntmps cs args) fun σ => exCodeF E.Γ (RR E (exFT E tab n d).1) (TT E (exFT E tab n d).1 (exFT E tab n d).2) n c σ with
            | some (e, σ') => bif isOut e && !(has fn.ntmps σ'.ro) then
                match evRes E.Γ σ' fn.results.toList, lk fn.ntmps σ'.boxes with
                | some r, some cs' => fPL cs' fun cs' => fPV (oneOf r) fun r => some (r, cs')
                | _, _ => none
              else none
            | none => none
          else none
        | none => none
      | none => none)

theorem exFT_ok {P : Program} {E : Env} (hE : EnvOk P E) {tab : Tab} (ht : TabOk P tab) (n : Nat) : ∀ d, CallOk P (exFT E tab n d).1 ∧ CallPOk P (exFT E tab n d).2
  | 0 => ⟨fun f args r h => absurd h (by simp [exFT]), fun f cs args r cs' h => absurd h (by simp [exFT])⟩
  | d + 1 => by
    obtain ⟨h1, h2⟩ := exFT_ok hE ht n d
    have hR := RR_ok hE h1
    have hT := TT_ok hE h1 h2
    refine ⟨fun f args r h => ?_, fun f cs args r cs' h => ?_⟩
    · simp only [exFT, fSt_eq, exCodeF_eq, fOut_eq] at h
      split at h
      · rename_i r0 hr0
        have := Option.some.inj h
        subst this
        exact ht _ _ _ hr0
      · split at h
        · rename_i fn hfn
          obtain ⟨k1, k2⟩ := hE.fns f fn hfn
          split at h
          · rename_i c hc
            cases hb : Nat.ble args.length fn.ntmps with
            | false => rw [hb] at h; exact absurd h (by simp)
            | true =>
              rw [hb] at h
              simp only [cond_true] at h
              split at h
              · rename_i e σ' he
                cases ho : isOut e with
                | false => rw [ho] at h; exact absurd h (by simp)
                | true =>
                  rw [ho] at h
                  simp only [cond_true] at h
                  split at h
                  · rename_i r0 hr
                    have := Option.some.inj h
                    subst this
                    exact con_of hE.Γ k2 k1 hc hb (exCode_sound hE.Γ hE.mixed hR hT n c _ _ _ he).1 ho hr
                  · exact absurd h (by simp)
              · exact absurd h (by simp)
          · exact absurd h (by simp)
        · exact absurd h (by simp)
    · simp only [exFT, fSt_eq, exCodeF_eq, fPL_eq, fPV_eq] at h
      split at h
      · rename_i fn hfn
        obtain ⟨k1, k2⟩ := hE.fns f fn hfn
        split at h
        · rename_i c hc
          cases hb : Nat.ble (args.length + 1) fn.ntmps with
          | false => rw [hb] at h; exact absurd h (by simp)
          | true =>
            rw [hb] at h
            simp only [cond_true] at h
            split at h
            · rename_i e σ' he
              cases ho : (isOut e && !(has fn.ntmps σ'.ro)) with
              | false => rw [ho] at h; exact absurd h (by simp)
              | true =>
                rw [ho] at h
                simp only [cond_true] at h
                rw [Bool.and_eq_true] at ho
                split at h
                · rename_i r0 cs0 hr hcs
                  have := Option.some.inj h
                  cases this
                  exact conP_of hE.Γ k2 k1 hc hb (exCode_sound hE.Γ hE.mixed hR hT n c _ _ _ he).1 ho.1 hr hcs (by simpa using ho.2)
                · exact absurd h (by simp)
            · exact absurd h (by simp)
        · exact absurd h (by simp)
      · exact absurd h (by simp)
end Go.Ev
