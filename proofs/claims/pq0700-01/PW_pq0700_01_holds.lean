import PyProof.Rows.All
import Wide.All
import OpenK.AllK
import Wide.FinOn
import PySem.Challenge.RW_pq0700_01
set_option maxRecDepth 100000
set_option linter.unusedVariables false
set_option Elab.async false

namespace Mine
section

/-- abstract values; lst: a list that nobody changes any more -/
inductive AV where
  | none
  | bool (b : Bool)
  | int (i : Int)
  | sym (k : Nat)
  | str (k : Nat)
  | tup (l : List AV)
  | lst (l : List AV)
  | obj (i : Nat)
  | any

/-- abstract objects -/
inductive AO where
  | list (l : List AV)
  | inst (c : Nat) (d : Nat)
  | ns (fs : List (Nat × AV))
  | tab (f : Nat)
  | pile
  | exc (v : AV)

inductive TR where
  | lf
  | nd (v : AO) (l r : TR)

/-- the store: the objects, how many, how many letters -/
structure Sto where
  t : TR
  n : Nat
  ns : Nat

/-- what a name holds: nothing known, a value -/
inductive SV where
  | un
  | va (v : AV)

structure Fra where
  a0 : SV
  a1 : SV
  a2 : SV
  a3 : SV
  a4 : SV
  a5 : SV
  a6 : SV
  a7 : SV
  a8 : SV
  a9 : SV
  a10 : SV
  a11 : SV

/- forcing -/
noncomputable def fN (n : Nat) (k : Nat → Bool) : Bool := @Nat.rec (fun _ => Bool) (k 0) (fun m _ => k (Nat.succ m)) n
noncomputable def fI (i : Int) (k : Int → Bool) : Bool := @Int.rec (fun _ => Bool) (fun n => @Nat.rec (fun _ => Bool) (k (.ofNat 0)) (fun m _ => k (.ofNat (Nat.succ m))) n) (fun n => @Nat.rec (fun _ => Bool) (k (.negSucc 0)) (fun m _ => k (.negSucc (Nat.succ m))) n) i
noncomputable def ifB (b : Bool) (x y : Bool) : Bool := @Bool.rec (fun _ => Bool) y x b
/- lists -/
noncomputable def nthK {α : Type} (l : List α) : Nat → (α → Bool) → Bool :=
  @List.rec α (fun _ => Nat → (α → Bool) → Bool) (fun _ _ => false) (fun a _ ih i k => @Nat.rec (fun _ => Bool) (k a) (fun m _ => ih m k) i) l
noncomputable def setK {α : Type} (v : α) (l : List α) : Nat → (List α → Bool) → Bool :=
  @List.rec α (fun _ => Nat → (List α → Bool) → Bool) (fun _ _ => false) (fun a l ih i k => @Nat.rec (fun _ => Bool) (k (v :: l)) (fun m _ => ih m fun l' => k (a :: l')) i) l
noncomputable def appK {α : Type} (r : List α) (l : List α) : (List α → Bool) → Bool :=
  @List.rec α (fun _ => (List α → Bool) → Bool) (fun k => k r) (fun a _ ih k => ih fun l' => k (a :: l')) l
/-- the reverse of l ahead of r -/
noncomputable def revK {α : Type} (l : List α) : List α → (List α → Bool) → Bool :=
  @List.rec α (fun _ => List α → (List α → Bool) → Bool) (fun r k => k r) (fun a _ ih r k => ih (a :: r) k) l
noncomputable def takeK {α : Type} (l : List α) : Nat → (List α → Bool) → Bool :=
  @List.rec α (fun _ => Nat → (List α → Bool) → Bool) (fun _ k => k []) (fun a _ ih i k => @Nat.rec (fun _ => Bool) (k []) (fun m _ => ih m fun l' => k (a :: l')) i) l
noncomputable def dropK {α : Type} (l : List α) : Nat → (List α → Bool) → Bool :=
  @List.rec α (fun _ => Nat → (List α → Bool) → Bool) (fun _ k => k []) (fun a l ih i k => @Nat.rec (fun _ => Bool) (k (a :: l)) (fun m _ => ih m k) i) l
/-- the last one off -/
noncomputable def popK {α : Type} (l : List α) : (List α → α → Bool) → Bool :=
  @List.rec α (fun _ => (List α → α → Bool) → Bool) (fun _ => false) (fun a l ih k => @List.rec α (fun _ => Bool) (k [] a) (fun _ _ _ => ih fun l' x => k (a :: l') x) l) l
noncomputable def lenK {α : Type} (l : List α) : Nat → (Nat → Bool) → Bool :=
  @List.rec α (fun _ => Nat → (Nat → Bool) → Bool) (fun n k => k n) (fun _ _ ih n k => fN n fun n => ih (Nat.succ n) k) l
/-- fewer than n items? -/
noncomputable def shortK {α : Type} (l : List α) (x : Bool) : Bool := lenK l 0 fun n => ifB (Nat.blt n 4096) x false
noncomputable def repK {α : Type} (l : List α) (n : Nat) : (List α → Bool) → Bool :=
  @Nat.rec (fun _ => (List α → Bool) → Bool) (fun k => k []) (fun _ ih k => ih fun r => appK r l k) n
noncomputable def rep {α : Type} (l : List α) : Nat → List α
  | 0 => []
  | n + 1 => l ++ rep l n

theorem fN_eq (n : Nat) (k : Nat → Bool) : fN n k = k n := by cases n <;> rfl
theorem fI_eq (i : Int) (k : Int → Bool) : fI i k = k i := by
  cases i with
  | ofNat n => cases n <;> rfl
  | negSucc n => cases n <;> rfl
theorem ifB_eq (b x y : Bool) : ifB b x y = if b then x else y := by cases b <;> rfl
theorem nthK_eq {α : Type} (l : List α) (i : Nat) (k : α → Bool) : nthK l i k = match l[i]? with | some a => k a | none => false := by
  induction l generalizing i with
  | nil => rfl
  | cons a l ih => cases i with
    | zero => rfl
    | succ m => exact ih m
theorem setK_eq {α : Type} (v : α) (l : List α) (i : Nat) (k : List α → Bool) : setK v l i k = if i < l.length then k (l.set i v) else false := by
  induction l generalizing i k with
  | nil => rfl
  | cons a l ih => cases i with
    | zero => rfl
    | succ m =>
      show setK v l m (fun l' => k (a :: l')) = _
      rw [ih]
      simp
theorem appK_eq {α : Type} (r l : List α) (k : List α → Bool) : appK r l k = k (l ++ r) := by
  induction l generalizing k with
  | nil => rfl
  | cons a l ih => exact ih _
theorem revK_eq {α : Type} (l r : List α) (k : List α → Bool) : revK l r k = k (l.reverse ++ r) := by
  induction l generalizing r with
  | nil => rfl
  | cons a l ih =>
    show revK l (a :: r) k = _
    rw [ih]
    simp
theorem takeK_eq {α : Type} (l : List α) (i : Nat) (k : List α → Bool) : takeK l i k = k (l.take i) := by
  induction l generalizing i k with
  | nil => cases i <;> rfl
  | cons a l ih => cases i with
    | zero => rfl
    | succ m => exact ih m _
theorem dropK_eq {α : Type} (l : List α) (i : Nat) (k : List α → Bool) : dropK l i k = k (l.drop i) := by
  induction l generalizing i k with
  | nil => cases i <;> rfl
  | cons a l ih => cases i with
    | zero => rfl
    | succ m => exact ih m _
theorem popK_eq {α : Type} (l : List α) (k : List α → α → Bool) (h : popK l k = true) : ∃ l' x, l = l' ++ [x] ∧ k l' x = true := by
  induction l generalizing k with
  | nil => cases h
  | cons a l ih => cases l with
    | nil => exact ⟨[], a, rfl, h⟩
    | cons b r =>
      obtain ⟨l', x, e, q⟩ := ih (fun l' x => k (a :: l') x) h
      exact ⟨a :: l', x, by rw [e]; rfl, q⟩
theorem lenK_eq {α : Type} (l : List α) (n : Nat) (k : Nat → Bool) : lenK l n k = k (l.length + n) := by
  induction l generalizing n with
  | nil => show k n = _; rw [List.length_nil, Nat.zero_add]
  | cons a l ih =>
    show fN n (fun n => lenK l (Nat.succ n) k) = _
    rw [fN_eq, ih, List.length_cons]
    congr 1
    omega
theorem blt_iff {m n : Nat} : Nat.blt m n = true ↔ m < n := PySem.W.Z.blt_iff
theorem shortK_eq {α : Type} (l : List α) (x : Bool) : shortK l x = true ↔ l.length < 4096 ∧ x = true := by
  unfold shortK
  rw [lenK_eq, ifB_eq, Nat.add_zero]
  by_cases h : l.length < 4096
  · simp [blt_iff.mpr h, h]
  · have : Nat.blt l.length 4096 = false := by
      cases q : Nat.blt l.length 4096 with
      | false => rfl
      | true => exact absurd (blt_iff.mp q) h
    simp [this, h]
theorem repK_eq {α : Type} (l : List α) (n : Nat) (k : List α → Bool) : repK l n k = k (rep l n) := by
  induction n generalizing k with
  | zero => rfl
  | succ n ih =>
    show repK l n (fun r => appK r l k) = _
    rw [ih, appK_eq]
    rfl

/- trees -/
namespace TR
noncomputable def get : TR → Nat → Option AO
  | .lf, _ => none
  | .nd v _ _, 0 => some v
  | .nd _ l r, m + 1 => if m % 2 = 0 then l.get (m / 2) else r.get (m / 2)
noncomputable def getK (t : TR) : Nat → (AO → Bool) → Bool :=
  @TR.rec (fun _ => Nat → (AO → Bool) → Bool) (fun _ _ => false)
    (fun v _ _ ihl ihr i k => @Nat.rec (fun _ => Bool) (k v) (fun m _ => @Nat.rec (fun _ => Bool) (ihl (Nat.div m 2) k) (fun _ _ => ihr (Nat.div m 2) k) (Nat.mod m 2)) i) t
noncomputable def putK (o : AO) (t : TR) : Nat → (TR → Bool) → Bool :=
  @TR.rec (fun _ => Nat → (TR → Bool) → Bool) (fun i k => @Nat.rec (fun _ => Bool) (k (.nd o .lf .lf)) (fun _ _ => false) i)
    (fun v l r ihl ihr i k => @Nat.rec (fun _ => Bool) (k (.nd o l r)) (fun m _ => @Nat.rec (fun _ => Bool) (ihl (Nat.div m 2) fun l' => k (.nd v l' r)) (fun _ _ => ihr (Nat.div m 2) fun r' => k (.nd v l r')) (Nat.mod m 2)) i) t
theorem getK_eq (t : TR) (i : Nat) (k : AO → Bool) : t.getK i k = match t.get i with | some v => k v | none => false := by
  induction t generalizing i k with
  | lf => rfl
  | nd v l r ihl ihr => cases i with
    | zero => rfl
    | succ m =>
      show @Nat.rec (fun _ => Bool) (l.getK (m / 2) k) (fun _ _ => r.getK (m / 2) k) (m % 2) = _
      unfold get
      cases h : m % 2 with
      | zero => exact ihl _ _
      | succ q =>
        rw [if_neg (by omega)]
        exact ihr _ _
theorem get_lf (i : Nat) : TR.lf.get i = none := by cases i <;> rfl
theorem putK_eq (o : AO) (t : TR) (i : Nat) (k : TR → Bool) (h : t.putK o i k = true) : ∃ t', k t' = true ∧ ∀ j, t'.get j = if j = i then some o else t.get j := by
  induction t generalizing i k with
  | lf => cases i with
    | zero =>
      refine ⟨_, h, fun j => ?_⟩
      cases j with
      | zero => rfl
      | succ m => simp [get]
    | succ m => cases h
  | nd v l r ihl ihr => cases i with
    | zero =>
      refine ⟨_, h, fun j => ?_⟩
      cases j with
      | zero => rfl
      | succ m => simp [get]
    | succ m =>
      have h' : @Nat.rec (fun _ => Bool) (l.putK o (m / 2) fun l' => k (.nd v l' r)) (fun _ _ => r.putK o (m / 2) fun r' => k (.nd v l r')) (m % 2) = true := h
      cases hm : m % 2 with
      | zero =>
        rw [hm] at h'
        obtain ⟨l', e, q⟩ := ihl _ _ h'
        refine ⟨_, e, fun j => ?_⟩
        cases j with
        | zero => rfl
        | succ p =>
          show (if p % 2 = 0 then l'.get (p / 2) else r.get (p / 2)) = if p + 1 = m + 1 then some o else if p % 2 = 0 then l.get (p / 2) else r.get (p / 2)
          by_cases hp : p % 2 = 0
          · rw [if_pos hp, if_pos hp, q]
            by_cases e : p = m
            · rw [if_pos (by rw [e]), if_pos (by rw [e])]
            · rw [if_neg (by omega), if_neg (by omega)]
          · rw [if_neg hp, if_neg hp, if_neg (by omega)]
      | succ z =>
        rw [hm] at h'
        obtain ⟨r', e, q⟩ := ihr _ _ h'
        refine ⟨_, e, fun j => ?_⟩
        cases j with
        | zero => rfl
        | succ p =>
          show (if p % 2 = 0 then l.get (p / 2) else r'.get (p / 2)) = if p + 1 = m + 1 then some o else if p % 2 = 0 then l.get (p / 2) else r.get (p / 2)
          by_cases hp : p % 2 = 0
          · rw [if_pos hp, if_pos hp, if_neg (by omega)]
          · rw [if_neg hp, if_neg hp, q]
            by_cases e : p = m
            · rw [if_pos (by rw [e]), if_pos (by rw [e])]
            · rw [if_neg (by omega), if_neg (by omega)]
end TR

/- codes -/
noncomputable abbrev KV := AV → Sto → Bool
noncomputable abbrev KX := Nat → Sto → Bool
noncomputable abbrev KF := Fra → Sto → Bool
noncomputable abbrev CV := Fra → Sto → KV → KX → Bool
noncomputable abbrev CT := Fra → Sto → (Bool → Sto → Bool) → KX → Bool
/-- a statement: what follows it; a return; an exception -/
noncomputable abbrev CX := Fra → Sto → KF → KV → KX → Bool

noncomputable def alloc (o : AO) (σ : Sto) (k : Nat → Sto → Bool) : Bool := @Sto.rec (fun _ => Bool) (fun t n ns => TR.putK o t n fun t => fN n fun i => k i ⟨t, Nat.succ i, ns⟩) σ
noncomputable def getO (i : Nat) (σ : Sto) (k : AO → Bool) : Bool := @Sto.rec (fun _ => Bool) (fun t _ _ => TR.getK t i k) σ
noncomputable def putO (i : Nat) (o : AO) (σ : Sto) (k : Sto → Bool) : Bool := @Sto.rec (fun _ => Bool) (fun t n ns => TR.putK o t i fun t => k ⟨t, n, ns⟩) σ

noncomputable def intK (v : AV) (k : Int → Bool) : Bool := (@AV.rec (fun _ => Bool) (fun _ => Bool) false (fun _ => false) k (fun _ => false) (fun _ => false) (fun _ _ => false) (fun _ _ => false) (fun _ => false) false false (fun _ _ _ _ => false) v)
/-- an int that is not below nought -/
noncomputable def natK (v : AV) (k : Nat → Bool) : Bool := (@AV.rec (fun _ => Bool) (fun _ => Bool) false (fun _ => false) (fun i => @Int.rec (fun _ => Bool) k (fun _ => false) i) (fun _ => false) (fun _ => false) (fun _ _ => false) (fun _ _ => false) (fun _ => false) false false (fun _ _ _ _ => false) v)
/-- a list of the store: where, its items -/
noncomputable def listK (v : AV) (σ : Sto) (k : Nat → List AV → Bool) : Bool := (@AV.rec (fun _ => Bool) (fun _ => Bool) false (fun _ => false) (fun _ => false) (fun _ => false) (fun _ => false) (fun _ _ => false) (fun _ _ => false) (fun i => getO i σ fun o => (@AO.rec (fun _ => Bool) (k i) (fun _ _ => false) (fun _ => false) (fun _ => false) false (fun _ => false) o)) false false (fun _ _ _ _ => false) v)
/-- the items of a list -/
noncomputable def lstK (v : AV) (σ : Sto) (k : List AV → Bool) : Bool := (@AV.rec (fun _ => Bool) (fun _ => Bool) false (fun _ => false) (fun _ => false) (fun _ => false) (fun _ => false) (fun _ _ => false) (fun l _ => k l) (fun i => getO i σ fun o => (@AO.rec (fun _ => Bool) k (fun _ _ => false) (fun _ => false) (fun _ => false) false (fun _ => false) o)) false false (fun _ _ _ _ => false) v)
/-- the items of a list or a tuple -/
noncomputable def itemsK (v : AV) (σ : Sto) (k : List AV → Bool) : Bool := (@AV.rec (fun _ => Bool) (fun _ => Bool) false (fun _ => false) (fun _ => false) (fun _ => false) (fun _ => false) (fun l _ => k l) (fun l _ => k l) (fun i => getO i σ fun o => (@AO.rec (fun _ => Bool) k (fun _ _ => false) (fun _ => false) (fun _ => false) false (fun _ => false) o)) false false (fun _ _ _ _ => false) v)

/-- == of data: yes, no; false where it is not known -/
noncomputable def eqL (ih : AV → AV → Bool → Bool → Bool) (no : Bool) (l : List AV) : List AV → Bool → Bool :=
  @List.rec AV (fun _ => List AV → Bool → Bool) (fun r yes => @List.rec AV (fun _ => Bool) yes (fun _ _ _ => no) r)
    (fun a _ go r yes => @List.rec AV (fun _ => Bool) no (fun b r _ => ih a b (go r yes) no) r) l
noncomputable def aeq (σ : Sto) (n : Nat) : AV → AV → Bool → Bool → Bool :=
  @Nat.rec (fun _ => AV → AV → Bool → Bool → Bool) (fun _ _ _ _ => false) (fun _ ih a b yes no => (@AV.rec (fun _ => Bool) (fun _ => Bool) (@AV.rec (fun _ => Bool) (fun _ => Bool) yes (fun _ => false) (fun _ => no) (fun _ => false) (fun _ => no) (fun l _ => no) (fun _ _ => false) (fun _ => false) false false (fun _ _ _ _ => false) b) (fun _ => false) (fun i => (@AV.rec (fun _ => Bool) (fun _ => Bool) no (fun _ => false) (fun j => ifB (PySem.W.Z.eqB i j) yes no) (fun _ => false) (fun _ => no) (fun l _ => no) (fun _ _ => false) (fun _ => false) false false (fun _ _ _ _ => false) b)) (fun i => (@AV.rec (fun _ => Bool) (fun _ => Bool) false (fun _ => false) (fun _ => false) (fun j => ifB (Nat.beq i j) yes false) (fun _ => false) (fun _ _ => false) (fun _ _ => false) (fun _ => false) false false (fun _ _ _ _ => false) b)) (fun i => (@AV.rec (fun _ => Bool) (fun _ => Bool) no (fun _ => false) (fun _ => no) (fun _ => false) (fun j => ifB (Nat.beq i j) yes no) (fun l _ => no) (fun _ _ => false) (fun _ => false) false false (fun _ _ _ _ => false) b)) (fun l0 _ => (@AV.rec (fun _ => Bool) (fun _ => Bool) no (fun _ => false) (fun _ => no) (fun _ => false) (fun _ => no) (fun l _ => eqL ih no l0 l yes) (fun _ _ => false) (fun _ => false) false false (fun _ _ _ _ => false) b)) (fun l0 _ => (@AV.rec (fun _ => Bool) (fun _ => Bool) false (fun _ => false) (fun _ => false) (fun _ => false) (fun _ => false) (fun _ _ => false) (fun l _ => eqL ih no l0 l yes) (fun i => getO i σ fun o => (@AO.rec (fun _ => Bool) (fun l => eqL ih no l0 l yes) (fun _ _ => false) (fun _ => false) (fun _ => false) false (fun _ => false) o)) false false (fun _ _ _ _ => false) b)) (fun i0 => getO i0 σ fun o => (@AO.rec (fun _ => Bool) (fun l0 => (@AV.rec (fun _ => Bool) (fun _ => Bool) false (fun _ => false) (fun _ => false) (fun _ => false) (fun _ => false) (fun _ _ => false) (fun l _ => eqL ih no l0 l yes) (fun i => getO i σ fun o => (@AO.rec (fun _ => Bool) (fun l => eqL ih no l0 l yes) (fun _ _ => false) (fun _ => false) (fun _ => false) false (fun _ => false) o)) false false (fun _ _ _ _ => false) b)) (fun _ _ => false) (fun _ => false) (fun _ => false) false (fun _ => false) o)) false false (fun _ _ _ _ => false) a)) n
noncomputable def allD (ih : AV → Bool) (l : List AV) : Bool := @List.rec AV (fun _ => Bool) true (fun a _ go => ifB (ih a) go false) l
noncomputable def dataK (σ : Sto) (n : Nat) : AV → Bool :=
  @Nat.rec (fun _ => AV → Bool) (fun _ => false) (fun _ ih a => (@AV.rec (fun _ => Bool) (fun _ => Bool) true (fun _ => false) (fun i => true) (fun i => true) (fun i => Nat.blt i 23) (fun l0 _ => allD ih l0) (fun l0 _ => allD ih l0) (fun i => getO i σ fun o => (@AO.rec (fun _ => Bool) (fun l => allD ih l) (fun _ _ => false) (fun _ => false) (fun _ => false) false (fun _ => false) o)) false false (fun _ _ _ _ => false) a)) n
noncomputable def aeqD (σ : Sto) (a b : AV) (yes no : Bool) : Bool := ifB (dataK σ 8 a) (ifB (dataK σ 8 b) (aeq σ 8 a b yes no) false) false
noncomputable def inL (σ : Sto) (x : AV) (yes no : Bool) (l : List AV) : Bool :=
  @List.rec AV (fun _ => Bool) no (fun y _ ih => aeq σ 8 y x yes ih) l

noncomputable def small (i : Int) : Bool := @Int.rec (fun _ => Bool) (fun n => Nat.blt n 4611686018427387000) (fun n => Nat.blt n 4611686018427387000) i
inductive BO where
  | add | sub | mul | fdiv | fmod
inductive CO where
  | eq | ne | lt | le | gt | ge | is | isin | notin

noncomputable def opAdd (a b : AV) (σ : Sto) (k : KV) : Bool := (@AV.rec (fun _ => Bool) (fun _ => Bool) false (fun _ => false) (fun i => intK b fun j => fI (Int.add i j) fun r => k (.int r) σ) (fun _ => false) (fun _ => false) (fun l0 _ => (@AV.rec (fun _ => Bool) (fun _ => Bool) false (fun _ => false) (fun _ => false) (fun _ => false) (fun _ => false) (fun l _ => shortK l0 (shortK l (appK l l0 fun z => k (.tup z) σ))) (fun _ _ => false) (fun _ => false) false false (fun _ _ _ _ => false) b)) (fun l0 _ => lstK b σ fun l => shortK l0 (shortK l (appK l l0 fun z => k (.lst z) σ))) (fun _ => lstK a σ fun l0 => lstK b σ fun l => shortK l0 (shortK l (appK l l0 fun z => k (.lst z) σ))) false false (fun _ _ _ _ => false) a)
noncomputable def opSub (a b : AV) (σ : Sto) (k : KV) : Bool := intK a fun i => intK b fun j => fI (Int.sub i j) fun r => k (.int r) σ
noncomputable def opMul (a b : AV) (σ : Sto) (k : KV) : Bool := (@AV.rec (fun _ => Bool) (fun _ => Bool) false (fun _ => false) (fun i => intK b fun j => ifB (small i) (ifB (small j) (fI (Int.mul i j) fun r => k (.int r) σ) false) false) (fun _ => false) (fun _ => false) (fun l _ => natK b fun n => ifB (Nat.blt 0 n) (ifB (Nat.blt n 64) (shortK l (repK l n fun z => shortK z (k (.tup z) σ))) false) false) (fun l _ => natK b fun n => ifB (Nat.blt n 64) (shortK l (repK l n fun z => shortK z (k (.lst z) σ))) false) (fun _ => false) false false (fun _ _ _ _ => false) a)
/-- a list times an int: a list of the store -/
noncomputable def mulM (a b : AV) (σ : Sto) (k : KV) : Bool := lstK a σ fun l => natK b fun n => ifB (Nat.blt n 64) (shortK l (repK l n fun z => shortK z (alloc (.list z) σ fun i σ => k (.obj i) σ))) false
noncomputable def opDiv (a b : AV) (σ : Sto) (k : KV) : Bool := intK a fun i => intK b fun j => ifB (small j) (ifB (PySem.W.Z.ltB 0 j) (fI (Int.fdiv i j) fun r => k (.int r) σ) false) false
noncomputable def opMod (a b : AV) (σ : Sto) (k : KV) : Bool := intK a fun i => intK b fun j => ifB (PySem.W.Z.ltB 0 j) (fI (Int.fmod i j) fun r => k (.int r) σ) false
noncomputable def binop (o : BO) : AV → AV → Sto → KV → Bool := @BO.rec (fun _ => AV → AV → Sto → KV → Bool) opAdd opSub opMul opDiv opMod o
noncomputable def cmpI (f : Int → Int → Bool) (a b : AV) (yes no : Bool) : Bool := intK a fun i => intK b fun j => ifB (f i j) yes no
noncomputable def cmpIs (a b : AV) (yes no : Bool) : Bool := (@AV.rec (fun _ => Bool) (fun _ => Bool) (@AV.rec (fun _ => Bool) (fun _ => Bool) yes (fun _ => false) (fun _ => no) (fun _ => false) (fun _ => no) (fun l _ => no) (fun l _ => no) (fun _ => no) false false (fun _ _ _ _ => false) a) (fun _ => false) (fun _ => false) (fun _ => false) (fun _ => false) (fun _ _ => false) (fun _ _ => false) (fun _ => false) false false (fun _ _ _ _ => false) b)
noncomputable def cmpIn (a b : AV) (σ : Sto) (yes no : Bool) : Bool := (@AV.rec (fun _ => Bool) (fun _ => Bool) false (fun _ => false) (fun _ => false) (fun _ => false) (fun _ => false) (fun l _ => ifB (dataK σ 8 a) (ifB (allD (dataK σ 8) l) (inL σ a yes no l) false) false) (fun _ _ => false) (fun _ => false) false false (fun _ _ _ _ => false) b)
noncomputable def cmpop (o : CO) : AV → AV → Sto → Bool → Bool → Bool := @CO.rec (fun _ => AV → AV → Sto → Bool → Bool → Bool)
  (fun a b σ yes no => aeqD σ a b yes no) (fun a b σ yes no => aeqD σ a b no yes)
  (fun a b _ yes no => cmpI PySem.W.Z.ltB a b yes no) (fun a b _ yes no => cmpI PySem.W.Z.leB a b yes no) (fun a b _ yes no => cmpI PySem.W.Z.ltB b a yes no) (fun a b _ yes no => cmpI PySem.W.Z.leB b a yes no)
  (fun a b _ yes no => cmpIs a b yes no) (fun a b σ yes no => cmpIn a b σ yes no) (fun a b σ yes no => cmpIn a b σ no yes) o
noncomputable def truthK (v : AV) (yes no : Bool) : Bool := (@AV.rec (fun _ => Bool) (fun _ => Bool) false (fun b => ifB b yes no) (fun _ => false) (fun _ => false) (fun _ => false) (fun _ _ => false) (fun _ _ => false) (fun _ => false) false false (fun _ _ _ _ => false) v)

/- expressions -/
noncomputable def vNone : CV := fun _ σ k _ => k .none σ
noncomputable def vBool (b : Bool) : CV := fun _ σ k _ => k (.bool b) σ
noncomputable def vInt (i : Int) : CV := fun _ σ k _ => k (.int i) σ
noncomputable def vStr (s : Nat) : CV := fun _ σ k _ => k (.str s) σ
noncomputable def vGlob (v : AV) : CV := fun _ σ k _ => k v σ
noncomputable def v0 : CV := fun fr σ k _ => (@Fra.rec (fun _ => Bool) (fun a0 a1 a2 a3 a4 a5 a6 a7 a8 a9 a10 a11 => @SV.rec (fun _ => Bool) false (fun v => k v σ) a0) fr)
noncomputable def v1 : CV := fun fr σ k _ => (@Fra.rec (fun _ => Bool) (fun a0 a1 a2 a3 a4 a5 a6 a7 a8 a9 a10 a11 => @SV.rec (fun _ => Bool) false (fun v => k v σ) a1) fr)
noncomputable def v2 : CV := fun fr σ k _ => (@Fra.rec (fun _ => Bool) (fun a0 a1 a2 a3 a4 a5 a6 a7 a8 a9 a10 a11 => @SV.rec (fun _ => Bool) false (fun v => k v σ) a2) fr)
noncomputable def v3 : CV := fun fr σ k _ => (@Fra.rec (fun _ => Bool) (fun a0 a1 a2 a3 a4 a5 a6 a7 a8 a9 a10 a11 => @SV.rec (fun _ => Bool) false (fun v => k v σ) a3) fr)
noncomputable def v4 : CV := fun fr σ k _ => (@Fra.rec (fun _ => Bool) (fun a0 a1 a2 a3 a4 a5 a6 a7 a8 a9 a10 a11 => @SV.rec (fun _ => Bool) false (fun v => k v σ) a4) fr)
noncomputable def v5 : CV := fun fr σ k _ => (@Fra.rec (fun _ => Bool) (fun a0 a1 a2 a3 a4 a5 a6 a7 a8 a9 a10 a11 => @SV.rec (fun _ => Bool) false (fun v => k v σ) a5) fr)
noncomputable def v6 : CV := fun fr σ k _ => (@Fra.rec (fun _ => Bool) (fun a0 a1 a2 a3 a4 a5 a6 a7 a8 a9 a10 a11 => @SV.rec (fun _ => Bool) false (fun v => k v σ) a6) fr)
noncomputable def v7 : CV := fun fr σ k _ => (@Fra.rec (fun _ => Bool) (fun a0 a1 a2 a3 a4 a5 a6 a7 a8 a9 a10 a11 => @SV.rec (fun _ => Bool) false (fun v => k v σ) a7) fr)
noncomputable def v8 : CV := fun fr σ k _ => (@Fra.rec (fun _ => Bool) (fun a0 a1 a2 a3 a4 a5 a6 a7 a8 a9 a10 a11 => @SV.rec (fun _ => Bool) false (fun v => k v σ) a8) fr)
noncomputable def v9 : CV := fun fr σ k _ => (@Fra.rec (fun _ => Bool) (fun a0 a1 a2 a3 a4 a5 a6 a7 a8 a9 a10 a11 => @SV.rec (fun _ => Bool) false (fun v => k v σ) a9) fr)
noncomputable def v10 : CV := fun fr σ k _ => (@Fra.rec (fun _ => Bool) (fun a0 a1 a2 a3 a4 a5 a6 a7 a8 a9 a10 a11 => @SV.rec (fun _ => Bool) false (fun v => k v σ) a10) fr)
noncomputable def v11 : CV := fun fr σ k _ => (@Fra.rec (fun _ => Bool) (fun a0 a1 a2 a3 a4 a5 a6 a7 a8 a9 a10 a11 => @SV.rec (fun _ => Bool) false (fun v => k v σ) a11) fr)
noncomputable def vNeg (e : CV) : CV := fun fr σ k x => e fr σ (fun v σ => intK v fun i => fI (Int.neg i) fun r => k (.int r) σ) x
noncomputable def vBin (o : BO) (a b : CV) : CV := fun fr σ k x => a fr σ (fun u σ => b fr σ (fun v σ => binop o u v σ k) x) x
noncomputable def vMulM (a b : CV) : CV := fun fr σ k x => a fr σ (fun u σ => b fr σ (fun v σ => mulM u v σ k) x) x
noncomputable def tCmp (o : CO) (a b : CV) : CT := fun fr σ k x => a fr σ (fun u σ => b fr σ (fun v σ => cmpop o u v σ (k true σ) (k false σ)) x) x
noncomputable def tCmp2 (o p : CO) (a b c : CV) : CT := fun fr σ k x => a fr σ (fun u σ => b fr σ (fun v σ => cmpop o u v σ (c fr σ (fun w σ => cmpop p v w σ (k true σ) (k false σ)) x) (k false σ)) x) x
noncomputable def tNot (e : CT) : CT := fun fr σ k x => e fr σ (fun b σ => @Bool.rec (fun _ => Bool) (k true σ) (k false σ) b) x
noncomputable def tAnd (a b : CT) : CT := fun fr σ k x => a fr σ (fun t σ => @Bool.rec (fun _ => Bool) (k false σ) (b fr σ k x) t) x
noncomputable def tOr (a b : CT) : CT := fun fr σ k x => a fr σ (fun t σ => @Bool.rec (fun _ => Bool) (b fr σ k x) (k true σ) t) x
noncomputable def tT : CT := fun _ σ k _ => k true σ
noncomputable def tVal (e : CV) : CT := fun fr σ k x => e fr σ (fun v σ => truthK v (k true σ) (k false σ)) x
/-- a test's value -/
noncomputable def vTest (e : CT) : CV := fun fr σ k x => e fr σ (fun b σ => k (.bool b) σ) x
/-- `a and b`, `a or b` as values (of bools alone) -/
noncomputable def vAnd (a b : CV) : CV := fun fr σ k x => a fr σ (fun v σ => truthK v (b fr σ k x) (k v σ)) x
noncomputable def vOr (a b : CV) : CV := fun fr σ k x => a fr σ (fun v σ => truthK v (k v σ) (b fr σ k x)) x
noncomputable def vIte (c : CT) (a b : CV) : CV := fun fr σ k x => c fr σ (fun t σ => @Bool.rec (fun _ => Bool) (b fr σ k x) (a fr σ k x) t) x
noncomputable def evs (es : List CV) (fr : Fra) (σ : Sto) (k : List AV → Sto → Bool) (x : KX) : Bool :=
  @List.rec CV (fun _ => Sto → (List AV → Sto → Bool) → Bool) (fun σ k => k [] σ) (fun e _ ih σ k => e fr σ (fun v σ => ih σ fun vs σ => k (v :: vs) σ) x) es σ k
noncomputable def vTup (es : List CV) : CV := fun fr σ k x => evs es fr σ (fun vs σ => k (.tup vs) σ) x
noncomputable def vLst (es : List CV) : CV := fun fr σ k x => evs es fr σ (fun vs σ => k (.lst vs) σ) x
noncomputable def vLstM (es : List CV) : CV := fun fr σ k x => evs es fr σ (fun vs σ => alloc (.list vs) σ fun i σ => k (.obj i) σ) x
noncomputable def vSub (a i : CV) : CV := fun fr σ k x => a fr σ (fun u σ => i fr σ (fun v σ => natK v fun n => ifB (Nat.blt n 4096) (itemsK u σ fun l => nthK l n fun r => k r σ) false) x) x
noncomputable def shortN (l : List AV) (k : Nat → Bool) : Bool := lenK l 0 fun n => ifB (Nat.blt n 4096) (k n) false
/-- t[:i], t[i:] of a tuple, l[i:j] of a list -/
noncomputable def vSlcT (a i : CV) : CV := fun fr σ k x => a fr σ (fun u σ => i fr σ (fun v σ => natK v fun n => (@AV.rec (fun _ => Bool) (fun _ => Bool) false (fun _ => false) (fun _ => false) (fun _ => false) (fun _ => false) (fun l _ => shortN l fun m => ifB (Nat.blt n m) (takeK l n fun r => k (.tup r) σ) false) (fun _ _ => false) (fun _ => false) false false (fun _ _ _ _ => false) u)) x) x
noncomputable def vSlcF (a i : CV) : CV := fun fr σ k x => a fr σ (fun u σ => i fr σ (fun v σ => natK v fun n => (@AV.rec (fun _ => Bool) (fun _ => Bool) false (fun _ => false) (fun _ => false) (fun _ => false) (fun _ => false) (fun l _ => shortN l fun m => ifB (Nat.blt 0 n) (ifB (Nat.blt n (Nat.succ m)) (dropK l n fun r => k (.tup r) σ) false) false) (fun _ _ => false) (fun _ => false) false false (fun _ _ _ _ => false) u)) x) x
noncomputable def vSlcR (a i j : CV) : CV := fun fr σ k x => a fr σ (fun u σ => i fr σ (fun v σ => j fr σ (fun z σ => natK v fun n => natK z fun p => lstK u σ fun l => shortN l fun m => ifB (Nat.blt n (Nat.succ p)) (ifB (Nat.blt p (Nat.succ m)) (dropK l n fun r => takeK r (Nat.sub p n) fun r => k (.lst r) σ) false) false) x) x) x
noncomputable def lookK (a : Nat) (fs : List (Nat × AV)) (k : AV → Bool) : Bool :=
  @List.rec (Nat × AV) (fun _ => Bool) false (fun p _ ih => @Prod.rec Nat AV (fun _ => Bool) (fun b v => ifB (Nat.beq b a) (k v) ih) p) fs
noncomputable def fputK (a : Nat) (v : AV) (fs : List (Nat × AV)) : (List (Nat × AV) → Bool) → Bool :=
  @List.rec (Nat × AV) (fun _ => (List (Nat × AV) → Bool) → Bool) (fun k => k [(a, v)]) (fun p l ih k => @Prod.rec Nat AV (fun _ => Bool) (fun b _ => ifB (Nat.beq b a) (k ((a, v) :: l)) (ih fun l' => k (p :: l'))) p) fs
/-- an own object's class, its dict, the dict's entries -/
noncomputable def instK (v : AV) (σ : Sto) (k : Nat → Nat → List (Nat × AV) → Bool) : Bool := (@AV.rec (fun _ => Bool) (fun _ => Bool) false (fun _ => false) (fun _ => false) (fun _ => false) (fun _ => false) (fun _ _ => false) (fun _ _ => false) (fun i => getO i σ fun o => (@AO.rec (fun _ => Bool) (fun _ => false) (fun c d => getO d σ fun o => (@AO.rec (fun _ => Bool) (fun _ => false) (fun _ _ => false) (k c d) (fun _ => false) false (fun _ => false) o)) (fun _ => false) (fun _ => false) false (fun _ => false) o)) false false (fun _ _ _ _ => false) v)
noncomputable def notAny (v : AV) (x : Bool) : Bool := (@AV.rec (fun _ => Bool) (fun _ => Bool) x (fun _ => x) (fun _ => x) (fun _ => x) (fun _ => x) (fun _ _ => x) (fun _ _ => x) (fun _ => x) false false (fun _ _ _ _ => false) v)
noncomputable def vAtt (a : CV) (n : Nat) : CV := fun fr σ k x => a fr σ (fun u σ => instK u σ fun _ _ fs => lookK n fs fun v => notAny v (k v σ)) x

/- targets -/
noncomputable abbrev TG := AV → Fra → Sto → KF → Bool
noncomputable def g0 : TG := fun v fr σ k => (@Fra.rec (fun _ => Bool) (fun a0 a1 a2 a3 a4 a5 a6 a7 a8 a9 a10 a11 => k ⟨(.va v), a1, a2, a3, a4, a5, a6, a7, a8, a9, a10, a11⟩ σ) fr)
noncomputable def g1 : TG := fun v fr σ k => (@Fra.rec (fun _ => Bool) (fun a0 a1 a2 a3 a4 a5 a6 a7 a8 a9 a10 a11 => k ⟨a0, (.va v), a2, a3, a4, a5, a6, a7, a8, a9, a10, a11⟩ σ) fr)
noncomputable def g2 : TG := fun v fr σ k => (@Fra.rec (fun _ => Bool) (fun a0 a1 a2 a3 a4 a5 a6 a7 a8 a9 a10 a11 => k ⟨a0, a1, (.va v), a3, a4, a5, a6, a7, a8, a9, a10, a11⟩ σ) fr)
noncomputable def g3 : TG := fun v fr σ k => (@Fra.rec (fun _ => Bool) (fun a0 a1 a2 a3 a4 a5 a6 a7 a8 a9 a10 a11 => k ⟨a0, a1, a2, (.va v), a4, a5, a6, a7, a8, a9, a10, a11⟩ σ) fr)
noncomputable def g4 : TG := fun v fr σ k => (@Fra.rec (fun _ => Bool) (fun a0 a1 a2 a3 a4 a5 a6 a7 a8 a9 a10 a11 => k ⟨a0, a1, a2, a3, (.va v), a5, a6, a7, a8, a9, a10, a11⟩ σ) fr)
noncomputable def g5 : TG := fun v fr σ k => (@Fra.rec (fun _ => Bool) (fun a0 a1 a2 a3 a4 a5 a6 a7 a8 a9 a10 a11 => k ⟨a0, a1, a2, a3, a4, (.va v), a6, a7, a8, a9, a10, a11⟩ σ) fr)
noncomputable def g6 : TG := fun v fr σ k => (@Fra.rec (fun _ => Bool) (fun a0 a1 a2 a3 a4 a5 a6 a7 a8 a9 a10 a11 => k ⟨a0, a1, a2, a3, a4, a5, (.va v), a7, a8, a9, a10, a11⟩ σ) fr)
noncomputable def g7 : TG := fun v fr σ k => (@Fra.rec (fun _ => Bool) (fun a0 a1 a2 a3 a4 a5 a6 a7 a8 a9 a10 a11 => k ⟨a0, a1, a2, a3, a4, a5, a6, (.va v), a8, a9, a10, a11⟩ σ) fr)
noncomputable def g8 : TG := fun v fr σ k => (@Fra.rec (fun _ => Bool) (fun a0 a1 a2 a3 a4 a5 a6 a7 a8 a9 a10 a11 => k ⟨a0, a1, a2, a3, a4, a5, a6, a7, (.va v), a9, a10, a11⟩ σ) fr)
noncomputable def g9 : TG := fun v fr σ k => (@Fra.rec (fun _ => Bool) (fun a0 a1 a2 a3 a4 a5 a6 a7 a8 a9 a10 a11 => k ⟨a0, a1, a2, a3, a4, a5, a6, a7, a8, (.va v), a10, a11⟩ σ) fr)
noncomputable def g10 : TG := fun v fr σ k => (@Fra.rec (fun _ => Bool) (fun a0 a1 a2 a3 a4 a5 a6 a7 a8 a9 a10 a11 => k ⟨a0, a1, a2, a3, a4, a5, a6, a7, a8, a9, (.va v), a11⟩ σ) fr)
noncomputable def g11 : TG := fun v fr σ k => (@Fra.rec (fun _ => Bool) (fun a0 a1 a2 a3 a4 a5 a6 a7 a8 a9 a10 a11 => k ⟨a0, a1, a2, a3, a4, a5, a6, a7, a8, a9, a10, (.va v)⟩ σ) fr)
noncomputable def asgs (ts : List TG) : List AV → Fra → Sto → KF → Bool :=
  @List.rec TG (fun _ => List AV → Fra → Sto → KF → Bool) (fun vs fr σ k => @List.rec AV (fun _ => Bool) (k fr σ) (fun _ _ _ => false) vs)
    (fun t _ ih vs fr σ k => @List.rec AV (fun _ => Bool) false (fun v vs _ => t v fr σ fun fr σ => ih vs fr σ k) vs) ts
noncomputable def sameLen {α β : Type} (x : Bool) (ts : List α) : List β → Bool :=
  @List.rec α (fun _ => List β → Bool) (fun vs => @List.rec β (fun _ => Bool) x (fun _ _ _ => false) vs) (fun _ _ ih vs => @List.rec β (fun _ => Bool) false (fun _ vs _ => ih vs) vs) ts
noncomputable def gTup (ts : List TG) : TG := fun v fr σ k => (@AV.rec (fun _ => Bool) (fun _ => Bool) false (fun _ => false) (fun _ => false) (fun _ => false) (fun _ => false) (fun l _ => sameLen (asgs ts l fr σ k) ts l) (fun _ _ => false) (fun _ => false) false false (fun _ _ _ _ => false) v)
noncomputable def gTupR (ts : List TG) : TG := fun v fr σ k => (@AV.rec (fun _ => Bool) (fun _ => Bool) false (fun _ => false) (fun _ => false) (fun _ => false) (fun _ => false) (fun l _ => sameLen (revK l [] fun l => asgs ts l fr σ k) ts l) (fun _ _ => false) (fun _ => false) false false (fun _ _ _ _ => false) v)

/- calls -/
noncomputable def callF (f : CX) (fr : Fra) (σ : Sto) (k : KV) (x : KX) : Bool := f fr σ (fun _ σ => k .none σ) k x
noncomputable def vCall0 (f : CX) : CV := fun fr σ k x => callF f ⟨.un, .un, .un, .un, .un, .un, .un, .un, .un, .un, .un, .un⟩ σ k x
noncomputable def vCall1 (f : CX) (e0 : CV) : CV := fun fr σ k x => e0 fr σ (fun u0 σ => callF f ⟨(.va u0), .un, .un, .un, .un, .un, .un, .un, .un, .un, .un, .un⟩ σ k x) x
noncomputable def vCall2 (f : CX) (e0 e1 : CV) : CV := fun fr σ k x => e0 fr σ (fun u0 σ => e1 fr σ (fun u1 σ => callF f ⟨(.va u0), (.va u1), .un, .un, .un, .un, .un, .un, .un, .un, .un, .un⟩ σ k x) x) x
noncomputable def vCall3 (f : CX) (e0 e1 e2 : CV) : CV := fun fr σ k x => e0 fr σ (fun u0 σ => e1 fr σ (fun u1 σ => e2 fr σ (fun u2 σ => callF f ⟨(.va u0), (.va u1), (.va u2), .un, .un, .un, .un, .un, .un, .un, .un, .un⟩ σ k x) x) x) x
noncomputable def vCall4 (f : CX) (e0 e1 e2 e3 : CV) : CV := fun fr σ k x => e0 fr σ (fun u0 σ => e1 fr σ (fun u1 σ => e2 fr σ (fun u2 σ => e3 fr σ (fun u3 σ => callF f ⟨(.va u0), (.va u1), (.va u2), (.va u3), .un, .un, .un, .un, .un, .un, .un, .un⟩ σ k x) x) x) x) x
noncomputable def vCall5 (f : CX) (e0 e1 e2 e3 e4 : CV) : CV := fun fr σ k x => e0 fr σ (fun u0 σ => e1 fr σ (fun u1 σ => e2 fr σ (fun u2 σ => e3 fr σ (fun u3 σ => e4 fr σ (fun u4 σ => callF f ⟨(.va u0), (.va u1), (.va u2), (.va u3), (.va u4), .un, .un, .un, .un, .un, .un, .un⟩ σ k x) x) x) x) x) x
/-- the last parameter by its default -/
noncomputable def vCallD (f : CX) (d : AV) (e0 : CV) : CV := fun fr σ k x => e0 fr σ (fun u0 σ => callF f ⟨(.va u0), (.va d), .un, .un, .un, .un, .un, .un, .un, .un, .un, .un⟩ σ k x) x
noncomputable def noX : KX := fun _ _ => false
noncomputable def vNew0 (c : Nat) (f : CX) : CV := fun fr σ k _ => alloc (.ns []) σ fun d σ => alloc (.inst c d) σ fun i σ => callF f ⟨(.va (.obj i)), .un, .un, .un, .un, .un, .un, .un, .un, .un, .un, .un⟩ σ (fun v σ => (@AV.rec (fun _ => Bool) (fun _ => Bool) (k (.obj i) σ) (fun _ => false) (fun _ => false) (fun _ => false) (fun _ => false) (fun _ _ => false) (fun _ _ => false) (fun _ => false) false false (fun _ _ _ _ => false) v)) noX
noncomputable def vNew3 (c : Nat) (f : CX) (e0 e1 e2 : CV) : CV := fun fr σ k x => e0 fr σ (fun u0 σ => e1 fr σ (fun u1 σ => e2 fr σ (fun u2 σ => alloc (.ns []) σ fun d σ => alloc (.inst c d) σ fun i σ => callF f ⟨(.va (.obj i)), (.va u0), (.va u1), (.va u2), .un, .un, .un, .un, .un, .un, .un, .un⟩ σ (fun v σ => (@AV.rec (fun _ => Bool) (fun _ => Bool) (k (.obj i) σ) (fun _ => false) (fun _ => false) (fun _ => false) (fun _ => false) (fun _ _ => false) (fun _ _ => false) (fun _ => false) false false (fun _ _ _ _ => false) v)) noX) x) x) x
noncomputable def vMeth1 (o : CV) (c : Nat) (f : CX) (e0 : CV) : CV := fun fr σ k x => o fr σ (fun u σ => instK u σ fun c' _ _ => ifB (Nat.beq c' c) (e0 fr σ (fun u0 σ => callF f ⟨(.va u), (.va u0), .un, .un, .un, .un, .un, .un, .un, .un, .un, .un⟩ σ k x) x) false) x
noncomputable def vMeth3 (o : CV) (c : Nat) (f : CX) (e0 e1 e2 : CV) : CV := fun fr σ k x => o fr σ (fun u σ => instK u σ fun c' _ _ => ifB (Nat.beq c' c) (e0 fr σ (fun u0 σ => e1 fr σ (fun u1 σ => e2 fr σ (fun u2 σ => callF f ⟨(.va u), (.va u0), (.va u1), (.va u2), .un, .un, .un, .un, .un, .un, .un, .un⟩ σ k x) x) x) x) false) x
noncomputable def vExc (e : CV) : CV := fun fr σ k x => e fr σ (fun v σ => alloc (.exc (.lst [v])) σ fun i σ => k (.obj i) σ) x
noncomputable def vAppend (o a : CV) : CV := fun fr σ k x => o fr σ (fun u σ => lstK u σ fun _ => a fr σ (fun v σ => listK u σ fun i l => shortK l (appK [v] l fun r => putO i (.list r) σ fun σ => k .none σ)) x) x
noncomputable def vExtend (o a : CV) : CV := fun fr σ k x => o fr σ (fun u σ => lstK u σ fun _ => a fr σ (fun v σ => (@AV.rec (fun _ => Bool) (fun _ => Bool) false (fun _ => false) (fun _ => false) (fun _ => false) (fun _ => false) (fun _ _ => false) (fun l _ => listK u σ fun i l0 => shortK l0 (shortK l (appK l l0 fun z => putO i (.list z) σ fun σ => k .none σ))) (fun _ => false) false false (fun _ _ _ _ => false) v)) x) x
noncomputable def vPop (o : CV) : CV := fun fr σ k x => o fr σ (fun u σ => listK u σ fun i l => shortK l (popK l fun r v => putO i (.list r) σ fun σ => k v σ)) x
noncomputable def findK (σ : Sto) (v : AV) (l : List AV) : Nat → (Nat → Bool) → Bool :=
  @List.rec AV (fun _ => Nat → (Nat → Bool) → Bool) (fun _ _ => false) (fun y _ ih n k => aeq σ 8 y v (k n) (fN n fun n => ih (Nat.succ n) k)) l
noncomputable def vIndex (o a : CV) : CV := fun fr σ k x => o fr σ (fun u σ => lstK u σ fun _ => a fr σ (fun v σ => lstK u σ fun l => shortK l (ifB (dataK σ 8 v) (ifB (allD (dataK σ 8) l) (findK σ v l 0 fun n => k (.int (.ofNat n)) σ) false) false)) x) x
noncomputable def vEncode (o : CV) : CV := fun fr σ k x => o fr σ (fun u σ => (@AV.rec (fun _ => Bool) (fun _ => Bool) false (fun _ => false) (fun _ => false) (fun _ => false) (fun _ => k .any σ) (fun _ _ => false) (fun _ _ => false) (fun _ => false) false false (fun _ _ _ _ => false) u)) x
noncomputable def vLen (e : CV) : CV := fun fr σ k x => e fr σ (fun u σ => itemsK u σ fun l => lenK l 0 fun n => ifB (Nat.blt n 4096) (k (.int (.ofNat n)) σ) false) x
noncomputable def rangeL (lo : Int) : Nat → List AV
  | 0 => []
  | n + 1 => .int lo :: rangeL (lo + 1) n
noncomputable def rangeK (n : Nat) : Int → (List AV → Bool) → Bool :=
  @Nat.rec (fun _ => Int → (List AV → Bool) → Bool) (fun _ k => k []) (fun _ ih lo k => fI (Int.add lo 1) fun lo' => ih lo' fun l => k (.int lo :: l)) n
noncomputable def natOf (i : Int) : Nat := @Int.rec (fun _ => Nat) (fun n => n) (fun _ => 0) i
/-- the bounds of a range -/
noncomputable def boundsK (a : Option CV) (b : CV) (fr : Fra) (σ : Sto) (k : Int → Nat → Sto → Bool) (x : KX) : Bool :=
  @Option.rec CV (fun _ => Bool) (b fr σ (fun v σ => intK v fun j => ifB (small j) (ifB (Nat.blt (natOf j) 4096) (fN (natOf j) fun n => k 0 n σ) false) false) x)
    (fun a => a fr σ (fun u σ => b fr σ (fun v σ => intK u fun i => intK v fun j => ifB (small i) (ifB (small j) (ifB (Nat.blt (natOf (Int.sub j i)) 4096) (fN (natOf (Int.sub j i)) fun n => k i n σ) false) false) false) x) x) a
noncomputable def vLrng (a : Option CV) (b : CV) : CV := fun fr σ k x => boundsK a b fr σ (fun lo n σ => rangeK n lo fun l => k (.lst l) σ) x
noncomputable def vMklstM (e : CV) : CV := fun fr σ k x => e fr σ (fun u σ => itemsK u σ fun l => shortK l (alloc (.list l) σ fun i σ => k (.obj i) σ)) x
noncomputable def vMktup (e : CV) : CV := fun fr σ k x => e fr σ (fun u σ => itemsK u σ fun l => shortK l (k (.tup l) σ)) x
noncomputable def sumK (l : List AV) : Int → (Int → Bool) → Bool :=
  @List.rec AV (fun _ => Int → (Int → Bool) → Bool) (fun s k => k s) (fun v _ ih s k => intK v fun i => fI (Int.add s i) fun r => ih r k) l
noncomputable def vSum (e : CV) : CV := fun fr σ k x => e fr σ (fun u σ => itemsK u σ fun l => shortK l (sumK l 0 fun s => k (.int s) σ)) x
noncomputable def vBegin (e : CV) : CV := fun fr σ k x => e fr σ (fun _ σ => alloc .pile σ fun i σ => k (.obj i) σ) x
/-- for every draw below n -/
noncomputable def allN (n : Nat) : (Nat → Bool) → Bool :=
  @Nat.rec (fun _ => (Nat → Bool) → Bool) (fun _ => true) (fun m ih p => ifB (p m) (ih p) false) n
noncomputable def pileK (u : AV) (σ : Sto) (k : Bool) : Bool := (@AV.rec (fun _ => Bool) (fun _ => Bool) false (fun _ => false) (fun _ => false) (fun _ => false) (fun _ => false) (fun _ _ => false) (fun _ _ => false) (fun i => getO i σ fun o => (@AO.rec (fun _ => Bool) (fun _ => false) (fun _ _ => false) (fun _ => false) (fun _ => false) k (fun _ => false) o)) false false (fun _ _ _ _ => false) u)
noncomputable def vNext (p m : CV) : CV := fun fr σ k x => p fr σ (fun u σ => m fr σ (fun v σ => natK v fun n => pileK u σ (ifB (Nat.blt n 64) (ifB (Nat.blt 0 n) (allN n fun d => fN d fun d => k (.int (.ofNat d)) σ) false)
  (ifB (Nat.blt n 4096) (@Sto.rec (fun _ => Bool) (fun t m j => fN j fun j => k (.sym j) ⟨t, m, Nat.succ j⟩) σ) false))) x) x
/-- `_law_next(p, m) > 0` -/
noncomputable def tNextPos (p m : CV) : CT := fun fr σ k x => p fr σ (fun u σ => m fr σ (fun v σ => natK v fun n => pileK u σ (ifB (Nat.blt 0 n) (ifB (Nat.blt n 4096) (ifB (k false σ) (k true σ) false) false) false)) x) x
/-- _law_thrown(lambda: body): cp makes the lambda's frame -/
noncomputable def vThrown (tab : Nat) (cp : Fra → (Fra → Bool) → Bool) (body : CV) : CV := fun fr σ k _ => getO tab σ fun o => (@AO.rec (fun _ => Bool) (fun _ => false) (fun _ _ => false) (fun _ => false) (fun f => ifB (Nat.beq f tab) (cp fr fun fr => body fr σ (fun _ σ => k .none σ) (fun i σ => getO i σ fun o => (@AO.rec (fun _ => Bool) (fun _ => false) (fun _ _ => false) (fun _ => false) (fun _ => false) false (fun v => (@AV.rec (fun _ => Bool) (fun _ => Bool) false (fun _ => false) (fun _ => false) (fun _ => false) (fun _ => false) (fun l _ => @List.rec AV (fun _ => Bool) false (fun _ l _ => @List.rec AV (fun _ => Bool) false (fun v l _ => @List.rec AV (fun _ => Bool) false (fun y l _ => @List.rec AV (fun _ => Bool) ((@AV.rec (fun _ => Bool) (fun _ => Bool) false (fun _ => false) (fun _ => false) (fun _ => false) (fun _ => false) (fun l _ => @List.rec AV (fun _ => Bool) false (fun _ l _ => @List.rec AV (fun _ => Bool) false (fun a _ _ => k (.tup [a, y]) σ) l) l) (fun _ _ => false) (fun _ => false) false false (fun _ _ _ _ => false) v)) (fun _ _ _ => false) l) l) l) l) (fun _ _ => false) (fun _ => false) false false (fun _ _ _ _ => false) v)) o))) false) false (fun _ => false) o)

/- iterators -/
inductive Bs where
  | lst (i k : Nat)
  | seq (l : List AV)
inductive IT where
  | b (x : Bs)
  | rng (lo : Int) (n : Nat)
  | zip (l : List Bs)
  | enm (x : Bs) (k : Int)
/-- the next item of one; the end -/
noncomputable def bsK (x : Bs) (σ : Sto) (k : AV → Bs → Bool) (e : Bool) : Bool := @Bs.rec (fun _ => Bool)
  (fun i m => getO i σ fun o => (@AO.rec (fun _ => Bool) (fun l => lenK l 0 fun n => ifB (Nat.blt m n) (nthK l m fun v => k v (.lst i (Nat.succ m))) e) (fun _ _ => false) (fun _ => false) (fun _ => false) false (fun _ => false) o))
  (fun l => @List.rec AV (fun _ => Bool) e (fun v l _ => k v (.seq l)) l) x
noncomputable def bssK (σ : Sto) (e : Bool) (l : List Bs) : (List AV → List Bs → Bool) → Bool :=
  @List.rec Bs (fun _ => (List AV → List Bs → Bool) → Bool) (fun k => k [] []) (fun x _ ih k => bsK x σ (fun v x' => ih fun vs xs => k (v :: vs) (x' :: xs)) e) l
noncomputable def itK (it : IT) (σ : Sto) (k : AV → IT → Bool) (e : Bool) : Bool := @IT.rec (fun _ => Bool)
  (fun x => bsK x σ (fun v x => k v (.b x)) e)
  (fun lo n => @Nat.rec (fun _ => Bool) e (fun m _ => fI (Int.add lo 1) fun lo' => k (.int lo) (.rng lo' m)) n)
  (fun l => bssK σ e l fun vs l => k (.tup vs) (.zip l))
  (fun x n => bsK x σ (fun v x => fI (Int.add n 1) fun n' => k (.tup [.int n, v]) (.enm x n')) e) it
noncomputable def baseK (v : AV) (σ : Sto) (k : Bs → Bool) : Bool := (@AV.rec (fun _ => Bool) (fun _ => Bool) false (fun _ => false) (fun _ => false) (fun _ => false) (fun _ => false) (fun l _ => k (.seq l)) (fun l _ => k (.seq l)) (fun i => getO i σ fun o => (@AO.rec (fun _ => Bool) (fun _ => k (.lst i 0)) (fun _ _ => false) (fun _ => false) (fun _ => false) false (fun _ => false) o)) false false (fun _ _ _ _ => false) v)
noncomputable def basesK (σ : Sto) (l : List AV) : (List Bs → Bool) → Bool :=
  @List.rec AV (fun _ => (List Bs → Bool) → Bool) (fun k => k []) (fun v _ ih k => baseK v σ fun b => ih fun bs => k (b :: bs)) l
noncomputable abbrev CI := Fra → Sto → (IT → Sto → Bool) → KX → Bool
noncomputable def iEx (e : CV) : CI := fun fr σ k x => e fr σ (fun v σ => baseK v σ fun b => k (.b b) σ) x
noncomputable def iZip (es : List CV) : CI := fun fr σ k x => evs es fr σ (fun vs σ => basesK σ vs fun bs => k (.zip bs) σ) x
noncomputable def iEnm (e : CV) : CI := fun fr σ k x => e fr σ (fun v σ => baseK v σ fun b => k (.enm b 0) σ) x
noncomputable def iRng (a : Option CV) (b : CV) : CI := fun fr σ k x => boundsK a b fr σ (fun lo n σ => k (.rng lo n) σ) x

/-- the turns of a for -/
noncomputable def loopF (t : TG) (body : CX) (n : Nat) : IT → Fra → Sto → KF → KV → Bool :=
  @Nat.rec (fun _ => IT → Fra → Sto → KF → KV → Bool) (fun _ _ _ _ _ => false)
    (fun _ ih it fr σ k r => itK it σ (fun v it' => t v fr σ fun fr σ => body fr σ (fun fr σ => ih it' fr σ k r) r noX) (k fr σ)) n

/-- what a comprehension does in its innermost place: the frame; what is gathered so far (the last first) -/
noncomputable abbrev KC := Fra → List AV → Sto → Bool
noncomputable abbrev CB := Fra → List AV → Sto → KC → Bool
noncomputable def loopC (t : TG) (ifs : CT) (body : CB) (n : Nat) : IT → CB :=
  @Nat.rec (fun _ => IT → CB) (fun _ _ _ _ _ => false)
    (fun _ ih it fr acc σ k => itK it σ (fun v it' => t v fr σ fun fr σ => ifs fr σ (fun b σ => @Bool.rec (fun _ => Bool) (ih it' fr acc σ k) (body fr acc σ fun fr acc σ => ih it' fr acc σ k) b) noX) (k fr acc σ)) n
noncomputable def bElt (e : CV) : CB := fun fr acc σ k => e fr σ (fun v σ => k fr (v :: acc) σ) noX
noncomputable def bGen (it : CI) (t : TG) (ifs : CT) (body : CB) : CB := fun fr acc σ k => it fr σ (fun i σ => loopC t ifs body 64 i fr acc σ k) noX
/-- [.. for t in it if ifs ..]; cp makes its frame -/
noncomputable def vComp (cp : Fra → (Fra → Bool) → Bool) (it : CI) (t : TG) (ifs : CT) (body : CB) : CV := fun fr σ k x =>
  it fr σ (fun i σ => cp fr fun fr => loopC t ifs body 64 i fr [] σ fun _ acc σ => revK acc [] fun l => k (.lst l) σ) x

/- statements -/
noncomputable def xNil : CX := fun fr σ k _ _ => k fr σ
noncomputable def xThen (s rest : CX) : CX := fun fr σ k r x => s fr σ (fun fr σ => rest fr σ k r x) r x
noncomputable def xExpr (e : CV) : CX := fun fr σ k _ x => e fr σ (fun v σ => (@AV.rec (fun _ => Bool) (fun _ => Bool) (k fr σ) (fun _ => false) (fun _ => false) (fun _ => false) (fun _ => false) (fun _ _ => false) (fun _ _ => false) (fun _ => false) false false (fun _ _ _ _ => false) v)) x
noncomputable def xRet (e : CV) : CX := fun fr σ _ r x => e fr σ r x
noncomputable def xAsg (t : TG) (e : CV) : CX := fun fr σ k _ x => e fr σ (fun v σ => t v fr σ k) x
noncomputable def xAsgA (o : CV) (n : Nat) (e : CV) : CX := fun fr σ k _ x => e fr σ (fun v σ => o fr σ (fun u σ => instK u σ fun _ d fs => lenK fs 0 fun q => ifB (Nat.blt q 64) (fputK n v fs fun fs => putO d (.ns fs) σ fun σ => k fr σ) false) x) x
noncomputable def xAsgI (o i : CV) (e : CV) : CX := fun fr σ k _ x => e fr σ (fun v σ => o fr σ (fun u σ => i fr σ (fun w σ => natK w fun n => listK u σ fun j l => shortK l (setK v l n fun l => putO j (.list l) σ fun σ => k fr σ)) x) x) x
noncomputable def xIf (c : CT) (a b : CX) : CX := fun fr σ k r x => c fr σ (fun t σ => @Bool.rec (fun _ => Bool) (b fr σ k r x) (a fr σ k r x) t) x
noncomputable def xFor (t : TG) (it : CI) (body : CX) : CX := fun fr σ k r x => it fr σ (fun i σ => loopF t body 64 i fr σ k r) x
noncomputable def xRaise (e : CV) : CX := fun fr σ _ _ x => e fr σ (fun v σ => (@AV.rec (fun _ => Bool) (fun _ => Bool) false (fun _ => false) (fun _ => false) (fun _ => false) (fun _ => false) (fun _ _ => false) (fun _ _ => false) (fun i => getO i σ fun o => (@AO.rec (fun _ => Bool) (fun _ => false) (fun _ _ => false) (fun _ => false) (fun _ => false) false (fun v => (@AV.rec (fun _ => Bool) (fun _ => Bool) false (fun _ => false) (fun _ => false) (fun _ => false) (fun _ => false) (fun _ _ => false) (fun l _ => @List.rec AV (fun _ => Bool) false (fun w r _ => @List.rec AV (fun _ => Bool) ((@AV.rec (fun _ => Bool) (fun _ => Bool) false (fun _ => false) (fun _ => false) (fun _ => false) (fun _ => false) (fun l _ => putO i (.exc (.tup l)) σ fun σ => x i σ) (fun _ _ => false) (fun _ => false) false false (fun _ _ _ _ => false) w)) (fun _ _ _ => false) r) l) (fun _ => false) false false (fun _ _ _ _ => false) v)) o)) false false (fun _ _ _ _ => false) v)) x
noncomputable def xBad : CX := fun _ _ _ _ _ => false
end
end Mine
namespace Mine
section
open PySem PySem.W PyProof.Rows

/- the same data, to the sign -/
noncomputable def eqLs (ih : AV → AV → Bool) (l : List AV) : List AV → Bool :=
  @List.rec AV (fun _ => List AV → Bool) (fun r => @List.rec AV (fun _ => Bool) true (fun _ _ _ => false) r) (fun a _ go r => @List.rec AV (fun _ => Bool) false (fun b t _ => ifB (ih a b) (go t) false) r) l
noncomputable def eqV (n : Nat) : AV → AV → Bool :=
  @Nat.rec (fun _ => AV → AV → Bool) (fun _ _ => false) (fun _ ih a b => (@AV.rec (fun _ => Bool) (fun _ => Bool) (@AV.rec (fun _ => Bool) (fun _ => Bool) true (fun _ => false) (fun _ => false) (fun _ => false) (fun _ => false) (fun _ _ => false) (fun _ _ => false) (fun _ => false) false false (fun _ _ _ _ => false) b) (fun x => (@AV.rec (fun _ => Bool) (fun _ => Bool) false (fun y => ifB x y (ifB y false true)) (fun _ => false) (fun _ => false) (fun _ => false) (fun _ _ => false) (fun _ _ => false) (fun _ => false) false false (fun _ _ _ _ => false) b)) (fun i => (@AV.rec (fun _ => Bool) (fun _ => Bool) false (fun _ => false) (fun j => PySem.W.Z.eqB i j) (fun _ => false) (fun _ => false) (fun _ _ => false) (fun _ _ => false) (fun _ => false) false false (fun _ _ _ _ => false) b)) (fun i => (@AV.rec (fun _ => Bool) (fun _ => Bool) false (fun _ => false) (fun _ => false) (fun j => Nat.beq i j) (fun _ => false) (fun _ _ => false) (fun _ _ => false) (fun _ => false) false false (fun _ _ _ _ => false) b)) (fun i => (@AV.rec (fun _ => Bool) (fun _ => Bool) false (fun _ => false) (fun _ => false) (fun _ => false) (fun j => Nat.beq i j) (fun _ _ => false) (fun _ _ => false) (fun _ => false) false false (fun _ _ _ _ => false) b)) (fun l0 _ => (@AV.rec (fun _ => Bool) (fun _ => Bool) false (fun _ => false) (fun _ => false) (fun _ => false) (fun _ => false) (fun l _ => eqLs ih l0 l) (fun _ _ => false) (fun _ => false) false false (fun _ _ _ _ => false) b)) (fun l0 _ => (@AV.rec (fun _ => Bool) (fun _ => Bool) false (fun _ => false) (fun _ => false) (fun _ => false) (fun _ => false) (fun _ _ => false) (fun l _ => eqLs ih l0 l) (fun _ => false) false false (fun _ _ _ _ => false) b)) (fun i => (@AV.rec (fun _ => Bool) (fun _ => Bool) false (fun _ => false) (fun _ => false) (fun _ => false) (fun _ => false) (fun _ _ => false) (fun _ _ => false) (fun j => Nat.beq i j) false false (fun _ _ _ _ => false) b)) (@AV.rec (fun _ => Bool) (fun _ => Bool) false (fun _ => false) (fun _ => false) (fun _ => false) (fun _ => false) (fun _ _ => false) (fun _ _ => false) (fun _ => false) true false (fun _ _ _ _ => false) b) false (fun _ _ _ _ => false) a)) n
noncomputable def eqFs (l : List (Nat × AV)) : List (Nat × AV) → Bool :=
  @List.rec (Nat × AV) (fun _ => List (Nat × AV) → Bool) (fun r => @List.rec (Nat × AV) (fun _ => Bool) true (fun _ _ _ => false) r) (fun a _ go r => @List.rec (Nat × AV) (fun _ => Bool) false (fun b t _ => ifB (Nat.beq a.1 b.1) (ifB (eqV 8 a.2 b.2) (go t) false) false) r) l
noncomputable def eqO (a b : AO) : Bool := (@AO.rec (fun _ => Bool) (fun l => (@AO.rec (fun _ => Bool) (fun r => eqLs (eqV 8) l r) (fun _ _ => false) (fun _ => false) (fun _ => false) false (fun _ => false) b)) (fun c d => (@AO.rec (fun _ => Bool) (fun _ => false) (fun c2 d2 => ifB (Nat.beq c c2) (Nat.beq d d2) false) (fun _ => false) (fun _ => false) false (fun _ => false) b)) (fun l => (@AO.rec (fun _ => Bool) (fun _ => false) (fun _ _ => false) (fun r => eqFs l r) (fun _ => false) false (fun _ => false) b)) (fun i => (@AO.rec (fun _ => Bool) (fun _ => false) (fun _ _ => false) (fun _ => false) (fun j => Nat.beq i j) false (fun _ => false) b)) (@AO.rec (fun _ => Bool) (fun _ => false) (fun _ _ => false) (fun _ => false) (fun _ => false) true (fun _ => false) b) (fun v => (@AO.rec (fun _ => Bool) (fun _ => false) (fun _ _ => false) (fun _ => false) (fun _ => false) false (fun w => eqV 8 v w) b)) a)
noncomputable def sameT (t : TR) : TR → Bool :=
  @TR.rec (fun _ => TR → Bool) (fun _ => true) (fun v _ _ ihl ihr t => @TR.rec (fun _ => Bool) false (fun v' l' r' _ _ => ifB (eqO v v') (ifB (ihl l') (ihr r') false) false) t) t
noncomputable def sameV (a b : SV) : Bool := @SV.rec (fun _ => Bool) true (fun v => @SV.rec (fun _ => Bool) false (fun w => eqV 8 v w) b) a
noncomputable def sameF (f g : Fra) : Bool := (@Fra.rec (fun _ => Bool) (fun a0 a1 a2 a3 a4 a5 a6 a7 a8 a9 a10 a11 => (@Fra.rec (fun _ => Bool) (fun b0 b1 b2 b3 b4 b5 b6 b7 b8 b9 b10 b11 => ifB (sameV a0 b0) (ifB (sameV a1 b1) (ifB (sameV a2 b2) (ifB (sameV a3 b3) (ifB (sameV a4 b4) (ifB (sameV a5 b5) (ifB (sameV a6 b6) (ifB (sameV a7 b7) (ifB (sameV a8 b8) (ifB (sameV a9 b9) (ifB (sameV a10 b10) (ifB (sameV a11 b11) (true) false) false) false) false) false) false) false) false) false) false) false) false) g)) f)
/-- what a block left as it was: all that was there before it, and the names -/
noncomputable def sameK (fr : Fra) (σ : Sto) : KF := fun fr' σ' => ifB (sameF fr fr') (sameT σ.t σ'.t) false
/-- a block behind which all ways are one: what it made and named is forgotten -/
noncomputable def xForget (c₁ c₂ : CX) : CX := fun fr σ k r x => ifB (c₁ fr σ (sameK fr σ) r x) (c₂ fr σ k r x) false

theorem eqLs_eq {ih : AV → AV → Bool} (h : ∀ a b, ih a b = true → a = b) : ∀ l r : List AV, eqLs ih l r = true → l = r
  | [], [], _ => rfl
  | [], _ :: _, q => nomatch (show false = true from q)
  | _ :: _, [], q => nomatch (show false = true from q)
  | a :: l, b :: r, q => by
    have q' : ifB (ih a b) (eqLs ih l r) false = true := q
    rw [ifB_eq] at q'
    cases e : ih a b with
    | false => rw [e] at q'; cases q'
    | true => rw [e] at q'; rw [h a b e, eqLs_eq h l r q']
theorem eqV_eq : ∀ (n : Nat) (a b : AV), eqV n a b = true → a = b
  | 0, _, _, q => nomatch (show false = true from q)
  | n + 1, a, b, q => by
    cases a with
    | none => cases b with
      | none => rfl
      | _ => exact (nomatch (show false = true from q))
    | any => cases b with
      | any => rfl
      | _ => exact (nomatch (show false = true from q))
    | bool x => cases b with
      | bool y => cases x <;> cases y <;> first | rfl | exact (nomatch (show false = true from q))
      | _ => exact (nomatch (show false = true from q))
    | int i => cases b with
      | int j => rw [(PySem.W.Z.eqB_iff _ _).mp (show PySem.W.Z.eqB i j = true from q)]
      | _ => exact (nomatch (show false = true from q))
    | sym i => cases b with
      | sym j => rw [Nat.eq_of_beq_eq_true (show Nat.beq i j = true from q)]
      | _ => exact (nomatch (show false = true from q))
    | str i => cases b with
      | str j => rw [Nat.eq_of_beq_eq_true (show Nat.beq i j = true from q)]
      | _ => exact (nomatch (show false = true from q))
    | obj i => cases b with
      | obj j => rw [Nat.eq_of_beq_eq_true (show Nat.beq i j = true from q)]
      | _ => exact (nomatch (show false = true from q))
    | tup l => cases b with
      | tup r => rw [eqLs_eq (eqV_eq n) l r (show eqLs (eqV n) l r = true from q)]
      | _ => exact (nomatch (show false = true from q))
    | lst l => cases b with
      | lst r => rw [eqLs_eq (eqV_eq n) l r (show eqLs (eqV n) l r = true from q)]
      | _ => exact (nomatch (show false = true from q))
theorem ifB2 {b x : Bool} (h : ifB b x false = true) : b = true ∧ x = true := by
  rw [ifB_eq] at h
  cases b with
  | true => exact ⟨rfl, h⟩
  | false => cases h
theorem eqFs_eq : ∀ l r : List (Nat × AV), eqFs l r = true → l = r
  | [], [], _ => rfl
  | [], _ :: _, q => nomatch (show false = true from q)
  | _ :: _, [], q => nomatch (show false = true from q)
  | (i, a) :: l, (j, b) :: r, q => by
    obtain ⟨h1, h2⟩ := ifB2 (show ifB (Nat.beq i j) (ifB (eqV 8 a b) (eqFs l r) false) false = true from q)
    obtain ⟨h2, h3⟩ := ifB2 h2
    rw [Nat.eq_of_beq_eq_true h1, eqV_eq 8 a b h2, eqFs_eq l r h3]
theorem eqO_eq (a b : AO) (q : eqO a b = true) : a = b := by
  cases a with
  | list l => cases b with
    | list r => rw [eqLs_eq (eqV_eq 8) l r (show eqLs (eqV 8) l r = true from q)]
    | _ => exact (nomatch (show false = true from q))
  | inst c d => cases b with
    | inst c2 d2 =>
      obtain ⟨h1, h2⟩ := ifB2 (show ifB (Nat.beq c c2) (Nat.beq d d2) false = true from q)
      rw [Nat.eq_of_beq_eq_true h1, Nat.eq_of_beq_eq_true h2]
    | _ => exact (nomatch (show false = true from q))
  | ns l => cases b with
    | ns r => rw [eqFs_eq l r (show eqFs l r = true from q)]
    | _ => exact (nomatch (show false = true from q))
  | tab i => cases b with
    | tab j => rw [Nat.eq_of_beq_eq_true (show Nat.beq i j = true from q)]
    | _ => exact (nomatch (show false = true from q))
  | pile => cases b with
    | pile => rfl
    | _ => exact (nomatch (show false = true from q))
  | exc v => cases b with
    | exc w => rw [eqV_eq 8 v w (show eqV 8 v w = true from q)]
    | _ => exact (nomatch (show false = true from q))
theorem sameT_get : ∀ (t t' : TR), sameT t t' = true → ∀ i o, t.get i = some o → t'.get i = some o
  | .lf, t', _, i, o, h => by rw [TR.get_lf] at h; cases h
  | .nd v l r, .lf, q, _, _, _ => nomatch (show false = true from q)
  | .nd v l r, .nd v' l' r', q, i, o, h => by
    obtain ⟨h1, h2⟩ := ifB2 (show ifB (eqO v v') (ifB (sameT l l') (sameT r r') false) false = true from q)
    obtain ⟨h2, h3⟩ := ifB2 h2
    cases i with
    | zero => rw [← eqO_eq _ _ h1]; exact h
    | succ m =>
      have h' : (if m % 2 = 0 then l.get (m / 2) else r.get (m / 2)) = some o := h
      show (if m % 2 = 0 then l'.get (m / 2) else r'.get (m / 2)) = some o
      by_cases e : m % 2 = 0
      · rw [if_pos e] at h' ⊢; exact sameT_get l l' h2 _ _ h'
      · rw [if_neg e] at h' ⊢; exact sameT_get r r' h3 _ _ h'
theorem sameV_eq {a b : SV} (q : sameV a b = true) : a = .un ∨ b = a := by
  cases a with
  | un => exact .inl rfl
  | va v => cases b with
    | un => exact (nomatch (show false = true from q))
    | va w => rw [eqV_eq 8 v w (show eqV 8 v w = true from q)]; exact .inr rfl
end
end Mine
namespace Mine
section
noncomputable def cp0 (_ : Fra) (k : Fra → Bool) : Bool := k ⟨.un, .un, .un, .un, .un, .un, .un, .un, .un, .un, .un, .un⟩
noncomputable def c_int_value : CX :=
  xThen (xRet (vTup [(vStr 0), v1, v0])) <| xNil
noncomputable def c_text_value : CX :=
  xThen (xRet (vTup [(vStr 1), (vEncode v0)])) <| xNil
noncomputable def c_error_kind : CX :=
  xThen (xRet (vTup [(vStr 2), v0, (vTup [])])) <| xNil
noncomputable def c_error_value : CX :=
  xThen (xRet (vTup [(vStr 3), (vCall1 c_error_kind v0), (vMktup v1)])) <| xNil
noncomputable def c_thrown : CX :=
  xThen (xRet (vExc (vCall2 c_error_value v0 v1))) <| xNil
noncomputable def c_thrown_text : CX :=
  xThen (xRet (vExc (vCall2 c_error_value v0 (vTup [(vCall1 c_text_value v1)])))) <| xNil
noncomputable def c_named : CX :=
  xThen (xRet (vTup [(vStr 2), v0, (vMktup v1)])) <| xNil
noncomputable def c_Thing_init : CX :=
  xThen (xAsgA v0 1 v1) <|
  xThen (xAsgA v0 2 v2) <|
  xThen (xAsgA v0 3 v3) <| xNil
noncomputable def c_Heap_init : CX :=
  xThen (xAsgA v0 0 (vLstM [])) <| xNil
noncomputable def c_Heap_put : CX :=
  xThen (xExpr (vAppend (vAtt v0 0) v1)) <|
  xThen (xRet (vBin .sub (vLen (vAtt v0 0)) (vInt 1))) <| xNil
noncomputable def c_Heap_new_array : CX :=
  xThen (xRet (vMeth1 v0 1 c_Heap_put (vNew3 0 c_Thing_init v1 (vMklstM v3) (vMktup v2)))) <| xNil
noncomputable def c_Heap_object : CX :=
  xThen (xIf (tNot (tCmp2 .le .lt (vInt 0) v1 (vLen (vAtt v0 0)))) (xThen xBad xNil) xNil) <|
  xThen (xRet (vSub (vAtt v0 0) v1)) <| xNil
noncomputable def c_array_kind : CX :=
  xThen (xRet (vCall2 c_named (vStr 4) (vTup [v0, (vTup [(vStr 5), v1])]))) <| xNil
noncomputable def c_many_of : CX :=
  xThen (xAsg g1 (vInt 1)) <|
  xThen (xFor g2 (iEx v0) (xThen (xAsg g1 (vBin .mul v1 v2)) xNil)) <|
  xThen (xRet v1) <| xNil
noncomputable def c_strides_of : CX :=
  xThen (xAsg (gTupR [g2, g1]) (vTup [(vLstM []), (vInt 1)])) <|
  xThen (xFor g3 (iEx v0) (xThen (xExpr (vAppend v1 v2)) (xThen (xAsg g2 (vBin .mul v2 v3)) xNil))) <|
  xThen (xRet (vMktup v1)) <| xNil
noncomputable def c_offset_of : CX :=
  xThen (xIf (tAnd (tCmp .eq (vLen v1) (vInt 1)) (tCmp .ne (vLen v0) (vInt 1))) (xThen (xRet (vIte (tCmp2 .le .le (vInt 1) (vSub v1 (vInt 0)) (vCall1 c_many_of v0)) (vBin .sub (vSub v1 (vInt 0)) (vInt 1)) (vNeg (vInt 1)))) xNil) xNil) <|
  xThen (xIf (tCmp .ne (vLen v1) (vLen v0)) (xThen (xRet (vNeg (vInt 1))) xNil) xNil) <|
  xThen (xAsg g2 (vInt 0)) <|
  xThen (xFor (gTup [g3, g4, g5]) (iZip [v1, v0, (vCall1 c_strides_of v0)]) (xThen (xIf (tNot (tCmp2 .le .le (vInt 1) v3 v4)) (xThen (xRet (vNeg (vInt 1))) xNil) xNil) (xThen (xAsg g2 (vBin .add v2 (vBin .mul (vBin .sub v3 (vInt 1)) v5))) xNil))) <|
  xThen (xRet v2) <| xNil
noncomputable def c_index_of : CX :=
  xThen (xAsg g2 (vLstM [])) <|
  xThen (xFor g3 (iEx v0) (xThen (xExpr (vAppend v2 (vBin .add (vBin .fmod v1 v3) (vInt 1)))) (xThen (xAsg g1 (vBin .fdiv v1 v3)) xNil))) <|
  xThen (xRet (vMktup v2)) <| xNil
noncomputable def c_bounds_fault : CX :=
  xThen (xRet (vCall2 c_thrown (vStr 6) (vTup [v0, (vTup [(vStr 7), (vMktup (vComp cp0 (iEx v1) g0 tT (bElt (vCallD c_int_value (.str 8) v0))))])]))) <| xNil
noncomputable def c_check_sizes : CX :=
  xThen (xIf (tOr (tCmp .ne (vComp cp0 (iEx v0) g0 (tCmp .lt v0 (vInt 0)) (bElt v0)) (vLst [])) (tCmp .gt (vCall1 c_many_of v0) (vGlob (.int 20000)))) (xThen (xRaise (vCall2 c_thrown_text (vStr 9) (vStr 10))) xNil) xNil) <| xNil
noncomputable def c_is_array : CX :=
  xThen (xRet (vTest (tCmp .isin (vSub v0 (vInt 0)) (vTup [(vStr 11), (vStr 12)])))) <| xNil
noncomputable def c_parent_of : CX :=
  xThen (xIf (tNot (tVal (vCall1 c_is_array v1))) (xThen xBad xNil) xNil) <|
  xThen (xRet (vMeth1 v0 1 c_Heap_object (vSub v1 (vInt 1)))) <| xNil
noncomputable def c_sizes_of : CX :=
  xThen (xRet (vIte (tCmp .eq (vSub v1 (vInt 0)) (vStr 12)) (vSub v1 (vInt 3)) (vAtt (vCall2 c_parent_of v0 v1) 3))) <| xNil
noncomputable def c_layout_of : CX :=
  xThen (xRet (vIte (tCmp .eq (vSub v1 (vInt 0)) (vStr 12)) (vTup [(vSub v1 (vInt 2)), (vSub v1 (vInt 4))]) (vTup [(vInt 0), (vCall1 c_strides_of (vCall2 c_sizes_of v0 v1))]))) <| xNil
noncomputable def c_place_in_parent : CX :=
  xThen (xAsg g3 (vCall2 c_sizes_of v0 v1)) <|
  xThen (xAsg g4 (vCall2 c_offset_of v3 v2)) <|
  xThen (xIf (tCmp .lt v4 (vInt 0)) (xThen (xRet (vNeg (vInt 1))) xNil) xNil) <|
  xThen (xAsg (gTup [g5, g6]) (vCall2 c_layout_of v0 v1)) <|
  xThen (xFor (gTup [g7, g8]) (iZip [(vCall2 c_index_of v3 v4), v6]) (xThen (xAsg g5 (vBin .add v5 (vBin .mul (vBin .sub v7 (vInt 1)) v8))) xNil)) <|
  xThen (xRet v5) <| xNil
noncomputable def c_places_of : CX :=
  xThen (xAsg (gTup [g2, g3]) (vCall2 c_layout_of v0 v1)) <|
  xThen (xAsg g4 (vLst [v2])) <|
  xThen (xFor (gTup [g5, g6]) (iZip [(vCall2 c_sizes_of v0 v1), v3]) (xThen (xAsg g4 (vComp (fun fr k => @Fra.rec (fun _ => Bool) (fun a0 a1 a2 a3 a4 a5 a6 a7 a8 a9 a10 a11 => k ⟨.un, .un, a6, a4, .un, .un, .un, .un, .un, .un, .un, .un⟩) fr) (iRng none v5) g0 tT (bGen (iEx v3) g1 tT (bElt (vBin .add v1 (vBin .mul v2 v0)))))) xNil)) <|
  xThen (xRet v4) <| xNil
noncomputable def c_items_of : CX :=
  xThen (xAsg g2 (vAtt (vCall2 c_parent_of v0 v1) 2)) <|
  xThen (xRet (vComp (fun fr k => @Fra.rec (fun _ => Bool) (fun a0 a1 a2 a3 a4 a5 a6 a7 a8 a9 a10 a11 => k ⟨.un, a2, .un, .un, .un, .un, .un, .un, .un, .un, .un, .un⟩) fr) (iEx (vCall2 c_places_of v0 v1)) g0 tT (bElt (vSub v1 v0)))) <| xNil
noncomputable def c_item_at : CX :=
  xThen (xAsg g3 (vCall3 c_place_in_parent v0 v1 v2)) <|
  xThen (xIf (tCmp .lt v3 (vInt 0)) (xThen (xRaise (vCall2 c_bounds_fault v1 v2)) xNil) xNil) <|
  xThen (xAsg g4 (vSub (vAtt (vCall2 c_parent_of v0 v1) 2) v3)) <|
  xThen (xIf (tCmp .is v4 vNone) (xThen (xRaise (vCall2 c_thrown_text (vStr 13) (vStr 14))) xNil) xNil) <|
  xThen (xRet v4) <| xNil
noncomputable def c_set_item : CX :=
  xThen (xAsg g4 (vCall3 c_place_in_parent v0 v1 v2)) <|
  xThen (xIf (tCmp .lt v4 (vInt 0)) (xThen (xRaise (vCall2 c_bounds_fault v1 v2)) xNil) xNil) <|
  xThen (xAsgI (vAtt (vCall2 c_parent_of v0 v1) 2) v4 v3) <| xNil
noncomputable def c_made : CX :=
  xThen (xExpr (vCall1 c_check_sizes v2)) <|
  xThen (xIf (tCmp .ne (vCall1 c_many_of v2) (vLen v3)) (xThen (xRaise (vCall2 c_thrown_text (vStr 15) (vStr 16))) xNil) xNil) <|
  xThen (xRet (vTup [(vStr 11), (vMeth3 v0 1 c_Heap_new_array (vCall2 c_array_kind v1 (vLen v2)) v2 v3)])) <| xNil
noncomputable def c_as_columns : CX :=
  xThen (xIf (tCmp .notin (vLen v0) (vTup [(vInt 1), (vInt 2)])) (xThen (xRaise (vCall2 c_thrown_text (vStr 9) (vStr 17))) xNil) xNil) <|
  xThen (xRet (vIte (tCmp .eq (vLen v0) (vInt 1)) (vTup [(vSub v0 (vInt 0)), (vInt 1)]) v0)) <| xNil
noncomputable def c_turned : CX :=
  xThen (xAsg (gTup [g3, g4]) (vCall1 c_as_columns (vCall2 c_sizes_of v0 v1))) <|
  xThen (xAsg g5 (vCall2 c_items_of v0 v1)) <|
  xThen (xAsg g6 (vComp (fun fr k => @Fra.rec (fun _ => Bool) (fun a0 a1 a2 a3 a4 a5 a6 a7 a8 a9 a10 a11 => k ⟨.un, .un, a3, a5, a4, .un, .un, .un, .un, .un, .un, .un⟩) fr) (iRng none v3) g0 tT (bGen (iRng none v4) g1 tT (bElt (vSub v3 (vBin .add v0 (vBin .mul v2 v1))))))) <|
  xThen (xRet (vCall4 c_made v0 v2 (vTup [v4, v3]) v6)) <| xNil
noncomputable def c_need_row : CX :=
  xThen (xIf (tOr (tCmp .ne (vSub v1 (vInt 0)) (vStr 11)) (tCmp .ne (vLen (vAtt (vCall2 c_parent_of v0 v1) 3)) (vInt 1))) (xThen (xRaise (vCall2 c_thrown_text (vStr 9) (vStr 18))) xNil) xNil) <|
  xThen (xRet (vCall2 c_parent_of v0 v1)) <| xNil
noncomputable def c_pushed : CX :=
  xThen (xAsg g3 (vCall2 c_need_row v0 v1)) <|
  xThen (xExpr (vCall1 c_check_sizes (vTup [(vBin .add (vLen (vAtt v3 2)) (vInt 1))]))) <|
  xThen (xExpr (vAppend (vAtt v3 2) v2)) <|
  xThen (xAsgA v3 3 (vTup [(vLen (vAtt v3 2))])) <|
  xThen (xRet v1) <| xNil
noncomputable def c_popped : CX :=
  xThen (xAsg g2 (vCall2 c_need_row v0 v1)) <|
  xThen (xIf (tCmp .eq (vAtt v2 2) (vLst [])) (xThen (xRaise (vCall2 c_thrown_text (vStr 9) (vStr 19))) xNil) xNil) <|
  xThen (xAsg g3 (vPop (vAtt v2 2))) <|
  xThen (xAsgA v2 3 (vTup [(vLen (vAtt v2 2))])) <|
  xThen (xIf (tCmp .is v3 vNone) (xThen (xRaise (vCall2 c_thrown_text (vStr 13) (vStr 14))) xNil) xNil) <|
  xThen (xRet v3) <| xNil
noncomputable def c_beside : CX :=
  xThen (xAsg g3 (vComp (fun fr k => @Fra.rec (fun _ => Bool) (fun a0 a1 a2 a3 a4 a5 a6 a7 a8 a9 a10 a11 => k ⟨.un, a0, .un, .un, .un, .un, .un, .un, .un, .un, .un, .un⟩) fr) (iEx v1) g0 tT (bElt (vCall1 c_as_columns (vCall2 c_sizes_of v1 v0))))) <|
  xThen (xIf (tCmp .ne (vComp (fun fr k => @Fra.rec (fun _ => Bool) (fun a0 a1 a2 a3 a4 a5 a6 a7 a8 a9 a10 a11 => k ⟨.un, a3, .un, .un, .un, .un, .un, .un, .un, .un, .un, .un⟩) fr) (iEx v3) g0 (tCmp .ne (vSub v0 (vInt 0)) (vSub (vSub v1 (vInt 0)) (vInt 0))) (bElt v0)) (vLst [])) (xThen (xRaise (vCall2 c_thrown_text (vStr 15) (vStr 20))) xNil) xNil) <|
  xThen (xAsg g4 (vComp (fun fr k => @Fra.rec (fun _ => Bool) (fun a0 a1 a2 a3 a4 a5 a6 a7 a8 a9 a10 a11 => k ⟨.un, .un, a0, .un, .un, .un, .un, .un, .un, .un, .un, .un⟩) fr) (iEx v1) g0 tT (bGen (iEx (vCall2 c_items_of v2 v0)) g1 tT (bElt v1)))) <|
  xThen (xRet (vCall4 c_made v0 v2 (vTup [(vIte (tCmp .ne v3 (vLst [])) (vSub (vSub v3 (vInt 0)) (vInt 0)) (vInt 0)), (vSum (vComp cp0 (iEx v3) g0 tT (bElt (vSub v0 (vInt 1)))))]) v4)) <| xNil
noncomputable def c_beneath : CX :=
  xThen (xIf (tCmp .eq (vComp (fun fr k => @Fra.rec (fun _ => Bool) (fun a0 a1 a2 a3 a4 a5 a6 a7 a8 a9 a10 a11 => k ⟨.un, a0, .un, .un, .un, .un, .un, .un, .un, .un, .un, .un⟩) fr) (iEx v1) g0 (tCmp .ne (vLen (vCall2 c_sizes_of v1 v0)) (vInt 1)) (bElt v0)) (vLst [])) (xThen (xAsg g3 (vComp (fun fr k => @Fra.rec (fun _ => Bool) (fun a0 a1 a2 a3 a4 a5 a6 a7 a8 a9 a10 a11 => k ⟨.un, .un, a0, .un, .un, .un, .un, .un, .un, .un, .un, .un⟩) fr) (iEx v1) g0 tT (bGen (iEx (vCall2 c_items_of v2 v0)) g1 tT (bElt v1)))) (xThen (xRet (vCall4 c_made v0 v2 (vTup [(vLen v3)]) v3)) xNil)) xNil) <|
  xThen (xAsg g4 (vComp (fun fr k => @Fra.rec (fun _ => Bool) (fun a0 a1 a2 a3 a4 a5 a6 a7 a8 a9 a10 a11 => k ⟨.un, a0, .un, .un, .un, .un, .un, .un, .un, .un, .un, .un⟩) fr) (iEx v1) g0 tT (bElt (vCall1 c_as_columns (vCall2 c_sizes_of v1 v0))))) <|
  xThen (xIf (tCmp .ne (vComp (fun fr k => @Fra.rec (fun _ => Bool) (fun a0 a1 a2 a3 a4 a5 a6 a7 a8 a9 a10 a11 => k ⟨.un, a4, .un, .un, .un, .un, .un, .un, .un, .un, .un, .un⟩) fr) (iEx v4) g0 (tCmp .ne (vSub v0 (vInt 1)) (vSub (vSub v1 (vInt 0)) (vInt 1))) (bElt v0)) (vLst [])) (xThen (xRaise (vCall2 c_thrown_text (vStr 15) (vStr 21))) xNil) xNil) <|
  xThen (xAsg (gTupR [g3, g6]) (vTup [(vComp (fun fr k => @Fra.rec (fun _ => Bool) (fun a0 a1 a2 a3 a4 a5 a6 a7 a8 a9 a10 a11 => k ⟨.un, a0, .un, .un, .un, .un, .un, .un, .un, .un, .un, .un⟩) fr) (iEx v1) g0 tT (bElt (vCall2 c_items_of v1 v0))), (vLstM [])])) <|
  xThen (xFor g7 (iRng none (vSub (vSub v4 (vInt 0)) (vInt 1))) (xThen (xFor (gTup [g8, g5]) (iZip [v6, v4]) (xThen (xExpr (vExtend v3 (vSlcR v8 (vBin .mul v7 (vSub v5 (vInt 0))) (vBin .mul (vBin .add v7 (vInt 1)) (vSub v5 (vInt 0)))))) xNil)) xNil)) <|
  xThen (xRet (vCall4 c_made v0 v2 (vTup [(vSum (vComp cp0 (iEx v4) g0 tT (bElt (vSub v0 (vInt 0))))), (vSub (vSub v4 (vInt 0)) (vInt 1))]) v3)) <| xNil
noncomputable def c_by_rows : CX :=
  xThen (xIf (tOr (tCmp .eq v1 (vTup [])) (tOr (tCmp .ne (vComp (fun fr k => @Fra.rec (fun _ => Bool) (fun a0 a1 a2 a3 a4 a5 a6 a7 a8 a9 a10 a11 => k ⟨.un, a1, .un, .un, .un, .un, .un, .un, .un, .un, .un, .un⟩) fr) (iEx v1) g0 (tCmp .ne v0 (vSub v1 (vInt 0))) (bElt v0)) (vLst [])) (tCmp .ne (vSum v1) (vLen v2)))) (xThen (xRaise (vCall2 c_thrown_text (vStr 15) (vStr 22))) xNil) xNil) <|
  xThen (xAsg (gTup [g4, g5]) (vTup [(vLen v1), (vSub v1 (vInt 0))])) <|
  xThen (xAsg g6 (vComp (fun fr k => @Fra.rec (fun _ => Bool) (fun a0 a1 a2 a3 a4 a5 a6 a7 a8 a9 a10 a11 => k ⟨.un, .un, a4, a2, a5, .un, .un, .un, .un, .un, .un, .un⟩) fr) (iRng none v5) g0 tT (bGen (iRng none v2) g1 tT (bElt (vSub v3 (vBin .add (vBin .mul v1 v4) v0)))))) <|
  xThen (xRet (vCall4 c_made v0 v3 (vTup [v4, v5]) v6)) <| xNil
noncomputable def c__law_begin : CX :=
  xThen (xAsg g1 (vIte (tCmp .gt (vLen v0) (vInt 0)) (vSub v0 (vInt 0)) (vInt 5))) <|
  xThen (xAsg g2 (vIte (tCmp .ge v1 (vInt 0)) v1 (vBin .sub (vInt 0) v1))) <|
  xThen (xRet (vLstM [(vIte (tCmp .ge v2 (vInt 1000000000000)) (vBin .fmod v2 (vInt 1000000000000000000000000000000000000000000000000000000000000)) (vInt 0)), (vBin .fmod (vBin .mul (vBin .add (vBin .fmod v2 (vInt 2147483629)) (vInt 3)) (vInt 16807)) (vInt 2147483647))])) <| xNil
noncomputable def c__law_next : CX :=
  xThen (xIf (tCmp .gt (vSub v0 (vInt 0)) (vInt 0)) (xThen (xAsg g2 (vBin .fmod (vSub v0 (vInt 0)) v1)) (xThen (xAsgI v0 (vInt 0) (vBin .fdiv (vSub v0 (vInt 0)) v1)) (xThen (xRet v2) xNil))) xNil) <|
  xThen (xAsgI v0 (vInt 1) (vBin .fmod (vBin .mul (vSub v0 (vInt 1)) (vInt 48271)) (vInt 2147483647))) <|
  xThen (xRet (vBin .fmod (vBin .fdiv (vSub v0 (vInt 1)) (vInt 16)) v1)) <| xNil
noncomputable def c__law_sizes : CX :=
  xThen (xRet (vMktup (vComp (fun fr k => @Fra.rec (fun _ => Bool) (fun a0 a1 a2 a3 a4 a5 a6 a7 a8 a9 a10 a11 => k ⟨.un, a0, .un, .un, .un, .un, .un, .un, .un, .un, .un, .un⟩) fr) (iRng none v1) g0 tT (bElt (vSub (vLst [(vInt 2), (vInt 3), (vInt 1), (vInt 0)]) (vNext v1 (vInt 4))))))) <| xNil
noncomputable def c__law_all : CX :=
  xThen (xAsg g1 (vLst [(vTup [])])) <|
  xThen (xFor g2 (iEx v0) (xThen (xAsg g1 (vComp (fun fr k => @Fra.rec (fun _ => Bool) (fun a0 a1 a2 a3 a4 a5 a6 a7 a8 a9 a10 a11 => k ⟨.un, .un, a1, .un, .un, .un, .un, .un, .un, .un, .un, .un⟩) fr) (iRng (some (vInt 1)) (vBin .add v2 (vInt 1))) g0 tT (bGen (iEx v2) g1 tT (bElt (vBin .add v1 (vTup [v0])))))) xNil)) <|
  xThen (xRet v1) <| xNil
noncomputable def c__law_value : CX :=
  xThen (xRet (vTup [(vStr 0), (vStr 8), v0])) <| xNil
noncomputable def c__law_places_right : CX :=
  xThen (xAsg g1 (vCall1 c__law_all v0)) <|
  xThen (xIf (tCmp .ne (vComp (fun fr k => @Fra.rec (fun _ => Bool) (fun a0 a1 a2 a3 a4 a5 a6 a7 a8 a9 a10 a11 => k ⟨.un, a0, .un, .un, .un, .un, .un, .un, .un, .un, .un, .un⟩) fr) (iEx v1) g0 tT (bElt (vCall2 c_offset_of v1 v0))) (vLrng none (vLen v1))) (xThen (xRet (vBool false)) xNil) xNil) <|
  xThen (xIf (tCmp .ne (vComp (fun fr k => @Fra.rec (fun _ => Bool) (fun a0 a1 a2 a3 a4 a5 a6 a7 a8 a9 a10 a11 => k ⟨.un, a0, .un, .un, .un, .un, .un, .un, .un, .un, .un, .un⟩) fr) (iRng none (vLen v1)) g0 tT (bElt (vCall2 c_index_of v1 v0))) v1) (xThen (xRet (vBool false)) xNil) xNil) <|
  xThen (xFor (gTup [g3, g4]) (iEnm (vCall1 c_strides_of v0)) (xThen (xFor g2 (iEx v1) (xThen (xAsg g5 (vBin .add (vBin .add (vSlcT v2 v3) (vTup [(vBin .add (vSub v2 v3) (vInt 1))])) (vSlcF v2 (vBin .add v3 (vInt 1))))) (xThen (xIf (tAnd (tCmp .lt (vSub v2 v3) (vSub v0 v3)) (tCmp .ne (vBin .sub (vIndex v1 v5) (vIndex v1 v2)) v4)) (xThen (xRet (vBool false)) xNil) xNil) xNil))) xNil)) <|
  xThen (xAsg g6 (vComp (fun fr k => @Fra.rec (fun _ => Bool) (fun a0 a1 a2 a3 a4 a5 a6 a7 a8 a9 a10 a11 => k ⟨.un, a0, .un, .un, .un, .un, .un, .un, .un, .un, .un, .un⟩) fr) (iRng none (vBin .add (vLen v1) (vInt 2))) g0 tT (bElt (vCall2 c_offset_of v1 (vTup [v0]))))) <|
  xThen (xRet (vOr (vTest (tCmp .eq (vLen v0) (vInt 1))) (vTest (tCmp .eq v6 (vBin .add (vBin .add (vLst [(vNeg (vInt 1))]) (vLrng none (vLen v1))) (vLst [(vNeg (vInt 1))])))))) <| xNil
noncomputable def c__law_beyond : CX :=
  xThen (xAsg g2 (vMulM (vLst [(vInt 1)]) (vLen v1))) <|
  xThen (xAsg g3 (vNext v0 (vLen v1))) <|
  xThen (xAsgI v2 v3 (vSub (vLst [(vInt 0), (vBin .add (vSub v1 v3) (vInt 1)), (vNeg (vInt 1))]) (vNext v0 (vInt 3)))) <|
  xThen (xRet v2) <| xNil
noncomputable def c__law_items_right : CX :=
  xThen (xAsg g3 (vCall1 c__law_all v2)) <|
  xThen (xAsg g8 (vCall4 c_made v1 (vGlob (.tup [.str 2, .str 8, .tup []])) v2 (vComp cp0 (iRng none (vLen v3)) g0 tT (bElt (vCall1 c__law_value v0))))) <|
  xThen (xFor (gTup [g4, g5]) (iEnm v3) (xThen (xIf (tOr (tCmp .ne (vCall3 c_item_at v1 v8 v5) (vCall1 c__law_value v4)) (tCmp .ne (vCall3 c_item_at v1 v8 (vTup [(vBin .add v4 (vInt 1))])) (vCall1 c__law_value v4))) (xThen (xRet (vBool false)) xNil) xNil) xNil)) <|
  xForget (
    xThen (xAsg g9 (vCall2 c__law_beyond v0 v2)) <|
    xThen (xAsg g6 (vTup [(vStr 6), (vTup [v8, (vTup [(vStr 7), (vMktup (vComp cp0 (iEx v9) g0 tT (bElt (vCall1 c__law_value v0))))])])])) <|
    xThen (xIf (tOr (tCmp .ne (vCall2 c_offset_of v2 v9) (vNeg (vInt 1))) (tCmp .ne (vThrown 0 (fun fr k => @Fra.rec (fun _ => Bool) (fun a0 a1 a2 a3 a4 a5 a6 a7 a8 a9 a10 a11 => k ⟨a8, a9, a1, .un, .un, .un, .un, .un, .un, .un, .un, .un⟩) fr) (vCall3 c_item_at v2 v0 v1)) v6)) (xThen (xRet (vBool false)) xNil) xNil) <|
    xThen (xIf (tCmp .ne (vThrown 0 (fun fr k => @Fra.rec (fun _ => Bool) (fun a0 a1 a2 a3 a4 a5 a6 a7 a8 a9 a10 a11 => k ⟨a8, a9, a1, .un, .un, .un, .un, .un, .un, .un, .un, .un⟩) fr) (vCall4 c_set_item v2 v0 v1 (vCall1 c__law_value (vInt 7)))) v6) (xThen (xRet (vBool false)) xNil) xNil) <| xNil) <|
  xThen (xIf (tCmp .eq v3 (vLst [])) (xThen (xRet (vTest (tCmp .eq (vCall2 c_items_of v1 v8) (vLst [])))) xNil) xNil) <|
  xThen (xAsg g7 (vNext v0 (vLen v3))) <|
  xThen (xExpr (vCall4 c_set_item v1 v8 (vSub v3 v7) (vCall1 c__law_value (vNeg (vInt 9))))) <|
  xThen (xRet (vTest (tCmp .eq (vCall2 c_items_of v1 v8) (vComp (fun fr k => @Fra.rec (fun _ => Bool) (fun a0 a1 a2 a3 a4 a5 a6 a7 a8 a9 a10 a11 => k ⟨.un, a7, .un, .un, .un, .un, .un, .un, .un, .un, .un, .un⟩) fr) (iRng none (vLen v3)) g0 tT (bElt (vCall1 c__law_value (vIte (tCmp .eq v0 v1) (vNeg (vInt 9)) v0))))))) <| xNil
noncomputable def c__law_rows_of : CX :=
  xThen (xAsg (gTup [g2, g3]) (vCall2 c_sizes_of v0 v1)) <|
  xThen (xRet (vComp (fun fr k => @Fra.rec (fun _ => Bool) (fun a0 a1 a2 a3 a4 a5 a6 a7 a8 a9 a10 a11 => k ⟨.un, a1, a0, a3, .un, .un, .un, .un, .un, .un, .un, .un⟩) fr) (iRng (some (vInt 1)) (vBin .add v2 (vInt 1))) g0 tT (bElt (vComp (fun fr k => @Fra.rec (fun _ => Bool) (fun a0 a1 a2 a3 a4 a5 a6 a7 a8 a9 a10 a11 => k ⟨.un, a1, a2, a0, .un, .un, .un, .un, .un, .un, .un, .un⟩) fr) (iRng (some (vInt 1)) (vBin .add v3 (vInt 1))) g0 tT (bElt (vSub (vCall3 c_item_at v2 v1 (vTup [v3, v0])) (vInt 2))))))) <| xNil
noncomputable def c__law_joined_right : CX :=
  xThen (xAsg (gTup [g2, g3, g4]) (vTup [(vBin .add (vInt 1) (vNext v0 (vInt 3))), (vBin .add (vInt 1) (vNext v0 (vInt 3))), (vBin .add (vInt 1) (vNext v0 (vInt 2)))])) <|
  xThen (xAsg g5 (vComp (fun fr k => @Fra.rec (fun _ => Bool) (fun a0 a1 a2 a3 a4 a5 a6 a7 a8 a9 a10 a11 => k ⟨.un, a3, .un, .un, .un, .un, .un, .un, .un, .un, .un, .un⟩) fr) (iRng none v2) g0 tT (bElt (vComp (fun fr k => @Fra.rec (fun _ => Bool) (fun a0 a1 a2 a3 a4 a5 a6 a7 a8 a9 a10 a11 => k ⟨.un, a0, .un, .un, .un, .un, .un, .un, .un, .un, .un, .un⟩) fr) (iRng none v1) g0 tT (bElt (vBin .add (vBin .mul (vInt 10) v1) v0)))))) <|
  xThen (xAsg g9 (vCall4 c_by_rows v1 (vBin .mul (vTup [v3]) v2) (vComp cp0 (iEx v5) g0 tT (bGen (iEx v0) g1 tT (bElt (vCall1 c__law_value v1)))) (vGlob (.tup [.str 2, .str 8, .tup []])))) <|
  xThen (xIf (tCmp .ne (vCall2 c__law_rows_of v1 v9) v5) (xThen (xRet (vBool false)) xNil) xNil) <|
  xThen (xAsg g6 (vCall4 c_made v1 (vGlob (.tup [.str 2, .str 8, .tup []])) (vTup [v2]) (vComp cp0 (iRng none v2) g0 tT (bElt (vCall1 c__law_value (vBin .add (vInt 50) v0)))))) <|
  xThen (xAsg g7 (vCall4 c_by_rows v1 (vBin .mul (vTup [v3]) v4) (vComp cp0 (iRng none (vBin .mul v4 v3)) g0 tT (bElt (vCall1 c__law_value (vBin .add (vInt 70) v0)))) (vGlob (.tup [.str 2, .str 8, .tup []])))) <|
  xThen (xIf (tCmp .ne (vCall2 c__law_rows_of v1 (vCall3 c_beside v1 (vLst [v9, v6]) (vGlob (.tup [.str 2, .str 8, .tup []])))) (vComp cp0 (iEnm v5) (gTup [g0, g1]) tT (bElt (vBin .add v1 (vLst [(vBin .add (vInt 50) v0)]))))) (xThen (xRet (vBool false)) xNil) xNil) <|
  xThen (xAsg g8 (vComp (fun fr k => @Fra.rec (fun _ => Bool) (fun a0 a1 a2 a3 a4 a5 a6 a7 a8 a9 a10 a11 => k ⟨.un, a3, .un, .un, .un, .un, .un, .un, .un, .un, .un, .un⟩) fr) (iRng none v4) g0 tT (bElt (vComp (fun fr k => @Fra.rec (fun _ => Bool) (fun a0 a1 a2 a3 a4 a5 a6 a7 a8 a9 a10 a11 => k ⟨.un, a1, a0, .un, .un, .un, .un, .un, .un, .un, .un, .un⟩) fr) (iRng none v1) g0 tT (bElt (vBin .add (vBin .add (vInt 70) (vBin .mul v2 v1)) v0)))))) <|
  xThen (xIf (tCmp .ne (vCall2 c__law_rows_of v1 (vCall3 c_beneath v1 (vLst [v9, v7]) (vGlob (.tup [.str 2, .str 8, .tup []])))) (vBin .add v5 v8)) (xThen (xRet (vBool false)) xNil) xNil) <|
  xThen (xIf (tCmp .ne (vCall2 c_items_of v1 (vCall3 c_beneath v1 (vLst [v6, v6]) (vGlob (.tup [.str 2, .str 8, .tup []])))) (vBin .mul (vCall2 c_items_of v1 v6) (vInt 2))) (xThen (xRet (vBool false)) xNil) xNil) <|
  xThen (xIf (tCmp .ne (vCall2 c__law_rows_of v1 (vCall3 c_turned v1 v9 (vGlob (.tup [.str 2, .str 8, .tup []])))) (vComp (fun fr k => @Fra.rec (fun _ => Bool) (fun a0 a1 a2 a3 a4 a5 a6 a7 a8 a9 a10 a11 => k ⟨.un, a5, .un, .un, .un, .un, .un, .un, .un, .un, .un, .un⟩) fr) (iRng none v3) g0 tT (bElt (vComp (fun fr k => @Fra.rec (fun _ => Bool) (fun a0 a1 a2 a3 a4 a5 a6 a7 a8 a9 a10 a11 => k ⟨.un, a0, .un, .un, .un, .un, .un, .un, .un, .un, .un, .un⟩) fr) (iEx v1) g0 tT (bElt (vSub v0 v1)))))) (xThen (xRet (vBool false)) xNil) xNil) <|
  xThen (xAsg g10 (vCall4 c_made v1 (vGlob (.tup [.str 2, .str 8, .tup []])) (vTup [(vBin .add v2 (vInt 1))]) (vBin .mul (vLst [(vCall1 c__law_value (vInt 0))]) (vBin .add v2 (vInt 1))))) <|
  xThen (xRet (vTest (tCmp .eq (vSub (vThrown 1 (fun fr k => @Fra.rec (fun _ => Bool) (fun a0 a1 a2 a3 a4 a5 a6 a7 a8 a9 a10 a11 => k ⟨a9, a1, a10, .un, .un, .un, .un, .un, .un, .un, .un, .un⟩) fr) (vCall3 c_beside v1 (vLst [v0, v2]) (vGlob (.tup [.str 2, .str 8, .tup []])))) (vInt 0)) (vStr 15)))) <| xNil
noncomputable def c__law_row_right : CX :=
  xThen (xAsg g5 (vCall4 c_made v1 (vGlob (.tup [.str 2, .str 8, .tup []])) (vTup [(vInt 1)]) (vLst [(vCall1 c__law_value (vInt 1))]))) <|
  xThen (xAsg g2 (vLstM [(vInt 1)])) <|
  xThen (xFor g3 (iRng none (vNext v0 (vInt 6))) (xThen (xAsg g4 (vNext v0 (vInt 90))) (xThen (xIf (tNextPos v0 (vInt 3)) (xThen (xExpr (vAppend v2 v4)) (xThen (xIf (tCmp .ne (vCall3 c_pushed v1 v5 (vCall1 c__law_value v4)) v5) (xThen (xRet (vBool false)) xNil) xNil) xNil)) (xThen (xIf (tCmp .ne v2 (vLst [])) (xThen (xIf (tCmp .ne (vCall2 c_popped v1 v5) (vCall1 c__law_value (vPop v2))) (xThen (xRet (vBool false)) xNil) xNil) xNil) (xThen (xIf (tCmp .is (vThrown 2 (fun fr k => @Fra.rec (fun _ => Bool) (fun a0 a1 a2 a3 a4 a5 a6 a7 a8 a9 a10 a11 => k ⟨a1, a5, .un, .un, .un, .un, .un, .un, .un, .un, .un, .un⟩) fr) (vCall2 c_popped v0 v1)) vNone) (xThen (xRet (vBool false)) xNil) xNil) xNil)) xNil)) (xThen (xIf (tOr (tCmp .ne (vCall2 c_items_of v1 v5) (vComp cp0 (iEx v2) g0 tT (bElt (vCall1 c__law_value v0)))) (tCmp .ne (vCall2 c_sizes_of v1 v5) (vTup [(vLen v2)]))) (xThen (xRet (vBool false)) xNil) xNil) xNil)))) <|
  xThen (xRet (vBool true)) <| xNil
noncomputable def c_law : CX :=
  xThen (xAsg (gTupR [g2, g1]) (vTup [(vBegin v0), (vNew0 1 c_Heap_init)])) <|
  xThen (xAsg g3 (vCall2 c__law_sizes v1 (vBin .add (vInt 1) (vNext v1 (vInt 3))))) <|
  xThen (xIf (tOr (tNot (tVal (vCall1 c__law_places_right (vTup [(vInt 2), (vInt 3)])))) (tOr (tNot (tVal (vCall1 c__law_places_right v3))) (tNot (tVal (vCall3 c__law_items_right v1 v2 v3))))) (xThen (xRet (vBool false)) xNil) xNil) <|
  xThen (xRet (vAnd (vCall2 c__law_joined_right v1 v2) (vCall2 c__law_row_right v1 v2))) <| xNil
noncomputable def theStrs : List String := ["int", "text", "name", "struct", "Array", "n", "BoundsError", "tuple", "Int64", "ArgumentError", "no such sizes of an array", "array", "view", "ErrorException", "an item that was never set", "DimensionMismatch", "other sizes than items", "arrays of ranks 1 and 2 alone have columns", "arrays of rank 1 alone grow and shrink", "an array without items", "arrays of unlike heights side by side", "arrays of unlike widths one beneath the other", "rows of unlike lengths"]
end
end Mine
namespace Mine
section
open PySem PySem.W PyProof.Rows

/-- the written texts; the attributes' names -/
noncomputable def txts : List Str := ["int", "text", "name", "struct", "Array", "n", "BoundsError", "tuple", "Int64", "ArgumentError", "no such sizes of an array", "array", "view", "ErrorException", "an item that was never set", "DimensionMismatch", "other sizes than items", "arrays of ranks 1 and 2 alone have columns", "arrays of rank 1 alone grow and shrink", "an array without items", "arrays of unlike heights side by side", "arrays of unlike widths one beneath the other", "rows of unlike lengths"]
noncomputable def attrs : List Str := ["things", "kind", "fields", "sizes"]

/-- where things lie: the store's objects; what nobody changes; what the letters mean -/
structure Wd where
  ρ : List Addr
  fz : List Addr
  ν : List Int

/-- what stands still -/
structure Gl where
  prog : Program
  w : World
  base : Heap
  cls : Nat → Addr
  exc : Addr
  lamC : Nat → Addr
  gfz : List Addr

mutual
inductive VR (ω : Wd) (h : Heap) : Value → AV → Prop
  | none : VR ω h Value.none AV.none
  | bool (b : Bool) : VR ω h (Value.bool b) (AV.bool b)
  | int (i : Int) (t : Tok) : VR ω h (Value.int i t) (AV.int i)
  | sym {k : Nat} {i : Int} (t : Tok) : ω.ν[k]? = some i → VR ω h (Value.int i t) (AV.sym k)
  | str {k : Nat} {x : Str} (t : Tok) : txts[k]? = some x → VR ω h (Value.str x t) (AV.str k)
  | tup {a : Addr} {vs : List Value} {l : List AV} : a ∈ ω.fz → h.IsTuple a vs.toArray → VRs ω h vs l → VR ω h (Value.ref a) (AV.tup l)
  | lst {a : Addr} {vs : List Value} {l : List AV} : a ∈ ω.fz → h.PlainList a vs.toArray → VRs ω h vs l → VR ω h (Value.ref a) (AV.lst l)
  | obj {i : Nat} {a : Addr} : ω.ρ[i]? = some a → VR ω h (Value.ref a) (AV.obj i)
  | any (v : Value) : VR ω h v AV.any
inductive VRs (ω : Wd) (h : Heap) : List Value → List AV → Prop
  | nil : VRs ω h [] []
  | cons {v : Value} {vs : List Value} {d : AV} {l : List AV} : VR ω h v d → VRs ω h vs l → VRs ω h (v :: vs) (d :: l)
end

/-- from one state to a later one: F: frames whose slots alone may turn; X: what may turn besides the store -/
structure Step (F X : List Addr) (ω : Wd) (h : Heap) (ω' : Wd) (h' : Heap) : Prop where
  alive : ∀ a o, h.get? a = some o → ∃ o', h'.get? a = some o'
  rho : ∃ l, ω'.ρ = ω.ρ ++ l ∧ ∀ a ∈ l, h.get? a = none
  fz : ∀ a ∈ ω.fz, a ∈ ω'.fz
  fz' : ∀ a ∈ ω'.fz, a ∈ ω.fz ∨ h.get? a = none
  nu : ∃ l, ω'.ν = ω.ν ++ l
  keep : ∀ a o, h.get? a = some o → a ∉ ω.ρ → a ∉ X → h'.get? a = some o ∨ (a ∈ F ∧ ∃ sl, h'.get? a = some { o with slots := sl })

theorem Step.refl {F X : List Addr} {ω : Wd} {h : Heap} : Step F X ω h ω h :=
  ⟨fun _ o e => ⟨o, e⟩, ⟨[], by simp, fun _ q => nomatch q⟩, fun _ q => q, fun _ q => .inl q, ⟨[], by simp⟩, fun _ _ e _ _ => .inl e⟩
theorem Step.back {F X : List Addr} {ω ω' : Wd} {h h' : Heap} (p : Step F X ω h ω' h') {a : Addr} (e : h'.get? a = none) : h.get? a = none := by
  cases q : h.get? a with
  | none => rfl
  | some o => obtain ⟨o', z⟩ := p.alive a o q; rw [e] at z; cases z
theorem Step.trans {F X Y : List Addr} {ω₁ ω₂ ω₃ : Wd} {h₁ h₂ h₃ : Heap} (p : Step F X ω₁ h₁ ω₂ h₂) (q : Step F Y ω₂ h₂ ω₃ h₃) (hY : ∀ a ∈ Y, a ∈ X ∨ h₁.get? a = none) : Step F X ω₁ h₁ ω₃ h₃ := by
  obtain ⟨l, e, hl⟩ := p.rho
  obtain ⟨l', e', hl'⟩ := q.rho
  obtain ⟨n, en⟩ := p.nu
  obtain ⟨n', en'⟩ := q.nu
  refine ⟨fun a o ho => ?_, ⟨l ++ l', by rw [e', e, List.append_assoc], fun a ha => ?_⟩, fun a ha => q.fz a (p.fz a ha), fun a ha => ?_, ⟨n ++ n', by rw [en', en, List.append_assoc]⟩, fun a o ho hr hX => ?_⟩
  · obtain ⟨o', ho'⟩ := p.alive a o ho
    exact q.alive a o' ho'
  · rcases List.mem_append.mp ha with ha | ha
    · exact hl a ha
    · exact p.back (hl' a ha)
  · rcases q.fz' a ha with ha | ha
    · exact p.fz' a ha
    · exact .inr (p.back ha)
  · have hr₂ : a ∉ ω₂.ρ := fun ha => by
      rw [e] at ha
      rcases List.mem_append.mp ha with ha | ha
      · exact hr ha
      · rw [hl a ha] at ho; cases ho
    have hY' : a ∉ Y := fun ha => (hY a ha).elim hX fun q => by rw [q] at ho; cases ho
    rcases p.keep a o ho hr hX with ho₂ | ⟨hF, sl, ho₂⟩
    · exact q.keep a o ho₂ hr₂ hY'
    · rcases q.keep a _ ho₂ hr₂ hY' with ho₃ | ⟨_, sl', ho₃⟩
      · exact .inr ⟨hF, sl, ho₃⟩
      · exact .inr ⟨hF, sl', ho₃⟩
/-- one kept place, up to slots -/
theorem Step.upto {F X : List Addr} {ω ω' : Wd} {h h' : Heap} (p : Step F X ω h ω' h') {a : Addr} {o : Obj} (ho : h.get? a = some o) (hr : a ∉ ω.ρ) (hX : a ∉ X) : ∃ sl, h'.get? a = some { o with slots := sl } :=
  (p.keep a o ho hr hX).elim (fun e => ⟨o.slots, e⟩) fun e => e.2
theorem Step.sub {F X Y : List Addr} {ω ω' : Wd} {h h' : Heap} (p : Step F X ω h ω' h') (hX : ∀ a ∈ X, a ∈ Y) : Step F Y ω h ω' h' :=
  ⟨p.alive, p.rho, p.fz, p.fz', p.nu, fun a o e r q => p.keep a o e r fun m => q (hX a m)⟩

/-- the class's dict's entries of an own object -/
noncomputable def NsR (ω : Wd) (h : Heap) (es : List DictEntry) (fs : List (Nat × AV)) : Prop :=
  es.length ≤ fs.length ∧ (∀ e ∈ es, ∃ x t, e.key = .str x t ∧ x ∈ attrs) ∧
    ∀ k x, attrs[k]? = some x → ∀ av, fs.lookup k = some av → ∃ v, getL x es = some (some v) ∧ VR ω h v av

/-- the names of the functions that a function makes -/
noncomputable def lamQ (f : Nat) : Str := (["_law_items_right.<locals>.<lambda>", "_law_joined_right.<locals>.<lambda>", "_law_row_right.<locals>.<lambda>"] : List Str).getD f ""
/-- an exception's value; it is in a list as long as nobody raised it -/
noncomputable def excV : AV → AV
  | .lst [w] => w
  | v => v
/-- an object of the store -/
noncomputable def OR (G : Gl) (ω : Wd) (h : Heap) (a : Addr) : AO → Prop
  | .list l => ∃ vs, h.PlainList a vs.toArray ∧ VRs ω h vs l
  | .inst c d => ∃ da sl, ω.ρ[d]? = some da ∧ h.get? a = some ⟨.ref (G.cls c), some da, .plain, sl⟩
  | .ns fs => ∃ es n, h.get? a = some (dictOf es n) ∧ NsR ω h es fs
  | .tab f => ∃ ps, h.get? a = some (tabObj ps) ∧ TriplesOk ps.toList ∧ (∀ pos cv, codeAmong pos ps.toList = some cv → ∃ c, cv = .ref c ∧ c ∈ ω.fz ∧ h.CodeRec cv (lamQ f)) ∧ CodeHd G.base (G.lamC f) a
  | .pile => ∃ (x y : Int) (t u : Tok), h.PlainList a #[.int x t, .int y u] ∧ 0 ≤ x ∧ 0 ≤ y ∧ x < 10 ^ 60 ∧ y < 2147483647
  | .exc v => ∃ o dx es n w vs, h.get? a = some o ∧ o.cls = .ref G.exc ∧ o.dict = some dx ∧ o.data = .fields vs ∧ dx ∈ ω.fz ∧ h.get? dx = some (dictOf es n) ∧ getL "value" es = some (some w) ∧ VR ω h w (excV v) ∧ 1 < vs.size ∧ ((∃ u, v = .lst [u]) → vs[1]? = some .none)

structure Rep (G : Gl) (frs : List Env) (ω : Wd) (σ : Sto) (h : Heap) : Prop where
  objs : ∀ i o, σ.t.get i = some o → ∃ a, ω.ρ[i]? = some a ∧ OR G ω h a o
  len : ω.ρ.length = σ.n
  nu : ω.ν.length = σ.ns
  nodup : ω.ρ.Nodup
  low : ∀ a ∈ ω.ρ, ∃ o, h.get? a = some o
  lowz : ∀ a ∈ ω.fz, ∃ o, h.get? a = some o
  sep : ∀ a ∈ ω.ρ, a ∉ ω.fz ∧ G.base.get? a = none ∧ a ∉ frs.filterMap (·.frame)
  fzF : ∀ a ∈ ω.fz, a ∉ frs.filterMap (·.frame)
  base : ∀ a o, G.base.get? a = some o → h.get? a = some o
  frames : h.FunFrames G.base frs
  glob : ∀ a ∈ G.gfz, a ∈ ω.fz

/-- the kinds of a block's names: a local one, a cell of the frame's own, a cell of an outer one -/
inductive SK where
  | loc | own | cap
  deriving DecidableEq
structure Ct where
  vars : List (Str × SK)
  globs : List Str
  /-- its code and what its functions' names begin with, where it makes functions -/
  code : Option (Addr × Str) := none

noncomputable def Fra.get (fr : Fra) : Nat → SV
  | 0 => fr.a0 | 1 => fr.a1 | 2 => fr.a2 | 3 => fr.a3 | 4 => fr.a4 | 5 => fr.a5
  | 6 => fr.a6 | 7 => fr.a7 | 8 => fr.a8 | 9 => fr.a9 | 10 => fr.a10 | 11 => fr.a11 | _ => .un

structure EnvOK (Γ : Ct) (env : Env) : Prop where
  kind : env.scope.kind = .function
  glob : env.globals = mainGlobals
  blt : env.builtins = builtinsNs
  loc : ∀ (i : Nat) x, Γ.vars[i]? = some (x, SK.loc) → env.kindOf x = some .local
  own : ∀ (i : Nat) x, Γ.vars[i]? = some (x, SK.own) → env.kindOf x = some .cell
  cap : ∀ (i : Nat) x, Γ.vars[i]? = some (x, SK.cap) → env.kindOf x = some .free ∨ env.kindOf x = some .cell
  globs : ∀ x ∈ Γ.globs, env.kindOf x = some .globalImplicit
  names : (Γ.vars.map (·.1)).Nodup
  code : ∀ c q, Γ.code = some (c, q) → env.code = .ref c ∧ env.qual = q
  dbg : ∀ (i : Nat) x k, Γ.vars[i]? = some (x, k) → (x == ("__debug__" : Str)) = false ∧ (x == ("__classdict__" : Str)) = false

/-- what a name holds -/
noncomputable def CelR (ω : Wd) (h : Heap) (v : Option Value) : SV → Prop
  | .un => True
  | .va av => ∃ w, v = some w ∧ VR ω h w av

/-- a frame: X: the places that are its own -/
structure FrOK (G : Gl) (frs : List Env) (Γ : Ct) (env : Env) (X : List Addr) (fr : Fra) (ω : Wd) (h : Heap) : Prop where
  e : EnvOK Γ env
  loc : ∃ (m : Str → Option Value), h.Ns env.locals m ∧ ∀ (i : Nat) x, Γ.vars[i]? = some (x, SK.loc) → CelR ω h (m x) (fr.get i)
  cel : ∀ (i : Nat) x k, Γ.vars[i]? = some (x, k) → k ≠ .loc → ∃ c v, env.cells.lookup x = some c ∧ h.IsCell c v ∧ c ∉ ω.ρ ∧ c ≠ env.locals ∧ (k = .own → c ∈ X) ∧ CelR ω h v (fr.get i)
  apart : ∀ x y c, env.cells.lookup x = some c → env.cells.lookup y = some c → x = y
  here : env.locals ∈ X
  low : ∀ a ∈ X, ∃ o, h.get? a = some o
  out : ∀ a ∈ X, a ∉ ω.ρ ∧ a ∉ ω.fz ∧ G.base.get? a = none
  frame : ∃ L, env.frame = some L ∧ ∃ f, frs.head? = some f ∧ f.frame = some L

/- what a step keeps -/
section
variable {F X : List Addr} {ω ω' : Wd} {h h' : Heap}
theorem nth_append {α : Type} {l l' : List α} {i : Nat} {a : α} (h : l[i]? = some a) : (l ++ l')[i]? = some a := by
  rw [List.getElem?_append_left (List.getElem?_eq_some_iff.mp h).1]
  exact h
theorem Heap.get?_sl {h h' : Heap} {a : Addr} {o : Obj} {sl : Array (Option Value)} (e : h'.get? a = some { o with slots := sl }) : ∃ o', h'.get? a = some o' ∧ o'.cls = o.cls ∧ o'.data = o.data ∧ o'.dict = o.dict := ⟨_, e, rfl, rfl, rfl⟩
theorem isTuple_up {a : Addr} {vs : Array Value} (x : h.IsTuple a vs) (hk : ∀ o, h.get? a = some o → ∃ sl, h'.get? a = some { o with slots := sl }) : h'.IsTuple a vs := by
  obtain ⟨o, ho, hc, n, hd⟩ := x
  obtain ⟨sl, e⟩ := hk o ho
  exact ⟨_, e, hc, n, hd⟩
theorem ns_up {a : Addr} {m : Str → Option Value} (x : h.Ns a m) (hk : ∀ o, h.get? a = some o → ∃ sl, h'.get? a = some { o with slots := sl }) : h'.Ns a m := by
  obtain ⟨o, es, ep, ho, hd, hs, hm⟩ := x
  obtain ⟨sl, e⟩ := hk o ho
  exact ⟨_, es, ep, e, hd, hs, hm⟩
theorem cell_up {a : Addr} {v : Option Value} (x : h.IsCell a v) (hk : ∀ o, h.get? a = some o → ∃ sl, h'.get? a = some { o with slots := sl }) : h'.IsCell a v := by
  obtain ⟨o, ho, hd⟩ := x
  obtain ⟨sl, e⟩ := hk o ho
  exact ⟨_, e, hd⟩

mutual
theorem VR.step (hfz : ∀ a ∈ ω.fz, a ∈ ω'.fz) (hr : ∀ (i : Nat) a, ω.ρ[i]? = some a → ω'.ρ[i]? = some a) (hn : ∀ (i : Nat) a, ω.ν[i]? = some a → ω'.ν[i]? = some a) (hk : ∀ a ∈ ω.fz, ∀ o, h.get? a = some o → h'.get? a = some o) :
    ∀ {v : Value} {d : AV}, VR ω h v d → VR ω' h' v d
  | _, _, .none => .none
  | _, _, .bool b => .bool b
  | _, _, .int i t => .int i t
  | _, _, .sym t e => .sym t (hn _ _ e)
  | _, _, .str t e => .str t e
  | _, _, .tup ha ht hv => .tup (hfz _ ha) (by obtain ⟨o, ho, r⟩ := ht; exact ⟨o, hk _ ha o ho, r⟩) (VRs.step hfz hr hn hk hv)
  | _, _, .lst ha ht hv => .lst (hfz _ ha) (ht.at fun o => hk _ ha o) (VRs.step hfz hr hn hk hv)
  | _, _, .obj e => .obj (hr _ _ e)
  | _, _, .any v => .any v
theorem VRs.step (hfz : ∀ a ∈ ω.fz, a ∈ ω'.fz) (hr : ∀ (i : Nat) a, ω.ρ[i]? = some a → ω'.ρ[i]? = some a) (hn : ∀ (i : Nat) a, ω.ν[i]? = some a → ω'.ν[i]? = some a) (hk : ∀ a ∈ ω.fz, ∀ o, h.get? a = some o → h'.get? a = some o) :
    ∀ {vs : List Value} {l : List AV}, VRs ω h vs l → VRs ω' h' vs l
  | _, _, .nil => .nil
  | _, _, .cons a b => .cons (VR.step hfz hr hn hk a) (VRs.step hfz hr hn hk b)
end
end

/-- what a later state keeps of an elder one's values -/
structure Later (ω : Wd) (h : Heap) (ω' : Wd) (h' : Heap) : Prop where
  fz : ∀ a ∈ ω.fz, a ∈ ω'.fz
  rho : ∀ (i : Nat) a, ω.ρ[i]? = some a → ω'.ρ[i]? = some a
  nu : ∀ (i : Nat) a, ω.ν[i]? = some a → ω'.ν[i]? = some a
  keep : ∀ a ∈ ω.fz, ∀ o, h.get? a = some o → h'.get? a = some o
theorem Later.vr {ω ω' : Wd} {h h' : Heap} (L : Later ω h ω' h') {v : Value} {d : AV} (x : VR ω h v d) : VR ω' h' v d := VR.step L.fz L.rho L.nu L.keep x
theorem Later.vrs {ω ω' : Wd} {h h' : Heap} (L : Later ω h ω' h') {v : List Value} {d : List AV} (x : VRs ω h v d) : VRs ω' h' v d := VRs.step L.fz L.rho L.nu L.keep x
theorem Later.refl {ω : Wd} {h : Heap} : Later ω h ω h := ⟨fun _ q => q, fun _ _ q => q, fun _ _ q => q, fun _ _ _ q => q⟩
theorem Later.trans {ω₁ ω₂ ω₃ : Wd} {h₁ h₂ h₃ : Heap} (a : Later ω₁ h₁ ω₂ h₂) (b : Later ω₂ h₂ ω₃ h₃) : Later ω₁ h₁ ω₃ h₃ :=
  ⟨fun x q => b.fz x (a.fz x q), fun i x q => b.rho i x (a.rho i x q), fun i x q => b.nu i x (a.nu i x q), fun x q o e => b.keep x (a.fz x q) o (a.keep x q o e)⟩
theorem Step.later {frs : List Env} {G : Gl} {X : List Addr} {ω ω' : Wd} {σ : Sto} {h h' : Heap} (R : Rep G frs ω σ h) (S : Step (frs.filterMap (·.frame)) X ω h ω' h') (hX : ∀ a ∈ X, a ∉ ω.fz) : Later ω h ω' h' := by
  obtain ⟨l, e, _⟩ := S.rho
  obtain ⟨n, en⟩ := S.nu
  refine ⟨S.fz, fun i a q => by rw [e]; exact nth_append q, fun i a q => by rw [en]; exact nth_append q, fun a ha o ho => ?_⟩
  rcases S.keep a o ho (fun q => (R.sep a q).1 ha) (fun q => hX a q ha) with q | ⟨q, _⟩
  · exact q
  · exact absurd q (R.fzF a ha)

theorem CelR.later {ω ω' : Wd} {h h' : Heap} {v : Option Value} {sv : SV} (L : Later ω h ω' h') (r : CelR ω h v sv) : CelR ω' h' v sv := by
  cases sv with
  | un => trivial
  | va av => obtain ⟨v, e, q⟩ := r; exact ⟨v, e, L.vr q⟩

/-- an expression's step keeps the frame -/
theorem FrOK.step {G : Gl} {frs : List Env} {Γ : Ct} {env : Env} {X : List Addr} {fr : Fra} {ω ω' : Wd} {σ : Sto} {h h' : Heap} (f : FrOK G frs Γ env X fr ω h) (R : Rep G frs ω σ h) (S : Step (frs.filterMap (·.frame)) [] ω h ω' h') :
    FrOK G frs Γ env X fr ω' h' := by
  have L := S.later R (fun _ q => nomatch q)
  obtain ⟨l, e, hl⟩ := S.rho
  have nr : ∀ a, (∃ o, h.get? a = some o) → a ∉ ω.ρ → a ∉ ω'.ρ := fun a lt hn q => by
    rw [e] at q
    rcases List.mem_append.mp q with q | q
    · exact hn q
    · obtain ⟨o, ho⟩ := lt
      rw [hl a q] at ho; cases ho
  have kp : ∀ a, a ∉ ω.ρ → ∀ o, h.get? a = some o → ∃ sl, h'.get? a = some { o with slots := sl } := fun a ha o ho => S.upto ho ha (fun q => nomatch q)
  obtain ⟨m, hns, hloc⟩ := f.loc
  refine ⟨f.e, ⟨m, ns_up hns fun o ho => kp _ (f.out _ f.here).1 o ho, fun i x hx => (hloc i x hx).later L⟩, fun i x k hx hk => ?_, f.apart, f.here, fun a ha => by obtain ⟨o, ho⟩ := f.low a ha; exact S.alive a o ho, fun a ha => ?_, f.frame⟩
  · obtain ⟨c, v, h1, h2, h3, h4, h5, h6⟩ := f.cel i x k hx hk
    exact ⟨c, v, h1, cell_up h2 fun o ho => kp c h3 o ho, nr c (by obtain ⟨o, ho, _⟩ := h2; exact ⟨o, ho⟩) h3, h4, h5, h6.later L⟩
  · obtain ⟨h1, h2, h3⟩ := f.out a ha
    exact ⟨nr a (f.low a ha) h1, fun q => (S.fz' a q).elim h2 fun q => (by obtain ⟨o, ho⟩ := f.low a ha; rw [q] at ho; cases ho), h3⟩
end
end Mine
namespace Mine
section
open PySem PySem.W PyProof.Rows

/-- a class of the text's own -/
structure ClsOK (K : Frag) (C : Addr) : Prop where
  ga : findIn K (.ref C) "__getattribute__" = some (some (.builtin "object.__getattribute__"))
  gm : findIn K (.ref C) "__getattr__" = some none
  hd : hasDictIn K C = true
  sa : findIn K (.ref C) "__setattr__" = some (some (.builtin "object.__setattr__"))
  po : plainOver K C = true
  att : ∀ x ∈ attrs, (∃ a, findIn K (.ref C) x = some a ∧ noGet K a = true) ∧ takerIn K C x = some none

set_option genInjectivity false in
set_option genSizeOf false in
set_option genSizeOfSpec false in
/-- what stands still, and what is known of it -/
structure Gd extends Gl where
  mg : Str → Option Value
  mb : Str → Option Value
  hg : base.Ns mainGlobals mg
  hb : base.Ns builtinsNs mb
  nolimit : base.NoLimit
  bi : ∀ x : Str, x ≠ "__name__" → mb x = bootBuiltins x
  K : Frag
  kin : K.In base
  clsOK : ∀ c, ClsOK K (cls c)

noncomputable def Room (A : Around) (n : Nat) : Prop := A.handled = none ∧ A.depth + n < recursionLimit ∧ A.units + 4 * n + 200 < cLine
theorem Room.in1 {A : Around} {n : Nat} (h : Room A (n + 1)) : Room A.in1 n := by
  obtain ⟨a, b, c⟩ := h
  refine ⟨a, ?_, ?_⟩
  · show A.depth + n < _; omega
  · show A.units + 1 + 4 * n + 200 < _; omega
theorem Room.lt {A : Around} {m n : Nat} (h : Room A n) (hm : m ≤ n) : Room A m := ⟨h.1, by have := h.2.1; omega, by have := h.2.2; omega⟩

noncomputable abbrev fr_ (frs : List Env) : List Addr := frs.filterMap (·.frame)

structure St (G : Gd) (frs : List Env) (X : List Addr) (ω : Wd) (s : Shared) (ω' : Wd) (σ' : Sto) (s' : Shared) : Prop where
  step : Step (fr_ frs) X ω s.heap ω' s'.heap
  rep : Rep G.toGl frs ω' σ' s'.heap
  gens : s'.gens = s.gens
  drawn : s'.drawn = s.drawn
  os : s'.os = s.os
section
variable {G : Gd} {frs : List Env} {X Y : List Addr} {ω ω₁ ω₂ : Wd} {σ σ₁ σ₂ : Sto} {s s₁ s₂ : Shared}
theorem St.refl (R : Rep G.toGl frs ω σ s.heap) : St G frs X ω s ω σ s := ⟨Step.refl, R, rfl, rfl, rfl⟩
theorem St.toks (R : Rep G.toGl frs ω σ s.heap) (t : Nat) : St G frs X ω s ω σ { s with toks := t } := ⟨Step.refl, R, rfl, rfl, rfl⟩
theorem St.trans (a : St G frs X ω s ω₁ σ₁ s₁) (b : St G frs Y ω₁ s₁ ω₂ σ₂ s₂) (hY : ∀ a ∈ Y, a ∈ X ∨ s.heap.get? a = none) : St G frs X ω s ω₂ σ₂ s₂ :=
  ⟨a.step.trans b.step hY, b.rep, b.gens.trans a.gens, b.drawn.trans a.drawn, b.os.trans a.os⟩
theorem St.then (a : St G frs [] ω s ω₁ σ₁ s₁) (b : St G frs [] ω₁ s₁ ω₂ σ₂ s₂) : St G frs [] ω s ω₂ σ₂ s₂ := a.trans b fun _ q => nomatch q
theorem St.later (R : Rep G.toGl frs ω σ s.heap) (a : St G frs [] ω s ω₁ σ₁ s₁) : Later ω s.heap ω₁ s₁.heap := a.step.later R fun _ q => nomatch q
theorem St.fr {Γ : Ct} {env : Env} {X : List Addr} {fr : Fra} (R : Rep G.toGl frs ω σ s.heap) (a : St G frs [] ω s ω₁ σ₁ s₁) (f : FrOK G.toGl frs Γ env X fr ω s.heap) : FrOK G.toGl frs Γ env X fr ω₁ s₁.heap := f.step R a.step
end

/-- an exception of the store, in flight -/
noncomputable def Flies (ω : Wd) (σ : Sto) (i : Nat) (v : Value) (s₀ s : Shared) : Prop :=
  ∃ l a o vs, σ.t.get i = some (.exc (.tup l)) ∧ v = .ref a ∧ ω.ρ[i]? = some a ∧ s.heap.get? a = some o ∧ o.data = .fields vs ∧ 1 < vs.size ∧
    (vs[1]? = some .none ∨ ∃ T oT ts, vs[1]? = some (.ref T) ∧ T ≠ a ∧ s₀.heap.get? T = none ∧ T ∉ ω.ρ ∧ T ∉ ω.fz ∧ s.heap.get? T = some oT ∧ oT.data = .fields ts ∧ ts[3]? = some .none)
theorem Flies.back {ω : Wd} {σ : Sto} {i : Nat} {v : Value} {s₀ s₁ s : Shared} (f : Flies ω σ i v s₁ s) (h : ∀ a, s₁.heap.get? a = none → s₀.heap.get? a = none) : Flies ω σ i v s₀ s := by
  obtain ⟨av, a, o, vs, h1, h2, h3, h4, h5, h6, h7⟩ := f
  refine ⟨av, a, o, vs, h1, h2, h3, h4, h5, h6, h7.imp id ?_⟩
  rintro ⟨T, oT, ts, q1, q2, q3, q⟩
  exact ⟨T, oT, ts, q1, q2, h T q3, q⟩

noncomputable def OkV (G : Gd) (frs : List Env) (X : List Addr) (ω : Wd) (s : Shared) (k : KV) (v : Value) (s' : Shared) : Prop :=
  ∃ av ω' σ', k av σ' = true ∧ St G frs X ω s ω' σ' s' ∧ VR ω' s'.heap v av
noncomputable def ExV (G : Gd) (frs : List Env) (X : List Addr) (ω : Wd) (s : Shared) (x : KX) (v : Value) (s' : Shared) : Prop :=
  ∃ i ω' σ', x i σ' = true ∧ St G frs X ω s ω' σ' s' ∧ Flies ω' σ' i v s s'
noncomputable def OkB (G : Gd) (frs : List Env) (ω : Wd) (s : Shared) (k : Bool → Sto → Bool) (b : Bool) (s' : Shared) : Prop :=
  ∃ ω' σ', k b σ' = true ∧ St G frs [] ω s ω' σ' s'
section
variable {G : Gd} {frs : List Env} {X Y : List Addr} {ω ω₁ : Wd} {σ₁ : Sto} {s s₁ s₂ : Shared} {k : KV} {x : KX} {v : Value}
theorem OkV.after (a : St G frs [] ω s ω₁ σ₁ s₁) (b : OkV G frs [] ω₁ s₁ k v s₂) : OkV G frs [] ω s k v s₂ := by
  obtain ⟨av, ω', σ', h, S, V⟩ := b
  exact ⟨av, ω', σ', h, a.then S, V⟩
theorem ExV.after (a : St G frs [] ω s ω₁ σ₁ s₁) (b : ExV G frs [] ω₁ s₁ x v s₂) : ExV G frs [] ω s x v s₂ := by
  obtain ⟨i, ω', σ', h, S, V⟩ := b
  exact ⟨i, ω', σ', h, a.then S, V.back fun b q => a.step.back q⟩
theorem OkB.after {k : Bool → Sto → Bool} {b : Bool} (a : St G frs [] ω s ω₁ σ₁ s₁) (q : OkB G frs ω₁ s₁ k b s₂) : OkB G frs ω s k b s₂ := by
  obtain ⟨ω', σ', h, S⟩ := q
  exact ⟨ω', σ', h, a.then S⟩
theorem noX_false {i : Nat} {σ : Sto} (h : noX i σ = true) : False := by cases h
theorem ExV.no {P : Prop} (b : ExV G frs X ω s noX v s₂) : P := by
  obtain ⟨i, ω', σ', h, _⟩ := b
  cases h
end

/-- a code gives what an expression gives -/
noncomputable def SE (G : Gd) (n : Nat) (Γ : Ct) (c : CV) (e : Expr) : Prop :=
  ∀ (A : Around) (frs : List Env) (env : Env) (X : List Addr) (fr : Fra) (ω : Wd) (σ : Sto) (s : Shared) (k : KV) (x : KX),
    Room A n → A.frames = some frs → Rep G.toGl frs ω σ s.heap → FrOK G.toGl frs Γ env X fr ω s.heap → c fr σ k x = true →
    wpAny (model G.prog G.w) A (eval e env) (OkV G frs [] ω s k) (ExV G frs [] ω s x) s
/-- a test's code -/
noncomputable def ST (G : Gd) (n : Nat) (Γ : Ct) (c : CT) (e : Expr) : Prop :=
  ∀ (A : Around) (frs : List Env) (env : Env) (X : List Addr) (fr : Fra) (ω : Wd) (σ : Sto) (s : Shared) (k : Bool → Sto → Bool) (x : KX),
    Room A n → A.frames = some frs → Rep G.toGl frs ω σ s.heap → FrOK G.toGl frs Γ env X fr ω s.heap → c fr σ k x = true →
    wpAny (model G.prog G.w) A (isTrue e env (eval e env)) (OkB G frs ω s k) (ExV G frs [] ω s x) s

theorem SE.mono {G : Gd} {m n : Nat} {Γ : Ct} {c : CV} {e : Expr} (h : SE G m Γ c e) (hm : m ≤ n) : SE G n Γ c e :=
  fun A frs env X fr ω σ s k x hA => h A frs env X fr ω σ s k x (hA.lt hm)
theorem ST.mono {G : Gd} {m n : Nat} {Γ : Ct} {c : CT} {e : Expr} (h : ST G m Γ c e) (hm : m ≤ n) : ST G n Γ c e :=
  fun A frs env X fr ω σ s k x hA => h A frs env X fr ω σ s k x (hA.lt hm)

section
variable {G : Gd} {n : Nat} {Γ : Ct} {a b c : CV} {l r e : Expr} {pos : Pos} {kd : Nat}

/- constants -/
theorem SE.int (i : Int) : SE G n Γ (vInt i) (.Constant (.int i) kd pos) := fun A frs env X fr ω σ s k x hA hF R f h =>
  wpAny_Constant_int ⟨_, ω, σ, h, St.toks R _, .int i _⟩
theorem SE.none : SE G n Γ vNone (.Constant .none kd pos) := fun A frs env X fr ω σ s k x hA hF R f h =>
  wpAny_Constant_none ⟨_, ω, σ, h, St.refl R, .none⟩
theorem SE.bool (b : Bool) : SE G n Γ (vBool b) (.Constant (.bool b) kd pos) := fun A frs env X fr ω σ s k x hA hF R f h =>
  wpAny_Constant_bool ⟨_, ω, σ, h, St.refl R, .bool b⟩
theorem SE.str {i : Nat} {x : Str} (hx : txts[i]? = some x) : SE G n Γ (vStr i) (.Constant (.str x) kd pos) := fun A frs env X fr ω σ s k x hA hF R f h =>
  wpAny_Constant_str ⟨_, ω, σ, h, St.toks R _, .str _ hx⟩

/- names -/
noncomputable def IsV (i : Nat) (c : CV) : Prop := ∀ fr σ k x, c fr σ k x = match fr.get i with | .va v => k v σ | _ => false
theorem isv0 : IsV 0 v0 := fun ⟨a0, _, _, _, _, _, _, _, _, _, _, _⟩ _ _ _ => by cases a0 <;> rfl
theorem isv1 : IsV 1 v1 := fun ⟨_, a0, _, _, _, _, _, _, _, _, _, _⟩ _ _ _ => by cases a0 <;> rfl
theorem isv2 : IsV 2 v2 := fun ⟨_, _, a0, _, _, _, _, _, _, _, _, _⟩ _ _ _ => by cases a0 <;> rfl
theorem isv3 : IsV 3 v3 := fun ⟨_, _, _, a0, _, _, _, _, _, _, _, _⟩ _ _ _ => by cases a0 <;> rfl
theorem isv4 : IsV 4 v4 := fun ⟨_, _, _, _, a0, _, _, _, _, _, _, _⟩ _ _ _ => by cases a0 <;> rfl
theorem isv5 : IsV 5 v5 := fun ⟨_, _, _, _, _, a0, _, _, _, _, _, _⟩ _ _ _ => by cases a0 <;> rfl
theorem isv6 : IsV 6 v6 := fun ⟨_, _, _, _, _, _, a0, _, _, _, _, _⟩ _ _ _ => by cases a0 <;> rfl
theorem isv7 : IsV 7 v7 := fun ⟨_, _, _, _, _, _, _, a0, _, _, _, _⟩ _ _ _ => by cases a0 <;> rfl
theorem isv8 : IsV 8 v8 := fun ⟨_, _, _, _, _, _, _, _, a0, _, _, _⟩ _ _ _ => by cases a0 <;> rfl
theorem isv9 : IsV 9 v9 := fun ⟨_, _, _, _, _, _, _, _, _, a0, _, _⟩ _ _ _ => by cases a0 <;> rfl
theorem isv10 : IsV 10 v10 := fun ⟨_, _, _, _, _, _, _, _, _, _, a0, _⟩ _ _ _ => by cases a0 <;> rfl
theorem isv11 : IsV 11 v11 := fun ⟨_, _, _, _, _, _, _, _, _, _, _, a0⟩ _ _ _ => by cases a0 <;> rfl

theorem SE.name {i : Nat} {x : Str} {kk : SK} (hc : IsV i c) (hx : Γ.vars[i]? = some (x, kk)) : SE G n Γ c (.Name x pos) := by
  intro A frs env X fr ω σ s k y hA hF R f h
  rw [hc] at h
  have hd := f.e.dbg i x kk hx
  refine wpAny_Name ?_ hd.1
  cases hg : fr.get i with
  | un => rw [hg] at h; cases h
  | va av =>
    rw [hg] at h
    cases kk with
    | loc =>
      obtain ⟨m, hns, hl⟩ := f.loc
      have q := hl i x hx
      rw [hg] at q
      obtain ⟨v, hv, V⟩ := q
      exact wpAny_loadName_local f.e.kind (f.e.loc i x hx) hns hv ⟨_, ω, σ, h, St.refl R, V⟩
    | own =>
      obtain ⟨cc, v0, h1, h2, h3, h4, h5, h6⟩ := f.cel i x _ hx (by intro q; cases q)
      rw [hg] at h6
      obtain ⟨v, rfl, V⟩ := h6
      exact wpAny_loadName_cell f.e.kind (f.e.own i x hx) h1 h2 ⟨_, ω, σ, h, St.refl R, V⟩
    | cap =>
      obtain ⟨cc, v0, h1, h2, h3, h4, h5, h6⟩ := f.cel i x _ hx (by intro q; cases q)
      rw [hg] at h6
      obtain ⟨v, rfl, V⟩ := h6
      rcases f.e.cap i x hx with q | q
      · exact wpAny_loadName_free f.e.kind q h1 h2 ⟨_, ω, σ, h, St.refl R, V⟩ hd.2
      · exact wpAny_loadName_cell f.e.kind q h1 h2 ⟨_, ω, σ, h, St.refl R, V⟩
end
end
end Mine
namespace Mine
section
open PySem PySem.W PyProof.Rows

theorem NsR.later {ω ω' : Wd} {h h' : Heap} {es : List DictEntry} {fs : List (Nat × AV)} (L : Later ω h ω' h') (r : NsR ω h es fs) : NsR ω' h' es fs := by
  obtain ⟨a, b, d⟩ := r
  refine ⟨a, b, fun k x hx av ha => ?_⟩
  obtain ⟨v, e, V⟩ := d k x hx av ha
  exact ⟨v, e, L.vr V⟩
theorem OR.later {G : Gl} {ω ω' : Wd} {h h' : Heap} {a : Addr} {o : AO} (r : OR G ω h a o) (L : Later ω h ω' h') (hk : ∀ o, h.get? a = some o → h'.get? a = some o) : OR G ω' h' a o := by
  cases o with
  | list l => obtain ⟨vs, p, q⟩ := r; exact ⟨vs, p.at hk, L.vrs q⟩
  | inst c d => obtain ⟨da, sl, p, q⟩ := r; exact ⟨da, sl, L.rho _ _ p, hk _ q⟩
  | ns fs => obtain ⟨es, n, p, q⟩ := r; exact ⟨es, n, hk _ p, q.later L⟩
  | tab f =>
    obtain ⟨ps, p, q, r, z⟩ := r
    refine ⟨ps, hk _ p, q, fun pos cv e => ?_, z⟩
    obtain ⟨c, rfl, hc, c', oc, vs, t, e1, e2, e3⟩ := r pos cv e
    cases e1
    exact ⟨c, rfl, L.fz _ hc, c, oc, vs, t, rfl, L.keep _ hc _ e2, e3⟩
  | pile => obtain ⟨x, y, t, u, p, q⟩ := r; exact ⟨x, y, t, u, p.at hk, q⟩
  | exc v => obtain ⟨o, dx, es, n, w, vs, h1, h2, h3, h4, h5, h6, h7, h8, h9⟩ := r; exact ⟨o, dx, es, n, w, vs, hk _ h1, h2, h3, h4, L.fz _ h5, L.keep _ h5 _ h6, h7, L.vr h8, h9⟩

theorem push_le (h : Heap) (o : Obj) : h.objs.size ≤ (h.push o).objs.size := by rw [Heap.size_push]; exact Nat.le_succ _
theorem push_lt (h : Heap) (o : Obj) : h.objs.size < (h.push o).objs.size := by rw [Heap.size_push]; exact Nat.lt_succ_self _
theorem funFrames_on {h h' base : Heap} : ∀ {l : List Env}, h.FunFrames base l → (∀ b ∈ l.filterMap (·.frame), ∀ o, h.get? b = some o → (∀ vs, o.data ≠ .fields vs) → ∃ o', h'.get? b = some o' ∧ ∀ vs, o'.data ≠ .fields vs) → h'.FunFrames base l
  | [], _, _ => trivial
  | env :: r, ⟨hk, ⟨L, o, hf, hn, ho, hd⟩, hr⟩, k => by
    have hm : L ∈ (env :: r).filterMap (·.frame) := by rw [List.filterMap_cons, hf]; exact .head _
    obtain ⟨o', ho', hd'⟩ := k L hm o ho hd
    exact ⟨hk, ⟨L, o', hf, hn, ho', hd'⟩, funFrames_on hr fun b hb => k b (by rw [List.filterMap_cons, hf]; exact .tail _ hb)⟩

section
variable {G : Gd} {frs : List Env} {ω : Wd} {σ : Sto} {s : Shared} {h' : Heap}
theorem Rep.frLow (R : Rep G.toGl frs ω σ s.heap) : ∀ a ∈ fr_ frs, ∃ o, s.heap.get? a = some o := fun a ha => by
  obtain ⟨_, o, ho, _⟩ := R.frames.mem ha
  exact ⟨o, ho⟩
theorem live_ne {h : Heap} {a b : Addr} (ha : ∃ o, h.get? a = some o) (hb : h.get? b = none) : a ≠ b := fun e => by
  obtain ⟨o, ho⟩ := ha
  rw [e, hb] at ho; cases ho
/-- new things, all the elder ones kept; some of the new ones frozen -/
theorem St.keepAll (R : Rep G.toGl frs ω σ s.heap) (hk : ∀ b o, s.heap.get? b = some o → h'.get? b = some o) (new : List Addr)
    (hn : ∀ a ∈ new, s.heap.get? a = none ∧ ∃ o, h'.get? a = some o) (t : Nat) : St G frs [] ω s { ω with fz := new ++ ω.fz } σ { s with heap := h', toks := t } := by
  have L : Later ω s.heap { ω with fz := new ++ ω.fz } h' := ⟨fun a q => List.mem_append_right _ q, fun _ _ q => q, fun _ _ q => q, fun a _ o e => hk a o e⟩
  refine ⟨⟨fun a o e => ⟨o, hk a o e⟩, ⟨[], by simp, fun _ q => nomatch q⟩, L.fz, fun a ha => ?_, ⟨[], by simp⟩, fun a o e _ _ => .inl (hk a o e)⟩, ⟨fun i o e => ?_, R.len, R.nu, R.nodup, fun a q => ?_, fun a q => ?_, fun a q => ?_, fun a q => ?_, fun a o e => hk a o (R.base a o e), ?_, ?_⟩, rfl, rfl, rfl⟩
  · rcases List.mem_append.mp ha with q | q
    · exact .inr (hn a q).1
    · exact .inl q
  · obtain ⟨a, ea, oa⟩ := R.objs i o e
    exact ⟨a, ea, oa.later L fun o => hk a o⟩
  · obtain ⟨o, ho⟩ := R.low a q
    exact ⟨o, hk a o ho⟩
  · rcases List.mem_append.mp q with q | q
    · exact (hn a q).2
    · obtain ⟨o, ho⟩ := R.lowz a q
      exact ⟨o, hk a o ho⟩
  · refine ⟨fun z => ?_, (R.sep a q).2⟩
    rcases List.mem_append.mp z with z | z
    · exact live_ne (R.low a q) (hn a z).1 rfl
    · exact (R.sep a q).1 z
  · rcases List.mem_append.mp q with q | q
    · exact fun z => live_ne (R.frLow a z) (hn a q).1 rfl
    · exact R.fzF a q
  · exact R.frames.of_keeps fun b o e _ => ⟨o, hk b o e, rfl⟩
  · exact fun a q => List.mem_append_right _ (R.glob a q)
theorem St.keep0 (R : Rep G.toGl frs ω σ s.heap) (hk : ∀ b o, s.heap.get? b = some o → h'.get? b = some o) (t : Nat) : St G frs [] ω s ω σ { s with heap := h', toks := t } := by
  have z := St.keepAll R hk [] (fun _ q => nomatch q) t
  simpa using z
theorem push_none (h : Heap) : h.get? h.objs.size = none := Heap.get?_none_of_le (Nat.le_refl _)
theorem St.push (R : Rep G.toGl frs ω σ s.heap) (o : Obj) (hf : o.isFreed = false) (t : Nat) : St G frs [] ω s { ω with fz := s.heap.objs.size :: ω.fz } σ { s with heap := s.heap.push o, toks := t } :=
  St.keepAll R (fun b x e => Heap.get?_push_of_some _ e) [s.heap.objs.size] (fun a q => by
    rw [List.mem_singleton.mp q]; exact ⟨push_none _, _, Heap.get?_push_size _ hf⟩) t
end

section
variable {ω : Wd} {h : Heap} {vs ws : List Value} {l r : List AV}
theorem VRs.length (x : VRs ω h vs l) : vs.length = l.length := by
  induction l generalizing vs with
  | nil => cases x; rfl
  | cons d l ih => cases x with | cons a b => simp [ih b]
theorem VRs.append (x : VRs ω h vs l) (y : VRs ω h ws r) : VRs ω h (vs ++ ws) (l ++ r) := by
  induction l generalizing vs with
  | nil => cases x; exact y
  | cons d l ih => cases x with | cons a b => exact .cons a (ih b)
theorem VRs.get (x : VRs ω h vs l) {i : Nat} {d : AV} (hd : l[i]? = some d) : ∃ v, vs[i]? = some v ∧ VR ω h v d := by
  induction l generalizing vs i with
  | nil => simp at hd
  | cons a l ih => cases x with
    | cons p q => cases i with
      | zero => simp at hd; subst hd; exact ⟨_, rfl, p⟩
      | succ i => simp at hd; simpa using ih q hd
theorem VRs.take (x : VRs ω h vs l) (n : Nat) : VRs ω h (vs.take n) (l.take n) := by
  induction l generalizing vs n with
  | nil => cases x; simp; exact .nil
  | cons d l ih => cases x with
    | cons a b => cases n with
      | zero => exact .nil
      | succ n => exact .cons a (ih b n)
theorem VRs.drop (x : VRs ω h vs l) (n : Nat) : VRs ω h (vs.drop n) (l.drop n) := by
  induction l generalizing vs n with
  | nil => cases x; simp; exact .nil
  | cons d l ih => cases x with
    | cons a b => cases n with
      | zero => exact .cons a b
      | succ n => exact ih b n
theorem VRs.set (x : VRs ω h vs l) {v : Value} {d : AV} (y : VR ω h v d) (n : Nat) : VRs ω h (vs.set n v) (l.set n d) := by
  induction l generalizing vs n with
  | nil => cases x; exact .nil
  | cons e l ih => cases x with
    | cons a b => cases n with
      | zero => exact .cons y b
      | succ n => exact .cons a (ih b n)
theorem VRs.snoc_inv {d : AV} (x : VRs ω h vs (l ++ [d])) : ∃ ws w, vs = ws ++ [w] ∧ VRs ω h ws l ∧ VR ω h w d := by
  induction l generalizing vs with
  | nil => cases x with | cons a b => cases b; exact ⟨[], _, rfl, .nil, a⟩
  | cons e l ih => cases x with
    | cons a b =>
      obtain ⟨ws, w, rfl, q, z⟩ := ih b
      exact ⟨_ :: ws, w, rfl, .cons a q, z⟩
theorem VRs.one {v : Value} {d : AV} (x : VR ω h v d) : VRs ω h [v] [d] := .cons x .nil
theorem VRs.rep (x : VRs ω h vs l) : ∀ n, VRs ω h (rep vs n) (rep l n)
  | 0 => .nil
  | n + 1 => x.append (VRs.rep x n)
end
theorem sizeLine_ge {n : Nat} (h : n ≤ 100000) : n ≤ sizeLine := by
  rw [sizeLine_eq]; omega

section
variable {G : Gd} {frs : List Env} {ω : Wd} {σ : Sto} {s : Shared} {k : KV} {vs : List Value} {l : List AV}
/-- a new tuple -/
theorem okTup (R : Rep G.toGl frs ω σ s.heap) (V : VRs ω s.heap vs l) (h : k (.tup l) σ = true) (t : Nat) : OkV G frs [] ω s k (.ref s.heap.objs.size) { s with heap := s.heap.push { cls := .type "tuple", data := .seq vs.toArray }, toks := t } := by
  have S := St.push (s := s) R { cls := .type "tuple", data := .seq vs.toArray } rfl t
  exact ⟨_, _, _, h, S, .tup (.head _) ⟨_, Heap.get?_push_size _ rfl, rfl, _, rfl⟩ ((S.later R).vrs V)⟩
/-- a new list that nobody is to change -/
theorem okLst (R : Rep G.toGl frs ω σ s.heap) (V : VRs ω s.heap vs l) (h : k (.lst l) σ = true) (t : Nat) : OkV G frs [] ω s k (.ref s.heap.objs.size) { s with heap := s.heap.push { cls := .type "list", data := .seq vs.toArray }, toks := t } := by
  have S := St.push (s := s) R { cls := .type "list", data := .seq vs.toArray } rfl t
  exact ⟨_, _, _, h, S, .lst (.head _) ⟨_, Heap.get?_push_size _ rfl⟩ ((S.later R).vrs V)⟩

/-- a new object of the store, somewhere -/
theorem St.allocAt (R : Rep G.toGl frs ω σ s.heap) {h' : Heap} {a₀ : Addr} (hk : ∀ b o, s.heap.get? b = some o → h'.get? b = some o) (ha : s.heap.get? a₀ = none) (hal : ∃ o, h'.get? a₀ = some o) {ao : AO} {kk : Nat → Sto → Bool} (h : alloc ao σ kk = true) (t : Nat)
    (hO : ∀ ω' , Later ω s.heap ω' h' → OR G.toGl ω' h' a₀ ao) :
    ∃ σ', kk σ.n σ' = true ∧ St G frs [] ω s { ω with ρ := ω.ρ ++ [a₀] } σ' { s with heap := h', toks := t } := by
  obtain ⟨tt, n, ns⟩ := σ
  have h1 : TR.putK ao tt n (fun t => fN n fun i => kk i ⟨t, Nat.succ i, ns⟩) = true := h
  obtain ⟨t', ht, hg⟩ := TR.putK_eq _ _ _ _ h1
  rw [fN_eq] at ht
  have hn : ω.ρ.length = n := R.len
  have L : Later ω s.heap { ω with ρ := ω.ρ ++ [a₀] } h' := ⟨fun a q => q, fun _ _ q => nth_append q, fun _ _ q => q, fun a _ o e => hk a o e⟩
  refine ⟨_, ht, ⟨fun a o' e => ⟨o', hk a o' e⟩, ⟨[a₀], rfl, fun a q => by rw [List.mem_singleton.mp q]; exact ha⟩, fun a q => q, fun a q => .inl q, ⟨[], by simp⟩, fun a o' e _ _ => .inl (hk a o' e)⟩,
    ⟨fun i o' e => ?_, by simp [hn], R.nu, ?_, fun a q => ?_, fun a q => ?_, fun a q => ?_, R.fzF, fun a o' e => hk a o' (R.base a o' e), ?_, R.glob⟩, rfl, rfl, rfl⟩
  · rw [hg] at e
    by_cases hi : i = n
    · subst hi
      rw [if_pos rfl] at e
      cases e
      refine ⟨_, ?_, hO _ L⟩
      rw [← hn]
      simp
    · rw [if_neg hi] at e
      obtain ⟨a, ea, oa⟩ := R.objs i o' e
      exact ⟨a, nth_append ea, oa.later L fun o e => hk _ o e⟩
  · refine List.nodup_append.mpr ⟨R.nodup, by simp, fun a hm b hb e => ?_⟩
    rw [List.mem_singleton.mp hb] at e
    exact live_ne (R.low a hm) ha e
  · rcases List.mem_append.mp q with q | q
    · obtain ⟨o', ho'⟩ := R.low a q
      exact ⟨o', hk _ _ ho'⟩
    · rw [List.mem_singleton.mp q]; exact hal
  · obtain ⟨o', ho'⟩ := R.lowz a q
    exact ⟨o', hk _ _ ho'⟩
  · rcases List.mem_append.mp q with q | q
    · exact R.sep a q
    · rw [List.mem_singleton.mp q]
      refine ⟨fun z => live_ne (R.lowz _ z) ha rfl, ?_, fun z => live_ne (R.frLow _ z) ha rfl⟩
      cases e : G.base.get? a₀ with
      | none => rfl
      | some o' => have := R.base _ _ e; rw [ha] at this; cases this
  · exact R.frames.of_keeps fun b o e _ => ⟨o, hk _ _ e, rfl⟩
/-- a new object of the store -/
theorem St.alloc (R : Rep G.toGl frs ω σ s.heap) {o : Obj} (hf : o.isFreed = false) {ao : AO} {kk : Nat → Sto → Bool} (h : alloc ao σ kk = true) (t : Nat)
    (hO : ∀ ω' , Later ω s.heap ω' (s.heap.push o) → OR G.toGl ω' (s.heap.push o) s.heap.objs.size ao) :
    ∃ σ', kk σ.n σ' = true ∧ St G frs [] ω s { ω with ρ := ω.ρ ++ [s.heap.objs.size] } σ' { s with heap := s.heap.push o, toks := t } :=
  St.allocAt R (fun b x e => Heap.get?_push_of_some _ e) (push_none _) ⟨_, Heap.get?_push_size _ hf⟩ h t hO
theorem rho_new (ω : Wd) (n a : Nat) (h : ω.ρ.length = n) : (ω.ρ ++ [a])[n]? = some a := by
  rw [← h]; simp

/-- a place of the store is written anew -/
theorem St.put (R : Rep G.toGl frs ω σ s.heap) {i : Nat} {a : Addr} (ha : ω.ρ[i]? = some a) {h' : Heap} (hs : Heap.SameBut a s.heap h') (hal : ∃ o, h'.get? a = some o) {ao : AO} {kk : Sto → Bool} (h : putO i ao σ kk = true) (t : Nat)
    (hO : Later ω s.heap ω h' → OR G.toGl ω h' a ao) :
    ∃ σ', kk σ' = true ∧ St G frs [] ω s ω σ' { s with heap := h', toks := t } := by
  obtain ⟨tt, n, ns⟩ := σ
  have h1 : TR.putK ao tt i (fun t => kk ⟨t, n, ns⟩) = true := h
  obtain ⟨t', ht, hg⟩ := TR.putK_eq _ _ _ _ h1
  have ham : a ∈ ω.ρ := List.mem_of_getElem? ha
  have nf : a ∉ ω.fz := (R.sep a ham).1
  have L : Later ω s.heap ω h' := ⟨fun a q => q, fun _ _ q => q, fun _ _ q => q, fun b hb o e => (hs.2 b (fun q => nf (q ▸ hb))).trans e⟩
  have al : ∀ b o, s.heap.get? b = some o → ∃ o', h'.get? b = some o' := fun b o e => by
    by_cases hb : b = a
    · rw [hb]; exact hal
    · exact ⟨o, (hs.2 b hb).trans e⟩
  refine ⟨_, ht, ⟨al, ⟨[], by simp, fun _ q => nomatch q⟩, fun a q => q, fun a q => .inl q, ⟨[], by simp⟩, fun b o e hb _ => .inl ((hs.2 b (fun q => hb (q ▸ ham))).trans e)⟩,
    ⟨fun j o e => ?_, R.len, R.nu, R.nodup, fun b q => by obtain ⟨o, ho⟩ := R.low b q; exact al b o ho, fun b q => by obtain ⟨o, ho⟩ := R.lowz b q; exact al b o ho, R.sep, R.fzF, fun b o e => (hs.2 b (fun q => ?_)).trans (R.base b o e), ?_, R.glob⟩, rfl, rfl, rfl⟩
  · rw [hg] at e
    by_cases hj : j = i
    · subst hj
      rw [if_pos rfl] at e
      cases e
      exact ⟨a, ha, hO L⟩
    · rw [if_neg hj] at e
      obtain ⟨b, eb, ob⟩ := R.objs j o e
      refine ⟨b, eb, ob.later L fun o e => (hs.2 b (fun q => ?_)).trans e⟩
      subst q
      obtain ⟨x, ex⟩ := List.getElem?_eq_some_iff.mp eb
      obtain ⟨y, ey⟩ := List.getElem?_eq_some_iff.mp ha
      exact hj ((List.getElem_inj R.nodup).mp (ex.trans ey.symm))
  · rw [q, (R.sep a ham).2.1] at e; cases e
  · exact funFrames_on R.frames fun b hb o e hd => ⟨o, (hs.2 b (fun q => (R.sep a ham).2.2 (q ▸ hb))).trans e, hd⟩
end
end
end Mine
namespace Mine
section
open PySem PySem.W PyProof.Rows PySem.Calls PySem.Spec

theorem isTup_of {h : Heap} {a : Addr} {vs : Array Value} (x : h.IsTuple a vs) : IsTup h a vs := x

section
variable {prog : Program} {w : World} {A : Around} {E : Value → Shared → Prop} {s : Shared} {Q : Value → Shared → Prop}
theorem joined_arrays (vs ws : List Value) : vs.toArray ++ ws.toArray = (vs ++ ws).toArray := by simp
theorem bin_add_lists {l b : Addr} {vs ws : List Value} (hl : s.heap.IsList l vs.toArray) (hb : s.heap.IsList b ws.toArray)
    (h : Q (.ref s.heap.objs.size) { s with heap := s.heap.push { cls := .type "list", data := .seq (vs ++ ws).toArray } }) (hsz : vs.length + ws.length ≤ sizeLine) :
    wpAny (model prog w) A (binaryOp .Add (.ref l) (.ref b)) Q E s := by
  obtain ⟨⟨_, d1, _, s1⟩, ho, rfl, n, rfl⟩ := hl
  obtain ⟨⟨_, d2, _, s2⟩, ho2, rfl, n2, rfl⟩ := hb
  have fits : vs.toArray.size + ws.toArray.size ≤ sizeLine := by simpa using hsz
  have W := list_addW l b vs.toArray ws.toArray n n2 d1 d2 s1 s2 fits
  exact concat_meets ⟨_, ho, rfl⟩ ⟨_, ho2, rfl⟩ noFill_list_add seq_list_add PySem.F.slot_list_add PySem.F.entry_list_add (PySem.F.args_list_add_2 _ _) W ⟨ho, ho2, by rw [joined_arrays]; exact h⟩
theorem bin_add_tuples {t b : Addr} {vs ws : List Value} (ht : s.heap.IsTuple t vs.toArray) (hb : s.heap.IsTuple b ws.toArray)
    (h0 : vs = [] → Q (.ref b) s) (h1 : ws = [] → Q (.ref t) s)
    (h2 : Q (.ref s.heap.objs.size) { s with heap := s.heap.push { cls := .type "tuple", data := .seq (vs ++ ws).toArray } }) (hsz : vs.length + ws.length ≤ sizeLine) :
    wpAny (model prog w) A (binaryOp .Add (.ref t) (.ref b)) Q E s := by
  obtain ⟨⟨_, d1, _, s1⟩, ho, rfl, n, rfl⟩ := ht
  obtain ⟨⟨_, d2, _, s2⟩, ho2, rfl, n2, rfl⟩ := hb
  have fits : vs.toArray.size + ws.toArray.size ≤ sizeLine := by simpa using hsz
  -- three cases of the library's, one road to each
  have tt : s.TypeIs (.ref t) "tuple" := ⟨_, ho, rfl⟩
  have tb : s.TypeIs (.ref b) "tuple" := ⟨_, ho2, rfl⟩
  have road := fun S => concat_meets (S := S) (A := A) (E := E) (Q := Q) (prog := prog) (w := w) tt tb noFill_tuple_add seq_tuple_add PySem.F.slot_tuple_add PySem.F.entry_tuple_add (PySem.F.args_tuple_add_2 (.ref t) (.ref b))
  rcases Decidable.em (vs = []) with hv | hv
  · exact road _ (tuple_addW0 t b vs.toArray ws.toArray n n2 d1 d2 s1 s2 (by simp [hv])) ⟨ho, ho2, h0 hv⟩
  rcases Decidable.em (ws = []) with hw | hw
  · exact road _ (tuple_addW1 t b vs.toArray ws.toArray n n2 d1 d2 s1 s2 (by simpa using hv) (by simp [hw])) ⟨ho, ho2, h1 hw⟩
  · exact road _ (tuple_addW2 t b vs.toArray ws.toArray n n2 d1 d2 s1 s2 (by simpa using hv) (by simpa using hw) fits) ⟨ho, ho2, by rw [joined_arrays]; exact h2⟩
theorem foldl_rep (vs : List Value) : ∀ n : Nat, List.foldl (fun x1 x2 => x1 ++ x2) #[] (List.replicate n vs.toArray) = (rep vs n).toArray := by
  have key : ∀ (n : Nat) (a : List Value), List.foldl (fun x1 x2 => x1 ++ x2) a.toArray (List.replicate n vs.toArray) = (a ++ rep vs n).toArray := by
    intro n
    induction n with
    | zero => intro a; simp [rep]
    | succ n ih =>
      intro a
      rw [List.replicate_succ, List.foldl_cons, show a.toArray ++ vs.toArray = (a ++ vs).toArray by simp, ih, List.append_assoc]
      rfl
  intro n
  have := key n []
  simpa using this
theorem rep_length {α : Type} (l : List α) : ∀ n, (rep l n).length = n * l.length
  | 0 => by simp [rep]
  | n + 1 => by rw [rep, List.length_append, rep_length l n, Nat.add_mul]; omega
theorem rep_nil {α : Type} : ∀ n, rep ([] : List α) n = []
  | 0 => rfl
  | n + 1 => by rw [rep, rep_nil n]; rfl
theorem bin_mul_list' {l : Addr} {its : Array Value} {x : Int} {u : Tok} {k : Nat} (hl : s.heap.get? l = some { cls := .type "list", data := .seq its k }) (h0 : 0 ≤ x) (hx : x < 64) (hsz : its.size * x.toNat ≤ 262144)
    (h : Q (.ref s.heap.objs.size) { s with heap := s.heap.push { cls := .type "list", data := .seq (List.foldl (fun x1 x2 => x1 ++ x2) #[] (List.replicate (if its.isEmpty = true then 0 else x.toNat) its)) } }) :
    wpAny (model prog w) A (binaryOp .Mult (.ref l) (.int x u)) Q E s := by
  refine wpAny_binaryOp_repeat_ref (T := "list") (U := "int") (by decide) ⟨_, hl, rfl⟩ (fun s' => typeIs_int s' _ u) noFill_list_mul F.fills_int_mul F.slot_int_rmul repeat_list F.slot_int_index.lookup
    (call_meets F.slot_int_rmul (typeIs_int s _ u) F.entry_int_rmul (F.args_int_rmul_2 _ _) (int___rmul___int_list _ u l its k)
      ⟨hl, rfl, ⟨_, hl, rfl⟩, call_meets F.slot_list_mul ⟨_, hl, rfl⟩ F.entry_list_mul (F.args_list_mul_2 _ _)
        (AutoListH.list___mul___list_int_3 l its k x u (by simp [Builtin.List.listFitsIndex]; omega) (by omega) (by simp [Builtin.List.listTooLong, sizeLine]; omega)) ⟨hl, h⟩⟩)
theorem bin_mul_list {l : Addr} {vs : List Value} {x : Nat} {u : Tok} (hl : s.heap.PlainList l vs.toArray) (hx : x < 64) (hsz : vs.length < 4096)
    (h : Q (.ref s.heap.objs.size) { s with heap := s.heap.push { cls := .type "list", data := .seq (rep vs x).toArray } }) :
    wpAny (model prog w) A (binaryOp .Mult (.ref l) (.int (.ofNat x) u)) Q E s := by
  obtain ⟨k, hl⟩ := hl
  refine bin_mul_list' hl (Int.natCast_nonneg x) (by show ((x : Nat) : Int) < 64; omega) ?_ ?_
  · rw [List.size_toArray]
    exact Nat.mul_le_mul (Nat.le_of_lt hsz) (Nat.le_of_lt hx)
  · have e : List.foldl (fun x1 x2 => x1 ++ x2) #[] (List.replicate (if vs.toArray.isEmpty = true then 0 else (Int.ofNat x).toNat) vs.toArray) = (rep vs x).toArray := by
      by_cases hv : vs = []
      · subst hv; simp [rep_nil]
      · rw [if_neg (by simpa using hv)]; exact foldl_rep vs x
    rw [e]
    exact h

/- tuple * int -/
theorem noFill_tuple_mul : fillsNumberSlot (.type "tuple") "mul" = pure false := by kernel_rfl
theorem repeat_tuple : seqRepeat? (.type "tuple") = pure (some (.builtin "tuple.__mul__")) := by kernel_rfl
theorem int_rmul_tuple (a : Int) (t : Tok) (l : Addr) (items : Array Value) (n : Nat) (dd : Option Addr) (sl : Array (Option Value)) :
    Meets (Builtin.«int.__rmul__» ⟨[.int a t, .ref l], []⟩) (fun _ R s => s.heap.get? l = some { cls := .type "tuple", dict := dd, data := .seq items n, slots := sl } ∧ R (.ok (.ret Value.notImplemented)) s) :=
  .of_wp fun prog w A R s h => by obtain ⟨hp, g, d, tk, os⟩ := s; obtain ⟨hl, h⟩ := h; wp_walk; exact ⟨_, rfl, h⟩
theorem tuple_mul_W (l : Addr) (vs : List Value) (n : Nat) (x : Int) (u : Tok) (dd : Option Addr) (sl : Array (Option Value)) (h0 : 1 < x) (hx : x < 64) (hne : vs.toArray.isEmpty = false) (hsz : vs.toArray.size * x ≤ 262144) :
    Meets (Builtin.«tuple.__mul__» ⟨[.ref l, .int x u], []⟩) (fun _ R s => s.heap.get? l = some { cls := .type "tuple", dict := dd, data := .seq vs.toArray n, slots := sl } ∧
      R (.ok (.ret (.ref s.heap.objs.size))) { s with heap := s.heap.push { cls := .type "tuple", data := .seq (rep vs x.toNat).toArray } }) :=
  .of_wp fun prog w A R s h => by
    obtain ⟨hp, g, d, tk, os⟩ := s; obtain ⟨hl, h⟩ := h
    have c1 : ¬ (decide (x < -(2 ^ 63)) || decide (x ≥ 2 ^ 63)) = true := by simp; omega
    have c2 : ¬ (vs.toArray.isEmpty || x == 1) = true := by rw [hne]; simp; omega
    have c3 : ¬ (decide (x ≤ 0) || vs.toArray.isEmpty) = true := by rw [hne]; simp; omega
    have e := foldl_rep vs x.toNat
    have c6 : ¬ (List.foldl (fun x1 x2 => x1 ++ x2) #[] (List.replicate x.toNat vs.toArray)).size > sizeLine := by
      rw [e, List.size_toArray, rep_length, sizeLine_eq]
      rw [List.size_toArray] at hsz
      have : ((x.toNat * vs.length : Nat) : Int) ≤ 262144 := by
        rw [Int.natCast_mul, Int.toNat_of_nonneg (by omega), Int.mul_comm]; exact hsz
      omega
    have c4 : ¬ (vs.toArray.size : Int) * x > (2 ^ 63 - 1) / 8 := by omega
    have c5 : ¬ Builtin.Tuple.tupleTooMany ((vs.toArray.size : Int) * x) = true := by
      generalize (vs.toArray.size : Int) * x = y at hsz
      simp [Builtin.Tuple.tupleTooMany, sizeLine]; omega
    rw [← e] at h
    wp_walk
    rw [if_neg c1]
    wp_walk
    rw [if_neg c2]
    wp_walk
    rw [if_neg c3]
    wp_walk
    rw [if_neg c4]
    wp_walk
    rw [if_neg c5]
    wp_walk
    rw [if_neg c6]
    wp_walk
    exact ⟨_, rfl, h⟩
theorem tuple_mul_same (l : Addr) (its : Array Value) (n : Nat) (x : Int) (u : Tok) (dd : Option Addr) (sl : Array (Option Value)) (h0 : 0 < x) (hx : x < 64) (hne : (its.isEmpty || x == 1) = true) :
    Meets (Builtin.«tuple.__mul__» ⟨[.ref l, .int x u], []⟩) (fun _ R s => s.heap.get? l = some { cls := .type "tuple", dict := dd, data := .seq its n, slots := sl } ∧
      R (.ok (.ret (.ref l))) s) :=
  .of_wp fun prog w A R s h => by
    obtain ⟨hp, g, d, tk, os⟩ := s; obtain ⟨hl, h⟩ := h
    have c1 : ¬ (decide (x < -(2 ^ 63)) || decide (x ≥ 2 ^ 63)) = true := by simp; omega
    wp_walk
    rw [if_neg c1]
    wp_walk
    exact ⟨_, rfl, h⟩
theorem bin_mul_tuple {l : Addr} {vs : List Value} {x : Nat} {u : Tok} (hl : s.heap.IsTuple l vs.toArray) (h0 : 0 < x) (hx : x < 64) (hsz : vs.length < 4096)
    (h1 : rep vs x = vs → Q (.ref l) s)
    (h : Q (.ref s.heap.objs.size) { s with heap := s.heap.push { cls := .type "tuple", data := .seq (rep vs x).toArray } }) :
    wpAny (model prog w) A (binaryOp .Mult (.ref l) (.int (.ofNat x) u)) Q E s := by
  obtain ⟨⟨c, dd, t, sl⟩, ho, hc, n, hd⟩ := hl
  simp only at hc hd
  subst hc hd
  have p0 : (0 : Int) < .ofNat x := by show (0 : Int) < ((x : Nat) : Int); omega
  have p1 : Int.ofNat x < 64 := by show ((x : Nat) : Int) < 64; omega
  refine wpAny_binaryOp_repeat_ref (T := "tuple") (U := "int") (by decide) ⟨_, ho, rfl⟩ (fun s' => typeIs_int s' _ u) noFill_tuple_mul F.fills_int_mul F.slot_int_rmul repeat_tuple F.slot_int_index.lookup
    (call_meets F.slot_int_rmul (typeIs_int s _ u) F.entry_int_rmul (F.args_int_rmul_2 _ _) (int_rmul_tuple _ u l vs.toArray n dd sl)
      ⟨ho, rfl, ⟨_, ho, rfl⟩, ?_⟩)
  by_cases hv : (vs.toArray.isEmpty || (Int.ofNat x == 1)) = true
  · refine call_meets F.slot_tuple_mul ⟨_, ho, rfl⟩ F.entry_tuple_mul (F.args_tuple_mul_2 _ _) (tuple_mul_same l vs.toArray n _ u dd sl p0 p1 hv) ⟨ho, h1 ?_⟩
    rcases Bool.or_eq_true _ _ ▸ hv with q | q
    · have : vs = [] := by simpa using q
      rw [this, rep_nil]
    · have : x = 1 := by
        have z : Int.ofNat x = 1 := by simpa using q
        exact Int.ofNat.inj z
      rw [this]
      simp [rep]
  · have hv' := Bool.or_eq_false_iff.mp (Bool.eq_false_iff.mpr hv)
    refine call_meets F.slot_tuple_mul ⟨_, ho, rfl⟩ F.entry_tuple_mul (F.args_tuple_mul_2 _ _) (tuple_mul_W l vs n (.ofNat x) u dd sl ?_ p1 hv'.1 ?_) ⟨ho, h⟩
    · have : Int.ofNat x ≠ 1 := by simpa using hv'.2
      have : ((x : Nat) : Int) ≠ 1 := this
      show (1 : Int) < ((x : Nat) : Int)
      omega
    · rw [List.size_toArray]
      have : vs.length * x ≤ 4096 * 64 := Nat.mul_le_mul (by omega) (by omega)
      show ((vs.length : Nat) : Int) * ((x : Nat) : Int) ≤ 262144
      rw [← Int.natCast_mul]
      omega
end
end
end Mine
namespace Mine
section
open PySem PySem.W PyProof.Rows PySem.Calls PySem.Spec

/- what a case split says -/
theorem intK_inv {v : AV} {k : Int → Bool} (h : intK v k = true) : ∃ i, v = .int i ∧ k i = true := by
  cases v with
  | int i => exact ⟨i, rfl, h⟩
  | _ => cases h
theorem natK_inv {v : AV} {k : Nat → Bool} (h : natK v k = true) : ∃ n : Nat, v = .int (.ofNat n) ∧ k n = true := by
  cases v with
  | int i => cases i with
    | ofNat n => exact ⟨n, rfl, h⟩
    | negSucc n => cases h
  | _ => cases h
theorem getO_inv {i : Nat} {σ : Sto} {k : AO → Bool} (h : getO i σ k = true) : ∃ o, σ.t.get i = some o ∧ k o = true := by
  obtain ⟨t, n, ns⟩ := σ
  have h' : TR.getK t i k = true := h
  rw [TR.getK_eq] at h'
  show ∃ o, t.get i = some o ∧ _
  cases e : t.get i with
  | none => rw [e] at h'; cases h'
  | some o => rw [e] at h'; exact ⟨o, rfl, h'⟩
theorem listK_inv {v : AV} {σ : Sto} {k : Nat → List AV → Bool} (h : listK v σ k = true) : ∃ i l, v = .obj i ∧ σ.t.get i = some (.list l) ∧ k i l = true := by
  cases v with
  | obj i =>
    obtain ⟨o, e, q⟩ := getO_inv (k := fun o => _) h
    cases o with
    | list l => exact ⟨i, l, rfl, e, q⟩
    | _ => cases q
  | _ => cases h
inductive LstIs (σ : Sto) (l : List AV) : AV → Prop
  | lst : LstIs σ l (.lst l)
  | obj (i : Nat) : σ.t.get i = some (.list l) → LstIs σ l (.obj i)
theorem lstK_inv {v : AV} {σ : Sto} {k : List AV → Bool} (h : lstK v σ k = true) : ∃ l, LstIs σ l v ∧ k l = true := by
  cases v with
  | lst l => exact ⟨l, .lst, h⟩
  | obj i =>
    obtain ⟨o, e, q⟩ := getO_inv (k := fun o => _) h
    cases o with
    | list l => exact ⟨l, .obj i e, q⟩
    | _ => cases q
  | _ => cases h
inductive SeqIs (σ : Sto) (l : List AV) : AV → Prop
  | tup : SeqIs σ l (.tup l)
  | lst {v : AV} : LstIs σ l v → SeqIs σ l v
theorem itemsK_inv {v : AV} {σ : Sto} {k : List AV → Bool} (h : itemsK v σ k = true) : ∃ l, SeqIs σ l v ∧ k l = true := by
  cases v with
  | tup l => exact ⟨l, .tup, h⟩
  | lst l => exact ⟨l, .lst .lst, h⟩
  | obj i =>
    obtain ⟨o, e, q⟩ := getO_inv (k := fun o => _) h
    cases o with
    | list l => exact ⟨l, .lst (.obj i e), q⟩
    | _ => cases q
  | _ => cases h
theorem tupK_inv {v : AV} {k : List AV → Bool} (h : @AV.rec (fun _ => Bool) (fun _ => Bool) false (fun _ => false) (fun _ => false) (fun _ => false) (fun _ => false) (fun l _ => k l) (fun _ _ => false) (fun _ => false) false false (fun _ _ _ _ => false) v = true) :
    ∃ l, v = .tup l ∧ k l = true := by
  cases v with
  | tup l => exact ⟨l, rfl, h⟩
  | _ => cases h
theorem ifB_inv {b x : Bool} (h : ifB b x false = true) : b = true ∧ x = true := by
  cases b with
  | true => exact ⟨rfl, h⟩
  | false => cases h
theorem blt_inv {m n : Nat} {x : Bool} (h : ifB (Nat.blt m n) x false = true) : m < n ∧ x = true := ⟨blt_iff.mp (ifB_inv h).1, (ifB_inv h).2⟩

section
variable {ω : Wd} {h : Heap} {v : Value}
theorem VR.int_inv {i : Int} (V : VR ω h v (.int i)) : ∃ t, v = .int i t := by cases V; exact ⟨_, rfl⟩
theorem VR.none_inv (V : VR ω h v .none) : v = .none := by cases V; rfl
theorem VR.bool_inv {b : Bool} (V : VR ω h v (.bool b)) : v = .bool b := by cases V; rfl
theorem VR.str_inv {i : Nat} (V : VR ω h v (.str i)) : ∃ x t, v = .str x t ∧ txts[i]? = some x := by cases V; exact ⟨_, _, rfl, by assumption⟩
theorem VR.tup_inv {l : List AV} (V : VR ω h v (.tup l)) : ∃ a vs, v = .ref a ∧ a ∈ ω.fz ∧ h.IsTuple a vs.toArray ∧ VRs ω h vs l := by cases V; exact ⟨_, _, rfl, by assumption, by assumption, by assumption⟩
theorem VR.lst_inv {l : List AV} (V : VR ω h v (.lst l)) : ∃ a vs, v = .ref a ∧ a ∈ ω.fz ∧ h.PlainList a vs.toArray ∧ VRs ω h vs l := by cases V; exact ⟨_, _, rfl, by assumption, by assumption, by assumption⟩
theorem VR.obj_inv {i : Nat} (V : VR ω h v (.obj i)) : ∃ a, v = .ref a ∧ ω.ρ[i]? = some a := by cases V; exact ⟨_, rfl, by assumption⟩
end
section
variable {G : Gl} {frs : List Env} {ω : Wd} {σ : Sto} {h : Heap}
theorem Rep.at (R : Rep G frs ω σ h) {i : Nat} {o : AO} {v : Value} (V : VR ω h v (.obj i)) (e : σ.t.get i = some o) : ∃ a, v = .ref a ∧ ω.ρ[i]? = some a ∧ OR G ω h a o := by
  obtain ⟨a, rfl, ha⟩ := V.obj_inv
  obtain ⟨b, hb, ob⟩ := R.objs i o e
  rw [ha] at hb
  cases hb
  exact ⟨a, rfl, ha, ob⟩
theorem Rep.lst (R : Rep G frs ω σ h) {l : List AV} {av : AV} {v : Value} (V : VR ω h v av) (e : LstIs σ l av) : ∃ a vs, v = .ref a ∧ h.PlainList a vs.toArray ∧ VRs ω h vs l := by
  cases e with
  | lst => obtain ⟨a, vs, e, _, p, q⟩ := V.lst_inv; exact ⟨a, vs, e, p, q⟩
  | obj i e => obtain ⟨a, rfl, _, vs, p, q⟩ := R.at V e; exact ⟨a, vs, rfl, p, q⟩
end
theorem PlainList.isList {h : Heap} {a : Addr} {vs : Array Value} (p : h.PlainList a vs) : h.IsList a vs := by
  obtain ⟨n, p⟩ := p
  exact ⟨_, p, rfl, n, rfl⟩

/- data -/
noncomputable def dat (ν : List Int) (σ : Sto) : Nat → AV → PyData
  | 0, _ => .none
  | _ + 1, .none => .none
  | _ + 1, .bool b => .bool b
  | _ + 1, .int i => .int i
  | _ + 1, .sym k => .int (ν.getD k 0)
  | _ + 1, .str k => .str (txts.getD k Str.empty)
  | n + 1, .tup l => .tuple (l.map (dat ν σ n))
  | n + 1, .lst l => .list (l.map (dat ν σ n))
  | n + 1, .obj i => match σ.t.get i with
    | some (.list l) => .list (l.map (dat ν σ n))
    | _ => .none
  | _ + 1, .any => .none
theorem allD_inv {ih : AV → Bool} : ∀ {l : List AV}, allD ih l = true → ∀ a ∈ l, ih a = true
  | [], _, _, h => nomatch h
  | a :: r, h, b, hb => by
    have h' : ifB (ih a) (allD ih r) false = true := h
    obtain ⟨p, q⟩ := ifB_inv h'
    rcases List.mem_cons.mp hb with rfl | hb
    · exact p
    · exact allD_inv q b hb
theorem dataK_obj {σ : Sto} {n i : Nat} (h : dataK σ (n + 1) (.obj i) = true) : ∃ l, σ.t.get i = some (.list l) ∧ allD (dataK σ n) l = true := by
  obtain ⟨o, e, q⟩ := getO_inv (k := fun o => _) h
  cases o with
  | list l => exact ⟨l, e, q⟩
  | _ => cases q
theorem txts_ok : ∀ x ∈ txts, PyData.strOk x = true := by decide +kernel
theorem txt_ok (k : Nat) : PyData.strOk (txts.getD k Str.empty) = true := by
  rw [List.getD_eq_getElem?_getD]
  cases e : txts[k]? with
  | none => show PyData.strOk Str.empty = true; decide +kernel
  | some x => exact txts_ok x (List.mem_of_getElem? e)
theorem canLayAll0_of {l : List PyData} (h : ∀ d ∈ l, d.canLay0 = true) : PyData.canLayAll0 l = true := by
  induction l with
  | nil => rfl
  | cons a r ih => simp [PyData.canLayAll0, h a (.head _), ih fun d hd => h d (.tail _ hd)]
theorem depthAll_of {l : List PyData} {n : Nat} (h : ∀ d ∈ l, d.depth ≤ n) : PyData.depthAll l ≤ n := by
  induction l with
  | nil => exact Nat.zero_le _
  | cons a r ih => exact Nat.max_le.mpr ⟨h a (.head _), ih fun d hd => h d (.tail _ hd)⟩
theorem dat_lay (ν : List Int) (σ : Sto) : ∀ n a, (dat ν σ n a).canLay0 = true ∧ (dat ν σ n a).depth ≤ n
  | 0, _ => ⟨rfl, Nat.le_refl _⟩
  | n + 1, a => by
    have many : ∀ l : List AV, PyData.canLayAll0 (l.map (dat ν σ n)) = true ∧ PyData.depthAll (l.map (dat ν σ n)) ≤ n := fun l =>
      ⟨canLayAll0_of fun d hd => by obtain ⟨a, _, rfl⟩ := List.mem_map.mp hd; exact (dat_lay ν σ n a).1, depthAll_of fun d hd => by obtain ⟨a, _, rfl⟩ := List.mem_map.mp hd; exact (dat_lay ν σ n a).2⟩
    cases a with
    | str k => exact ⟨by simp only [dat, PyData.canLay0]; exact txt_ok k, by simp only [dat, PyData.depth]; exact Nat.zero_le _⟩
    | tup l => exact ⟨by simp only [dat, PyData.canLay0]; exact (many l).1, by simp only [dat, PyData.depth]; exact Nat.succ_le_succ (many l).2⟩
    | lst l => exact ⟨by simp only [dat, PyData.canLay0]; exact (many l).1, by simp only [dat, PyData.depth]; exact Nat.succ_le_succ (many l).2⟩
    | obj i =>
      simp only [dat]
      split
      · exact ⟨by simp only [PyData.canLay0]; exact (many _).1, by simp only [PyData.depth]; exact Nat.succ_le_succ (many _).2⟩
      · exact ⟨rfl, by simp [PyData.depth]⟩
    | _ => exact ⟨rfl, by simp only [dat, PyData.depth]; exact Nat.zero_le _⟩
theorem readsAll_of {ω : Wd} {h : Heap} {f : AV → PyData} : ∀ {vs : List Value} {l : List AV}, VRs ω h vs l → (∀ v a, VR ω h v a → a ∈ l → ∃ as, Reads h v (f a) as) → ∃ as, ReadsAll h vs (l.map f) as
  | _, _, .nil, _ => ⟨[], .nil⟩
  | _, _, .cons p q, k => by
    obtain ⟨as, r⟩ := k _ _ p (.head _)
    obtain ⟨bs, r'⟩ := readsAll_of q fun v a x m => k v a x (.tail _ m)
    exact ⟨as ++ bs, .cons r r'⟩
section
variable {G : Gl} {frs : List Env} {ω : Wd} {σ : Sto} {h : Heap}
theorem reads_list {a : Addr} {vs : List Value} {xs : List PyData} (p : h.PlainList a vs.toArray) (r : ∃ as, ReadsAll h vs xs as) : ∃ as, Reads h (.ref a) (.list xs) as := by
  obtain ⟨n, p⟩ := p
  obtain ⟨as, r⟩ := r
  exact ⟨_, reads_list_at p rfl rfl r⟩
theorem reads_tup {a : Addr} {vs : List Value} {xs : List PyData} (p : h.IsTuple a vs.toArray) (r : ∃ as, ReadsAll h vs xs as) : ∃ as, Reads h (.ref a) (.tuple xs) as := by
  obtain ⟨o, ho, hc, n, hd⟩ := p
  obtain ⟨as, r⟩ := r
  exact ⟨_, reads_tuple_at ho hc hd r⟩
theorem reads_of (R : Rep G frs ω σ h) : ∀ n {v : Value} {a : AV}, VR ω h v a → dataK σ n a = true → ∃ as, Reads h v (dat ω.ν σ n a) as
  | 0, _, _, _, k => nomatch k
  | n + 1, v, a, V, k => by
    have many : ∀ {l : List AV} {vs : List Value}, VRs ω h vs l → allD (dataK σ n) l = true → ∃ as, ReadsAll h vs (l.map (dat ω.ν σ n)) as := fun q d =>
      readsAll_of q fun v a x m => reads_of R n x (allD_inv d a m)
    cases a with
    | none => cases V; exact ⟨_, .none⟩
    | bool b => cases V; exact ⟨_, .bool b⟩
    | int i => cases V; exact ⟨_, .int _ _⟩
    | sym j =>
      cases V with
      | sym t e =>
        refine ⟨[], ?_⟩
        simp only [dat]
        rw [List.getD_eq_getElem?_getD, e]
        exact .int _ _
    | str j =>
      cases V with
      | str t e =>
        refine ⟨[], ?_⟩
        simp only [dat]
        rw [List.getD_eq_getElem?_getD, e]
        exact .str _ _
    | tup l => obtain ⟨a, vs, rfl, _, p, q⟩ := V.tup_inv; simp only [dat]; exact reads_tup p (many q k)
    | lst l => obtain ⟨a, vs, rfl, _, p, q⟩ := V.lst_inv; simp only [dat]; exact reads_list p (many q k)
    | obj i =>
      obtain ⟨l, e, d⟩ := dataK_obj k
      obtain ⟨a, rfl, _, vs, p, q⟩ := R.at V e
      simp only [dat, e]
      exact reads_list p (many q d)
    | any => cases k
end
theorem txts_nodup : txts.Nodup := by decide +kernel
theorem txts_len : txts.length = 23 := rfl

theorem eqL_ok {ν : List Int} {σ : Sto} {m n : Nat} {no : Bool} (IH : ∀ a b yes, dataK σ n a = true → dataK σ n b = true → aeq σ m a b yes no = true → (if PyData.eqv (dat ν σ n a) (dat ν σ n b) then yes else no) = true) :
    ∀ {l r : List AV} {yes : Bool}, allD (dataK σ n) l = true → allD (dataK σ n) r = true → eqL (aeq σ m) no l r yes = true → (if PyData.eqvAll (l.map (dat ν σ n)) (r.map (dat ν σ n)) then yes else no) = true
  | [], [], _, _, _, h => h
  | [], _ :: _, _, _, _, h => h
  | _ :: _, [], _, _, _, h => h
  | a :: l, b :: r, yes, d1, d2, h => by
    obtain ⟨p1, q1⟩ := ifB_inv (show ifB (dataK σ n a) (allD (dataK σ n) l) false = true from d1)
    obtain ⟨p2, q2⟩ := ifB_inv (show ifB (dataK σ n b) (allD (dataK σ n) r) false = true from d2)
    have z := IH a b _ p1 p2 (show aeq σ m a b (eqL (aeq σ m) no l r yes) no = true from h)
    have e : PyData.eqvAll ((a :: l).map (dat ν σ n)) ((b :: r).map (dat ν σ n)) = (PyData.eqv (dat ν σ n a) (dat ν σ n b) && PyData.eqvAll (l.map (dat ν σ n)) (r.map (dat ν σ n))) := rfl
    rw [e]
    cases c : PyData.eqv (dat ν σ n a) (dat ν σ n b) with
    | false => rw [c] at z; exact z
    | true =>
      rw [c] at z
      exact eqL_ok IH q1 q2 z
theorem dat_obj {ν : List Int} {σ : Sto} {n i : Nat} {l : List AV} (e : σ.t.get i = some (.list l)) : dat ν σ (n + 1) (.obj i) = .list (l.map (dat ν σ n)) := by
  simp only [dat, e]
theorem str_ne {i j : Nat} (hi : i < 23) (hj : j < 23) (h : i ≠ j) : (txts.getD i Str.empty == txts.getD j Str.empty) = false := by
  have hi' : i < txts.length := hi
  have hj' : j < txts.length := hj
  rw [List.getD_eq_getElem?_getD, List.getD_eq_getElem?_getD, List.getElem?_eq_getElem hi', List.getElem?_eq_getElem hj']
  simp only [Option.getD_some]
  refine beq_eq_false_iff_ne.mpr fun e => h ((List.getElem_inj txts_nodup).mp e)
end
end Mine
namespace Mine
section
open PySem PySem.W PyProof.Rows PySem.Calls PySem.Spec

theorem eqB_iff {i j : Int} : PySem.W.Z.eqB i j = (i == j) := by
  cases h : i == j with
  | true => exact (Z.eqB_iff _ _).mpr (by simpa using h)
  | false =>
    cases q : Z.eqB i j with
    | false => rfl
    | true => rw [(Z.eqB_iff _ _).mp q] at h; simp at h
theorem aeq_ok (ν : List Int) (σ : Sto) : ∀ m n a b yes no, m ≤ n → dataK σ n a = true → dataK σ n b = true → aeq σ m a b yes no = true → (if PyData.eqv (dat ν σ n a) (dat ν σ n b) then yes else no) = true
  | 0, _, _, _, _, _, _, _, _, h => nomatch h
  | m + 1, 0, _, _, _, _, _, h, _, _ => nomatch h
  | m + 1, n + 1, a, b, yes, no, hmn, da, db, h => by
    have IH : ∀ a b yes, dataK σ n a = true → dataK σ n b = true → aeq σ m a b yes no = true → (if PyData.eqv (dat ν σ n a) (dat ν σ n b) then yes else no) = true := fun a b yes d1 d2 q => aeq_ok ν σ m n a b yes no (Nat.le_of_succ_le_succ hmn) d1 d2 q
    have lists : ∀ {l r : List AV}, allD (dataK σ n) l = true → allD (dataK σ n) r = true → eqL (aeq σ m) no l r yes = true → (if PyData.eqvAll (l.map (dat ν σ n)) (r.map (dat ν σ n)) then yes else no) = true := fun d1 d2 q => eqL_ok IH d1 d2 q
    cases a with
    | none => cases b with
      | none => exact h
      | obj i => cases h
      | lst l => cases h
      | _ => first | (simp only [dat, PyData.eqv]; exact h) | exact (nomatch (show false = true from h))
    | int i => cases b with
      | int j =>
        have h' : ifB (Z.eqB i j) yes no = true := h
        rw [ifB_eq, eqB_iff] at h'
        simp only [dat, PyData.eqv]
        exact h'
      | _ => first | (simp only [dat, PyData.eqv]; exact h) | exact (nomatch (show false = true from h))
    | sym i => cases b with
      | sym j =>
        have h' : ifB (Nat.beq i j) yes false = true := h
        obtain ⟨e, y⟩ := ifB_inv h'
        have : i = j := Nat.eq_of_beq_eq_true e
        subst this
        simp only [dat, PyData.eqv, beq_self_eq_true, if_true]
        exact y
      | _ => exact (nomatch (show false = true from h))
    | str i => cases b with
      | str j =>
        have h' : ifB (Nat.beq i j) yes no = true := h
        rw [ifB_eq] at h'
        simp only [dat, PyData.eqv]
        by_cases e : i = j
        · subst e
          rw [if_pos (Nat.beq_refl i)] at h'
          simp only [beq_self_eq_true, if_true]
          exact h'
        · rw [if_neg (fun q => e (Nat.eq_of_beq_eq_true q))] at h'
          rw [str_ne (blt_iff.mp da) (blt_iff.mp db) e]
          exact h'
      | _ => first | (simp only [dat, PyData.eqv]; exact h) | exact (nomatch (show false = true from h))
    | tup l => cases b with
      | tup r => simp only [dat, PyData.eqv]; exact lists da db h
      | _ => first | (simp only [dat, PyData.eqv]; exact h) | exact (nomatch (show false = true from h))
    | lst l => cases b with
      | lst r => simp only [dat, PyData.eqv]; exact lists da db h
      | obj j =>
        obtain ⟨r, e, d⟩ := dataK_obj db
        have h' : getO j σ (fun o => @AO.rec (fun _ => Bool) (fun r => eqL (aeq σ m) no l r yes) (fun _ _ => false) (fun _ => false) (fun _ => false) false (fun _ => false) o) = true := h
        obtain ⟨o, e', q⟩ := getO_inv h'
        rw [e] at e'
        cases e'
        rw [dat_obj e]
        simp only [dat, PyData.eqv]
        exact lists da d q
      | _ => exact (nomatch (show false = true from h))
    | obj i =>
      obtain ⟨l, el, dl⟩ := dataK_obj da
      obtain ⟨o, e', h⟩ := getO_inv (k := fun o => _) h
      rw [el] at e'
      cases e'
      rw [dat_obj el]
      cases b with
      | lst r => simp only [dat, PyData.eqv]; exact lists dl db h
      | obj j =>
        obtain ⟨r, e, d⟩ := dataK_obj db
        have h' : getO j σ (fun o => @AO.rec (fun _ => Bool) (fun r => eqL (aeq σ m) no l r yes) (fun _ _ => false) (fun _ => false) (fun _ => false) false (fun _ => false) o) = true := h
        obtain ⟨o, e', q⟩ := getO_inv h'
        rw [e] at e'
        cases e'
        rw [dat_obj e]
        simp only [PyData.eqv]
        exact lists dl d q
      | _ => exact (nomatch (show false = true from h))
    | _ => exact (nomatch (show false = true from h))
theorem aeqD_inv {ν : List Int} {σ : Sto} {a b : AV} {yes no : Bool} (h : aeqD σ a b yes no = true) : dataK σ 8 a = true ∧ dataK σ 8 b = true ∧ (if PyData.eqv (dat ν σ 8 a) (dat ν σ 8 b) then yes else no) = true := by
  obtain ⟨p, h⟩ := ifB_inv h
  obtain ⟨q, h⟩ := ifB_inv h
  exact ⟨p, q, aeq_ok ν σ 8 8 a b yes no (Nat.le_refl _) p q h⟩
theorem dat_shaped (ν : List Int) (σ : Sto) (a : AV) : SeqAt.shaped (dat ν σ 8 a) = true := by
  unfold SeqAt.shaped
  rw [(dat_lay ν σ 8 a).1, decide_eq_true (Nat.le_trans (dat_lay ν σ 8 a).2 (by decide))]
  rfl
theorem Room.u64 {A : Around} {n : Nat} (h : Room A n) : A.units + 64 < cLine := by have := h.2.2; omega

/-- a comparison's answer -/
noncomputable def OkC (ω : Wd) (σ : Sto) (s : Shared) (yes no : Bool) (v : Value) (s' : Shared) : Prop := s' = s ∧ ∃ b : Bool, v = .bool b ∧ (if b then yes else no) = true
theorem OkC.of {ω : Wd} {σ : Sto} {s : Shared} {yes no b : Bool} (h : (if b then yes else no) = true) : OkC ω σ s yes no (.bool b) s := ⟨rfl, b, rfl, h⟩
theorem OkC.not {ω : Wd} {σ : Sto} {s : Shared} {yes no b : Bool} (h : (if b then no else yes) = true) : OkC ω σ s yes no (.bool (!b)) s := ⟨rfl, !b, rfl, by cases b <;> exact h⟩

noncomputable def coOf : CO → CmpOp
  | .eq => .Eq | .ne => .NotEq | .lt => .Lt | .le => .LtE | .gt => .Gt | .ge => .GtE | .is => .Is | .isin => .In | .notin => .NotIn
theorem ltB_dec {i j : Int} : PySem.W.Z.ltB i j = decide (i < j) := by
  by_cases h : i < j
  · rw [decide_eq_true h]; exact (Z.ltB_iff _ _).mpr h
  · rw [decide_eq_false h]
    cases q : Z.ltB i j with
    | false => rfl
    | true => exact absurd ((Z.ltB_iff _ _).mp q) h
theorem leB_dec {i j : Int} : PySem.W.Z.leB i j = decide (i ≤ j) := by
  by_cases h : i ≤ j
  · rw [decide_eq_true h]; exact (Z.leB_iff _ _).mpr h
  · rw [decide_eq_false h]
    cases q : Z.leB i j with
    | false => rfl
    | true => exact absurd ((Z.leB_iff _ _).mp q) h

section
variable {G : Gd} {frs : List Env} {ω : Wd} {σ : Sto} {s : Shared} {A : Around} {n : Nat} {va vb : Value} {a b : AV} {yes no : Bool} {E : Value → Shared → Prop}
theorem inL_ok {yes no : Bool} {ν : List Int} {x : AV} (dx : dataK σ 8 x = true) : ∀ {l : List AV}, allD (dataK σ 8) l = true → inL σ x yes no l = true → (if (l.map (dat ν σ 8)).any (fun y => PyData.eqv y (dat ν σ 8 x)) then yes else no) = true
  | [], _, h => h
  | y :: r, d, h => by
    obtain ⟨p, q⟩ := ifB_inv (show ifB (dataK σ 8 y) (allD (dataK σ 8) r) false = true from d)
    have z := aeq_ok ν σ 8 8 y x yes (inL σ x yes no r) (Nat.le_refl _) p dx h
    rw [List.map_cons, List.any_cons]
    cases c : PyData.eqv (dat ν σ 8 y) (dat ν σ 8 x) with
    | true => rw [c] at z; exact z
    | false => rw [c] at z; exact inL_ok dx q z
theorem cmpI_inv {yes no : Bool} {a b : AV} {f : Int → Int → Bool} (h : cmpI f a b yes no = true) : ∃ i j, a = .int i ∧ b = .int j ∧ (if f i j then yes else no) = true := by
  obtain ⟨i, rfl, h1⟩ := intK_inv h
  obtain ⟨j, rfl, h2⟩ := intK_inv h1
  rw [ifB_eq] at h2
  exact ⟨i, j, rfl, rfl, h2⟩
theorem cmpIn_inv {yes no : Bool} (h : cmpIn a b σ yes no = true) : ∃ l, b = .tup l ∧ dataK σ 8 a = true ∧ allD (dataK σ 8) l = true ∧ inL σ a yes no l = true := by
  cases b with
  | tup l =>
    obtain ⟨p, h⟩ := ifB_inv (show ifB (dataK σ 8 a) (ifB (allD (dataK σ 8) l) (inL σ a yes no l) false) false = true from h)
    obtain ⟨q, h⟩ := ifB_inv h
    exact ⟨l, rfl, p, q, h⟩
  | _ => cases h
/-- every comparison -/
theorem cmp_ok (o : CO) (hA : Room A n) (R : Rep G.toGl frs ω σ s.heap) (V : VR ω s.heap va a) (W : VR ω s.heap vb b) (h : cmpop o a b σ yes no = true) :
    wpAny (model G.prog G.w) A (compareOp (coOf o) va vb) (OkC ω σ s yes no) E s := by
  cases o with
  | eq =>
    obtain ⟨p, q, h⟩ := aeqD_inv (ν := ω.ν) (show aeqD σ a b yes no = true from h)
    obtain ⟨as, r1⟩ := reads_of R 8 V p
    obtain ⟨bs, r2⟩ := reads_of R 8 W q
    exact eq_dataH r1 r2 (dat_shaped _ _ _) (dat_shaped _ _ _) hA.u64 (.of h)
  | ne =>
    obtain ⟨p, q, h⟩ := aeqD_inv (ν := ω.ν) (show aeqD σ a b no yes = true from h)
    obtain ⟨as, r1⟩ := reads_of R 8 V p
    obtain ⟨bs, r2⟩ := reads_of R 8 W q
    exact ne_dataH r1 r2 (dat_shaped _ _ _) (dat_shaped _ _ _) hA.u64 (.not h)
  | lt =>
    obtain ⟨i, j, rfl, rfl, h2⟩ := cmpI_inv (show cmpI Z.ltB a b yes no = true from h)
    obtain ⟨t, rfl⟩ := V.int_inv
    obtain ⟨u, rfl⟩ := W.int_inv
    rw [ltB_dec] at h2
    exact lt_int (.of h2)
  | le =>
    obtain ⟨i, j, rfl, rfl, h2⟩ := cmpI_inv (show cmpI Z.leB a b yes no = true from h)
    obtain ⟨t, rfl⟩ := V.int_inv
    obtain ⟨u, rfl⟩ := W.int_inv
    rw [leB_dec] at h2
    exact le_int (.of h2)
  | gt =>
    obtain ⟨i, j, rfl, rfl, h2⟩ := cmpI_inv (show cmpI Z.ltB b a yes no = true from h)
    obtain ⟨t, rfl⟩ := V.int_inv
    obtain ⟨u, rfl⟩ := W.int_inv
    rw [ltB_dec] at h2
    exact gt_int (.of h2)
  | ge =>
    obtain ⟨i, j, rfl, rfl, h2⟩ := cmpI_inv (show cmpI Z.leB b a yes no = true from h)
    obtain ⟨t, rfl⟩ := V.int_inv
    obtain ⟨u, rfl⟩ := W.int_inv
    rw [leB_dec] at h2
    exact ge_int (.of h2)
  | is =>
    have h : cmpIs a b yes no = true := h
    cases b with
    | none =>
      cases W
      cases a with
      | none => cases V; exact wpAny_is_self rfl (.of h)
      | tup l => obtain ⟨a, vs, rfl, _⟩ := V.tup_inv; exact wpAny_is_other rfl (by intro q; cases q) (.of h)
      | lst l => obtain ⟨a, vs, rfl, _⟩ := V.lst_inv; exact wpAny_is_other rfl (by intro q; cases q) (.of h)
      | obj l => obtain ⟨a, rfl, _⟩ := V.obj_inv; exact wpAny_is_other rfl (by intro q; cases q) (.of h)
      | int i => obtain ⟨a, rfl⟩ := V.int_inv; exact wpAny_is_other rfl (by intro q; cases q) (.of h)
      | str i => obtain ⟨x, a, rfl, _⟩ := V.str_inv; exact wpAny_is_other rfl (by intro q; cases q) (.of h)
      | _ => exact (nomatch (show false = true from h))
    | _ => exact (nomatch (show false = true from h))
  | isin =>
    obtain ⟨l, rfl, p, q, h⟩ := cmpIn_inv (show cmpIn a b σ yes no = true from h)
    have h' := inL_ok (ν := ω.ν) p q h
    obtain ⟨as, r1⟩ := reads_of R 8 V p
    obtain ⟨ad, vs, rfl, _, pt, qs⟩ := W.tup_inv
    obtain ⟨bs, r2⟩ := reads_tup pt (readsAll_of qs fun v a x m => reads_of R 8 x (allD_inv q a m))
    refine SeqAt.in_tuple_reads r2 r1 (canLayAll0_of fun d hd => by obtain ⟨a, _, rfl⟩ := List.mem_map.mp hd; exact (dat_lay _ _ 8 a).1) (dat_lay _ _ 8 a).1 ?_ (.of h')
    have h1 := hA.u64
    have h2 := (dat_lay ω.ν σ 8 a).2
    omega
  | notin =>
    obtain ⟨l, rfl, p, q, h⟩ := cmpIn_inv (show cmpIn a b σ no yes = true from h)
    have h' := inL_ok (ν := ω.ν) p q h
    obtain ⟨as, r1⟩ := reads_of R 8 V p
    obtain ⟨ad, vs, rfl, _, pt, qs⟩ := W.tup_inv
    obtain ⟨bs, r2⟩ := reads_tup pt (readsAll_of qs fun v a x m => reads_of R 8 x (allD_inv q a m))
    refine SeqAt.notIn_tuple_reads r2 r1 (canLayAll0_of fun d hd => by obtain ⟨a, _, rfl⟩ := List.mem_map.mp hd; exact (dat_lay _ _ 8 a).1) (dat_lay _ _ 8 a).1 ?_ (.not h')
    have h1 := hA.u64
    have h2 := (dat_lay ω.ν σ 8 a).2
    omega
end
end
end Mine
namespace Mine
section
open PySem PySem.W PyProof.Rows PySem.Calls PySem.Spec

theorem small_inv {i : Int} (h : small i = true) : i.natAbs ≤ 4611686018427387000 := by
  cases i with
  | ofNat n => exact Nat.le_of_lt (blt_iff.mp h)
  | negSucc n =>
    have := blt_iff.mp (show Nat.blt n 4611686018427387000 = true from h)
    show n + 1 ≤ _
    omega
theorem small_bits {i : Int} (h : small i = true) : Builtin.Int.intBits i ≤ 64 := by
  have := small_inv h
  exact intBits_le_64 (by omega) (by omega)
theorem small_noPylong {i j : Int} (h : small j = true) : Builtin.divisionGoesByPylong i j = false := by
  have q := small_inv h
  refine PyProof.noPylong_of_log2 ?_
  by_cases h0 : j.natAbs = 0
  · rw [h0]; decide +kernel
  · have : j.natAbs.log2 < 63 := (Nat.log2_lt h0).mpr (by omega)
    omega
noncomputable def boOf : BO → Operator
  | .add => .Add | .sub => .Sub | .mul => .Mult | .fdiv => .FloorDiv | .fmod => .Mod

section
variable {G : Gd} {frs : List Env} {ω : Wd} {σ : Sto} {s : Shared} {A : Around} {n : Nat} {va vb : Value} {a b : AV} {k : KV} {E : Value → Shared → Prop}
theorem okInt (R : Rep G.toGl frs ω σ s.heap) {i : Int} (t : Tok) (h : k (.int i) σ = true) (t' : Nat) : OkV G frs [] ω s k (.int i t) { s with toks := t' } := ⟨_, ω, σ, h, St.toks R _, .int i _⟩
theorem rep_len {l : List AV} {vs : List Value} {h : Heap} (V : VRs ω h vs l) : vs.length = l.length := V.length

theorem bin_ok (o : BO) (hA : Room A n) (R : Rep G.toGl frs ω σ s.heap) (V : VR ω s.heap va a) (W : VR ω s.heap vb b) (h : binop o a b σ k = true) :
    wpAny (model G.prog G.w) A (binaryOp (boOf o) va vb) (OkV G frs [] ω s k) E s := by
  cases o with
  | add =>
    have h : opAdd a b σ k = true := h
    have lists : (lstK a σ fun l0 => lstK b σ fun l => shortK l0 (shortK l (appK l l0 fun z => k (.lst z) σ))) = true → wpAny (model G.prog G.w) A (binaryOp .Add va vb) (OkV G frs [] ω s k) E s := fun h => by
      obtain ⟨l0, e0, h⟩ := lstK_inv h
      obtain ⟨l1, e1, h⟩ := lstK_inv h
      obtain ⟨s0, h⟩ := (shortK_eq _ _).mp h
      obtain ⟨s1, h⟩ := (shortK_eq _ _).mp h
      rw [appK_eq] at h
      obtain ⟨x, vs, rfl, p, q⟩ := R.lst V e0
      obtain ⟨y, ws, rfl, p', q'⟩ := R.lst W e1
      exact bin_add_lists p.isList p'.isList (okLst R (q.append q') h s.toks) (sizeLine_ge (by rw [q.length, q'.length]; omega))
    cases a with
    | int i =>
      obtain ⟨j, rfl, h1⟩ := intK_inv (show (intK b fun j => fI (Int.add i j) fun r => k (.int r) σ) = true from h)
      rw [fI_eq] at h1
      obtain ⟨t, rfl⟩ := V.int_inv
      obtain ⟨u, rfl⟩ := W.int_inv
      exact add_int (okInt R _ h1 _)
    | tup l0 =>
      obtain ⟨l, rfl, h1⟩ := tupK_inv (k := fun l => shortK l0 (shortK l (appK l l0 fun z => k (.tup z) σ))) h
      obtain ⟨s0, h2⟩ := (shortK_eq _ _).mp h1
      obtain ⟨s1, h3⟩ := (shortK_eq _ _).mp h2
      rw [appK_eq] at h3
      have V0 := V
      have W0 := W
      obtain ⟨x, vs, rfl, hx, p, q⟩ := V.tup_inv
      obtain ⟨y, ws, rfl, hy, p', q'⟩ := W.tup_inv
      refine bin_add_tuples p p' (fun e => ?_) (fun e => ?_) (okTup R (q.append q') h3 s.toks) (sizeLine_ge (by rw [q.length, q'.length]; omega))
      · subst e
        have : l0 = [] := List.eq_nil_of_length_eq_zero (by rw [← q.length]; rfl)
        subst this
        exact ⟨_, ω, σ, h3, St.refl R, W0⟩
      · subst e
        have : l = [] := List.eq_nil_of_length_eq_zero (by rw [← q'.length]; rfl)
        subst this
        rw [List.append_nil] at h3
        exact ⟨_, ω, σ, h3, St.refl R, V0⟩
    | lst l => exact lists h
    | obj i => exact lists h
    | _ => exact (nomatch (show false = true from h))
  | sub =>
    obtain ⟨i, rfl, h1⟩ := intK_inv (show opSub a b σ k = true from h)
    obtain ⟨j, rfl, h2⟩ := intK_inv h1
    rw [fI_eq] at h2
    obtain ⟨t, rfl⟩ := V.int_inv
    obtain ⟨u, rfl⟩ := W.int_inv
    exact sub_int (okInt R _ h2 _)
  | mul =>
    have h : opMul a b σ k = true := h
    cases a with
    | int i =>
      obtain ⟨j, rfl, h1⟩ := intK_inv (show (intK b fun j => ifB (small i) (ifB (small j) (fI (Int.mul i j) fun r => k (.int r) σ) false) false) = true from h)
      obtain ⟨p, h2⟩ := ifB_inv h1
      obtain ⟨q, h3⟩ := ifB_inv h2
      rw [fI_eq] at h3
      obtain ⟨t, rfl⟩ := V.int_inv
      obtain ⟨u, rfl⟩ := W.int_inv
      exact mul_int (okInt R _ h3 _) (IntMulOk.of_left (small_bits p))
    | tup l =>
      obtain ⟨m, rfl, h1⟩ := natK_inv (show (natK b fun n => ifB (Nat.blt 0 n) (ifB (Nat.blt n 64) (shortK l (repK l n fun z => shortK z (k (.tup z) σ))) false) false) = true from h)
      obtain ⟨p0, h2⟩ := blt_inv h1
      obtain ⟨p1, h3⟩ := blt_inv h2
      obtain ⟨s0, h4⟩ := (shortK_eq _ _).mp h3
      rw [repK_eq] at h4
      obtain ⟨s1, h5⟩ := (shortK_eq _ _).mp h4
      have V0 := V
      obtain ⟨x, vs, rfl, hx, p, q⟩ := V.tup_inv
      obtain ⟨u, rfl⟩ := W.int_inv
      refine bin_mul_tuple p p0 p1 (by rw [q.length]; exact s0) (fun e => ?_) (okTup R (q.rep m) h5 s.toks)
      have : rep l m = l := by
        have e2 : (rep l m).length = l.length := by rw [← (q.rep m).length, e, q.length]
        rw [rep_length] at e2
        by_cases hm : m = 1
        · subst hm; simp [rep]
        · have : l.length = 0 := by
            rcases Nat.eq_zero_or_pos l.length with z | z
            · exact z
            · exfalso
              have : 2 * l.length ≤ m * l.length := Nat.mul_le_mul_right _ (by omega)
              omega
          have : l = [] := List.eq_nil_of_length_eq_zero this
          rw [this, rep_nil]
      rw [this] at h5
      exact ⟨_, ω, σ, h5, St.refl R, V0⟩
    | lst l =>
      obtain ⟨m, rfl, h1⟩ := natK_inv (show (natK b fun n => ifB (Nat.blt n 64) (shortK l (repK l n fun z => shortK z (k (.lst z) σ))) false) = true from h)
      obtain ⟨p1, h3⟩ := blt_inv h1
      obtain ⟨s0, h4⟩ := (shortK_eq _ _).mp h3
      rw [repK_eq] at h4
      obtain ⟨s1, h5⟩ := (shortK_eq _ _).mp h4
      obtain ⟨x, vs, rfl, hx, p, q⟩ := V.lst_inv
      obtain ⟨u, rfl⟩ := W.int_inv
      exact bin_mul_list p p1 (by rw [q.length]; exact s0) (okLst R (q.rep m) h5 s.toks)
    | _ => exact (nomatch (show false = true from h))
  | fdiv =>
    obtain ⟨i, rfl, h1⟩ := intK_inv (show opDiv a b σ k = true from h)
    obtain ⟨j, rfl, h2⟩ := intK_inv h1
    obtain ⟨q, h4⟩ := ifB_inv h2
    obtain ⟨z, h5⟩ := ifB_inv h4
    rw [fI_eq] at h5
    have z' := (Z.ltB_iff _ _).mp z
    obtain ⟨t, rfl⟩ := V.int_inv
    obtain ⟨u, rfl⟩ := W.int_inv
    exact floordiv_int (by omega) (okInt R _ h5 _) (.inl (small_noPylong q))
  | fmod =>
    obtain ⟨i, rfl, h1⟩ := intK_inv (show opMod a b σ k = true from h)
    obtain ⟨j, rfl, h2⟩ := intK_inv h1
    obtain ⟨z, h5⟩ := ifB_inv h2
    rw [fI_eq] at h5
    have z' := (Z.ltB_iff _ _).mp z
    obtain ⟨t, rfl⟩ := V.int_inv
    obtain ⟨u, rfl⟩ := W.int_inv
    exact mod_int' (by omega) (okInt R _ h5 _)
/-- [..] * n as a list of the store -/
theorem mulM_ok (R : Rep G.toGl frs ω σ s.heap) (V : VR ω s.heap va a) (W : VR ω s.heap vb b) (h : mulM a b σ k = true) :
    wpAny (model G.prog G.w) A (binaryOp .Mult va vb) (OkV G frs [] ω s k) E s := by
  obtain ⟨l, e0, h0⟩ := lstK_inv (show mulM a b σ k = true from h)
  obtain ⟨m, rfl, h1⟩ := natK_inv h0
  obtain ⟨p1, h3⟩ := blt_inv h1
  obtain ⟨s0, h4⟩ := (shortK_eq _ _).mp h3
  rw [repK_eq] at h4
  obtain ⟨s1, h5⟩ := (shortK_eq _ _).mp h4
  obtain ⟨x, vs, rfl, p, q⟩ := R.lst V e0
  obtain ⟨u, rfl⟩ := W.int_inv
  refine bin_mul_list p p1 (by rw [q.length]; exact s0) ?_
  obtain ⟨σ', hk, S⟩ := St.alloc (s := s) (o := { cls := .type "list", data := .seq (rep vs m).toArray }) R rfl h5 s.toks fun ω' L => ⟨_, ⟨_, Heap.get?_push_size _ rfl⟩, L.vrs (q.rep m)⟩
  exact ⟨_, _, σ', hk, S, .obj (rho_new ω σ.n _ R.len)⟩
end

section
variable {G : Gd} {n : Nat} {Γ : Ct} {a b c : CV} {t u : CT} {l r e : Expr} {pos : Pos} {kd : Nat}
/-- the walk of one part, then of what follows it -/
theorem SE.then {A : Around} {frs : List Env} {env : Env} {X : List Addr} {fr : Fra} {ω : Wd} {σ : Sto} {s : Shared} {x : KX} {P : Value → Shared → Prop} {k : KV}
    (ha : SE G n Γ a e) (hA : Room A n) (hF : A.frames = some frs) (R : Rep G.toGl frs ω σ s.heap) (f : FrOK G.toGl frs Γ env X fr ω s.heap) (h : a fr σ k x = true)
    (hQ : ∀ v s₁ av ω₁ σ₁, St G frs [] ω s ω₁ σ₁ s₁ → VR ω₁ s₁.heap v av → k av σ₁ = true → P v s₁) :
    wpAny (model G.prog G.w) A (eval e env) P (ExV G frs [] ω s x) s :=
  wpAny_mono (ha A frs env X fr ω σ s k x hA hF R f h) (fun v s₁ ⟨av, ω₁, σ₁, hk, S, V⟩ => hQ v s₁ av ω₁ σ₁ S V hk) fun _ _ q => q
theorem SE.bin {o : BO} (ha : SE G n Γ a l) (hb : SE G n Γ b r) : SE G n Γ (vBin o a b) (.BinOp l (boOf o) r pos) := by
  intro A frs env X fr ω σ s k x hA hF R f h
  refine wpAny_BinOp (ha.then hA hF R f h fun v s₁ av ω₁ σ₁ S V h₁ => ?_)
  refine wpAny_mono (hb A frs env X fr ω₁ σ₁ s₁ _ x hA hF S.rep (S.fr R f) h₁) (fun w s₂ ⟨bv, ω₂, σ₂, h₂, S₂, W⟩ => ?_) fun _ _ q => q.after S
  exact wpAny_mono (bin_ok o hA S₂.rep ((S₂.later S.rep).vr V) W h₂) (fun _ _ q => q.after (S.then S₂)) fun _ _ q => q
theorem SE.mulM (ha : SE G n Γ a l) (hb : SE G n Γ b r) : SE G n Γ (vMulM a b) (.BinOp l .Mult r pos) := by
  intro A frs env X fr ω σ s k x hA hF R f h
  refine wpAny_BinOp (ha.then hA hF R f h fun v s₁ av ω₁ σ₁ S V h₁ => ?_)
  refine wpAny_mono (hb A frs env X fr ω₁ σ₁ s₁ _ x hA hF S.rep (S.fr R f) h₁) (fun w s₂ ⟨bv, ω₂, σ₂, h₂, S₂, W⟩ => ?_) fun _ _ q => q.after S
  exact wpAny_mono (mulM_ok S₂.rep ((S₂.later S.rep).vr V) W h₂) (fun _ _ q => q.after (S.then S₂)) fun _ _ q => q
theorem SE.neg (ha : SE G n Γ a e) : SE G n Γ (vNeg a) (.UnaryOp .USub e pos) := by
  intro A frs env X fr ω σ s k x hA hF R f h
  refine wpAny_UnaryOp (ha.then hA hF R f h fun v s₁ av ω₁ σ₁ S V h₁ => ?_)
  obtain ⟨i, rfl, h₂⟩ := intK_inv h₁
  rw [fI_eq] at h₂
  obtain ⟨t, rfl⟩ := V.int_inv
  exact neg_int ((okInt S.rep _ h₂ _).after S)
/-- one comparison: its value -/
theorem SE.cmp {o : CO} (ha : SE G n Γ a l) (hb : SE G n Γ b r) (hm : behindInMarks (coOf o) r = false) : SE G n Γ (vTest (tCmp o a b)) (.Compare l [coOf o] [r] pos) := by
  intro A frs env X fr ω σ s k x hA hF R f h
  refine wpAny_Compare1 (ha.then hA hF R f h fun v s₁ av ω₁ σ₁ S V h₁ => ?_) hm
  refine wpAny_mono (hb A frs env X fr ω₁ σ₁ s₁ _ x hA hF S.rep (S.fr R f) h₁) (fun w s₂ ⟨bv, ω₂, σ₂, h₂, S₂, W⟩ => ?_) fun _ _ q => q.after S
  refine wpAny_mono (cmp_ok o hA S₂.rep ((S₂.later S.rep).vr V) W h₂) (fun _ s₃ ⟨e, b, eb, q⟩ => ?_) fun _ _ q => q
  subst e eb
  exact ⟨_, ω₂, σ₂, by cases b <;> exact q, S.then S₂, .bool b⟩
theorem ST.cmp {o : CO} (ha : SE G n Γ a l) (hb : SE G n Γ b r) (hm : behindInMarks (coOf o) r = false) : ST G n Γ (tCmp o a b) (.Compare l [coOf o] [r] pos) := by
  intro A frs env X fr ω σ s k x hA hF R f h
  refine wpAny_isTrue_Compare1 (ha.then hA hF R f h fun v s₁ av ω₁ σ₁ S V h₁ => ?_) hm
  refine wpAny_mono (hb A frs env X fr ω₁ σ₁ s₁ _ x hA hF S.rep (S.fr R f) h₁) (fun w s₂ ⟨bv, ω₂, σ₂, h₂, S₂, W⟩ => ?_) fun _ _ q => q.after S
  refine wpAny_mono (cmp_ok o hA S₂.rep ((S₂.later S.rep).vr V) W h₂) (fun _ s₃ ⟨e, b, eb, q⟩ => ?_) fun _ _ q => q
  subst e eb
  exact wpAny_truthy_bool ⟨ω₂, σ₂, by cases b <;> exact q, S.then S₂⟩
theorem ST.not (ht : ST G n Γ t e) : ST G n Γ (tNot t) (.UnaryOp .Not e pos) := by
  intro A frs env X fr ω σ s k x hA hF R f h
  refine wpAny_isTrue_Not (wpAny_mono (ht A frs env X fr ω σ s _ x hA hF R f h) (fun b s₁ ⟨ω₁, σ₁, q, S⟩ => ⟨ω₁, σ₁, by cases b <;> exact q, S⟩) fun _ _ q => q)
end
end
end Mine
namespace Mine
section
open PySem PySem.W PyProof.Rows PySem.Calls PySem.Spec

theorem backTo_plain : ∀ (pos : Pos) (es : List Expr) (env : Env), (∀ e ∈ es, ∀ rest, starEach (e :: rest) env = (false, eval e env) :: starEach rest env) → backTo pos (starEach es env) = es.map fun e => (false, eval e env)
  | _, [], _, _ => rfl
  | pos, e :: es, env, h => by
    rw [h e (.head _) es]
    show (false, eval e env) :: backTo pos (starEach es env) = _
    rw [backTo_plain pos es env fun e he => h e (.tail _ he)]
    rfl
theorem star_of {e : Expr} (h : ∀ x p, e ≠ .Starred x p) (env : Env) (rest : List Expr) : starEach (e :: rest) env = (false, eval e env) :: starEach rest env := by
  cases e <;> first | rfl | exact absurd rfl (h _ _)

section
variable {G : Gd} {n : Nat} {Γ : Ct} {a b c : CV} {t u : CT} {l r e : Expr} {pos : Pos} {kd : Nat}
/-- two comparisons -/
theorem ST.cmp2 {o p : CO} {m : Expr} (ha : SE G n Γ a l) (hb : SE G n Γ b m) (hc : SE G n Γ c r) (hm : lastMarks [coOf o, coOf p] [m, r] = false) : ST G n Γ (tCmp2 o p a b c) (.Compare l [coOf o, coOf p] [m, r] pos) := by
  intro A frs env X fr ω σ s k x hA hF R f h
  refine isTrue_chain (rs := []) (ops := []) (ha.then hA hF R f h fun v s₁ av ω₁ σ₁ S V h₁ => ?_) hm
  show wpAny _ _ (holding [v] (eval m env) >>= _) _ _ _
  refine wpAny_bind (wpAny_holding (wpAny_mono (hb A frs env X fr ω₁ σ₁ s₁ _ x hA hF S.rep (S.fr R f) h₁) (fun w s₂ ⟨bv, ω₂, σ₂, h₂, S₂, W⟩ => ?_) fun _ _ q => q.after S))
  refine wpAny_bind (wpAny_standAt (wpAny_bind (wpAny_holding (wpAny_mono (cmp_ok o hA S₂.rep ((S₂.later S.rep).vr V) W h₂) (fun _ s₃ ⟨e, b, eb, q⟩ => ?_) fun _ _ q => q))))
  subst e eb
  have rel : ∀ {m : Sem Bool} {Q : Bool → Shared → Prop} {E : Value → Shared → Prop}, wpAny (model G.prog G.w) A m Q E s₃ → wpAny (model G.prog G.w) A (release [v, w] [.bool b] >>= fun _ => m) Q E s₃ := fun {m Q E} hm => by
    unfold release
    refine wpAny_bind ?_
    generalize [v, w].filter (fun | .ref _ => true | _ => false) = l
    induction l with
    | nil => exact wpAny_pure hm
    | cons x r ih =>
      cases r with
      | nil => exact wpAny_pure hm
      | cons y r => exact wpAny_bind (wpAny_holding (wpAny_point ih))
  refine rel (wpAny_bind (wpAny_holding (wpAny_truthy_bool ?_)))
  cases b with
  | false => exact wpAny_pure ⟨ω₂, σ₂, q, S.then S₂⟩
  | true =>
    show wpAny _ _ (holding [w] (eval r env) >>= _) _ _ _
    have S' := S.then S₂
    refine wpAny_bind (wpAny_holding (wpAny_mono (hc A frs env X fr ω₂ σ₂ s₃ _ x hA hF S'.rep (S'.fr R f) q) (fun z s₄ ⟨cv, ω₄, σ₄, h₄, S₄, Z⟩ => ?_) fun _ _ q => q.after S'))
    refine wpAny_bind (wpAny_standAt (wpAny_bind (wpAny_operate' (wpAny_mono (cmp_ok p hA S₄.rep ((S₄.later S'.rep).vr W) Z h₄) (fun _ s₅ ⟨e, b, eb, q⟩ => ?_) fun _ _ q => q))))
    subst e eb
    exact wpAny_holding (wpAny_truthy_bool ⟨ω₄, σ₄, by cases b <;> exact q, S'.then S₄⟩)

/-- the tests of a list of them -/
noncomputable def STs (G : Gd) (n : Nat) (Γ : Ct) (op : BoolOp) (c : CT) (es : List Expr) : Prop :=
  ∀ (A : Around) (frs : List Env) (env : Env) (X : List Addr) (fr : Fra) (ω : Wd) (σ : Sto) (s : Shared) (k : Bool → Sto → Bool) (x : KX),
    Room A n → A.frames = some frs → Rep G.toGl frs ω σ s.heap → FrOK G.toGl frs Γ env X fr ω s.heap → c fr σ k x = true →
    wpAny (model G.prog G.w) A (allTrue op es env) (OkB G frs ω s k) (ExV G frs [] ω s x) s
theorem STs.oneAnd (ht : ST G n Γ t e) : STs G n Γ .And t [e] := by
  intro A frs env X fr ω σ s k x hA hF R f h
  refine wpAny_allTrue_And_cons (wpAny_mono (ht A frs env X fr ω σ s k x hA hF R f h) (fun b s₁ q => ?_) fun _ _ q => q)
  cases b with
  | true => exact wpAny_allTrue_And_nil q
  | false => exact q
theorem STs.oneOr (ht : ST G n Γ t e) : STs G n Γ .Or t [e] := by
  intro A frs env X fr ω σ s k x hA hF R f h
  refine wpAny_allTrue_Or_cons (wpAny_mono (ht A frs env X fr ω σ s k x hA hF R f h) (fun b s₁ q => ?_) fun _ _ q => q)
  cases b with
  | true => exact q
  | false => exact wpAny_allTrue_Or_nil q
theorem STs.and {es : List Expr} (ht : ST G n Γ t e) (hu : STs G n Γ .And u es) : STs G n Γ .And (tAnd t u) (e :: es) := by
  intro A frs env X fr ω σ s k x hA hF R f h
  refine wpAny_allTrue_And_cons (wpAny_mono (ht A frs env X fr ω σ s _ x hA hF R f h) (fun b s₁ ⟨ω₁, σ₁, q, S⟩ => ?_) fun _ _ q => q)
  cases b with
  | true => exact wpAny_mono (hu A frs env X fr ω₁ σ₁ s₁ k x hA hF S.rep (S.fr R f) q) (fun _ _ q => q.after S) fun _ _ q => q.after S
  | false => exact ⟨ω₁, σ₁, q, S⟩
theorem STs.or {es : List Expr} (ht : ST G n Γ t e) (hu : STs G n Γ .Or u es) : STs G n Γ .Or (tOr t u) (e :: es) := by
  intro A frs env X fr ω σ s k x hA hF R f h
  refine wpAny_allTrue_Or_cons (wpAny_mono (ht A frs env X fr ω σ s _ x hA hF R f h) (fun b s₁ ⟨ω₁, σ₁, q, S⟩ => ?_) fun _ _ q => q)
  cases b with
  | false => exact wpAny_mono (hu A frs env X fr ω₁ σ₁ s₁ k x hA hF S.rep (S.fr R f) q) (fun _ _ q => q.after S) fun _ _ q => q.after S
  | true => exact ⟨ω₁, σ₁, q, S⟩
theorem STs.bool {op : BoolOp} {es : List Expr} (ht : STs G n Γ op t es) : ST G n Γ t (.BoolOp op es pos) := fun A frs env X fr ω σ s k x hA hF R f h =>
  wpAny_isTrue_BoolOp (ht A frs env X fr ω σ s k x hA hF R f h)
theorem truthK_inv {v : AV} {y z : Bool} (h : truthK v y z = true) : ∃ b, v = .bool b ∧ (if b then y else z) = true := by
  cases v with
  | bool b => exact ⟨b, rfl, by rw [← ifB_eq]; exact h⟩
  | _ => exact (nomatch (show false = true from h))
/-- a value as a test -/
theorem ST.val (ha : SE G n Γ a e) (he : ∀ env whole, isTrue e env whole = (do let v ← whole; standAt e.pos; holding [v] (truthy v))) : ST G n Γ (tVal a) e := by
  intro A frs env X fr ω σ s k x hA hF R f h
  refine wpAny_isTrue_value (ha.then hA hF R f h fun v s₁ av ω₁ σ₁ S V h₁ => ?_) (he env _)
  obtain ⟨b, rfl, q⟩ := truthK_inv h₁
  cases V.bool_inv
  exact wpAny_truthy_bool ⟨ω₁, σ₁, by cases b <;> exact q, S⟩
theorem SE.and (ha : SE G n Γ a l) (hb : SE G n Γ b r) : SE G n Γ (vAnd a b) (.BoolOp .And [l, r] pos) := by
  intro A frs env X fr ω σ s k x hA hF R f h
  refine wpAny_And2 (ha.then hA hF R f h fun v s₁ av ω₁ σ₁ S V h₁ => ?_)
  obtain ⟨t, rfl, q⟩ := truthK_inv h₁
  cases V.bool_inv
  refine wpAny_truthy_bool ?_
  cases t with
  | true => exact wpAny_mono (hb A frs env X fr ω₁ σ₁ s₁ k x hA hF S.rep (S.fr R f) q) (fun _ _ q => q.after S) fun _ _ q => q.after S
  | false => exact ⟨_, ω₁, σ₁, q, S, V⟩
theorem SE.or (ha : SE G n Γ a l) (hb : SE G n Γ b r) : SE G n Γ (vOr a b) (.BoolOp .Or [l, r] pos) := by
  intro A frs env X fr ω σ s k x hA hF R f h
  refine wpAny_Or2 (ha.then hA hF R f h fun v s₁ av ω₁ σ₁ S V h₁ => ?_)
  obtain ⟨t, rfl, q⟩ := truthK_inv h₁
  cases V.bool_inv
  refine wpAny_truthy_bool ?_
  cases t with
  | false => exact wpAny_mono (hb A frs env X fr ω₁ σ₁ s₁ k x hA hF S.rep (S.fr R f) q) (fun _ _ q => q.after S) fun _ _ q => q.after S
  | true => exact ⟨_, ω₁, σ₁, q, S, V⟩
theorem SE.ite (ht : ST G n Γ t e) (ha : SE G n Γ a l) (hb : SE G n Γ b r) : SE G n Γ (vIte t a b) (.IfExp e l r pos) := by
  intro A frs env X fr ω σ s k x hA hF R f h
  refine wpAny_IfExp (wpAny_mono (ht A frs env X fr ω σ s _ x hA hF R f h) (fun d s₁ ⟨ω₁, σ₁, q, S⟩ => ?_) fun _ _ q => q)
  cases d with
  | true => exact wpAny_mono (ha A frs env X fr ω₁ σ₁ s₁ k x hA hF S.rep (S.fr R f) q) (fun _ _ q => q.after S) fun _ _ q => q.after S
  | false => exact wpAny_mono (hb A frs env X fr ω₁ σ₁ s₁ k x hA hF S.rep (S.fr R f) q) (fun _ _ q => q.after S) fun _ _ q => q.after S
/-- the codes of a list of expressions -/
inductive SEs (G : Gd) (n : Nat) (Γ : Ct) : List CV → List Expr → Prop
  | nil : SEs G n Γ [] []
  | cons {a : CV} {e : Expr} {cs : List CV} {es : List Expr} : SE G n Γ a e → (∀ env rest, starEach (e :: rest) env = (false, eval e env) :: starEach rest env) → SEs G n Γ cs es → SEs G n Γ (a :: cs) (e :: es)
noncomputable def OkVs (G : Gd) (frs : List Env) (ω : Wd) (s : Shared) (k : List AV → Sto → Bool) (vs : List Value) (s' : Shared) : Prop :=
  ∃ l ω' σ', k l σ' = true ∧ St G frs [] ω s ω' σ' s' ∧ VRs ω' s'.heap vs l
theorem OkVs.after {frs : List Env} {ω ω₁ : Wd} {σ₁ : Sto} {s s₁ s₂ : Shared} {k : List AV → Sto → Bool} {vs : List Value} (a : St G frs [] ω s ω₁ σ₁ s₁) (b : OkVs G frs ω₁ s₁ k vs s₂) : OkVs G frs ω s k vs s₂ := by
  obtain ⟨av, ω', σ', h, S, V⟩ := b
  exact ⟨av, ω', σ', h, a.then S, V⟩
theorem spliced_cons {M : Model} {A : Around} {E : Value → Shared → Prop} {s : Shared} {m : Sem Value} {rest : List (Bool × Sem Value)} {Q : List Value → Shared → Prop}
    (h : wpAny M A m (fun v s₁ => wpAny M A (spliced rest) (fun vs s₂ => Q (v :: vs) s₂) E s₁) E s) : wpAny M A (spliced ((false, m) :: rest)) Q E s := by
  unfold spliced
  refine wpAny_bind (wpAny_mono h (fun v s₁ h₁ => ?_) fun _ _ q => q)
  refine wpAny_bind (wpAny_pure ?_)
  exact wpAny_bind (wpAny_holding (wpAny_mono h₁ (fun vs s₂ h₂ => wpAny_pure h₂) fun _ _ q => q))
theorem SEs.spliced {cs : List CV} {es : List Expr} (H : SEs G n Γ cs es) : ∀ (A : Around) (frs : List Env) (env : Env) (X : List Addr) (fr : Fra) (ω : Wd) (σ : Sto) (s : Shared) (k : List AV → Sto → Bool) (x : KX) (pos : Pos),
    Room A n → A.frames = some frs → Rep G.toGl frs ω σ s.heap → FrOK G.toGl frs Γ env X fr ω s.heap → evs cs fr σ k x = true →
    wpAny (model G.prog G.w) A (spliced (backTo pos (starEach es env))) (fun vs s' => vs.length = es.length ∧ OkVs G frs ω s k vs s') (ExV G frs [] ω s x) s := by
  induction H with
  | nil => exact fun A frs env X fr ω σ s k x pos hA hF R f h => wpAny_pure ⟨rfl, [], ω, σ, h, St.refl R, .nil⟩
  | cons ha hs H ih =>
    intro A frs env X fr ω σ s k x pos hA hF R f h
    rw [hs]
    refine spliced_cons (ha.then hA hF R f h fun v s₁ av ω₁ σ₁ S V h₁ => ?_)
    exact wpAny_mono (ih A frs env X fr ω₁ σ₁ s₁ _ x pos hA hF S.rep (S.fr R f) h₁) (fun vs s₂ ⟨hl, l, ω₂, σ₂, h₂, S₂, W⟩ => ⟨by simp [hl], _, ω₂, σ₂, h₂, S.then S₂, .cons ((S₂.later S.rep).vr V) W⟩) fun _ _ q => q.after S
theorem SEs.length {cs : List CV} {es : List Expr} (H : SEs G n Γ cs es) : cs.length = es.length := by
  induction H with
  | nil => rfl
  | cons _ _ _ ih => simp [ih]
theorem SE.tup {cs : List CV} {es : List Expr} (H : SEs G n Γ cs es) (hl : es.length < 64 := by decide) : SE G n Γ (vTup cs) (.Tuple es kd pos) := by
  intro A frs env X fr ω σ s k x hA hF R f h
  refine wpAny_Tuple (wpAny_mono (H.spliced A frs env X fr ω σ s _ x pos hA hF R f h) (fun vs s₁ ⟨hv, l, ω₁, σ₁, h₁, S, V⟩ => ?_) fun _ _ q => q)
  exact ⟨sizeLine_ge (by omega), (okTup S.rep V h₁ s₁.toks).after S⟩
theorem SE.lst {cs : List CV} {es : List Expr} (H : SEs G n Γ cs es) (hl : es.length < 64 := by decide) : SE G n Γ (vLst cs) (.List es pos) := by
  intro A frs env X fr ω σ s k x hA hF R f h
  refine wpAny_List (wpAny_mono (H.spliced A frs env X fr ω σ s _ x pos hA hF R f h) (fun vs s₁ ⟨hv, l, ω₁, σ₁, h₁, S, V⟩ => ?_) fun _ _ q => q)
  exact ⟨sizeLine_ge (by omega), (okLst S.rep V h₁ s₁.toks).after S⟩
theorem SE.lstM {cs : List CV} {es : List Expr} (H : SEs G n Γ cs es) (hl : es.length < 64 := by decide) : SE G n Γ (vLstM cs) (.List es pos) := by
  intro A frs env X fr ω σ s k x hA hF R f h
  refine wpAny_List (wpAny_mono (H.spliced A frs env X fr ω σ s _ x pos hA hF R f h) (fun vs s₁ ⟨hv, l, ω₁, σ₁, h₁, S, V⟩ => ?_) fun _ _ q => q)
  obtain ⟨σ', hk, S'⟩ := St.alloc (s := s₁) (o := { cls := .type "list", data := .seq vs.toArray }) S.rep rfl h₁ s₁.toks fun ω' L => ⟨_, ⟨_, Heap.get?_push_size _ rfl⟩, L.vrs V⟩
  exact ⟨sizeLine_ge (by omega), _, _, σ', hk, S.then S', .obj (rho_new ω₁ σ₁.n _ S.rep.len)⟩
theorem SeqIs.at {frs : List Env} {ω : Wd} {σ : Sto} {h : Heap} (R : Rep G.toGl frs ω σ h) {l : List AV} {av : AV} {v : Value} (V : VR ω h v av) (e : SeqIs σ l av) :
    ∃ a vs, v = .ref a ∧ VRs ω h vs l ∧ (h.IsTuple a vs.toArray ∨ h.PlainList a vs.toArray) := by
  cases e with
  | tup => obtain ⟨a, vs, rfl, _, p, q⟩ := V.tup_inv; exact ⟨a, vs, rfl, q, .inl p⟩
  | lst e => obtain ⟨a, vs, rfl, p, q⟩ := R.lst V e; exact ⟨a, vs, rfl, q, .inr p⟩
theorem idx_fits {m : Nat} (h : m < 4096) : -(2 ^ 63 : Int) ≤ .ofNat m ∧ (Int.ofNat m) < 2 ^ 63 := by
  constructor
  · show _ ≤ ((m : Nat) : Int); omega
  · show ((m : Nat) : Int) < _; omega
theorem seqIndex_nat {m n : Nat} (h : m < n) : seqIndex? (.ofNat m) n = some m := by
  unfold seqIndex?
  have h1 : ¬ (Int.ofNat m < 0) := by show ¬ ((m : Nat) : Int) < 0; omega
  have h2 : (decide (0 ≤ Int.ofNat m) && decide (Int.ofNat m < (n : Int))) = true := by
    rw [Bool.and_eq_true]
    exact ⟨decide_eq_true (Int.natCast_nonneg m), decide_eq_true (by show ((m : Nat) : Int) < _; omega)⟩
  simp only [h1, if_false, h2, if_true]
  rfl
theorem SE.sub (ha : SE G n Γ a l) (hb : SE G n Γ b r) (hs : ∀ o i, subscripted r false o i = operate [o, i] (getItem o i)) : SE G n Γ (vSub a b) (.Subscript l r pos) := by
  intro A frs env X fr ω σ s k x hA hF R f h
  refine Subscript_ (ha.then hA hF R f h fun v s₁ av ω₁ σ₁ S V h₁ => ?_)
  refine wpAny_mono (hb A frs env X fr ω₁ σ₁ s₁ _ x hA hF S.rep (S.fr R f) h₁) (fun w s₂ ⟨bv, ω₂, σ₂, h₂, S₂, W⟩ => ?_) fun _ _ q => q.after S
  obtain ⟨m, rfl, h₃⟩ := natK_inv h₂
  obtain ⟨hm, h₄⟩ := blt_inv h₃
  obtain ⟨its, e, h₅⟩ := itemsK_inv h₄
  rw [nthK_eq] at h₅
  obtain ⟨t, rfl⟩ := W.int_inv
  obtain ⟨ad, vs, rfl, q, p⟩ := e.at S₂.rep ((S₂.later S.rep).vr V)
  cases hd : its[m]? with
  | none => rw [hd] at h₅; cases h₅
  | some d =>
    rw [hd] at h₅
    obtain ⟨z, hz, Z⟩ := q.get hd
    have hlt : m < vs.length := (List.getElem?_eq_some_iff.mp hz).1
    have fin : OkV G frs [] ω s k z s₂ := ⟨d, ω₂, σ₂, h₅, S.then S₂, Z⟩
    rcases p with p | p
    · exact tail_any p.typeIs slot_tuple_getitem.lookup (getItem_tuple p (idx_fits hm).1 (idx_fits hm).2 (by rw [List.size_toArray]; exact seqIndex_nat hlt) (by rw [List.getElem?_toArray]; exact hz) fin) (hs _ _)
    · exact tail_any p.isList.typeIs slot_list_getitem.lookup (wpAny_getItem_list p.isList (by show (0 : Int) ≤ ((m : Nat) : Int); omega) (idx_fits hm).2 (by rw [List.getElem?_toArray]; exact hz) fin) (hs _ _)
end
end
end Mine
namespace Mine
section
open PySem PySem.W PyProof.Rows PySem.Calls PySem.Spec

theorem shortN_inv {l : List AV} {k : Nat → Bool} (h : shortN l k = true) : l.length < 4096 ∧ k l.length = true := by
  unfold shortN at h
  rw [lenK_eq, Nat.add_zero] at h
  exact blt_inv h
section
variable {prog : Program} {w : World} {A : Around} {E : Value → Shared → Prop} {s : Shared}
theorem adjust_upto (b n : Nat) (hb : b < n) : Builtin.Slice.sliceAdjust none (some (b : Int)) 1 (n : Int) = (((0 : Nat) : Int), (b : Int)) := by
  unfold Builtin.Slice.sliceAdjust
  have h1 : ¬ ((1 : Int) < 0) := by omega
  have h2 : ¬ ((b : Int) < 0) := by omega
  simp only [h1, h2, if_false]
  congr 1
  omega
theorem places_upto (b : Nat) : Builtin.Slice.slicePlaces ((0 : Nat) : Int) (b : Int) 1 = b := by
  unfold Builtin.Slice.slicePlaces
  have h1 : (1 : Int) > 0 := by omega
  simp only [h1, if_true, Int.ediv_one]
  split <;> omega
theorem sliceApplied_upto {sl : Addr} {b n : Nat} {u : Tok} {Q : Int × Int × Nat → Shared → Prop} (hs : s.heap.IsSliceOf sl .none (.int b u) .none) (hb : b < n) (h : Q (((0 : Nat) : Int), 1, b) s) :
    wpAny (model prog w) A (Builtin.Slice.sliceApplied (.ref sl) (pure (n : Int))) Q E s := by
  obtain ⟨os, hos, hcs, hds⟩ := id hs
  unfold Builtin.Slice.sliceApplied Builtin.Slice.sliceFields
  refine wpAny_bind (wpAny_bind (wpAny_field hos hds (x := .none) rfl (wpAny_bind (wpAny_field hos hds (x := .int b u) rfl (wpAny_bind (wpAny_field hos hds (x := .none) rfl (wpAny_pure ?_)))))))
  refine wpAny_bind (slicePart_none ?_)
  show wpAny _ _ (if ((1 : Int) == 0) = true then _ else _) _ _ s
  rw [if_neg (by decide)]
  refine wpAny_bind (slicePart_none (wpAny_bind (slicePart_int (wpAny_bind (wpAny_pure ?_)))))
  show wpAny _ _ (match Builtin.Slice.sliceAdjust none (some (b : Int)) 1 (n : Int) with | (lo, hi) => pure (lo, (1 : Int), Builtin.Slice.slicePlaces lo hi 1)) _ _ s
  rw [adjust_upto b n hb]
  show wpAny _ _ (pure (((0 : Nat) : Int), (1 : Int), Builtin.Slice.slicePlaces ((0 : Nat) : Int) (b : Int) 1)) _ _ s
  rw [places_upto b]
  exact wpAny_pure h
theorem pick_upto (xs : Array Value) (b : Nat) : ((List.range b).filterMap fun (k : Nat) => xs[(((0 : Nat) : Int) + (k : Int) * 1).toNat]?).toArray = (xs.toList.take b).toArray := by
  have e : (fun (k : Nat) => xs[(((0 : Nat) : Int) + (k : Int) * 1).toNat]?) = fun k => xs[0 + k]? := by
    funext k
    have : (((0 : Nat) : Int) + (k : Int) * 1).toNat = 0 + k := by omega
    rw [this]
  rw [e]
  have := pick_run xs 0 b
  rw [List.filterMap_map] at this
  have e2 : ((fun x => xs[x]?) ∘ fun x => 0 + x) = fun k => xs[0 + k]? := rfl
  rw [e2] at this
  rw [this, List.drop_zero]
theorem getItem_tuple_upto {t sl : Addr} {items : Array Value} {b : Nat} {u : Tok} {Q : Value → Shared → Prop} (ht : IsTup s.heap t items) (hs : s.heap.IsSliceOf sl .none (.int b u) .none) (hb : b < items.size)
    (h : Q (.ref s.heap.objs.size) { s with heap := s.heap.push { cls := .type "tuple", data := .seq (items.toList.take b).toArray } })
    (hsz : items.size ≤ sizeLine) : wpAny (model prog w) A (getItem (.ref t) (.ref sl)) Q E s := by
  have fits : sizeOk (.seq (items.toList.take b).toArray) := by
    have : (items.toList.take b).toArray.size ≤ items.size := by simp [List.length_take]; omega
    exact Nat.le_trans this hsz
  have short : (((0 : Nat) : Int) == 0 && (1 : Int) == 1 && b == items.size) = false := by
    rw [beq_eq_false_iff_ne.mpr (Nat.ne_of_lt hb), Bool.and_false]
  have ty : s.TypeIs (.ref sl) "slice" := let ⟨o, e, c, _⟩ := hs; ⟨o, e, c⟩
  have slot := slot_tuple_getitem
  -- what the tuple's own code does with the slice
  have own : ∀ {A : Around} {R : Fin → Shared → Prop}, (∀ s', Q (.ref s.heap.objs.size) s' → R (.done (.ret (.ref s.heap.objs.size))) s') → wpAny (model prog w) A (Builtin.«tuple.__getitem__» ⟨[.ref t, .ref sl], []⟩) R E s := fun {A R} hR => by
    show wpAny _ _ (Builtin.Tuple.tupleItemsOf (.ref t) >>= _) _ _ s
    refine wpAny_bind (tupleItemsOf_ ht (wpAny_bind (wpAny_typeOf ty ?_)))
    simp only [beq_self_eq_true, if_true]
    refine wpAny_bind (sliceApplied_upto hs hb ?_)
    simp only [short, Bool.false_eq_true, if_false]
    rw [pick_upto items b]
    exact wpAny_bind (wpAny_newObj_type (wpAny_pure (hR _ h)) fits)
  unfold getItem
  refine wpAny_holding (wpAny_bind (wpAny_sequenceKey ht.typeIs (by decide) ?_))
  exact wpAny_bind (wpAny_callSpecial?_slot (name := Str.ofString "__getitem__") ht.typeIs slot (wpAny_call_entry slot ht.typeIs entry_tuple_getitem (own fun s' q => ⟨_, rfl, wpAny_pure q⟩) (args_tuple_getitem _ _)))
end
section
variable {G : Gd} {n : Nat} {Γ : Ct} {a b c : CV} {l r e : Expr} {pos p' : Pos} {kd : Nat}
theorem St.scratch {frs : List Env} {ω : Wd} {σ : Sto} {s : Shared} (R : Rep G.toGl frs ω σ s.heap) (o : Obj) : St G frs [] ω s ω σ { s with heap := s.heap.push o } := St.keep0 (s := s) R (fun b x e => Heap.get?_push_of_some _ e) s.toks
theorem SE.slcT (ha : SE G n Γ a l) (hb : SE G n Γ b r) : SE G n Γ (vSlcT a b) (.Subscript l (.Slice Option.none (some r) Option.none p') pos) := by
  intro A frs env X fr ω σ s k x hA hF R f h
  refine Subscript_ (ha.then hA hF R f h fun v s₁ av ω₁ σ₁ S V h₁ => ?_)
  refine wpAny_Slice (wpAny_evalPart_none (wpAny_evalPart_some (wpAny_mono (hb A frs env X fr ω₁ σ₁ s₁ _ x hA hF S.rep (S.fr R f) h₁) (fun w s₂ ⟨bv, ω₂, σ₂, h₂, S₂, W⟩ => wpAny_evalPart_none ?_) fun _ _ q => q.after S)))
  obtain ⟨m, rfl, h₃⟩ := natK_inv h₂
  obtain ⟨its, rfl, h₄⟩ := tupK_inv (k := fun l => shortN l fun q => ifB (Nat.blt m q) (takeK l m fun r => k (.tup r) σ₂) false) h₃
  obtain ⟨hs, h₅⟩ := shortN_inv h₄
  obtain ⟨hm, h₆⟩ := blt_inv h₅
  rw [takeK_eq] at h₆
  obtain ⟨t, rfl⟩ := W.int_inv
  have V₂ := (S₂.later S.rep).vr V
  have T := St.scratch S₂.rep { cls := .type "slice", data := .fields #[.none, .int (.ofNat m) t, .none] }
  have V₃ := (T.later S₂.rep).vr V₂
  obtain ⟨ad, vs, rfl, hf, p, q⟩ := V₃.tup_inv
  have hl := q.length
  refine tail_any (s := { s₂ with heap := s₂.heap.push { cls := .type "slice", data := .fields #[.none, .int (.ofNat m) t, .none] } }) p.typeIs slot_tuple_getitem.lookup
    (getItem_tuple_upto p (Heap.IsSliceOf.new ..) (by rw [List.size_toArray]; omega) ?_ (by rw [List.size_toArray]; exact sizeLine_ge (by omega))) rfl
  exact (okTup T.rep (q.take m) h₆ s₂.toks).after ((S.then S₂).then T)
theorem SE.slcF (ha : SE G n Γ a l) (hb : SE G n Γ b r) : SE G n Γ (vSlcF a b) (.Subscript l (.Slice (some r) Option.none Option.none p') pos) := by
  intro A frs env X fr ω σ s k x hA hF R f h
  refine Subscript_ (ha.then hA hF R f h fun v s₁ av ω₁ σ₁ S V h₁ => ?_)
  refine wpAny_Slice (wpAny_evalPart_some (wpAny_mono (hb A frs env X fr ω₁ σ₁ s₁ _ x hA hF S.rep (S.fr R f) h₁) (fun w s₂ ⟨bv, ω₂, σ₂, h₂, S₂, W⟩ => wpAny_evalPart_none (wpAny_evalPart_none ?_)) fun _ _ q => q.after S))
  obtain ⟨m, rfl, h₃⟩ := natK_inv h₂
  obtain ⟨its, rfl, h₄⟩ := tupK_inv (k := fun l => shortN l fun q => ifB (Nat.blt 0 m) (ifB (Nat.blt m (Nat.succ q)) (dropK l m fun r => k (.tup r) σ₂) false) false) h₃
  obtain ⟨hs, h₅⟩ := shortN_inv h₄
  obtain ⟨hm, h₆⟩ := blt_inv h₅
  obtain ⟨hm', h₇⟩ := blt_inv h₆
  rw [dropK_eq] at h₇
  obtain ⟨t, rfl⟩ := W.int_inv
  have V₂ := (S₂.later S.rep).vr V
  have T := St.scratch S₂.rep { cls := .type "slice", data := .fields #[.int (.ofNat m) t, .none, .none] }
  have V₃ := (T.later S₂.rep).vr V₂
  obtain ⟨ad, vs, rfl, hf, p, q⟩ := V₃.tup_inv
  have hl := q.length
  refine tail_any (s := { s₂ with heap := s₂.heap.push { cls := .type "slice", data := .fields #[.int (.ofNat m) t, .none, .none] } }) p.typeIs slot_tuple_getitem.lookup
    (getItem_tuple_from p (Heap.IsSliceOf.new ..) hm (by rw [List.size_toArray]; omega) ?_ (by rw [List.size_toArray]; exact sizeLine_ge (by omega))) rfl
  exact (okTup T.rep (q.drop m) h₇ s₂.toks).after ((S.then S₂).then T)
theorem SE.slcR {i : Expr} (ha : SE G n Γ a l) (hb : SE G n Γ b i) (hc : SE G n Γ c r) : SE G n Γ (vSlcR a b c) (.Subscript l (.Slice (some i) (some r) Option.none p') pos) := by
  intro A frs env X fr ω σ s k x hA hF R f h
  refine Subscript_ (ha.then hA hF R f h fun v s₁ av ω₁ σ₁ S V h₁ => ?_)
  refine wpAny_Slice (wpAny_evalPart_some (wpAny_mono (hb A frs env X fr ω₁ σ₁ s₁ _ x hA hF S.rep (S.fr R f) h₁) (fun w s₂ ⟨bv, ω₂, σ₂, h₂, S₂, W⟩ => wpAny_evalPart_some ?_) fun _ _ q => q.after S))
  have S' := S.then S₂
  refine wpAny_mono (hc A frs env X fr ω₂ σ₂ s₂ _ x hA hF S'.rep (S'.fr R f) h₂) (fun z s₃ ⟨cv, ω₃, σ₃, h₃, S₃, Z⟩ => wpAny_evalPart_none ?_) fun _ _ q => q.after S'
  obtain ⟨m, rfl, h₄⟩ := natK_inv h₃
  obtain ⟨j, rfl, h₅⟩ := natK_inv h₄
  obtain ⟨its, e, h₆⟩ := lstK_inv h₅
  obtain ⟨hs, h₇⟩ := shortN_inv h₆
  obtain ⟨hm, h₈⟩ := blt_inv h₇
  obtain ⟨hj, h₉⟩ := blt_inv h₈
  rw [dropK_eq, takeK_eq] at h₉
  obtain ⟨u, rfl⟩ := Z.int_inv
  have W' := (S₃.later S₂.rep).vr W
  obtain ⟨t, rfl⟩ := W'.int_inv
  have S'' := S'.then S₃
  have V₃ := ((S₂.then S₃).later S.rep).vr V
  have T := St.scratch S₃.rep { cls := .type "slice", data := .fields #[.int (.ofNat m) t, .int (.ofNat j) u, .none] }
  have V₄ := (T.later S₃.rep).vr V₃
  obtain ⟨ad, vs, rfl, p, q⟩ := T.rep.lst V₄ e
  have hl := q.length
  refine tail_any (s := { s₃ with heap := s₃.heap.push { cls := .type "slice", data := .fields #[.int (.ofNat m) t, .int (.ofNat j) u, .none] } }) p.isList.typeIs slot_list_getitem.lookup
    (wpAny_getItem_list_slice (lo := some ((m : Nat) : Int)) (hi := some ((j : Nat) : Int)) (st := Option.none) p.isList (Heap.IsSliceOf.new ..) (.int _ _) (.int _ _) .none (by simp) ?_ (by rw [List.size_toArray]; exact sizeLine_ge (by omega))) rfl
  rw [slicePick_run _ m j (by rw [List.size_toArray]; omega) (by omega)]
  exact (okLst T.rep ((q.drop m).take (j - m)) h₉ s₃.toks).after (S''.then T)
end
end
end Mine
namespace Mine
section
open PySem PySem.W PyProof.Rows PySem.Calls PySem.Spec

theorem instK_inv {v : AV} {σ : Sto} {k : Nat → Nat → List (Nat × AV) → Bool} (h : instK v σ k = true) : ∃ i c d fs, v = .obj i ∧ σ.t.get i = some (.inst c d) ∧ σ.t.get d = some (.ns fs) ∧ k c d fs = true := by
  cases v with
  | obj i =>
    obtain ⟨o, e, q⟩ := getO_inv (k := fun o => _) h
    cases o with
    | inst c d =>
      obtain ⟨o', e', q'⟩ := getO_inv (k := fun o => _) q
      cases o' with
      | ns fs => exact ⟨i, c, d, fs, rfl, e, e', q'⟩
      | _ => exact (nomatch (show false = true from q'))
    | _ => exact (nomatch (show false = true from q))
  | _ => exact (nomatch (show false = true from h))
theorem lookK_inv {a : Nat} {k : AV → Bool} : ∀ {fs : List (Nat × AV)}, lookK a fs k = true → ∃ v, fs.lookup a = some v ∧ k v = true
  | [], h => nomatch (show false = true from h)
  | (b, v) :: r, h => by
    have h' : ifB (Nat.beq b a) (k v) (lookK a r k) = true := h
    rw [ifB_eq] at h'
    by_cases e : b = a
    · subst e
      rw [if_pos (Nat.beq_refl b)] at h'
      exact ⟨v, by simp [List.lookup], h'⟩
    · rw [if_neg (fun q => e (Nat.eq_of_beq_eq_true q))] at h'
      obtain ⟨w, p, q⟩ := lookK_inv h'
      refine ⟨w, ?_, q⟩
      rw [List.lookup_cons]
      have : (a == b) = false := beq_eq_false_iff_ne.mpr (Ne.symm e)
      rw [this]
      exact p
theorem notAny_inv {v : AV} {x : Bool} (h : notAny v x = true) : v ≠ .any ∧ x = true := by
  cases v <;> first | exact ⟨(by intro q; cases q), h⟩ | exact (nomatch (show false = true from h))
theorem handed_of {ω : Wd} {h : Heap} {v : Value} {a : AV} (V : VR ω h v a) (ha : a ≠ .any) : handedIn v = true := by
  cases V <;> first | rfl | exact absurd rfl ha
section
variable {G : Gd} {frs : List Env} {ω : Wd} {σ : Sto} {h : Heap}
theorem Rep.inst (R : Rep G.toGl frs ω σ h) {i c d : Nat} {fs : List (Nat × AV)} {v : Value} (V : VR ω h v (.obj i)) (e : σ.t.get i = some (.inst c d)) (e' : σ.t.get d = some (.ns fs)) :
    ∃ x dx sl es n, v = .ref x ∧ ω.ρ[i]? = some x ∧ ω.ρ[d]? = some dx ∧ h.get? x = some ⟨.ref (G.cls c), some dx, .plain, sl⟩ ∧ h.get? dx = some (dictOf es n) ∧ NsR ω h es fs ∧
      W.InstAt h x ⟨.ref (G.cls c), some dx, .plain, sl⟩ (G.cls c) (some (dictOf es n)) := by
  obtain ⟨x, rfl, hx, da, sl, hd, ho⟩ := R.at V e
  obtain ⟨db, hb, es, n, hes, q⟩ := R.objs d _ e'
  rw [hd] at hb
  cases hb
  exact ⟨x, da, sl, es, n, rfl, hx, hd, ho, hes, q, ⟨ho, rfl, rfl, hes⟩⟩
theorem Rep.kin (R : Rep G.toGl frs ω σ h) : G.K.In h := fun b o e => R.base b o (G.kin b o e)
end
section
variable {G : Gd} {n : Nat} {Γ : Ct} {a b c : CV} {l r e : Expr} {pos p' : Pos} {kd : Nat}
theorem attr_mem {i : Nat} {x : Str} (h : attrs[i]? = some x) : x ∈ attrs := List.mem_of_getElem? h
theorem SE.att {i : Nat} {x : Str} (ha : SE G n Γ a l) (hx : attrs[i]? = some x)
    (he : ∀ env, eval (.Attribute l x pos) env = (do
      let o ← eval l env
      standAt pos.atName
      let r ← holding [o] (getAttr o x true)
      letTemporaryGo l o r
      pure r)) : SE G n Γ (vAtt a i) (.Attribute l x pos) := by
  intro A frs env X fr ω σ s k y hA hF R f h
  refine Attribute_any_ (ha.then hA hF R f h fun v s₁ av ω₁ σ₁ S V h₁ => ?_) (he env)
  obtain ⟨j, c, d, fs, rfl, e1, e2, h₂⟩ := instK_inv h₁
  obtain ⟨w, hw, h₃⟩ := lookK_inv h₂
  obtain ⟨hn, h₄⟩ := notAny_inv h₃
  obtain ⟨z, dx, sl, es, m, rfl, hz, hdx, ho, hes, hN, I⟩ := S.rep.inst V e1 e2
  obtain ⟨vv, hv, VV⟩ := hN.2.2 i x hx w hw
  have C := G.clsOK c
  obtain ⟨⟨at', hat, hng⟩, _⟩ := C.att x (attr_mem hx)
  exact get_value S.rep.kin I C.ga (findObj_own C.hd hat hng hv) (handed_of VV hn) ((show OkV G frs [] ω₁ s₁ k vv { s₁ with toks := s₁.toks + 1 } from ⟨w, ω₁, σ₁, h₄, St.toks S.rep _, VV⟩).after S)

/- calls -/
/-- what keeps its arguments alive -/
noncomputable def KeepF (G : Gd) (f : Value) : Prop := ∀ h, G.K.In h → ∃ k, (k = Keeper.frame ∨ k = Keeper.machine ∨ k = Keeper.boundFrame) ∧ Looks (model G.prog G.w) h (keeperOf f) k
theorem KeepF.builtin (id : String) : KeepF G (.builtin id) := fun h _ => ⟨.machine, .inr (.inl rfl), .now⟩
theorem KeepF.type (T : String) : KeepF G (.type T) := fun h _ => ⟨.machine, .inr (.inl rfl), .now⟩
theorem KeepF.of {f : Value} (h : keepIn G.K f = true) : KeepF G f := keeps_K h
theorem star_any {es : List Expr} {cs : List CV} (H : SEs G n Γ cs es) (pos : Pos) (env : Env) : ((backTo pos (starEach es env)).any (·.1)) = false := by
  induction H with
  | nil => rfl
  | cons _ hs _ ih => rw [hs]; exact ih
theorem callW {A : Around} {frs : List Env} {env : Env} {X : List Addr} {fr : Fra} {ω : Wd} {σ : Sto} {s : Shared} {x : KX} {Q : Value → Shared → Prop} {k : List AV → Sto → Bool} {cs : List CV} {es : List Expr} {f : Value} {first : List Value}
    (hf : KeepF G f) (H : SEs G n Γ cs es) (hA : Room A n) (hF : A.frames = some frs) (R : Rep G.toGl frs ω σ s.heap) (F : FrOK G.toGl frs Γ env X fr ω s.heap) (h : evs cs fr σ k x = true)
    (hQ : ∀ vs s₁ l ω₁ σ₁, vs.length = es.length → St G frs [] ω s ω₁ σ₁ s₁ → VRs ω₁ s₁.heap vs l → k l σ₁ = true → wpAny (model G.prog G.w) A (call f (first ++ vs)) Q (ExV G frs [] ω s x) s₁) :
    wpAny (model G.prog G.w) A (callWith pos f first (backTo pos (starEach es env)) []) Q (ExV G frs [] ω s x) s := by
  refine callWith_of (P := fun h => G.K.In h) (by rw [star_any H]; rfl) hf ?_
  have key := wpAny_mono (H.spliced A frs env X fr ω σ s k x pos hA hF R F h) (fun vs s₁ ⟨hl, l, ω₁, σ₁, h₁, S, V⟩ => (⟨S.rep.kin, hQ vs s₁ l ω₁ σ₁ hl S V h₁⟩ : G.K.In s₁.heap ∧ wpAny (model G.prog G.w) A (call f (first ++ vs)) Q (ExV G frs [] ω s x) s₁)) fun _ _ q => q
  cases H with
  | nil => exact evalArgs_nil3 ⟨R.kin, hQ [] s [] ω σ rfl (St.refl R) .nil h⟩
  | cons ha hs H => rw [hs] at key ⊢; exact evalArgs_plain key
end
end
end Mine
namespace Mine
section
open PySem PySem.W PyProof.Rows PySem.Calls PySem.Spec

/- names of the module and of the built-ins -/
noncomputable def GlobV (G : Gd) (x : Str) (v : Value) : Prop := (x == ("__debug__" : Str)) = false ∧ (G.mg x = some v ∨ (G.mg x = none ∧ x ≠ "__name__" ∧ bootBuiltins x = some v))
/-- a constant of the module -/
noncomputable def GlobA (G : Gd) (x : Str) (av : AV) : Prop := ∃ v, GlobV G x v ∧ ∀ (ω : Wd) (h : Heap), (∀ a ∈ G.gfz, a ∈ ω.fz) → (∀ b o, G.base.get? b = some o → h.get? b = some o) → VR ω h v av
section
variable {G : Gd} {n : Nat} {Γ : Ct} {a b c : CV} {l r e : Expr} {pos p' : Pos} {kd : Nat}
theorem globName {A : Around} {frs : List Env} {env : Env} {X : List Addr} {fr : Fra} {ω : Wd} {σ : Sto} {s : Shared} {E : Value → Shared → Prop} {Q : Value → Shared → Prop} {x : Str} {v : Value}
    (hg : GlobV G x v) (hx : x ∈ Γ.globs) (R : Rep G.toGl frs ω σ s.heap) (F : FrOK G.toGl frs Γ env X fr ω s.heap) (h : Q v s) : wpAny (model G.prog G.w) A (eval (.Name x pos) env) Q E s := by
  have hk : ∀ b o, G.base.get? b = some o → s.heap.get? b = some o := R.base
  refine Name_function_global F.e.kind (F.e.globs x hx) ?_ hg.1
  rcases hg.2 with q | ⟨q, hn, hb⟩
  · exact loadGlobal_global (by rw [F.e.glob]; exact G.hg.keeps hk) q h
  · exact loadGlobal_builtin (by rw [F.e.glob]; exact G.hg.keeps hk) q (by rw [F.e.blt]; exact G.hb.keeps hk) ((G.bi x hn).trans hb) h
theorem SE.glob {x : Str} {av : AV} (hg : GlobA G x av) (hx : x ∈ Γ.globs) : SE G n Γ (vGlob av) (.Name x pos) := by
  intro A frs env X fr ω σ s k y hA hF R f h
  obtain ⟨v, hv, hV⟩ := hg
  exact globName hv hx R f ⟨av, ω, σ, h, St.refl R, hV ω s.heap R.glob R.base⟩

/-- how many values -/
noncomputable def K0 (f : Sto → Bool) : List AV → Sto → Bool | [], σ => f σ | _, _ => false
noncomputable def K1 (f : AV → Sto → Bool) : List AV → Sto → Bool | [a], σ => f a σ | _, _ => false
noncomputable def K2 (f : AV → AV → Sto → Bool) : List AV → Sto → Bool | [a, b], σ => f a b σ | _, _ => false
noncomputable def K3 (f : AV → AV → AV → Sto → Bool) : List AV → Sto → Bool | [a, b, c], σ => f a b c σ | _, _ => false
noncomputable def K4 (f : AV → AV → AV → AV → Sto → Bool) : List AV → Sto → Bool | [a, b, c, d], σ => f a b c d σ | _, _ => false
noncomputable def K5 (f : AV → AV → AV → AV → AV → Sto → Bool) : List AV → Sto → Bool | [a, b, c, d, e], σ => f a b c d e σ | _, _ => false
theorem K1_inv {f : AV → Sto → Bool} {l : List AV} {σ : Sto} (h : K1 f l σ = true) : ∃ a, l = [a] ∧ f a σ = true := by
  match l, h with
  | [a], h => exact ⟨a, rfl, h⟩
theorem K2_inv {f : AV → AV → Sto → Bool} {l : List AV} {σ : Sto} (h : K2 f l σ = true) : ∃ a b, l = [a, b] ∧ f a b σ = true := by
  match l, h with
  | [a, b], h => exact ⟨a, b, rfl, h⟩
theorem VRs.one_inv {ω : Wd} {h : Heap} {vs : List Value} {a : AV} (V : VRs ω h vs [a]) : ∃ v, vs = [v] ∧ VR ω h v a := by
  cases V with | cons p q => cases q; exact ⟨_, rfl, p⟩
theorem VRs.two_inv {ω : Wd} {h : Heap} {vs : List Value} {a b : AV} (V : VRs ω h vs [a, b]) : ∃ v w, vs = [v, w] ∧ VR ω h v a ∧ VR ω h w b := by
  cases V with | cons p q => cases q with | cons q r => cases r; exact ⟨_, _, rfl, p, q⟩

theorem callName {A : Around} {frs : List Env} {env : Env} {X : List Addr} {fr : Fra} {ω : Wd} {σ : Sto} {s : Shared} {x : KX} {Q : Value → Shared → Prop} {k : List AV → Sto → Bool} {cs : List CV} {es : List Expr} {f : Value} {nm : Str} {np : Pos}
    (hg : GlobV G nm f) (hx : nm ∈ Γ.globs) (hf : KeepF G f) (H : SEs G n Γ cs es) (hA : Room A n) (hF : A.frames = some frs) (R : Rep G.toGl frs ω σ s.heap) (F : FrOK G.toGl frs Γ env X fr ω s.heap) (h : evs cs fr σ k x = true)
    (hQ : ∀ vs s₁ l ω₁ σ₁, vs.length = es.length → St G frs [] ω s ω₁ σ₁ s₁ → VRs ω₁ s₁.heap vs l → k l σ₁ = true → wpAny (model G.prog G.w) A (call f vs) Q (ExV G frs [] ω s x) s₁) :
    wpAny (model G.prog G.w) A (eval (.Call (.Name nm np) es [] pos) env) Q (ExV G frs [] ω s x) s :=
  wpAny_Call_NameR (globName hg hx R F (callW (first := []) hf H hA hF R F h fun vs s₁ l ω₁ σ₁ hl S V q => hQ vs s₁ l ω₁ σ₁ hl S V q))

/-- a built-in of one argument -/
theorem SE.call1 {f : Value} {nm : Str} {np : Pos} {g : AV → Sto → KV → KX → Bool} (hg : GlobV G nm f) (hx : nm ∈ Γ.globs) (hf : KeepF G f) (ha : SE G n Γ a e) (hs : ∀ env rest, starEach (e :: rest) env = (false, eval e env) :: starEach rest env)
    (hc : ∀ {A : Around} {frs : List Env} {ω : Wd} {σ : Sto} {s : Shared} {v : Value} {av : AV} {k : KV} {x : KX} {E : Value → Shared → Prop}, Room A n → A.frames = some frs → Rep G.toGl frs ω σ s.heap → VR ω s.heap v av → g av σ k x = true → wpAny (model G.prog G.w) A (call f [v]) (OkV G frs [] ω s k) (ExV G frs [] ω s x) s) :
    SE G n Γ (fun fr σ k x => a fr σ (fun u σ => g u σ k x) x) (.Call (.Name nm np) [e] [] pos) := by
  intro A frs env X fr ω σ s k x hA hF R F h
  refine callName (k := K1 fun u σ => g u σ k x) hg hx hf (.cons ha hs .nil) hA hF R F h fun vs s₁ l ω₁ σ₁ hl S V q => ?_
  obtain ⟨av, rfl, q'⟩ := K1_inv q
  obtain ⟨v, rfl, V'⟩ := V.one_inv
  exact wpAny_mono (hc (E := fun _ _ => False) hA hF S.rep V' q') (fun _ _ z => z.after S) fun _ _ z => z.after S
theorem SE.len {np : Pos} (hg : GlobV G "len" (.builtin "len")) (hx : ("len" : Str) ∈ Γ.globs) (ha : SE G n Γ a e) (hs : ∀ env rest, starEach (e :: rest) env = (false, eval e env) :: starEach rest env) :
    SE G n Γ (vLen a) (.Call (.Name "len" np) [e] [] pos) := by
  refine SE.call1 (g := fun u σ k x => itemsK u σ fun l => lenK l 0 fun n => ifB (Nat.blt n 4096) (k (.int (.ofNat n)) σ) false) hg hx (.builtin _) ha hs ?_
  intro A frs ω σ s v av k x E hA hF R V h
  obtain ⟨l, e, h₁⟩ := itemsK_inv h
  rw [lenK_eq, Nat.add_zero] at h₁
  obtain ⟨hl, h₂⟩ := blt_inv h₁
  obtain ⟨ad, vs, rfl, q, p⟩ := e.at R V
  have hlen := q.length
  have fin : OkV G frs [] ω s k (.int vs.toArray.size (s.toks + 1)) { s with toks := s.toks + 1 + 1 } := by
    rw [List.size_toArray, hlen]
    exact okInt R _ h₂ _
  have hfit : (vs.toArray.size : Int) < 2 ^ 63 := by rw [List.size_toArray]; omega
  rcases p with p | p
  · exact len_tuple p hfit fin
  · exact call_len_list p.isList hfit fin
theorem SE.mktup {np : Pos} (hg : GlobV G "tuple" (.type "tuple")) (hx : ("tuple" : Str) ∈ Γ.globs) (ha : SE G n Γ a e) (hs : ∀ env rest, starEach (e :: rest) env = (false, eval e env) :: starEach rest env) :
    SE G n Γ (vMktup a) (.Call (.Name "tuple" np) [e] [] pos) := by
  refine SE.call1 (g := fun u σ k x => itemsK u σ fun l => shortK l (k (.tup l) σ)) hg hx (.type _) ha hs ?_
  intro A frs ω σ s v av k x E hA hF R V h
  obtain ⟨l, e, h₁⟩ := itemsK_inv h
  obtain ⟨hl, h₂⟩ := (shortK_eq _ _).mp h₁
  cases e with
  | tup =>
    have V0 := V
    obtain ⟨ad, vs, rfl, hf, p, q⟩ := V.tup_inv
    exact call_tuple_same p ⟨_, ω, σ, h₂, St.refl R, V0⟩
  | lst e =>
    obtain ⟨ad, vs, rfl, p, q⟩ := R.lst V e
    refine call_tuple_list p.isList (fun h' hk => ?_) (by rw [List.size_toArray, q.length]; exact sizeLine_ge (by omega))
    have S := St.keep0 (s := s) R hk s.toks
    exact (okTup S.rep ((S.later R).vrs q) h₂ s.toks).after S
theorem SE.mklst {np : Pos} (hg : GlobV G "list" (.type "list")) (hx : ("list" : Str) ∈ Γ.globs) (ha : SE G n Γ a e) (hs : ∀ env rest, starEach (e :: rest) env = (false, eval e env) :: starEach rest env) :
    SE G n Γ (vMklstM a) (.Call (.Name "list" np) [e] [] pos) := by
  refine SE.call1 (g := fun u σ k x => itemsK u σ fun l => shortK l (alloc (.list l) σ fun i σ => k (.obj i) σ)) hg hx (.type _) ha hs ?_
  intro A frs ω σ s v av k x E hA hF R V h
  obtain ⟨l, e, h₁⟩ := itemsK_inv h
  obtain ⟨hl, h₂⟩ := (shortK_eq _ _).mp h₁
  obtain ⟨ad, vs, rfl, q, p⟩ := e.at R V
  have hsz : vs.toArray.size ≤ sizeLine := by rw [List.size_toArray, q.length]; exact sizeLine_ge (by omega)
  have fin : ∀ h' c', (∀ b o', s.heap.get? b = some o' → h'.get? b = some o') → h'.get? s.heap.objs.size = some { cls := .type "list", dict := Option.none, data := .seq vs.toArray c', slots := #[] } → OkV G frs [] ω s k (.ref s.heap.objs.size) { s with heap := h' } := fun h' c' hk hD => by
    obtain ⟨σ', hk', S'⟩ := St.allocAt (s := s) (h' := h') R hk (push_none _) ⟨_, hD⟩ h₂ s.toks fun ω' L => ⟨vs, ⟨c', hD⟩, L.vrs q⟩
    exact ⟨_, _, σ', hk', S', .obj (rho_new ω σ.n _ R.len)⟩
  rcases p with p | p
  · obtain ⟨o, ho, hc, n, hd⟩ := p
    exact call_list_seq (hsz := hsz) ad (.inr rfl) ho hc hd fin
  · obtain ⟨c, ho⟩ := p
    exact call_list_seq (hsz := hsz) ad (.inl rfl) ho rfl rfl fin
end
end
end Mine
namespace Mine
section
open PySem PySem.W PyProof.Rows PySem.Calls PySem.Spec

theorem sumK_inv : ∀ {l : List AV} {s : Int} {k : Int → Bool}, sumK l s k = true → ∃ ns : List Int, l = ns.map AV.int ∧ k (s + ns.sum) = true
  | [], s, k, h => ⟨[], rfl, by rw [List.sum_nil, Int.add_zero]; exact h⟩
  | v :: l, s, k, h => by
    obtain ⟨i, rfl, h₁⟩ := intK_inv (show (intK v fun i => fI (Int.add s i) fun r => sumK l r k) = true from h)
    rw [fI_eq] at h₁
    obtain ⟨ns, rfl, h₂⟩ := sumK_inv h₁
    refine ⟨i :: ns, rfl, ?_⟩
    rw [List.sum_cons, ← Int.add_assoc]
    exact h₂
theorem preSum_take (ns : List Int) : ∀ j, j ≤ ns.length → preSum (fun i => ns.getD i 0) j = (ns.take j).sum
  | 0, _ => by simp [preSum]
  | j + 1, h => by
    rw [preSum, preSum_take ns j (by omega)]
    have e : ns.take (j + 1) = ns.take j ++ [ns.getD j 0] := by
      rw [List.take_add_one, List.getD_eq_getElem?_getD, List.getElem?_eq_getElem (by omega)]
      rfl
    rw [e, List.sum_append]
    simp
theorem VRs.ints {ω : Wd} {h : Heap} : ∀ {ns : List Int} {vs : List Value}, VRs ω h vs (ns.map AV.int) → ∀ (i : Nat) v, vs[i]? = some v → ∃ t, v = .int (ns.getD i 0) t
  | [], vs, V, i, v, e => by cases V; simp at e
  | n :: ns, vs, V, i, v, e => by
    cases V with
    | cons p q =>
      cases i with
      | zero => simp at e; subst e; obtain ⟨t, rfl⟩ := p.int_inv; exact ⟨t, rfl⟩
      | succ i => simp at e; obtain ⟨t, rfl⟩ := VRs.ints q i v e; exact ⟨t, by simp⟩
section
variable {G : Gd} {n : Nat} {Γ : Ct} {a b c : CV} {l r e : Expr} {pos p' : Pos} {kd : Nat}
theorem SE.sum {np : Pos} (hg : GlobV G "sum" (.builtin "sum")) (hx : ("sum" : Str) ∈ Γ.globs) (ha : SE G n Γ a e) (hs : ∀ env rest, starEach (e :: rest) env = (false, eval e env) :: starEach rest env) :
    SE G n Γ (vSum a) (.Call (.Name "sum" np) [e] [] pos) := by
  refine SE.call1 (g := fun u σ k x => itemsK u σ fun l => shortK l (sumK l 0 fun s => k (.int s) σ)) hg hx (.builtin _) ha hs ?_
  intro A frs ω σ s v av k x E hA hF R V h
  obtain ⟨l, e, h₁⟩ := itemsK_inv h
  obtain ⟨hl, h₂⟩ := (shortK_eq _ _).mp h₁
  obtain ⟨ns, rfl, h₃⟩ := sumK_inv h₂
  rw [Int.zero_add] at h₃
  obtain ⟨ad, vs, rfl, q, p⟩ := e.at R V
  have hlen : vs.length = ns.length := by rw [q.length, List.length_map]
  have hp : preSum (fun i => ns.getD i 0) vs.toArray.size = ns.sum := by
    rw [List.size_toArray, hlen, preSum_take ns _ (Nat.le_refl _), List.take_of_length_le (Nat.le_refl _)]
  have hval : ∀ (i : Nat) v, vs.toArray[i]? = some v → ∃ t, v = .int ((fun i => ns.getD i 0) i) t := fun i v e => q.ints i v (by simpa using e)
  have fin : ∀ h' tk t', (∀ b o, s.heap.get? b = some o → h'.get? b = some o) → OkV G frs [] ω s k (.int ns.sum t') { s with heap := h', toks := tk } := fun h' tk t' hk =>
    ⟨_, ω, σ, h₃, St.keep0 (s := s) R hk tk, .int _ _⟩
  rcases p with p | p
  · refine call_sum_walkG (wpAny_pyIter_tuple p ⟨_, _, _, _, _, _, fun i => ns.getD i 0, rfl, Walks.tuple (A := A.in1) hA.1 s.heap.objs.size ad (fun e => live_ne (by obtain ⟨o, ho, _⟩ := p; exact ⟨o, ho⟩) (push_none s.heap) e) vs.toArray, ?_, ?_, hval, fun h' tk t' hk => ?_⟩)
    · exact ⟨⟨_, Heap.get?_push_size _ rfl, rfl, rfl⟩, by obtain ⟨o, ho, r⟩ := p; exact ⟨o, Heap.get?_push_of_some _ ho, r⟩⟩
    · intro b hb
      simp at hb
      rcases hb with rfl | rfl
      · show _ < (s.heap.push _).objs.size; rw [Heap.size_push]; exact Nat.lt_succ_self _
      · show _ < (s.heap.push _).objs.size; rw [Heap.size_push]; obtain ⟨o, ho, _⟩ := p; exact Nat.lt_succ_of_lt (Heap.lt_size ho)
    · rw [hp]
      exact fin h' tk t' fun b o e => hk b o (fun m => live_ne ⟨o, e⟩ (push_none s.heap) (List.mem_singleton.mp m)) (Heap.get?_push_of_some _ e)
  · refine call_sum_walkG (wpAny_pyIter_list p.isList ⟨_, _, _, _, _, _, fun i => ns.getD i 0, rfl, Walks.list (A := A.in1) hA.1 s.heap.objs.size ad (fun e => live_ne (by obtain ⟨o, ho⟩ := p; exact ⟨_, ho⟩) (push_none s.heap) e) vs.toArray, ?_, ?_, hval, fun h' tk t' hk => ?_⟩)
    · exact ⟨⟨_, Heap.get?_push_size _ rfl, rfl, rfl⟩, by obtain ⟨o, ho, r⟩ := p.isList; exact ⟨o, Heap.get?_push_of_some _ ho, r⟩⟩
    · intro b hb
      simp at hb
      rcases hb with rfl | rfl
      · show _ < (s.heap.push _).objs.size; rw [Heap.size_push]; exact Nat.lt_succ_self _
      · show _ < (s.heap.push _).objs.size; rw [Heap.size_push]; obtain ⟨o, ho⟩ := p; exact Nat.lt_succ_of_lt (Heap.lt_size ho)
    · rw [hp]
      exact fin h' tk t' fun b o e => hk b o (fun m => live_ne ⟨o, e⟩ (push_none s.heap) (List.mem_singleton.mp m)) (Heap.get?_push_of_some _ e)

/- ranges -/
noncomputable def OkR (G : Gd) (frs : List Env) (ω : Wd) (s : Shared) (k : Int → Nat → Sto → Bool) (v : Value) (s' : Shared) : Prop :=
  ∃ lo n ω' σ' r b t u w, k lo n σ' = true ∧ St G frs [] ω s ω' σ' s' ∧ v = .ref r ∧ IsRange s'.heap r lo b 1 t u w ∧ Builtin.Range.small lo b 1 = true ∧ Builtin.Range.rangeSize lo b 1 = ((n : Nat) : Int) ∧ n < 4096 ∧
    r ∉ ω'.ρ ∧ r ∉ ω'.fz
theorem natOf_eq (i : Int) : natOf i = i.toNat := by cases i <;> rfl
theorem small_range {i j : Int} (h : small i = true) (q : small j = true) : Builtin.Range.small i j 1 = true := by
  have a := small_inv h
  have b := small_inv q
  exact small_one (by omega) (by omega) (by omega) (by omega)
theorem newRange {frs : List Env} {ω : Wd} {σ : Sto} {s : Shared} {k : Int → Nat → Sto → Bool} (R : Rep G.toGl frs ω σ s.heap) {i j : Int} {n : Nat} (t u w : Tok) (t' : Nat) (hi : small i = true) (hj : small j = true) (hn : (j - i).toNat = n) (hl : n < 4096) (h : k i n σ = true) :
    OkR G frs ω s k (.ref s.heap.objs.size) { s with heap := s.heap.push { cls := .type "range", data := .fields #[.int i t, .int j u, .int 1 w] }, toks := t' } := by
  refine ⟨i, n, ω, σ, _, j, t, u, w, h, St.keep0 (s := s) R (fun b o e => Heap.get?_push_of_some _ e) t', rfl, IsRange.new .., small_range hi hj, ?_, hl, fun q => live_ne (R.low _ q) (push_none _) rfl, fun q => live_ne (R.lowz _ q) (push_none _) rfl⟩
  rw [rangeSize_one]
  split <;> omega
theorem SE.range {np : Pos} (hg : GlobV G "range" (.type "range")) (hx : ("range" : Str) ∈ Γ.globs) (hb : SE G n Γ b r) (hs : ∀ env rest, starEach (r :: rest) env = (false, eval r env) :: starEach rest env)
    {A : Around} {frs : List Env} {env : Env} {X : List Addr} {fr : Fra} {ω : Wd} {σ : Sto} {s : Shared} {k : Int → Nat → Sto → Bool} {x : KX}
    (hA : Room A n) (hF : A.frames = some frs) (R : Rep G.toGl frs ω σ s.heap) (f : FrOK G.toGl frs Γ env X fr ω s.heap) (h : boundsK Option.none b fr σ k x = true) :
    wpAny (model G.prog G.w) A (eval (.Call (.Name "range" np) [r] [] pos) env) (OkR G frs ω s k) (ExV G frs [] ω s x) s := by
  refine callName (k := K1 fun v σ => intK v fun j => ifB (small j) (ifB (Nat.blt (natOf j) 4096) (fN (natOf j) fun n => k 0 n σ) false) false) hg hx (.type _) (.cons hb hs .nil) hA hF R f h fun vs s₁ l ω₁ σ₁ hl S V q => ?_
  obtain ⟨av, rfl, q'⟩ := K1_inv q
  obtain ⟨v, rfl, V'⟩ := V.one_inv
  obtain ⟨j, rfl, q₁⟩ := intK_inv q'
  obtain ⟨hj, q₂⟩ := ifB_inv q₁
  obtain ⟨hn, q₃⟩ := blt_inv q₂
  rw [fN_eq] at q₃
  obtain ⟨t, rfl⟩ := V'.int_inv
  rw [natOf_eq] at hn q₃
  refine call_range_1 ?_
  obtain ⟨lo, m, ω', σ', rr, bb, t1, u1, w1, h1, h2, h3⟩ := newRange S.rep (k := k) s₁.toks t (s₁.toks + 1) (s₁.toks + 1 + 1) (show small 0 = true by decide) hj (by rw [Int.sub_zero]) hn q₃
  exact ⟨lo, m, ω', σ', rr, bb, t1, u1, w1, h1, S.then h2, h3⟩
theorem SE.range2 {np : Pos} (hg : GlobV G "range" (.type "range")) (hx : ("range" : Str) ∈ Γ.globs) (ha : SE G n Γ a l) (hs₀ : ∀ env rest, starEach (l :: rest) env = (false, eval l env) :: starEach rest env) (hb : SE G n Γ b r) (hs : ∀ env rest, starEach (r :: rest) env = (false, eval r env) :: starEach rest env)
    {A : Around} {frs : List Env} {env : Env} {X : List Addr} {fr : Fra} {ω : Wd} {σ : Sto} {s : Shared} {k : Int → Nat → Sto → Bool} {x : KX}
    (hA : Room A n) (hF : A.frames = some frs) (R : Rep G.toGl frs ω σ s.heap) (f : FrOK G.toGl frs Γ env X fr ω s.heap) (h : boundsK (some a) b fr σ k x = true) :
    wpAny (model G.prog G.w) A (eval (.Call (.Name "range" np) [l, r] [] pos) env) (OkR G frs ω s k) (ExV G frs [] ω s x) s := by
  refine callName (k := K2 fun u v σ => intK u fun i => intK v fun j => ifB (small i) (ifB (small j) (ifB (Nat.blt (natOf (Int.sub j i)) 4096) (fN (natOf (Int.sub j i)) fun n => k i n σ) false) false) false) hg hx (.type _) (.cons ha hs₀ (.cons hb hs .nil)) hA hF R f h fun vs s₁ l ω₁ σ₁ hl S V q => ?_
  obtain ⟨av, bv, rfl, q'⟩ := K2_inv q
  obtain ⟨v, w, rfl, V', W'⟩ := V.two_inv
  obtain ⟨i, rfl, q₀⟩ := intK_inv q'
  obtain ⟨j, rfl, q₁⟩ := intK_inv q₀
  obtain ⟨hi, q₂⟩ := ifB_inv q₁
  obtain ⟨hj, q₃⟩ := ifB_inv q₂
  obtain ⟨hn, q₄⟩ := blt_inv q₃
  rw [fN_eq] at q₄
  obtain ⟨t, rfl⟩ := V'.int_inv
  obtain ⟨u, rfl⟩ := W'.int_inv
  rw [natOf_eq] at hn q₄
  refine call_range_2 ?_
  obtain ⟨lo, m, ω', σ', rr, bb, t1, u1, w1, h1, h2, h3⟩ := newRange S.rep (k := k) t u s₁.toks (s₁.toks + 1) hi hj rfl hn q₄
  exact ⟨lo, m, ω', σ', rr, bb, t1, u1, w1, h1, S.then h2, h3⟩

theorem rangeK_eq : ∀ (n : Nat) (lo : Int) (k : List AV → Bool), rangeK n lo k = k (rangeL lo n)
  | 0, _, _ => rfl
  | n + 1, lo, k => by
    show fI (Int.add lo 1) (fun lo' => rangeK n lo' fun l => k (.int lo :: l)) = _
    rw [fI_eq, rangeK_eq n]
    rfl
theorem rangeL_get : ∀ (n : Nat) (lo : Int) (i : Nat), i < n → (rangeL lo n)[i]? = some (.int (lo + i))
  | n + 1, lo, 0, _ => by simp [rangeL]
  | n + 1, lo, i + 1, h => by
    show (rangeL (lo + 1) n)[i]? = _
    rw [rangeL_get n _ i (by omega)]
    congr 2
    push_cast
    omega
theorem rangeL_len : ∀ (n : Nat) (lo : Int), (rangeL lo n).length = n
  | 0, _ => rfl
  | n + 1, lo => by simp [rangeL, rangeL_len n]
theorem VRs.of_get {ω : Wd} {h : Heap} : ∀ {l : List AV} {vs : List Value}, vs.length = l.length → (∀ (i : Nat) v a, vs[i]? = some v → l[i]? = some a → VR ω h v a) → VRs ω h vs l
  | [], [], _, _ => .nil
  | a :: l, v :: vs, hl, k => .cons (k 0 v a rfl rfl) (VRs.of_get (by simpa using hl) fun i v a e e' => k (i + 1) v a (by simpa using e) (by simpa using e'))
/-- list(range(..)) -/
theorem lrngOf {frs : List Env} {ω : Wd} {s s₁ : Shared} {A : Around} {v : Value} {k : KV} {x : KX} (hA : Room A n) (h : OkR G frs ω s (fun lo n σ => rangeK n lo fun l => k (.lst l) σ) v s₁) :
    wpAny (model G.prog G.w) A (call (.type "list") [v]) (OkV G frs [] ω s k) (ExV G frs [] ω s x) s₁ := by
  obtain ⟨lo, m, ω', σ', r, b, t, u, w, h1, S, rfl, hr, hsm, hn, hl, _⟩ := h
  replace h1 : (rangeK m lo fun l => k (.lst l) σ') = true := h1
  rw [rangeK_eq] at h1
  refine call_list_range hA.1 hr hsm hn (by omega) fun h' tk acc c' hk hD hacc => ?_
  have T := St.keepAll (s := s₁) S.rep hk [s₁.heap.objs.size] (fun a q => by rw [List.mem_singleton.mp q]; exact ⟨push_none _, _, hD⟩) tk
  refine ⟨_, _, σ', h1, S.then T, .lst (vs := acc.toList) (.head _) ⟨c', hD⟩ (VRs.of_get (by rw [rangeL_len, Array.length_toList]; exact hacc.1) fun i v a e e' => ?_)⟩
  have hi : i < m := by rw [← rangeL_len m lo]; exact (List.getElem?_eq_some_iff.mp e').1
  rw [rangeL_get m lo i hi] at e'
  cases e'
  obtain ⟨t, rfl⟩ := hacc.2 i v (by simpa using e)
  rw [Int.mul_one]
  exact .int _ _
theorem SE.lrngBy {np : Pos} {ob : Option CV} {re : Expr} (hg : GlobV G "list" (.type "list")) (hx : ("list" : Str) ∈ Γ.globs) (hs : ∀ env rest, starEach (re :: rest) env = (false, eval re env) :: starEach rest env)
    (H : ∀ {A : Around} {frs : List Env} {env : Env} {X : List Addr} {fr : Fra} {ω : Wd} {σ : Sto} {s : Shared} {k : Int → Nat → Sto → Bool} {x : KX}, Room A n → A.frames = some frs → Rep G.toGl frs ω σ s.heap → FrOK G.toGl frs Γ env X fr ω s.heap → boundsK ob b fr σ k x = true →
      wpAny (model G.prog G.w) A (eval re env) (OkR G frs ω s k) (ExV G frs [] ω s x) s) :
    SE G n Γ (vLrng ob b) (.Call (.Name "list" np) [re] [] pos) := by
  intro A frs env X fr ω σ s k x hA hF R f h
  refine wpAny_Call_NameR (globName hg hx R f (callWith_of (P := fun h => G.K.In h) (by rw [hs]; rfl) (KeepF.type "list") ?_))
  rw [hs]
  refine evalArgs_plain (Calls.spliced_cons (wpAny_mono (H hA hF R f h) (fun v s₁ q => Calls.spliced_nil ?_) fun _ _ q => q))
  obtain ⟨lo, m, ω', σ', r, b, t, u, w, h1, S, h3⟩ := id q
  exact ⟨S.rep.kin, lrngOf hA q⟩
theorem SE.lrng {np np' : Pos} {pos' : Pos} (hg : GlobV G "list" (.type "list")) (hx : ("list" : Str) ∈ Γ.globs) (hg' : GlobV G "range" (.type "range")) (hx' : ("range" : Str) ∈ Γ.globs) (hb : SE G n Γ b r) (hs : ∀ env rest, starEach (r :: rest) env = (false, eval r env) :: starEach rest env) :
    SE G n Γ (vLrng Option.none b) (.Call (.Name "list" np) [.Call (.Name "range" np') [r] [] pos'] [] pos) :=
  SE.lrngBy hg hx (fun _ _ => rfl) fun hA hF R f h => SE.range hg' hx' hb hs hA hF R f h
end
end
end Mine
namespace Mine
section
open PySem PySem.W PyProof.Rows PySem.Calls PySem.Spec

/-- a statement's end: what follows it -/
noncomputable def OkF (G : Gd) (frs : List Env) (Γ : Ct) (env : Env) (X : List Addr) (ω : Wd) (s : Shared) (k : KF) (s' : Shared) : Prop :=
  ∃ fr' ω' σ', k fr' σ' = true ∧ St G frs X ω s ω' σ' s' ∧ FrOK G.toGl frs Γ env X fr' ω' s'.heap
section
variable {G : Gd} {frs : List Env} {Γ : Ct} {env : Env} {X : List Addr} {ω ω₁ : Wd} {σ σ₁ : Sto} {s s₁ s₂ : Shared} {k : KF}
theorem St.widen {ω' : Wd} {σ' : Sto} (a : St G frs [] ω s ω' σ' s₁) : St G frs X ω s ω' σ' s₁ := ⟨a.step.sub fun _ q => (nomatch q), a.rep, a.gens, a.drawn, a.os⟩
theorem St.andX (a : St G frs X ω s ω₁ σ₁ s₁) {ω₂ : Wd} {σ₂ : Sto} (b : St G frs X ω₁ s₁ ω₂ σ₂ s₂) : St G frs X ω s ω₂ σ₂ s₂ := a.trans b fun _ q => .inl q
theorem OkF.after (a : St G frs X ω s ω₁ σ₁ s₁) (b : OkF G frs Γ env X ω₁ s₁ k s₂) : OkF G frs Γ env X ω s k s₂ := by
  obtain ⟨fr', ω', σ', h, S, F⟩ := b
  exact ⟨fr', ω', σ', h, a.andX S, F⟩
/-- a place of the frame's own is written -/
theorem St.own (R : Rep G.toGl frs ω σ s.heap) {a : Addr} {h' : Heap} (ha : a ∈ X) (ho : a ∉ ω.ρ ∧ a ∉ ω.fz ∧ G.base.get? a = none) (hs : Heap.SameBut a s.heap h') (hal : ∃ o, h'.get? a = some o ∧ ∀ vs, o.data ≠ .fields vs) (t : Nat) :
    St G frs X ω s ω σ { s with heap := h', toks := t } := by
  obtain ⟨h1, h2, h3⟩ := ho
  obtain ⟨oa, hoa, hod⟩ := hal
  have al : ∀ b o, s.heap.get? b = some o → ∃ o', h'.get? b = some o' := fun b o e => by
    by_cases hb : b = a
    · rw [hb]; exact ⟨oa, hoa⟩
    · exact ⟨o, (hs.2 b hb).trans e⟩
  have L : Later ω s.heap ω h' := ⟨fun a q => q, fun _ _ q => q, fun _ _ q => q, fun b hb o e => (hs.2 b (fun q => h2 (q ▸ hb))).trans e⟩
  refine ⟨⟨al, ⟨[], by simp, fun _ q => nomatch q⟩, fun a q => q, fun a q => .inl q, ⟨[], by simp⟩, fun b o e hb hX => .inl ((hs.2 b (fun q => hX (q ▸ ha))).trans e)⟩,
    ⟨fun j o e => ?_, R.len, R.nu, R.nodup, fun b q => by obtain ⟨o, ho⟩ := R.low b q; exact al b o ho, fun b q => by obtain ⟨o, ho⟩ := R.lowz b q; exact al b o ho, R.sep, R.fzF, fun b o e => (hs.2 b (fun q => ?_)).trans (R.base b o e), ?_, R.glob⟩, rfl, rfl, rfl⟩
  · obtain ⟨b, eb, ob⟩ := R.objs j o e
    exact ⟨b, eb, ob.later L fun o e => (hs.2 b (fun q => h1 (q ▸ List.mem_of_getElem? eb))).trans e⟩
  · rw [q, h3] at e; cases e
  · exact funFrames_on R.frames fun b hb o e hd => by
      by_cases hb : b = a
      · rw [hb]; exact ⟨oa, hoa, hod⟩
      · exact ⟨o, (hs.2 b hb).trans e, hd⟩
end

noncomputable def Fra.set (fr : Fra) (i : Nat) (v : SV) : Fra :=
  ⟨if i = 0 then v else fr.a0, if i = 1 then v else fr.a1, if i = 2 then v else fr.a2, if i = 3 then v else fr.a3, if i = 4 then v else fr.a4, if i = 5 then v else fr.a5,
   if i = 6 then v else fr.a6, if i = 7 then v else fr.a7, if i = 8 then v else fr.a8, if i = 9 then v else fr.a9, if i = 10 then v else fr.a10, if i = 11 then v else fr.a11⟩
theorem ite_swap {i j : Nat} {a b : SV} : (if i = j then a else b) = if j = i then a else b := by
  by_cases h : i = j
  · subst h; rfl
  · rw [if_neg h, if_neg fun e => h e.symm]
theorem Fra.get_set (fr : Fra) {i j : Nat} (v : SV) (hi : i < 12) : (fr.set i v).get j = if j = i then v else fr.get j := by
  match j with
  | 0 => exact ite_swap
  | 1 => exact ite_swap
  | 2 => exact ite_swap
  | 3 => exact ite_swap
  | 4 => exact ite_swap
  | 5 => exact ite_swap
  | 6 => exact ite_swap
  | 7 => exact ite_swap
  | 8 => exact ite_swap
  | 9 => exact ite_swap
  | 10 => exact ite_swap
  | 11 => exact ite_swap
  | n + 12 =>
    have e : n + 12 ≠ i := by omega
    rw [if_neg e]; rfl
noncomputable def IsG (i : Nat) (g : TG) : Prop := i < 12 ∧ ∀ v fr σ k, g v fr σ k = k (fr.set i (.va v)) σ
theorem isg0 : IsG 0 g0 := ⟨by decide, fun _ ⟨_, _, _, _, _, _, _, _, _, _, _, _⟩ _ _ => rfl⟩
theorem isg1 : IsG 1 g1 := ⟨by decide, fun _ ⟨_, _, _, _, _, _, _, _, _, _, _, _⟩ _ _ => rfl⟩
theorem isg2 : IsG 2 g2 := ⟨by decide, fun _ ⟨_, _, _, _, _, _, _, _, _, _, _, _⟩ _ _ => rfl⟩
theorem isg3 : IsG 3 g3 := ⟨by decide, fun _ ⟨_, _, _, _, _, _, _, _, _, _, _, _⟩ _ _ => rfl⟩
theorem isg4 : IsG 4 g4 := ⟨by decide, fun _ ⟨_, _, _, _, _, _, _, _, _, _, _, _⟩ _ _ => rfl⟩
theorem isg5 : IsG 5 g5 := ⟨by decide, fun _ ⟨_, _, _, _, _, _, _, _, _, _, _, _⟩ _ _ => rfl⟩
theorem isg6 : IsG 6 g6 := ⟨by decide, fun _ ⟨_, _, _, _, _, _, _, _, _, _, _, _⟩ _ _ => rfl⟩
theorem isg7 : IsG 7 g7 := ⟨by decide, fun _ ⟨_, _, _, _, _, _, _, _, _, _, _, _⟩ _ _ => rfl⟩
theorem isg8 : IsG 8 g8 := ⟨by decide, fun _ ⟨_, _, _, _, _, _, _, _, _, _, _, _⟩ _ _ => rfl⟩
theorem isg9 : IsG 9 g9 := ⟨by decide, fun _ ⟨_, _, _, _, _, _, _, _, _, _, _, _⟩ _ _ => rfl⟩
theorem isg10 : IsG 10 g10 := ⟨by decide, fun _ ⟨_, _, _, _, _, _, _, _, _, _, _, _⟩ _ _ => rfl⟩
theorem isg11 : IsG 11 g11 := ⟨by decide, fun _ ⟨_, _, _, _, _, _, _, _, _, _, _, _⟩ _ _ => rfl⟩

/-- a target's code -/
noncomputable def SG (G : Gd) (n : Nat) (Γ : Ct) (g : TG) (t : Expr) : Prop :=
  ∀ (A : Around) (frs : List Env) (env : Env) (X : List Addr) (fr : Fra) (ω : Wd) (σ : Sto) (s : Shared) (k : KF) (v : Value) (av : AV),
    Room A n → A.frames = some frs → Rep G.toGl frs ω σ s.heap → FrOK G.toGl frs Γ env X fr ω s.heap → VR ω s.heap v av → g av fr σ k = true →
    wpAny (model G.prog G.w) A (assign t env v) (fun _ s' => OkF G frs Γ env X ω s k s') (fun _ _ => False) s
theorem Ns.alive {h : Heap} {a : Addr} {m : Str → Option Value} (x : h.Ns a m) : ∃ o, h.get? a = some o ∧ ∀ vs, o.data ≠ .fields vs := by
  obtain ⟨o, es, ep, ho, hd, _⟩ := x
  exact ⟨o, ho, fun vs e => by rw [hd] at e; cases e⟩
theorem IsCell.alive {h : Heap} {a : Addr} {v : Option Value} (x : h.IsCell a v) : ∃ o, h.get? a = some o ∧ ∀ vs, o.data ≠ .fields vs := by
  obtain ⟨o, ho, hd⟩ := x
  exact ⟨o, ho, fun vs e => by rw [hd] at e; cases e⟩
theorem nodup_vars {Γ : Ct} (h : (Γ.vars.map (·.1)).Nodup) {i j : Nat} {x : Str} {k k' : SK} (hi : Γ.vars[i]? = some (x, k)) (hj : Γ.vars[j]? = some (x, k')) : i = j := by
  obtain ⟨p, ep⟩ := List.getElem?_eq_some_iff.mp hi
  obtain ⟨q, eq⟩ := List.getElem?_eq_some_iff.mp hj
  have hp : i < (Γ.vars.map (·.1)).length := by rw [List.length_map]; exact p
  have hq : j < (Γ.vars.map (·.1)).length := by rw [List.length_map]; exact q
  exact (List.getElem_inj (h₀ := hp) (h₁ := hq) h).mp (by simp [ep, eq])
section
variable {G : Gd} {frs : List Env} {Γ : Ct} {env : Env} {X : List Addr} {ω ω₁ : Wd} {σ σ₁ : Sto} {s s₁ s₂ : Shared} {k : KF} {fr : Fra} {n : Nat}
/-- a name is stored -/
theorem storeOk {A : Around} {E : Value → Shared → Prop} {i : Nat} {x : Str} {kk : SK} {v : Value} {av : AV} (hi : i < 12) (hx : Γ.vars[i]? = some (x, kk)) (hk : kk ≠ .cap) (R : Rep G.toGl frs ω σ s.heap) (f : FrOK G.toGl frs Γ env X fr ω s.heap)
    (V : VR ω s.heap v av) (h : k (fr.set i (.va av)) σ = true) : wpAny (model G.prog G.w) A (storeName env x v) (fun _ s' => OkF G frs Γ env X ω s k s') E s := by
  obtain ⟨m, hns, hloc⟩ := f.loc
  cases kk with
  | cap => exact absurd rfl hk
  | loc =>
    refine wpAny_storeName_local (f.e.loc i x hx) hns (fun h' hn hs => ?_) (by rw [f.e.kind]; rfl)
    have S : St G frs X ω s ω σ { s with heap := h', toks := s.toks + 1 } := St.own (s := s) R f.here (f.out _ f.here) hs (Ns.alive hn) _
    have L : Later ω s.heap ω h' := ⟨fun a q => q, fun _ _ q => q, fun _ _ q => q, fun b hb o e => (hs.2 b (fun q => (f.out _ f.here).2.1 (q ▸ hb))).trans e⟩
    refine ⟨_, ω, σ, h, S, ⟨f.e, ⟨_, hn, fun j y hy => ?_⟩, fun j y k' hy hk' => ?_, f.apart, f.here, fun a ha => ?_, f.out, f.frame⟩⟩
    · rw [Fra.get_set fr _ hi]
      by_cases hj : j = i
      · subst hj
        rw [hx] at hy
        cases hy
        rw [if_pos rfl, if_pos rfl]
        exact ⟨v, rfl, L.vr V⟩
      · have : y ≠ x := fun e => hj (nodup_vars f.e.names hy (e ▸ hx))
        rw [if_neg hj, if_neg this]
        exact (hloc j y hy).later L
    · obtain ⟨c, v', h1, h2, h3, h4, h5, h6⟩ := f.cel j y k' hy hk'
      have hj : j ≠ i := fun e => by subst e; rw [hx] at hy; cases hy; exact hk' rfl
      refine ⟨c, v', h1, ?_, h3, h4, h5, ?_⟩
      · obtain ⟨o, ho, hd⟩ := h2
        exact ⟨o, (hs.2 c h4).trans ho, hd⟩
      · rw [Fra.get_set fr _ hi, if_neg hj]
        exact h6.later L
    · obtain ⟨o, ho⟩ := f.low a ha
      exact S.step.alive a o ho
  | own =>
    obtain ⟨c, v', h1, h2, h3, h4, h5, h6⟩ := f.cel i x _ hx (by intro q; cases q)
    have hc := h5 rfl
    refine wpAny_storeName_cell f.e.kind (f.e.own i x hx) h1 h2 fun h' hn hs => ?_
    have S : St G frs X ω s ω σ { s with heap := h', toks := s.toks } := St.own (s := s) R hc (f.out _ hc) hs (IsCell.alive hn) _
    have L : Later ω s.heap ω h' := ⟨fun a q => q, fun _ _ q => q, fun _ _ q => q, fun b hb o e => (hs.2 b (fun q => (f.out _ hc).2.1 (q ▸ hb))).trans e⟩
    refine ⟨_, ω, σ, h, S, ⟨f.e, ⟨m, hns.sameBut hs (Ne.symm h4), fun j y hy => ?_⟩, fun j y k' hy hk' => ?_, f.apart, f.here, fun a ha => ?_, f.out, f.frame⟩⟩
    · have hj : j ≠ i := fun e => by subst e; rw [hx] at hy; cases hy
      rw [Fra.get_set fr _ hi, if_neg hj]
      exact (hloc j y hy).later L
    · rw [Fra.get_set fr _ hi]
      by_cases hj : j = i
      · subst hj
        rw [hx] at hy
        cases hy
        rw [if_pos rfl]
        exact ⟨c, some v, h1, hn, h3, h4, fun _ => hc, v, rfl, L.vr V⟩
      · rw [if_neg hj]
        obtain ⟨c', w', q1, q2, q3, q4, q5, q6⟩ := f.cel j y k' hy hk'
        have hcc : c' ≠ c := fun e => hj (nodup_vars f.e.names hy (f.apart x y c h1 (e ▸ q1) ▸ hx))
        refine ⟨c', w', q1, ?_, q3, q4, q5, q6.later L⟩
        obtain ⟨o, ho, hd⟩ := q2
        exact ⟨o, (hs.2 c' hcc).trans ho, hd⟩
    · obtain ⟨o, ho⟩ := f.low a ha
      exact S.step.alive a o ho
theorem SG.name {i : Nat} {x : Str} {kk : SK} {g : TG} {pos : Pos} (hg : IsG i g) (hx : Γ.vars[i]? = some (x, kk)) (hk : kk ≠ .cap) : SG G n Γ g (.Name x pos) := by
  intro A frs env X fr ω σ s k v av hA hF R f V h
  rw [hg.2] at h
  exact wpAny_assign_Name (storeOk hg.1 hx hk R f V h)
inductive SGs (G : Gd) (n : Nat) (Γ : Ct) : List TG → List Expr → Prop
  | nil : SGs G n Γ [] []
  | cons {g : TG} {t : Expr} {gs : List TG} {ts : List Expr} : SG G n Γ g t → (∀ env rest, assignEach (t :: rest) env = (false, assign t env) :: assignEach rest env) → SGs G n Γ gs ts → SGs G n Γ (g :: gs) (t :: ts)
theorem SGs.length {gs : List TG} {ts : List Expr} (H : SGs G n Γ gs ts) : gs.length = ts.length := by
  induction H with
  | nil => rfl
  | cons _ _ _ ih => simp [ih]
theorem SGs.each {gs : List TG} {ts : List Expr} (H : SGs G n Γ gs ts) (env : Env) : (assignEach ts env).length = ts.length ∧ List.findIdx? (fun x => x.1) (assignEach ts env) = none := by
  induction H with
  | nil => exact ⟨rfl, rfl⟩
  | cons _ hs _ ih => rw [hs]; exact ⟨by simp [ih.1], by rw [List.findIdx?_cons]; simp [ih.2]⟩
theorem SGs.assign {gs : List TG} {ts : List Expr} (H : SGs G n Γ gs ts) : ∀ (A : Around) (frs : List Env) (env : Env) (X : List Addr) (fr : Fra) (ω : Wd) (σ : Sto) (s : Shared) (k : KF) (vs : List Value) (l : List AV),
    Room A n → A.frames = some frs → Rep G.toGl frs ω σ s.heap → FrOK G.toGl frs Γ env X fr ω s.heap → VRs ω s.heap vs l → asgs gs l fr σ k = true → ts.length = vs.length →
    wpAny (model G.prog G.w) A (assignInOrder ((assignEach ts env).map (·.2)) vs) (fun _ s' => OkF G frs Γ env X ω s k s') (fun _ _ => False) s := by
  induction H with
  | nil =>
    intro A frs env X fr ω σ s k vs l hA hF R f V h hl
    cases vs with
    | cons v vs => cases hl
    | nil =>
      cases V
      exact wpAny_assignInOrder_none ⟨fr, ω, σ, h, (St.refl R).widen, f⟩
  | cons hg hs H ih =>
    intro A frs env X fr ω σ s k vs l hA hF R f V h hl
    rw [hs]
    cases V with
    | nil => cases hl
    | cons p q =>
      refine wpAny_assignInOrder_more (wpAny_mono (hg A frs env X fr ω σ s _ _ _ hA hF R f p h) (fun _ s₁ ⟨fr₁, ω₁, σ₁, h₁, S, F⟩ => ?_) fun _ _ z => z)
      have L := S.step.later R fun a ha => (f.out a ha).2.1
      exact wpAny_mono (ih A frs env X fr₁ ω₁ σ₁ s₁ k _ _ hA hF S.rep F (L.vrs q) h₁ (by simpa using hl)) (fun _ _ z => z.after S) fun _ _ z => z
theorem sameLen_inv {α β : Type} {x : Bool} : ∀ {ts : List α} {vs : List β}, sameLen x ts vs = true → ts.length = vs.length ∧ x = true
  | [], [], h => ⟨rfl, h⟩
  | [], _ :: _, h => nomatch (show false = true from h)
  | _ :: _, [], h => nomatch (show false = true from h)
  | _ :: ts, _ :: vs, h => by
    obtain ⟨a, b⟩ := sameLen_inv (ts := ts) (vs := vs) h
    exact ⟨by simp [a], b⟩
theorem SG.tup {gs : List TG} {ts : List Expr} {kd : Nat} {pos : Pos} (H : SGs G n Γ gs ts) : SG G n Γ (gTup gs) (.Tuple ts kd pos) := by
  intro A frs env X fr ω σ s k v av hA hF R f V h
  obtain ⟨l, rfl, h₁⟩ := tupK_inv (k := fun l => sameLen (asgs gs l fr σ k) gs l) h
  obtain ⟨hl, h₂⟩ := sameLen_inv h₁
  obtain ⟨a, vs, rfl, _, p, q⟩ := V.tup_inv
  have hlen := q.length
  have hts := H.length
  refine wpAny_assign_Tuple hA.1 p (by rw [(H.each env).1, List.size_toArray]; omega) (H.each env).2 fun h' hk => ?_
  have S : St G frs [] ω s ω σ { s with heap := h', toks := s.toks } := St.keep0 (s := s) R (fun b o e => hk b o (live_ne ⟨o, e⟩ (push_none _)) e) s.toks
  have L := S.later R
  exact wpAny_mono (H.assign A frs env X fr ω σ _ k _ l hA hF S.rep (S.fr R f) (L.vrs q) h₂ (by show ts.length = vs.length; omega)) (fun _ _ z => z.after S.widen) fun _ _ z => z
end
end
end Mine
namespace Mine
section
open PySem PySem.W PyProof.Rows PySem.Calls PySem.Spec

/-- a statement's end -/
noncomputable def EndX (G : Gd) (frs : List Env) (Γ : Ct) (env : Env) (X : List Addr) (ω : Wd) (s : Shared) (k : KF) (r : KV) (fl : Flow) (s' : Shared) : Prop := match fl with
  | .next => OkF G frs Γ env X ω s k s'
  | .ret v => OkV G frs X ω s r v s'
  | _ => False
section
variable {G : Gd} {frs : List Env} {Γ : Ct} {env : Env} {X : List Addr} {ω ω₁ : Wd} {σ σ₁ : Sto} {s s₁ s₂ : Shared} {k : KF} {r : KV} {x : KX} {fl : Flow} {v : Value}
theorem OkV.afterX (a : St G frs X ω s ω₁ σ₁ s₁) (b : OkV G frs X ω₁ s₁ r v s₂) : OkV G frs X ω s r v s₂ := by
  obtain ⟨av, ω', σ', h, S, V⟩ := b
  exact ⟨av, ω', σ', h, a.andX S, V⟩
theorem OkV.widen (b : OkV G frs [] ω s r v s₂) : OkV G frs X ω s r v s₂ := by
  obtain ⟨av, ω', σ', h, S, V⟩ := b
  exact ⟨av, ω', σ', h, S.widen, V⟩
theorem ExV.afterX (a : St G frs X ω s ω₁ σ₁ s₁) (b : ExV G frs X ω₁ s₁ x v s₂) : ExV G frs X ω s x v s₂ := by
  obtain ⟨i, ω', σ', h, S, V⟩ := b
  exact ⟨i, ω', σ', h, a.andX S, V.back fun b q => a.step.back q⟩
theorem ExV.widen (b : ExV G frs [] ω s x v s₂) : ExV G frs X ω s x v s₂ := by
  obtain ⟨i, ω', σ', h, S, V⟩ := b
  exact ⟨i, ω', σ', h, S.widen, V⟩
theorem EndX.after (a : St G frs X ω s ω₁ σ₁ s₁) (b : EndX G frs Γ env X ω₁ s₁ k r fl s₂) : EndX G frs Γ env X ω s k r fl s₂ := by
  cases fl with
  | next => exact OkF.after a b
  | ret v => exact OkV.afterX a b
  | _ => exact b
end
/-- a statement's code -/
noncomputable def SX (G : Gd) (n : Nat) (Γ : Ct) (c : CX) (st : Stmt) : Prop :=
  ∀ (A : Around) (frs : List Env) (env : Env) (X : List Addr) (fr : Fra) (ω : Wd) (σ : Sto) (s : Shared) (k : KF) (r : KV) (x : KX),
    Room A n → A.frames = some frs → Rep G.toGl frs ω σ s.heap → FrOK G.toGl frs Γ env X fr ω s.heap → c fr σ k r x = true →
    wpAny (model G.prog G.w) A (exec st env) (EndX G frs Γ env X ω s k r) (ExV G frs X ω s x) s
noncomputable def SXs (G : Gd) (n : Nat) (Γ : Ct) (c : CX) (st : List Stmt) : Prop :=
  ∀ (A : Around) (frs : List Env) (env : Env) (X : List Addr) (fr : Fra) (ω : Wd) (σ : Sto) (s : Shared) (k : KF) (r : KV) (x : KX),
    Room A n → A.frames = some frs → Rep G.toGl frs ω σ s.heap → FrOK G.toGl frs Γ env X fr ω s.heap → c fr σ k r x = true →
    wpAny (model G.prog G.w) A (execs st env) (EndX G frs Γ env X ω s k r) (ExV G frs X ω s x) s
section
variable {G : Gd} {n : Nat} {Γ : Ct} {a b c : CV} {t : CT} {l r e : Expr} {pos p' : Pos} {c₁ c₂ : CX} {st : Stmt} {sts sts' : List Stmt} {g : TG} {te : Expr}
theorem SXs.nil : SXs G n Γ xNil [] := fun A frs env X fr ω σ s k r x hA hF R f h => wpAny_execs_nil ⟨fr, ω, σ, h, (St.refl R).widen, f⟩
theorem SXs.cons (h₁ : SX G n Γ c₁ st) (h₂ : SXs G n Γ c₂ sts) : SXs G n Γ (xThen c₁ c₂) (st :: sts) := by
  intro A frs env X fr ω σ s k r x hA hF R f h
  refine wpAny_execs_cons (wpAny_mono (h₁ A frs env X fr ω σ s _ r x hA hF R f h) (fun fl s₁ q => ?_) fun _ _ q => q)
  cases fl with
  | next =>
    obtain ⟨fr₁, ω₁, σ₁, h₁, S, F⟩ := q
    exact wpAny_mono (h₂ A frs env X fr₁ ω₁ σ₁ s₁ k r x hA hF S.rep F h₁) (fun _ _ z => z.after S) fun _ _ z => z.afterX S
  | ret v => exact q
  | _ => exact q
theorem SX.bad : SX G n Γ xBad st := fun A frs env X fr ω σ s k r x hA hF R f h => nomatch (show false = true from h)
theorem noneK_inv {v : AV} {y : Bool} (h : @AV.rec (fun _ => Bool) (fun _ => Bool) y (fun _ => false) (fun _ => false) (fun _ => false) (fun _ => false) (fun _ _ => false) (fun _ _ => false) (fun _ => false) false false (fun _ _ _ _ => false) v = true) : v = .none ∧ y = true := by
  cases v with
  | none => exact ⟨rfl, h⟩
  | _ => exact (nomatch (show false = true from h))
theorem SX.expr (ha : SE G n Γ a e) (hs : ∀ env line, swapsWith e Option.none line env = pure false) : SX G n Γ (xExpr a) (.Expr e pos) := by
  intro A frs env X fr ω σ s k r x hA hF R f h
  refine wpAny_Expr_any (wpAny_mono (ha.then hA hF R f h (P := fun _ s₁ => EndX G frs Γ env X ω s k r .next s₁) fun v s₁ av ω₁ σ₁ S V h₁ => ?_) (fun _ _ q => q) fun _ _ q => q.widen) ?_ (hs _ _)
  · obtain ⟨rfl, h₂⟩ := noneK_inv h₁
    exact ⟨fr, ω₁, σ₁, h₂, S.widen, S.fr R f⟩
  · unfold interactive
    rw [f.e.kind]
    rfl
theorem SX.ret (ha : SE G n Γ a e) : SX G n Γ (xRet a) (.Return (some e) pos) := by
  intro A frs env X fr ω σ s k r x hA hF R f h
  exact wpAny_Return_some (wpAny_mono (ha A frs env X fr ω σ s r x hA hF R f h) (fun v s₁ q => OkV.widen q) fun _ _ q => q.widen)
theorem SX.asg (ha : SE G n Γ a e) (hg : SG G n Γ g te) (ht : ∀ env, assignEach [te] env = [(false, assign te env)]) (hw : ∀ env line, EnvOK Γ env → swapsWithSole [te] e line env = pure false) (hs : ∀ env, EnvOK Γ env → swappedStores [te] e env = pure Option.none) :
    SX G n Γ (xAsg g a) (.Assign [te] e pos) := by
  intro A frs env X fr ω σ s k r x hA hF R f h
  refine wpAny_Assign_stores (wpAny_mono (ha.then hA hF R f h (P := fun v s₁ => wpAny (model G.prog G.w) A (assignAll v (List.map (fun x => x.2) (assignEach [te] env))) (fun _ => EndX G frs Γ env X ω s k r .next) (ExV G frs X ω s x) s₁) fun v s₁ av ω₁ σ₁ S V h₁ => ?_) (fun _ _ q => q) fun _ _ q => q.widen) (hw env _ f.e) (hs env f.e)
  rw [ht]
  exact wpAny_mono (hg A frs env X fr ω₁ σ₁ s₁ k v av hA hF S.rep (S.fr R f) V h₁) (fun _ _ z => OkF.after S.widen z) fun _ _ z => z.elim
theorem SX.ite (ht : ST G n Γ t e) (h₁ : SXs G n Γ c₁ sts) (h₂ : SXs G n Γ c₂ sts') : SX G n Γ (xIf t c₁ c₂) (.If e sts sts' pos) := by
  intro A frs env X fr ω σ s k r x hA hF R f h
  refine wpAny_If (wpAny_mono (ht A frs env X fr ω σ s _ x hA hF R f h) (fun b s₁ ⟨ω₁, σ₁, q, S⟩ => ?_) fun _ _ q => q.widen)
  cases b with
  | true => exact wpAny_mono (h₁ A frs env X fr ω₁ σ₁ s₁ k r x hA hF S.rep (S.fr R f) q) (fun _ _ z => z.after S.widen) fun _ _ z => z.afterX S.widen
  | false => exact wpAny_mono (h₂ A frs env X fr ω₁ σ₁ s₁ k r x hA hF S.rep (S.fr R f) q) (fun _ _ z => z.after S.widen) fun _ _ z => z.afterX S.widen
end
end
end Mine
namespace Mine
section
open PySem PySem.W PyProof.Rows PySem.Calls PySem.Spec

theorem getL_put (name : Str) (hsh : Int) (t : Tok) (v : Value) : ∀ {es : List DictEntry}, (∀ e ∈ es, ∃ x t, e.key = .str x t) → ∀ x : Str, getL x (putL name hsh (.str name t) v es) = if x = name then some (some v) else getL x es := by
  have noref : ∀ {es : List DictEntry}, (∀ e ∈ es, ∃ x t, e.key = .str x t) → es.any (·.refKey) = false := fun {es} h => by
    induction es with
    | nil => rfl
    | cons e r ih =>
      rw [List.any_cons, ih fun e he => h e (.tail _ he), Bool.or_false]
      obtain ⟨x, t, ek⟩ := h e (.head _)
      obtain ⟨h1, k, v1⟩ := e
      simp only at ek
      subst ek
      rfl
  intro es
  induction es with
  | nil =>
    intro _ x
    by_cases hx : x = name
    · subst hx
      simp [putL, getL, Value.isStr]
    · rw [if_neg hx]
      have : (name == x) = false := beq_eq_false_iff_ne.mpr (Ne.symm hx)
      simp [putL, getL, Value.isStr, this]
      rfl
  | cons e r ih =>
    intro h x
    obtain ⟨y, u, ek⟩ := h e (.head _)
    have hr := fun e he => h e (.tail _ he)
    have ih' := ih hr x
    obtain ⟨h1, k, v1⟩ := e
    simp only at ek
    subst ek
    unfold putL
    by_cases hy : y = name
    · have : (Value.str y u).isStr name = true := by simp [Value.isStr, hy]
      simp only [this, if_true]
      by_cases hx : x = name
      · rw [if_pos hx]
        subst hx hy
        simp [getL, Value.isStr]
      · rw [if_neg hx]
        have e1 : (Value.str y u).isStr x = false := by simp [Value.isStr, hy]; exact fun q => hx q.symm
        unfold getL
        simp only [List.find?_cons, e1, List.any_cons]
        rfl
    · have : (Value.str y u).isStr name = false := by simp [Value.isStr, hy]
      simp only [this, Bool.false_eq_true, if_false]
      by_cases hxy : x = y
      · have hx : x ≠ name := fun q => hy (hxy ▸ q)
        rw [if_neg hx]
        subst hxy
        simp [getL, Value.isStr]
      · have e1 : (Value.str y u).isStr x = false := by simp [Value.isStr]; exact fun q => hxy q.symm
        have nr := noref hr
        have e0 : (DictEntry.mk h1 (.str y u) v1).refKey = false := rfl
        have step : ∀ l : List DictEntry, getL x (⟨h1, .str y u, v1⟩ :: l) = getL x l := fun l => by
          unfold getL
          simp only [List.find?_cons, e1, List.any_cons, e0, Bool.false_or]
        rw [step, step, ih']
theorem putL_len (name : Str) (hsh : Int) (key v : Value) : ∀ es : List DictEntry, (putL name hsh key v es).length ≤ es.length + 1 ∧ ((∃ w, getL name es = some (some w)) → (putL name hsh key v es).length = es.length)
  | [] => ⟨by simp [putL], fun ⟨w, h⟩ => by simp [getL] at h⟩
  | e :: r => by
    obtain ⟨a, b⟩ := putL_len name hsh key v r
    unfold putL
    cases h : e.key.isStr name with
    | true => simp
    | false =>
      simp only [Bool.false_eq_true, if_false, List.length_cons]
      refine ⟨by omega, fun ⟨w, hw⟩ => ?_⟩
      rw [b ?_]
      refine ⟨w, ?_⟩
      unfold getL at hw ⊢
      simp only [List.find?_cons, h] at hw
      split at hw
      · rename_i e' he'
        rw [he']
        exact hw
      · split at hw <;> cases hw
theorem putL_keys {P : Str → Prop} (name : Str) (hsh : Int) (t : Tok) (v : Value) : ∀ {es : List DictEntry}, (∀ e ∈ es, ∃ x t, e.key = .str x t ∧ P x) → P name → ∀ e ∈ putL name hsh (.str name t) v es, ∃ x t, e.key = .str x t ∧ P x
  | [], _, hp, e, he => by
    have := List.mem_singleton.mp he
    subst this
    exact ⟨name, t, rfl, hp⟩
  | a :: r, h, hp, e, he => by
    unfold putL at he
    split at he
    · rcases List.mem_cons.mp he with rfl | he
      · exact h a (.head _)
      · exact h e (.tail _ he)
    · rcases List.mem_cons.mp he with rfl | he
      · exact h e (.head _)
      · exact putL_keys name hsh t v (fun e he => h e (.tail _ he)) hp e he
theorem fputK_inv {a : Nat} {v : AV} : ∀ {fs : List (Nat × AV)} {k : List (Nat × AV) → Bool}, fputK a v fs k = true →
    ∃ fs', k fs' = true ∧ (∀ b, fs'.lookup b = if b = a then some v else fs.lookup b) ∧ fs'.length = fs.length + (if (fs.lookup a).isSome then 0 else 1)
  | [], k, h => ⟨[(a, v)], h, fun b => by
      by_cases e : b = a
      · subst e; simp [List.lookup]
      · have : (b == a) = false := beq_eq_false_iff_ne.mpr e
        simp [List.lookup, this, e], rfl⟩
  | (b, w) :: r, k, h => by
    have h' : ifB (Nat.beq b a) (k ((a, v) :: r)) (fputK a v r fun l' => k ((b, w) :: l')) = true := h
    rw [ifB_eq] at h'
    by_cases e : b = a
    · subst e
      rw [if_pos (Nat.beq_refl b)] at h'
      refine ⟨_, h', fun c => ?_, by simp [List.lookup]⟩
      rw [List.lookup_cons, List.lookup_cons]
      by_cases e : c = b
      · subst e; simp
      · have : (c == b) = false := beq_eq_false_iff_ne.mpr e
        rw [this, if_neg e]
    · rw [if_neg (fun q => e (Nat.eq_of_beq_eq_true q))] at h'
      obtain ⟨fs', p, q, z⟩ := fputK_inv h'
      refine ⟨_, p, fun c => ?_, ?_⟩
      · rw [List.lookup_cons, List.lookup_cons]
        by_cases ec : c = b
        · subst ec; simp [e]
        · have : (c == b) = false := beq_eq_false_iff_ne.mpr ec
          rw [this]
          exact q c
      · have e2 : List.lookup a ((b, w) :: r) = List.lookup a r := by
          rw [List.lookup_cons]
          have : (a == b) = false := beq_eq_false_iff_ne.mpr (Ne.symm e)
          rw [this]
        rw [e2, List.length_cons, List.length_cons, z]
        omega
section
variable {G : Gd} {frs : List Env} {ω : Wd} {σ : Sto} {s : Shared} {A : Around} {n : Nat} {E : Value → Shared → Prop}
theorem attr_inj {i j : Nat} {x : Str} (hi : attrs[i]? = some x) (hj : attrs[j]? = some x) : i = j := by
  have nd : attrs.Nodup := by decide +kernel
  obtain ⟨p, ep⟩ := List.getElem?_eq_some_iff.mp hi
  obtain ⟨q, eq⟩ := List.getElem?_eq_some_iff.mp hj
  exact (List.getElem_inj nd).mp (ep.trans eq.symm)
theorem osaOk {i c d a : Nat} {fs : List (Nat × AV)} {v : Value} {av : AV} {x : Str} {k : Sto → Bool} {tk : Tok} {z dx : Addr} {sl : Array (Option Value)} {es : List DictEntry} {m : Nat} {RR : Result → Shared → Prop} (R : Rep G.toGl frs ω σ s.heap) (V : VR ω s.heap v av)
    (hdx : ω.ρ[d]? = some dx) (ho : s.heap.get? z = some ⟨.ref (G.cls c), some dx, .plain, sl⟩) (hes : s.heap.get? dx = some (dictOf es m)) (hN : NsR ω s.heap es fs) (I : W.InstAt s.heap z ⟨.ref (G.cls c), some dx, .plain, sl⟩ (G.cls c) (some (dictOf es m)))
    (hx : attrs[a]? = some x) (hl : fs.length < 64) (h : fputK a av fs (fun fs => putO d (.ns fs) σ k) = true)
    (hRR : ∀ σ' h', k σ' = true → St G frs [] ω s ω σ' { s with heap := h', toks := s.toks + 1 } → RR (.ok (.ret .none)) { s with heap := h', toks := s.toks + 1 }) :
    codeAny (model G.prog G.w) A (.call (.builtin "object.__setattr__") ⟨[.ref z, .str x tk, v], []⟩) RR s := by
  have C := G.clsOK c
  obtain ⟨_, hta⟩ := C.att x (attr_mem hx)
  obtain ⟨fs', hk, hlook, hlen⟩ := fputK_inv h
  refine osa_open R.kin I C.po hta fun b => ?_
  obtain ⟨cd, hc, hd'⟩ := any_some C.hd
  refine wpAny_bind (wpAny_pure (wpAny_bind (wpAny_bind (wpAny_loadPart ho (wpAny_bind ((looks_clsIn R.kin hc).here ?_))))))
  rw [hd']
  refine wpAny_pure (a := some dx) (wpAny_bind (wpAny_pure (wpAny_bind ?_)))
  unfold nsSet
  refine wpAny_bind (wpAny_bind (wpAny_askSetting (wpAny_pure (wpAny_bind (wpAny_mkText (wpAny_bind (wpAny_loadPart hes ?_)))))))
  have cc : (!es.toArray.any (·.key.isStr x) && es.toArray.any (·.refKey)) = false := by
    rw [← Array.any_toList, ← Array.any_toList]
    show (!es.any (·.key.isStr x) && es.any (·.refKey)) = false
    have : es.any (·.refKey) = false := by
      rw [List.any_eq_false]
      intro e he
      obtain ⟨y, t, ek, _⟩ := hN.2.1 e he
      obtain ⟨q1, q2, q3⟩ := e
      simp only at ek
      subst ek
      simp [DictEntry.refKey]
    rw [this, Bool.and_false]
  have q : (dictOf es m).data = .dict es.toArray m := rfl
  rw [q]
  dsimp only
  rw [aRefKeyMayBeTheName_at, cc]
  refine wpAny_updatePart hes ?_
  have hp := putL_len x (PyData.keyHash G.w.params x) (.str x s.toks) v es
  have e' : Obj.putName x (PyData.keyHash G.w.params x) (.str x s.toks) v (dictOf es m) = dictOf (putL x (PyData.keyHash G.w.params x) (.str x s.toks) v es) (putN x es m) := putName_dict ..
  have D' : (s.heap.update dx (Obj.putName x (PyData.keyHash G.w.params x) (.str x s.toks) v)).get? dx = some (dictOf (putL x (PyData.keyHash G.w.params x) (.str x s.toks) v es) (putN x es m)) := by
    rw [← e']
    exact Heap.get?_update_self _ hes (by rw [e']; rfl)
  refine wpAny_bind (wpAny_lookBehind D' (pastItsLine_dict (by rw [List.size_toArray, sizeLine_eq]; have := hN.1; omega)) ?_)
  refine wpAny_pure ?_
  obtain ⟨σ', hk', S⟩ := St.put (s := s) R hdx (Heap.SameBut.update ..) ⟨_, D'⟩ hk (s.toks + 1) fun L => by
    refine ⟨_, _, D', ?_, putL_keys (P := fun x => x ∈ attrs) _ _ _ _ hN.2.1 (attr_mem hx), fun k' y hy av' hav => ?_⟩
    · rw [hlen]
      by_cases hs : (fs.lookup a).isSome
      · rw [if_pos hs]
        obtain ⟨w, hw⟩ := Option.isSome_iff_exists.mp hs
        obtain ⟨vv, hv, _⟩ := hN.2.2 a x hx w hw
        rw [hp.2 ⟨vv, hv⟩]
        exact hN.1
      · rw [if_neg hs]
        have := hN.1
        omega
    · rw [getL_put _ _ _ _ (fun e he => (hN.2.1 e he).imp fun x q => q.imp fun t q => q.1)]
      rw [hlook] at hav
      by_cases hka : k' = a
      · subst hka
        rw [if_pos rfl] at hav
        cases hav
        rw [hx] at hy
        cases hy
        rw [if_pos rfl]
        exact ⟨v, rfl, L.vr V⟩
      · rw [if_neg hka] at hav
        have : y ≠ x := fun e => hka (attr_inj (e ▸ hy) hx)
        rw [if_neg this]
        obtain ⟨vv, hv, VV⟩ := hN.2.2 k' y hy av' hav
        exact ⟨vv, hv, L.vr VV⟩
  exact hRR σ' _ hk' S
/-- x.attr = v -/
theorem setAttrOk {i c d a : Nat} {fs : List (Nat × AV)} {u v : Value} {av : AV} {x : Str} {k : Sto → Bool} (R : Rep G.toGl frs ω σ s.heap) (U : VR ω s.heap u (.obj i)) (V : VR ω s.heap v av) (e1 : σ.t.get i = some (.inst c d)) (e2 : σ.t.get d = some (.ns fs))
    (hx : attrs[a]? = some x) (hl : fs.length < 64) (h : fputK a av fs (fun fs => putO d (.ns fs) σ k) = true) :
    wpAny (model G.prog G.w) A (setAttr u x v) (fun _ s' => ∃ σ', k σ' = true ∧ St G frs [] ω s ω σ' s') E s := by
  obtain ⟨z, dx, sl, es, m, rfl, hz, hdx, ho, hes, hN, I⟩ := R.inst U e1 e2
  refine set_plain R.kin I (G.clsOK c).sa (osaOk (s := { s with toks := s.toks + 1 }) (i := i) R V hdx ho hes hN I hx hl h fun σ' h' hk S => ?_)
  exact ⟨σ', hk, S.step, S.rep, S.gens, S.drawn, S.os⟩
end
end
end Mine
namespace Mine
section
open PySem PySem.W PyProof.Rows PySem.Calls PySem.Spec

section
variable {G : Gd} {n : Nat} {Γ : Ct} {a b c : CV} {t : CT} {l r e o i : Expr} {pos p' : Pos} {c₁ c₂ : CX} {st : Stmt} {sts sts' : List Stmt} {g : TG} {te : Expr}
theorem assign_att (o : Expr) (x : Str) (p : Pos) (env : Env) (v : Value) : assign (.Attribute o x p) env v = (do
    let ov ← holding [v] (eval o env)
    standAt p.atName
    holding [v, ov] (setAttr ov x v)
    release [v, ov] []) := rfl
theorem swaps_att (e : Expr) (o : Expr) (x : Str) (p : Pos) (line : Nat) (env : Env) : swapsWithSole [.Attribute o x p] e line env = pure false := by
  unfold swapsWithSole swapsWith
  cases e <;> rfl
theorem swaps_sub (e : Expr) (o i : Expr) (p : Pos) (line : Nat) (env : Env) : swapsWithSole [.Subscript o i p] e line env = pure false := by
  unfold swapsWithSole swapsWith
  cases e <;> rfl
theorem SX.asgA {k : Nat} {x : Str} (ha : SE G n Γ a e) (ho : SE G n Γ b o) (hx : attrs[k]? = some x) : SX G n Γ (xAsgA b k a) (.Assign [.Attribute o x p'] e pos) := by
  intro A frs env X fr ω σ s kk rr y hA hF R f h
  refine wpAny_Assign_stores (wpAny_mono (ha.then hA hF R f h (P := fun v s₁ => wpAny (model G.prog G.w) A (assignAll v (List.map (fun x => x.2) (assignEach [.Attribute o x p'] env))) (fun _ => EndX G frs Γ env X ω s kk rr .next) (ExV G frs X ω s y) s₁) fun v s₁ av ω₁ σ₁ S V h₁ => ?_) (fun _ _ q => q) fun _ _ q => q.widen) (swaps_att ..) rfl
  show wpAny _ _ (assign (.Attribute o x p') env v) _ _ _
  rw [assign_att]
  refine wpAny_bind (wpAny_holding (wpAny_mono (ho A frs env X fr ω₁ σ₁ s₁ _ y hA hF S.rep (S.fr R f) h₁) (fun u s₂ ⟨uv, ω₂, σ₂, h₂, S₂, U⟩ => ?_) fun _ _ q => (q.after S).widen))
  obtain ⟨j, c, d, fs, rfl, e1, e2, h₃⟩ := instK_inv h₂
  rw [lenK_eq, Nat.add_zero] at h₃
  obtain ⟨hl, h₄⟩ := blt_inv h₃
  refine wpAny_bind (wpAny_standAt (wpAny_bind (wpAny_holding (wpAny_mono (setAttrOk (k := fun σ => kk fr σ) S₂.rep U ((S₂.later S.rep).vr V) e1 e2 hx hl h₄) (fun _ s₃ ⟨σ₃, h₅, S₃⟩ => ?_) fun _ _ q => q))))
  have S' := (S.then S₂).then S₃
  exact wpAny_release ⟨fr, ω₂, σ₃, h₅, S'.widen, S'.fr R f⟩
theorem SX.asgI (ha : SE G n Γ a e) (ho : SE G n Γ b o) (hi : SE G n Γ c i) : SX G n Γ (xAsgI b c a) (.Assign [.Subscript o i p'] e pos) := by
  intro A frs env X fr ω σ s kk rr y hA hF R f h
  refine wpAny_Assign_stores (wpAny_mono (ha.then hA hF R f h (P := fun v s₁ => wpAny (model G.prog G.w) A (assignAll v (List.map (fun x => x.2) (assignEach [.Subscript o i p'] env))) (fun _ => EndX G frs Γ env X ω s kk rr .next) (ExV G frs X ω s y) s₁) fun v s₁ av ω₁ σ₁ S V h₁ => ?_) (fun _ _ q => q) fun _ _ q => q.widen) (swaps_sub ..) rfl
  show wpAny _ _ (holding [v] (eval o env) >>= _) _ _ _
  refine wpAny_bind (wpAny_holding (wpAny_mono (ho A frs env X fr ω₁ σ₁ s₁ _ y hA hF S.rep (S.fr R f) h₁) (fun u s₂ ⟨uv, ω₂, σ₂, h₂, S₂, U⟩ => ?_) fun _ _ q => (q.after S).widen))
  have S' := S.then S₂
  refine wpAny_bind (wpAny_holding (wpAny_mono (hi A frs env X fr ω₂ σ₂ s₂ _ y hA hF S'.rep (S'.fr R f) h₂) (fun w s₃ ⟨wv, ω₃, σ₃, h₃, S₃, W⟩ => ?_) fun _ _ q => (q.after S').widen))
  have S'' := S'.then S₃
  obtain ⟨m, rfl, h₄⟩ := natK_inv h₃
  obtain ⟨j, its, rfl, e1, h₅⟩ := listK_inv h₄
  obtain ⟨hl, h₆⟩ := (shortK_eq _ _).mp h₅
  rw [setK_eq] at h₆
  by_cases hm : m < its.length
  · rw [if_pos hm] at h₆
    have V' := ((S₂.then S₃).later S.rep).vr V
    have U' := (S₃.later S₂.rep).vr U
    obtain ⟨t, rfl⟩ := W.int_inv
    obtain ⟨ad, rfl, had, vs, ⟨ep, hp⟩, q⟩ := S₃.rep.at U' e1
    have hlen := q.length
    refine wpAny_bind (wpAny_standAt (wpAny_bind (wpAny_holding (ki_setAt (n := ep) hp (by show (0 : Int) ≤ ((m : Nat) : Int); omega) (idx_fits (by omega)).2 (by rw [List.size_toArray]; show ((m : Nat) : Int) < _; omega) ?_))))
    have D' := Heap.get?_update_self (Obj.mapSeq fun x => x.setIfInBounds (Int.ofNat m).toNat v) hp rfl
    obtain ⟨σ₄, h₇, S₄⟩ := St.put (s := s₃) S₃.rep had (Heap.SameBut.update ..) ⟨_, D'⟩ h₆ s₃.toks fun L => by
      refine ⟨vs.set m v, ?_, L.vrs (q.set V' m)⟩
      refine ⟨ep, D'.trans ?_⟩
      show some (⟨.type "list", Option.none, .seq (vs.toArray.setIfInBounds m v) (if (vs.toArray.setIfInBounds m v).size == vs.toArray.size then ep else ep + 1), #[]⟩ : Obj) = _
      simp
    have T := S''.then S₄
    exact wpAny_release ⟨fr, ω₃, σ₄, h₇, T.widen, T.fr R f⟩
  · rw [if_neg hm] at h₆
    cases h₆
theorem swapOk {A : Around} {s : Shared} {env : Env} {x₁ x₂ : Str} {ad : Addr} {v w : Value} {E : Value → Shared → Prop} {Q : Flow → Shared → Prop} {st : List (Value → Sem Unit)} (hh : A.handled = Option.none) (p : s.heap.IsTuple ad [v, w].toArray)
    (h : ∀ h', Heap.ExtBut s.heap.objs.size s.heap h' → wpAny (model G.prog G.w) A (assignInOrder [bindName env x₂, bindName env x₁] [w, v] >>= fun _ => pure Flow.next) Q E { s with heap := h' }) :
    wpAny (model G.prog G.w) A (assignStores env (.ref ad) (some [x₁, x₂]) st) Q E s := by
  have key : wpAny (model G.prog G.w) A (unpackItems (.ref ad) ([v, w].toArray.size) Option.none) (fun items s' => wpAny (model G.prog G.w) A (assignInOrder ([x₁, x₂].reverse.map fun n => bindName env n) items.reverse >>= fun _ => pure Flow.next) Q E s') E s :=
    wpAny_unpackItems_tuple hh p fun h' hk => h h' hk
  unfold assignStores
  exact wpAny_bind (wpAny_rule (wpAny_bind key))
/-- the two names of `x, y = a, b` stored from behind -/
theorem SX.asgS {x₁ x₂ : Str} {p₁ p₂ p₃ : Pos} {i₁ i₂ kd : Nat} {g₁ g₂ : TG} (ha : SE G n Γ a e) (hg₁ : IsG i₁ g₁) (hx₁ : Γ.vars[i₁]? = some (x₁, .loc)) (hg₂ : IsG i₂ g₂) (hx₂ : Γ.vars[i₂]? = some (x₂, .loc))
    (hw : ∀ env line, EnvOK Γ env → swapsWithSole [.Tuple [.Name x₁ p₁, .Name x₂ p₂] kd p₃] e line env = pure false) (hs : ∀ env, EnvOK Γ env → swappedStores [.Tuple [.Name x₁ p₁, .Name x₂ p₂] kd p₃] e env = pure (some [x₁, x₂])) :
    SX G n Γ (xAsg (gTupR [g₂, g₁]) a) (.Assign [.Tuple [.Name x₁ p₁, .Name x₂ p₂] kd p₃] e pos) := by
  intro A frs env X fr ω σ s kk rr y hA hF R f h
  have hexec : exec (.Assign [.Tuple [.Name x₁ p₁, .Name x₂ p₂] kd p₃] e pos) env = (do
      standAt pos
      if ← swapsWithSole [.Tuple [.Name x₁ p₁, .Name x₂ p₂] kd p₃] e pos.line env then do
        evalThenUse e env fun v => assignAll v ((assignEach [.Tuple [.Name x₁ p₁, .Name x₂ p₂] kd p₃] env).map (·.2))
        pure .next
      else do
        let v ← eval e env
        assignStores env v (← swappedStores [.Tuple [.Name x₁ p₁, .Name x₂ p₂] kd p₃] e env) ((assignEach [.Tuple [.Name x₁ p₁, .Name x₂ p₂] kd p₃] env).map (·.2))) := rfl
  rw [hexec]
  refine wpAny_bind (wpAny_standAt (wpAny_bind (wpAny_of_eq (hw env _ f.e) ?_)))
  rw [if_neg Bool.false_ne_true]
  refine wpAny_bind (wpAny_mono (ha.then hA hF R f h (P := fun v s₁ => wpAny (model G.prog G.w) A (swappedStores [.Tuple [.Name x₁ p₁, .Name x₂ p₂] kd p₃] e env >>= fun sw => assignStores env v sw ((assignEach [.Tuple [.Name x₁ p₁, .Name x₂ p₂] kd p₃] env).map (·.2))) (EndX G frs Γ env X ω s kk rr) (ExV G frs X ω s y) s₁) fun v s₁ av ω₁ σ₁ S V h₁ => ?_) (fun _ _ q => q) fun _ _ q => q.widen)
  refine wpAny_bind (wpAny_of_eq (hs env f.e) ?_)
  obtain ⟨l, rfl, h₂⟩ := tupK_inv (k := fun l => sameLen (revK l [] fun l => asgs [g₂, g₁] l fr σ₁ kk) [g₂, g₁] l) h₁
  obtain ⟨hl, h₃⟩ := sameLen_inv h₂
  rw [revK_eq] at h₃
  obtain ⟨ad, vs, rfl, _, p, q⟩ := V.tup_inv
  have l2 : ∃ d₁ d₂, l = [d₁, d₂] := by
    match l, hl with
    | [d₁, d₂], _ => exact ⟨d₁, d₂, rfl⟩
  obtain ⟨d₁, d₂, rfl⟩ := l2
  · obtain ⟨v, w, rfl, Q₁, Q₂⟩ := q.two_inv
    have h₄ : g₂ d₂ fr σ₁ (fun fr σ => g₁ d₁ fr σ kk) = true := h₃
    rw [hg₂.2, hg₁.2] at h₄
    refine swapOk hA.1 p fun h' hk => ?_
    have T : St G frs [] ω₁ s₁ ω₁ σ₁ { s₁ with heap := h', toks := s₁.toks } := St.keep0 (s := s₁) S.rep (fun b o e => hk b o (live_ne ⟨o, e⟩ (push_none _)) e) s₁.toks
    have L := T.later S.rep
    have f₁ := T.fr S.rep (S.fr R f)
    refine wpAny_bind (wpAny_assignInOrder_more (wpAny_bindName (wpAny_mono (storeOk (s := { s₁ with heap := h', toks := s₁.toks }) (k := fun fr σ => kk (fr.set i₁ (.va d₁)) σ) hg₂.1 hx₂ (by intro z; cases z) T.rep f₁ (L.vr Q₂) h₄) (fun _ s₂ ⟨fr₂, ω₂, σ₂, h₅, S₂, F₂⟩ => ?_) fun _ _ z => z)))
    have L₂ := S₂.step.later T.rep fun a ha => (f₁.out a ha).2.1
    refine wpAny_assignInOrder_more (wpAny_bindName (wpAny_mono (storeOk (k := kk) hg₁.1 hx₁ (by intro z; cases z) S₂.rep F₂ (L₂.vr (L.vr Q₁)) h₅) (fun _ s₃ z => ?_) fun _ _ z => z))
    exact wpAny_assignInOrder_none (wpAny_pure (OkF.after (S.then T).widen (OkF.after S₂ z)))
end
end
end Mine
namespace Mine
section
open PySem PySem.W PyProof.Rows PySem.Calls PySem.Spec

section
variable {G : Gd} {n : Nat} {Γ : Ct} {a b c : CV} {t : CT} {l r e o i : Expr} {pos ap p' : Pos}
theorem form0 (pos : Pos) (env : Env) : ((((backTo pos (starEach ([] : List Expr) env)).all fun x => !x.1) && (backToKw pos (keywordEach [] env)).all fun x => x.1.isSome) && decide ((([] : List Expr).length + ([] : List Keyword).length + if ([] : List Keyword).isEmpty = true then 0 else 1) < 30)) = true := rfl
theorem form1 {e : Expr} (hs : ∀ env rest, starEach (e :: rest) env = (false, eval e env) :: starEach rest env) (pos : Pos) (env : Env) : ((((backTo pos (starEach [e] env)).all fun x => !x.1) && (backToKw pos (keywordEach [] env)).all fun x => x.1.isSome) && decide (([e].length + ([] : List Keyword).length + if ([] : List Keyword).isEmpty = true then 0 else 1) < 30)) = true := by
  rw [hs]; rfl
theorem plain_facts {h : Heap} {ad : Addr} {its : Array Value} (p : h.PlainList ad its) : (∃ o, h.get? ad = some o ∧ o.dict = Option.none) := by
  obtain ⟨n, p⟩ := p
  exact ⟨_, p, rfl⟩
theorem plain_upd {h : Heap} {ad : Addr} {xs : Array Value} {ep : Nat} (f : Array Value → Array Value) (p : h.get? ad = some { cls := .type "list", data := .seq xs ep }) {ys : Array Value} (e : f xs = ys) : (h.update ad (Obj.mapSeq f)).PlainList ad ys := by
  subst e
  exact ⟨(if (f xs).size == xs.size then ep else ep + 1), Heap.get?_update_self (Obj.mapSeq f) p rfl⟩
theorem find_inv {ν : List Int} {σ : Sto} {v : AV} (dv : dataK σ 8 v = true) : ∀ {l : List AV} {n : Nat} {k : Nat → Bool}, allD (dataK σ 8) l = true → findK σ v l n k = true →
    ∃ m, ∃ hm : m < l.length, PyData.eqv (dat ν σ 8 l[m]) (dat ν σ 8 v) = true ∧ (∀ j (hj : j < l.length), j < m → PyData.eqv (dat ν σ 8 l[j]) (dat ν σ 8 v) = false) ∧ k (n + m) = true
  | [], _, _, _, h => nomatch (show false = true from h)
  | y :: r, n, k, d, h => by
    obtain ⟨p, q⟩ := ifB_inv (show ifB (dataK σ 8 y) (allD (dataK σ 8) r) false = true from d)
    have z := aeq_ok ν σ 8 8 y v (k n) (fN n fun n => findK σ v r (Nat.succ n) k) (Nat.le_refl _) p dv h
    cases c : PyData.eqv (dat ν σ 8 y) (dat ν σ 8 v) with
    | true =>
      rw [c] at z
      exact ⟨0, Nat.succ_pos _, c, fun j _ hj => absurd hj (Nat.not_lt_zero _), z⟩
    | false =>
      rw [c] at z
      replace z : (fN n fun n => findK σ v r (Nat.succ n) k) = true := z
      rw [fN_eq] at z
      obtain ⟨m, hm, h1, h2, h3⟩ := find_inv dv q z
      refine ⟨m + 1, Nat.succ_lt_succ hm, h1, fun j hj hlt => ?_, by rw [show n + (m + 1) = Nat.succ n + m by omega]; exact h3⟩
      cases j with
      | zero => exact c
      | succ j => exact h2 j (Nat.lt_of_succ_lt_succ hj) (by omega)
/-- a method of a list, one argument -/
theorem lmeth1 {nm : Str} {id : String} {A : Around} {frs : List Env} {env : Env} {X : List Addr} {fr : Fra} {ω : Wd} {σ : Sto} {s : Shared} {x : KX} {Q : Value → Shared → Prop} {k : AV → AV → Sto → Bool}
    (hsl : Slot "list" nm id) (hty : typeOf (.builtin id) = pure (.type "method_descriptor")) (hb : ∀ env, attributeBase o nm env (eval o env) = eval o env) (hp : (ap.endLine == pos.line) = true) (ho : SE G n Γ b o) (ha : SE G n Γ a e) (hs : ∀ env rest, starEach (e :: rest) env = (false, eval e env) :: starEach rest env)
    (hA : Room A n) (hF : A.frames = some frs) (R : Rep G.toGl frs ω σ s.heap) (F : FrOK G.toGl frs Γ env X fr ω s.heap) (h : b fr σ (fun u σ => lstK u σ fun _ => a fr σ (fun v σ => k u v σ) x) x = true)
    (hQ : ∀ u v s₁ ua va ω₁ σ₁, St G frs [] ω s ω₁ σ₁ s₁ → VR ω₁ s₁.heap u ua → VR ω₁ s₁.heap v va → k ua va σ₁ = true → wpAny (model G.prog G.w) A (call (.builtin id) [u, v]) Q (fun _ _ => False) s₁) :
    wpAny (model G.prog G.w) A (eval (.Call (.Attribute o nm ap) [e] [] pos) env) Q (ExV G frs [] ω s x) s := by
  refine wpAny_Call_method (hb env) (form1 hs pos env) hp PySem.F.plainAttrs_list hsl hty (ho.then hA hF R F h fun u s₁ ua ω₁ σ₁ S U h₁ => ?_)
  obtain ⟨its, el, h₂⟩ := lstK_inv h₁
  obtain ⟨ad, vs, rfl, p, q⟩ := S.rep.lst U el
  refine ⟨p.isList.typeIs, fun a e => by cases e; exact plain_facts p, ?_⟩
  refine wpAny_mono (callW (first := [.ref ad]) (k := K1 fun v σ => k ua v σ) (KeepF.builtin id) (.cons ha hs .nil) hA hF S.rep (S.fr R F) h₂ fun vs s₂ l ω₂ σ₂ hl S₂ V q => ?_) (fun _ _ z => z) fun _ _ z => z.after S
  obtain ⟨va, rfl, q'⟩ := K1_inv q
  obtain ⟨v, rfl, V'⟩ := V.one_inv
  exact wpAny_mono (hQ _ _ s₂ ua va ω₂ σ₂ (S.then S₂) ((S₂.later S.rep).vr U) V' q') (fun _ _ z => z) fun _ _ z => z.elim
theorem push_toArray (vs : List Value) (v : Value) : vs.toArray.push v = (vs ++ [v]).toArray := by simp
theorem SE.append (hb : ∀ env, attributeBase o "append" env (eval o env) = eval o env) (hp : (ap.endLine == pos.line) = true) (ho : SE G n Γ b o) (ha : SE G n Γ a e) (hs : ∀ env rest, starEach (e :: rest) env = (false, eval e env) :: starEach rest env) :
    SE G n Γ (vAppend b a) (.Call (.Attribute o "append" ap) [e] [] pos) := by
  intro A frs env X fr ω σ s k x hA hF R F h
  refine lmeth1 (k := fun u v σ => listK u σ fun i l => shortK l (appK [v] l fun r => putO i (.list r) σ fun σ => k .none σ)) PySem.F.slot_list_append PySem.F.type_list_append hb hp ho ha hs hA hF R F h fun u v s₁ ua va ω₁ σ₁ S U V h₁ => ?_
  obtain ⟨i, l, rfl, e1, h₂⟩ := listK_inv h₁
  obtain ⟨hl, h₃⟩ := (shortK_eq _ _).mp h₂
  rw [appK_eq] at h₃
  obtain ⟨ad, rfl, had, vs, p, q⟩ := S.rep.at U e1
  have hlen := q.length
  refine wpAny_list_append_plain p (fun h' p' hs' => ?_) (by rw [List.size_toArray]; exact sizeLine_ge (by omega))
  obtain ⟨σ₂, h₄, S₂⟩ := St.put (s := s₁) S.rep had hs' (by obtain ⟨ep, z⟩ := p'; exact ⟨_, z⟩) h₃ s₁.toks fun L => ⟨vs ++ [v], by rw [← push_toArray]; exact p', L.vrs (q.append (VRs.one V))⟩
  exact ⟨.none, ω₁, σ₂, h₄, S.then S₂, .none⟩
theorem SE.extend (hb : ∀ env, attributeBase o "extend" env (eval o env) = eval o env) (hp : (ap.endLine == pos.line) = true) (ho : SE G n Γ b o) (ha : SE G n Γ a e) (hs : ∀ env rest, starEach (e :: rest) env = (false, eval e env) :: starEach rest env) :
    SE G n Γ (vExtend b a) (.Call (.Attribute o "extend" ap) [e] [] pos) := by
  intro A frs env X fr ω σ s k x hA hF R F h
  refine lmeth1 (k := fun u v σ => @AV.rec (fun _ => Bool) (fun _ => Bool) false (fun _ => false) (fun _ => false) (fun _ => false) (fun _ => false) (fun _ _ => false) (fun l _ => listK u σ fun i l0 => shortK l0 (shortK l (appK l l0 fun z => putO i (.list z) σ fun σ => k .none σ))) (fun _ => false) false false (fun _ _ _ _ => false) v) PySem.F.slot_list_extend PySem.F.type_list_extend hb hp ho ha hs hA hF R F h fun u v s₁ ua va ω₁ σ₁ S U V h₁ => ?_
  cases va with
  | lst l =>
    obtain ⟨i, l0, rfl, e1, h₂⟩ := listK_inv (k := fun i l0 => shortK l0 (shortK l (appK l l0 fun z => putO i (.list z) σ₁ fun σ => k .none σ))) h₁
    obtain ⟨hl0, h₃⟩ := (shortK_eq _ _).mp h₂
    obtain ⟨hl, h₄⟩ := (shortK_eq _ _).mp h₃
    rw [appK_eq] at h₄
    obtain ⟨ad, rfl, had, vs, ⟨ep, p⟩, q⟩ := S.rep.at U e1
    obtain ⟨bd, ws, rfl, hbf, ⟨ep', p'⟩, q'⟩ := V.lst_inv
    have hlen := q.length
    have hlen' := q'.length
    have hz : vs.toArray.size + ws.toArray.size ≤ 100000 := by rw [List.size_toArray, List.size_toArray]; omega
    refine call_meets PySem.F.slot_list_extend ⟨_, p, rfl⟩ PySem.F.entry_list_extend (PySem.F.args_list_extend_2 _ _) (AutoSeq1.list_extend_list_list_0 ad vs.toArray ep bd ws.toArray ep' ?_ (sizeLine_ge (by omega)) (Nat.le_succ_of_le (sizeLine_ge hz))) ⟨p, p', ?_⟩
    · have : Builtin.List.listTooLong (vs.toArray.size + ws.toArray.size) = false := by
        have := sizeLine_ge hz
        unfold Builtin.List.listTooLong
        exact decide_eq_false (by omega)
      rw [this, Bool.and_false]
      exact Bool.false_ne_true
    · have D' : (s₁.heap.update ad (Obj.mapSeq fun x => x ++ ws.toArray)).PlainList ad (vs ++ ws).toArray := plain_upd (fun x => x ++ ws.toArray) p (by simp)
      obtain ⟨σ₂, h₅, S₂⟩ := St.put (s := s₁) S.rep had (Heap.SameBut.update ..) (by obtain ⟨_, z⟩ := D'; exact ⟨_, z⟩) h₄ s₁.toks fun L => ⟨vs ++ ws, D', L.vrs (q.append q')⟩
      exact ⟨.none, ω₁, σ₂, h₅, S.then S₂, .none⟩
  | _ => exact (nomatch (show false = true from h₁))
theorem SE.index (hb : ∀ env, attributeBase o "index" env (eval o env) = eval o env) (hp : (ap.endLine == pos.line) = true) (ho : SE G n Γ b o) (ha : SE G n Γ a e) (hs : ∀ env rest, starEach (e :: rest) env = (false, eval e env) :: starEach rest env) :
    SE G n Γ (vIndex b a) (.Call (.Attribute o "index" ap) [e] [] pos) := by
  intro A frs env X fr ω σ s k x hA hF R F h
  refine lmeth1 (k := fun u v σ => lstK u σ fun l => shortK l (ifB (dataK σ 8 v) (ifB (allD (dataK σ 8) l) (findK σ v l 0 fun n => k (.int (.ofNat n)) σ) false) false)) PySem.F.slot_list_index PySem.F.type_list_index hb hp ho ha hs hA hF R F h fun u v s₁ ua va ω₁ σ₁ S U V h₁ => ?_
  obtain ⟨l, el, h₂⟩ := lstK_inv h₁
  obtain ⟨hl, h₃⟩ := (shortK_eq _ _).mp h₂
  obtain ⟨dv, h₄⟩ := ifB_inv h₃
  obtain ⟨dl, h₅⟩ := ifB_inv h₄
  obtain ⟨m, hm, hit, hno, h₆⟩ := find_inv (ν := ω₁.ν) dv dl h₅
  rw [Nat.zero_add] at h₆
  obtain ⟨ad, vs, rfl, ⟨ep, p⟩, q⟩ := S.rep.lst U el
  have hlen := q.length
  obtain ⟨as, r1⟩ := reads_of S.rep 8 V dv
  obtain ⟨bs, r2⟩ := readsAll_of q (f := dat ω₁.ν σ₁ 8) fun v a x m => reads_of S.rep 8 x (allD_inv dl a m)
  have hlay : PyData.canLayAll0 (l.map (dat ω₁.ν σ₁ 8)) = true := canLayAll0_of fun d hd => by obtain ⟨a, _, rfl⟩ := List.mem_map.mp hd; exact (dat_lay _ _ 8 a).1
  have hu : A.units + 1 + min (PyData.depthAll (l.map (dat ω₁.ν σ₁ 8))) (dat ω₁.ν σ₁ 8 va).depth < cLine := by
    have h1 := hA.u64
    have h2 := (dat_lay ω₁.ν σ₁ 8 va).2
    omega
  have rd : ∀ (j : Nat) (hj : j < vs.toArray.size) d, l[j]? = some d → SeqAt.readOf s₁.heap vs.toArray[j] = dat ω₁.ν σ₁ 8 d := fun j hj d hd => by
    obtain ⟨z, hz, Z⟩ := q.get hd
    obtain ⟨cs, rz⟩ := reads_of S.rep 8 Z (allD_inv dl d (List.mem_of_getElem? hd))
    have : vs.toArray[j] = z := by
      have := List.getElem?_eq_some_iff.mp hz
      simpa using this.2
    rw [this]
    exact SeqAt.readOf_eq (dat_lay _ _ 8 d).1 rz
  have hmv : m < vs.toArray.size := by rw [List.size_toArray]; omega
  refine call_meets PySem.F.slot_list_index ⟨_, p, rfl⟩ PySem.F.entry_list_index (PySem.F.args_list_index_2 _ _)
    (SeqAt.list_indexAt ad vs.toArray ep Option.none #[] v (fun y => PyData.eqv (SeqAt.readOf s₁.heap y) (dat ω₁.ν σ₁ 8 va)) m hmv (by omega) ?_ ?_) ⟨p, ?_, ?_⟩
  · rw [rd m hmv (l[m]'hm) (List.getElem?_eq_getElem hm)]
    exact hit
  · intro j hj hlt
    have hj' : j < l.length := by rw [List.size_toArray] at hj; omega
    rw [rd j hj (l[j]'hj') (List.getElem?_eq_getElem hj')]
    exact hno j hj' hlt
  · exact SeqAt.items_eqAt (as := bs) (by simpa using r2) r1 hlay (dat_lay _ _ 8 va).1 hu
  · exact (show OkV G frs [] ω₁ s₁ k (.int m s₁.toks) { s₁ with toks := s₁.toks + 1 } from okInt S.rep _ h₆ _).after S
theorem SE.pop (hb : ∀ env, attributeBase o "pop" env (eval o env) = eval o env) (hp : (ap.endLine == pos.line) = true) (ho : SE G n Γ b o) : SE G n Γ (vPop b) (.Call (.Attribute o "pop" ap) [] [] pos) := by
  intro A frs env X fr ω σ s k x hA hF R F h
  refine wpAny_Call_method (hb env) (form0 pos env) hp PySem.F.plainAttrs_list PySem.F.slot_list_pop PySem.F.type_list_pop (ho.then hA hF R F h fun u s₁ ua ω₁ σ₁ S U h₁ => ?_)
  obtain ⟨i, l, rfl, e1, h₂⟩ := listK_inv h₁
  obtain ⟨hl, h₃⟩ := (shortK_eq _ _).mp h₂
  obtain ⟨l', d, rfl, h₄⟩ := popK_eq _ _ h₃
  obtain ⟨ad, rfl, had, vs, ⟨ep, p⟩, q⟩ := S.rep.at U e1
  obtain ⟨ws, w, rfl, q', W⟩ := q.snoc_inv
  have hlen := q'.length
  refine ⟨⟨_, p, rfl⟩, fun a e => by cases e; exact ⟨_, p, rfl⟩, ?_⟩
  refine callWith_of (P := fun h => h = s₁.heap) rfl (fun h _ => ⟨.machine, .inr (.inl rfl), .now⟩) (evalArgs_nil3 ⟨rfl, ?_⟩)
  have hy : (ws ++ [w]).toArray[(ws ++ [w]).toArray.size - 1]? = some w := by simp
  refine call_meets PySem.F.slot_list_pop ⟨_, p, rfl⟩ PySem.F.entry_list_pop (PySem.F.args_list_pop_1 _) (MeetsSeq.list_pop_last ad (ws ++ [w]).toArray ep w hy (by rw [List.size_toArray]; exact sizeLine_ge (by simp; simp at hl; omega))) ⟨p, ?_⟩
  have er : (ws ++ [w]).toArray.eraseIdxIfInBounds ((ws ++ [w]).toArray.size - 1) = ws.toArray := by
    apply Array.toList_inj.mp
    simp [Array.toList_eraseIdxIfInBounds, List.eraseIdx_append_of_length_le]
  have D' : (s₁.heap.update ad (Obj.mapSeq fun xs => xs.eraseIdxIfInBounds ((ws ++ [w]).toArray.size - 1))).PlainList ad ws.toArray := plain_upd (fun xs => xs.eraseIdxIfInBounds ((ws ++ [w]).toArray.size - 1)) p er
  obtain ⟨σ₂, h₅, S₂⟩ := St.put (s := s₁) S.rep had (Heap.SameBut.update ..) (by obtain ⟨_, z⟩ := D'; exact ⟨_, z⟩) h₄ s₁.toks fun L => ⟨ws, D', L.vrs q'⟩
  exact ⟨d, ω₁, σ₂, h₅, S.then S₂, (S₂.later S.rep).vr W⟩
end
end
end Mine
namespace Mine
section
open PySem PySem.W PyProof.Rows PySem.Calls PySem.Spec

theorem encode_arg (x : Str) (t u : Tok) : Builtin.«str.encode» ⟨[.str x t, .str (Str.ofString "utf-8") u], []⟩ = (do ret (← Builtin._codecs.encodeRoad "str.encode" (.str x t) x (Str.ofString "utf-8") none)) := by kernel_rfl
theorem encode_txts : ∀ x ∈ txts, ∀ self, Builtin._codecs.encodeNarrow "str.encode" Builtin._codecs.utf8Codec none self x = pure (x.cps.map fun c => c.toUInt8) := by
  intro x hx self
  simp only [txts, List.mem_cons, List.not_mem_nil, or_false] at hx
  rcases hx with rfl | rfl | rfl | rfl | rfl | rfl | rfl | rfl | rfl | rfl | rfl | rfl | rfl | rfl | rfl | rfl | rfl | rfl | rfl | rfl | rfl | rfl | rfl <;> kernel_rfl
theorem encode_size : ∀ x ∈ txts, (x.cps.map fun c => c.toUInt8).size ≤ sizeLine := fun x hx => by
  rw [Array.size_map]
  have : ∀ x ∈ txts, x.cps.size ≤ 100 := by decide +kernel
  exact sizeLine_ge (Nat.le_trans (this x hx) (by decide))
section
variable {G : Gd} {n : Nat} {Γ : Ct} {a b c : CV} {t : CT} {l r e o i : Expr} {pos ap p' : Pos}
theorem SE.encode {kd : Nat} {cp : Pos} (hb : ∀ env, attributeBase o "encode" env (eval o env) = eval o env) (hp : (ap.endLine == pos.line) = true) (ho : SE G n Γ b o) :
    SE G n Γ (vEncode b) (.Call (.Attribute o "encode" ap) [.Constant (.str "utf-8") kd cp] [] pos) := by
  intro A frs env X fr ω σ s k' x hA hF R F h
  refine wpAny_Call_method (hb env) (form1 (fun _ _ => rfl) pos env) hp PySem.F.plainAttrs_str PySem.F.slot_str_encode PySem.F.type_str_encode (ho.then hA hF R F h fun u s₁ ua ω₁ σ₁ S U h₁ => ?_)
  cases ua with
  | str k =>
    obtain ⟨y, t, rfl, hy⟩ := U.str_inv
    refine ⟨typeIs_str s₁ y t, (fun a e => by cases e), ?_⟩
    refine callWith_of (P := fun h => True) rfl (fun h _ => ⟨.machine, .inr (.inl rfl), .now⟩) (evalArgs_plain (Calls.spliced_cons (wpAny_Constant_str (k := kd) (pos := cp) (Calls.spliced_nil ⟨trivial, ?_⟩))))
    refine wpAny_call_entry PySem.F.slot_str_encode (typeIs_str _ y t) PySem.F.entry_str_encode ?_ (PySem.F.args_str_encode_2 _ _)
    show wpAny _ _ (Builtin.«str.encode» ⟨[.str y t, .str (Str.ofString "utf-8") s₁.toks], []⟩) _ _ _
    rw [encode_arg, PySem.encodeRoad_utf8, encode_txts y (List.mem_of_getElem? hy)]
    refine wpAny_bind (wpAny_bind (wpAny_pure (wpAny_mkBytes ?_ ?_)))
    · exact wpAny_pure ⟨_, rfl, (show OkV G frs [] ω₁ s₁ k' (.bytes (y.cps.map fun c => c.toUInt8) (s₁.toks + 1)) { s₁ with toks := s₁.toks + 1 + 1 } from ⟨.any, ω₁, σ₁, h₁, St.toks S.rep _, .any _⟩).after S⟩
    · exact encode_size y (List.mem_of_getElem? hy)
  | _ => exact (nomatch (show false = true from h₁))
end
end
end Mine
namespace Mine
section
open PySem PySem.W PyProof.Rows PySem.Calls PySem.Spec

/-- an iterator over a tuple (true) or a list -/
structure It1 where
  kd : Bool
  it : Addr
  src : Addr
  pos : Nat
  vs : List Value
noncomputable def It1.Iter (x : It1) (h : Heap) : Prop := if x.kd then h.IsTupleIter x.it x.src x.pos else h.IsListIter x.it x.src x.pos
noncomputable def It1.Src (x : It1) (h : Heap) : Prop := if x.kd then h.IsTuple x.src x.vs.toArray else h.IsList x.src x.vs.toArray
noncomputable def It1.next (x : It1) : It1 := { x with pos := x.pos + 1 }
section
variable {prog : Program} {w : World} {A : Around} {E : Value → Shared → Prop} {s : Shared}
/-- one step of a tuple's iterator: an item, or its end -/
theorem nextOf_tup {it t : Addr} {i : Nat} {items : Array Value} {Q : Value → Shared → Prop} (I : s.heap.IsTupleIter it t i) (T : s.heap.IsTuple t items)
    (yes : ∀ x h', items[i]? = some x → h'.IsTupleIter it t (i + 1) → Heap.SameBut it s.heap h' → Q x { s with heap := h' })
    (no : items[i]? = none → A.handled = none ∧ ∀ h' e, Heap.ExtBut it s.heap h' → (∃ o, h'.get? e = some o ∧ o.cls = .type "StopIteration") → E (.ref e) { s with heap := h' }) :
    wpAny (model prog w) A (Builtin.SmallTypes.nextOf (.ref it)) Q E s := by
  have ty := I.typeIs
  have slot := PySem.F.slot_tuple_iterator_next
  obtain ⟨rec_, at_, cls_, flds⟩ := I
  obtain ⟨_, tupAt, _, _, tupIs⟩ := T
  have live : (Value.ref t == Value.none) = false := rfl
  unfold Builtin.SmallTypes.nextOf
  refine wpAny_bind (wpAny_callSpecial?_slot (name := Str.ofString "__next__") ty slot (wpAny_call_entry slot ty PySem.F.entry_tuple_iterator_next (show wpAny _ _ (field (.ref it) 0 >>= _) _ _ s from wpAny_bind (wpAny_field at_ flds (x := .ref t) rfl ?_)) (PySem.F.args_tuple_iterator_next_1 _)))
  simp only [live, Bool.false_eq_true, if_false]
  refine wpAny_bind (wpAny_field at_ flds (x := .int i 0) rfl (wpAny_bind (wpAny_seqItems tupAt tupIs ?_)))
  cases e : items[i]? with
  | some x =>
    simp only [Int.toNat_natCast, e]
    refine wpAny_bind (wpAny_setField at_ flds (by simp) (wpAny_pure ⟨x, rfl, wpAny_pure (yes x _ e ⟨_, Heap.get?_update_self _ at_ (Obj.isFreed_of_fields (Obj.data_mapFields flds _)), (Obj.cls_mapFields ..).trans cls_, ?_⟩ (Heap.SameBut.update ..))⟩))
    exact (Obj.data_mapFields flds _).trans (by simp [rawInt])
  | none =>
    obtain ⟨hh, no⟩ := no e
    simp only [Int.toNat_natCast, e]
    have noMember : ∀ {Q' E' s'}, Q' Value.none s' → wpAny (model prog w) A.in1 (firstArgMember (.type "StopIteration") []) Q' E' s' := fun q => wpAny_of_eq (by first | rfl | (simp only [firstArgMember]; rfl)) q
    refine wpAny_bind (wpAny_rule (wpAny_bind (wpAny_setField at_ flds (by simp) (wpAny_bind (wpAny_bind (wpAny_newObj_type (wpAny_bind (noMember (wpAny_newObj_type (wpAny_bind (wpAny_handled ?_)) (by size_fits)))) (by size_fits)))))))
    rw [show A.in1.handled = none from hh]
    exact wpAny_bind (wpAny_pure (wpAny_throw (no _ _ (((Heap.SameBut.update ..).extBut.push _).push _) ⟨_, Heap.get?_push_size _ rfl, rfl⟩)))
theorem It1.item {x : It1} {v : Value} {Q : Value → Shared → Prop} (hi : x.Iter s.heap) (hs : x.Src s.heap) (hv : x.vs[x.pos]? = some v)
    (hQ : ∀ h', x.next.Iter h' → Heap.SameBut x.it s.heap h' → Q v { s with heap := h' }) : wpAny (model prog w) A (Builtin.SmallTypes.nextOf (.ref x.it)) Q E s := by
  obtain ⟨kd, it, src, pos, vs⟩ := x
  cases kd with
  | true =>
    have hv' : vs.toArray[pos]? = some v := by simpa using hv
    exact nextOf_tup hi hs (fun x h' e a b => by rw [hv'] at e; cases e; exact hQ h' a b) fun e => by rw [hv'] at e; cases e
  | false => exact wpAny_nextOf_list_item hi hs (by simpa using hv) hQ
theorem It1.stop {x : It1} {Q : Value → Shared → Prop} (hh : A.handled = none) (hi : x.Iter s.heap) (hs : x.Src s.heap) (hv : x.vs[x.pos]? = none)
    (hE : ∀ h' e, Heap.ExtBut x.it s.heap h' → (∃ o, h'.get? e = some o ∧ o.cls = .type "StopIteration") → E (.ref e) { s with heap := h' }) : wpAny (model prog w) A (Builtin.SmallTypes.nextOf (.ref x.it)) Q E s := by
  obtain ⟨kd, it, src, pos, vs⟩ := x
  cases kd with
  | true =>
    have hv' : vs.toArray[pos]? = none := by simpa using hv
    exact nextOf_tup hi hs (fun x h' e => by rw [hv'] at e; cases e) fun _ => ⟨hh, hE⟩
  | false => exact wpAny_nextOf_list_end hh hi hs (by simpa using hv) hE
theorem It1.pyItem {x : It1} {v : Value} {Q : Option Value → Shared → Prop} (hi : x.Iter s.heap) (hs : x.Src s.heap) (hv : x.vs[x.pos]? = some v)
    (hQ : ∀ h', x.next.Iter h' → Heap.SameBut x.it s.heap h' → Q (some v) { s with heap := h' }) : wpAny (model prog w) A (pyNext (.ref x.it)) Q E s := by
  obtain ⟨kd, it, src, pos, vs⟩ := x
  cases kd with
  | true => exact wpAny_pyNext_tuple_item hi hs (by simpa using hv) hQ
  | false => exact wpAny_pyNext_list_item hi hs (by simpa using hv) hQ
theorem It1.pyStop {x : It1} {Q : Option Value → Shared → Prop} (hh : A.handled = none) (hi : x.Iter s.heap) (hs : x.Src s.heap) (hv : x.vs[x.pos]? = none)
    (hQ : ∀ h', Heap.ExtBut x.it s.heap h' → Q none { s with heap := h' }) : wpAny (model prog w) A (pyNext (.ref x.it)) Q E s := by
  obtain ⟨kd, it, src, pos, vs⟩ := x
  cases kd with
  | true => exact wpAny_pyNext_tuple_end hh hi hs (by simpa using hv) hQ
  | false => exact wpAny_pyNext_list_end hh hi hs (by simpa using hv) hQ
theorem It1.up {x : It1} {h h' : Heap} (i : x.Iter h) (k : ∀ o, h.get? x.it = some o → h'.get? x.it = some o) : x.Iter h' := by
  obtain ⟨kd, it, src, pos, vs⟩ := x
  cases kd <;> (obtain ⟨o, ho, r⟩ := i; exact ⟨o, k o ho, r⟩)
theorem It1.srcUp {x : It1} {h h' : Heap} (i : x.Src h) (k : ∀ o, h.get? x.src = some o → h'.get? x.src = some o) : x.Src h' := by
  obtain ⟨kd, it, src, pos, vs⟩ := x
  cases kd <;> (obtain ⟨o, ho, r⟩ := i; exact ⟨o, k o ho, r⟩)
theorem It1.live {x : It1} {h : Heap} (i : x.Iter h) : ∃ o, h.get? x.it = some o := by
  obtain ⟨kd, it, src, pos, vs⟩ := x
  cases kd <;> (obtain ⟨o, ho, r⟩ := i; exact ⟨o, ho⟩)
theorem It1.srcLive {x : It1} {h : Heap} (i : x.Src h) : ∃ o, h.get? x.src = some o := by
  obtain ⟨kd, it, src, pos, vs⟩ := x
  cases kd <;> (obtain ⟨o, ho, r⟩ := i; exact ⟨o, ho⟩)
theorem It1.nextLive {x : It1} {h : Heap} (i : x.next.Iter h) : ∃ o, h.get? x.it = some o := It1.live (x := x.next) i
end
end
end Mine
namespace Mine
section
open PySem PySem.W PyProof.Rows PySem.Calls PySem.Spec

/-- a place that neither the store nor the frame knows -/
structure Loose (G : Gl) (frs : List Env) (X : List Addr) (ω : Wd) (h : Heap) (y : Addr) : Prop where
  rho : y ∉ ω.ρ
  fz : y ∉ ω.fz
  base : G.base.get? y = none
  frame : y ∉ fr_ frs
  own : y ∉ X
  live : ∃ o, h.get? y = some o
section
variable {G : Gd} {frs : List Env} {X : List Addr} {ω ω' : Wd} {σ σ' : Sto} {s s' : Shared}
theorem Loose.new (R : Rep G.toGl frs ω σ s.heap) (hX : ∀ a ∈ X, ∃ o, s.heap.get? a = some o) {h' : Heap} {y : Addr} (hy : s.heap.get? y = none) (hl : ∃ o, h'.get? y = some o) : Loose G.toGl frs X ω h' y :=
  ⟨fun q => live_ne (R.low y q) hy rfl, fun q => live_ne (R.lowz y q) hy rfl, (by
    cases e : G.base.get? y with
    | none => rfl
    | some o => have := R.base y o e; rw [hy] at this; cases this), fun q => live_ne (R.frLow y q) hy rfl, fun q => live_ne (hX y q) hy rfl, hl⟩
/-- a step keeps such a place as it is -/
theorem Loose.kept {Z : List Addr} (S : St G frs Z ω s ω' σ' s') {y : Addr} (l : Loose G.toGl frs X ω s.heap y) (hy : y ∉ Z) {o : Obj} (ho : s.heap.get? y = some o) : s'.heap.get? y = some o :=
  (S.step.keep y o ho l.rho hy).elim id fun q => absurd q.1 l.frame
theorem Loose.step {Z : List Addr} (S : St G frs Z ω s ω' σ' s') {y : Addr} (l : Loose G.toGl frs X ω s.heap y) : Loose G.toGl frs X ω' s'.heap y := by
  obtain ⟨o, ho⟩ := l.live
  obtain ⟨r, er, hr⟩ := S.step.rho
  refine ⟨fun q => ?_, fun q => ?_, l.base, l.frame, l.own, S.step.alive y o ho⟩
  · rw [er] at q
    rcases List.mem_append.mp q with q | q
    · exact l.rho q
    · have := hr y q; rw [ho] at this; cases this
  · rcases S.step.fz' y q with q | q
    · exact l.fz q
    · rw [ho] at q; cases q
/-- such places are written -/
theorem St.looseAll (R : Rep G.toGl frs ω σ s.heap) {Y : List Addr} (hY : ∀ y ∈ Y, Loose G.toGl frs X ω s.heap y) {h' : Heap} (hk : ∀ b o, b ∉ Y → s.heap.get? b = some o → h'.get? b = some o) (hl : ∀ y ∈ Y, ∃ o, h'.get? y = some o) (t : Nat) :
    St G frs Y ω s ω σ { s with heap := h', toks := t } := by
  have al : ∀ b o, s.heap.get? b = some o → ∃ o', h'.get? b = some o' := fun b o e => by
    by_cases hb : b ∈ Y
    · exact hl b hb
    · exact ⟨o, hk b o hb e⟩
  have L : Later ω s.heap ω h' := ⟨fun a q => q, fun _ _ q => q, fun _ _ q => q, fun b hb o e => hk b o (fun q => (hY b q).fz hb) e⟩
  refine ⟨⟨al, ⟨[], by simp, fun _ q => nomatch q⟩, fun a q => q, fun a q => .inl q, ⟨[], by simp⟩, fun b o e hb hX => .inl (hk b o hX e)⟩,
    ⟨fun j o e => ?_, R.len, R.nu, R.nodup, fun b q => by obtain ⟨o, ho⟩ := R.low b q; exact al b o ho, fun b q => by obtain ⟨o, ho⟩ := R.lowz b q; exact al b o ho, R.sep, R.fzF, fun b o e => hk b o (fun q => ?_) (R.base b o e), ?_, R.glob⟩, rfl, rfl, rfl⟩
  · obtain ⟨b, eb, ob⟩ := R.objs j o e
    exact ⟨b, eb, ob.later L fun o e => hk _ _ (fun q => (hY b q).rho (List.mem_of_getElem? eb)) e⟩
  · have := (hY b q).base; rw [e] at this; cases this
  · exact funFrames_on R.frames fun b hb o e hd => ⟨o, hk b o (fun q => (hY b q).frame hb) e, hd⟩
theorem St.laterY {Y : List Addr} (R : Rep G.toGl frs ω σ s.heap) (hY : ∀ y ∈ Y, Loose G.toGl frs X ω s.heap y) (S : St G frs Y ω s ω' σ' s') : Later ω s.heap ω' s'.heap := S.step.later R fun a q => (hY a q).fz
/-- the frame is not touched -/
theorem FrOK.loose {Γ : Ct} {env : Env} {fr : Fra} {Y : List Addr} (R : Rep G.toGl frs ω σ s.heap) (f : FrOK G.toGl frs Γ env X fr ω s.heap) (hY : ∀ y ∈ Y, Loose G.toGl frs X ω s.heap y) (hc : ∀ (i : Nat) x k, Γ.vars[i]? = some (x, k) → k ≠ .loc → ∀ c, env.cells.lookup x = some c → c ∉ Y) (S : St G frs Y ω s ω' σ' s') : FrOK G.toGl frs Γ env X fr ω' s'.heap := by
  have L := St.laterY R hY S
  obtain ⟨l, e, hl⟩ := S.step.rho
  have nr : ∀ a, (∃ o, s.heap.get? a = some o) → a ∉ ω.ρ → a ∉ ω'.ρ := fun a lt hn q => by
    rw [e] at q
    rcases List.mem_append.mp q with q | q
    · exact hn q
    · exact live_ne lt (hl a q) rfl
  have kp : ∀ a, a ∉ ω.ρ → a ∉ Y → ∀ o, s.heap.get? a = some o → ∃ sl, s'.heap.get? a = some { o with slots := sl } := fun a ha hy o ho => S.step.upto ho ha hy
  have own : ∀ a ∈ X, a ∉ Y := fun a ha hy => (hY a hy).own ha
  obtain ⟨m, hns, hloc⟩ := f.loc
  refine ⟨f.e, ⟨m, ns_up hns fun o ho => kp _ (f.out _ f.here).1 (own _ f.here) o ho, fun i x hx => (hloc i x hx).later L⟩, fun i x k hx hk => ?_, f.apart, f.here, fun a ha => by obtain ⟨o, ho⟩ := f.low a ha; exact S.step.alive a o ho, fun a ha => ?_, f.frame⟩
  · obtain ⟨c, v, h1, h2, h3, h4, h5, h6⟩ := f.cel i x k hx hk
    exact ⟨c, v, h1, cell_up h2 fun o ho => kp c h3 (hc i x k hx hk c h1) o ho, nr c (by obtain ⟨o, ho, _⟩ := h2; exact ⟨o, ho⟩) h3, h4, h5, h6.later L⟩
  · obtain ⟨h1, h2, h3⟩ := f.out a ha
    exact ⟨nr a (f.low a ha) h1, fun q => (S.step.fz' a q).elim h2 fun q => live_ne (f.low a ha) q rfl, h3⟩
end

/-- an iterator over one sequence -/
inductive BsR (ω : Wd) (h : Heap) (it : Addr) : Bs → Prop
  | seq {x : It1} {all : List AV} : x.it = it → x.Iter h → x.Src h → (x.kd = false → ∃ n, h.get? x.src = some { cls := .type "list", data := .seq x.vs.toArray n }) → x.src ∈ ω.fz → VRs ω h x.vs all → BsR ω h it (.seq (all.drop x.pos))
  | lst {i m : Nat} {a : Addr} : h.IsListIter it a m → ω.ρ[i]? = some a → BsR ω h it (.lst i m)
section
variable {G : Gd} {frs : List Env} {X : List Addr} {ω ω' : Wd} {σ σ' : Sto} {s s' : Shared} {h h' : Heap}
theorem BsR.later {it : Addr} {b : Bs} (x : BsR ω h it b) (L : Later ω h ω' h') (hk : ∀ o, h.get? it = some o → h'.get? it = some o) : BsR ω' h' it b := by
  cases x with
  | seq e i s k z V =>
    subst e
    exact   .seq rfl (It1.up i hk) (It1.srcUp s fun o ho => L.keep _ z o ho) (fun q => by obtain ⟨n, hn⟩ := k q; exact ⟨n, L.keep _ z _ hn⟩) (L.fz _ z) (L.vrs V)
  | lst i e => exact .lst (by obtain ⟨o, ho, r⟩ := i; exact ⟨o, hk o ho, r⟩) (L.rho _ _ e)
/-- what an iterator over one sequence does next -/
inductive BsN (ω : Wd) (σ : Sto) (h : Heap) (it : Addr) (k : AV → Bs → Bool) (e : Bool) : Prop
  | item {x : It1} {v : Value} {av : AV} {b' : Bs} : x.it = it → x.Iter h → x.Src h → x.vs[x.pos]? = some v → VR ω h v av → k av b' = true → (∀ ω' h', Later ω h ω' h' → x.next.Iter h' → BsR ω' h' it b') → (x.src ∈ ω.fz ∨ x.src ∈ ω.ρ) → BsN ω σ h it k e
  | stop {x : It1} : x.it = it → x.Iter h → x.Src h → x.vs[x.pos]? = none → e = true → (x.src ∈ ω.fz ∨ x.src ∈ ω.ρ) → BsN ω σ h it k e
theorem bs_next {it : Addr} {b : Bs} {k : AV → Bs → Bool} {e : Bool} (R : Rep G.toGl frs ω σ h) (x : BsR ω h it b) (hk : bsK b σ k e = true) : BsN ω σ h it k e := by
  cases x with
  | @seq x all ei i s kk z V =>
    have hk' : @List.rec AV (fun _ => Bool) e (fun v l _ => k v (.seq l)) (all.drop x.pos) = true := hk
    cases hd : all.drop x.pos with
    | nil =>
      rw [hd] at hk'
      refine .stop ei i s ?_ hk' (.inl z)
      have : all.length ≤ x.pos := List.drop_eq_nil_iff.mp hd
      rw [List.getElem?_eq_none_iff, V.length]
      exact this
    | cons av rest =>
      rw [hd] at hk'
      have hav : all[x.pos]? = some av := by rw [← List.head?_drop, hd]; rfl
      obtain ⟨v, hv, VV⟩ := V.get hav
      have hrest : rest = all.drop (x.pos + 1) := by rw [← List.drop_drop, hd]; rfl
      refine .item ei i s hv VV hk' (fun ω' h' L hi => ?_) (.inl z)
      rw [hrest]
      exact .seq (x := x.next) ei hi (It1.srcUp (x := x) s fun o ho => L.keep _ z o ho) (fun q => by obtain ⟨n, hn⟩ := kk q; exact ⟨n, L.keep _ z _ hn⟩) (L.fz _ z) (L.vrs V)
  | @lst i m a hi ea =>
    obtain ⟨o, eo, ho⟩ := getO_inv (k := fun o => @AO.rec (fun _ => Bool) (fun l => lenK l 0 fun n => ifB (Nat.blt m n) (nthK l m fun v => k v (.lst i (Nat.succ m))) e) (fun _ _ => false) (fun _ => false) (fun _ => false) false (fun _ => false) o) hk
    cases o with
    | list l =>
      obtain ⟨a', ea', vs, p, q⟩ := R.objs i _ eo
      rw [ea] at ea'
      cases ea'
      have ho' : (lenK l 0 fun n => ifB (Nat.blt m n) (nthK l m fun v => k v (.lst i (Nat.succ m))) e) = true := ho
      rw [lenK_eq, Nat.add_zero, ifB_eq] at ho'
      by_cases hm : m < l.length
      · rw [if_pos (blt_iff.mpr hm), nthK_eq] at ho'
        have hd : l[m]? = some l[m] := List.getElem?_eq_getElem hm
        rw [hd] at ho'
        obtain ⟨v, hv, VV⟩ := q.get hd
        exact .item (x := ⟨false, it, a, m, vs⟩) rfl hi p.isList hv VV ho' (fun ω' h' L hi' => .lst hi' (L.rho _ _ ea)) (.inr (List.mem_of_getElem? ea))
      · rw [if_neg (fun q => hm (blt_iff.mp q))] at ho'
        exact .stop (x := ⟨false, it, a, m, vs⟩) rfl hi p.isList (by rw [List.getElem?_eq_none_iff, q.length]; show l.length ≤ m; omega) ho' (.inr (List.mem_of_getElem? ea))
    | _ => exact (nomatch (show false = true from ho))
theorem BsR.live {it : Addr} {b : Bs} (x : BsR ω h it b) : ∃ o, h.get? it = some o := by
  cases x with
  | seq e i => subst e; exact It1.live i
  | lst i => obtain ⟨o, ho, _⟩ := i; exact ⟨o, ho⟩
end
end
end Mine
namespace Mine
section
open PySem PySem.W PyProof.Rows PySem.Calls PySem.Spec
open AutoSeq1 (wpAny_loadPart')

theorem It1.draws {prog : Program} {w : World} {A : Around} (hh : A.handled = none) (x : It1) (hne : x.src ≠ x.it) :
    Draws prog w A x.it [x.it, x.src] x.vs.length (fun i v => x.vs[i]? = some v) (fun i h => ({ x with pos := i } : It1).Iter h ∧ x.Src h) where
  live := fun i h st => It1.live (x := { x with pos := i }) st.1
  frame := fun i h h' st hk => ⟨It1.up (x := { x with pos := i }) st.1 fun o e => hk _ (by simp) o e, It1.srcUp st.2 fun o e => hk _ (by simp) o e⟩
  item := fun i s Q E hi st hQ => by
    refine It1.item (x := { x with pos := i }) (v := x.vs[i]) st.1 st.2 (List.getElem?_eq_getElem hi) fun h' hi' hs => ?_
    exact hQ _ h' s.toks (List.getElem?_eq_getElem hi) ⟨hi', It1.srcUp st.2 fun o e => (hs.2 _ hne).trans e⟩ hs
  done := fun s Q E st hE => It1.stop (x := { x with pos := x.vs.length }) hh st.1 st.2 (by simp) hE
/-- a sequence to go along -/
noncomputable def iterObj (kd : Bool) (src : Addr) : Obj := { cls := .type (if kd then "tuple_iterator" else "list_iterator"), data := .fields #[.ref src, .int 0 0] }
noncomputable def SrcIs (kd : Bool) (h : Heap) (src : Addr) (vs : List Value) : Prop := if kd then h.IsTuple src vs.toArray else h.IsList src vs.toArray
section
variable {prog : Program} {w : World} {A : Around} {E : Value → Shared → Prop} {s : Shared}
theorem pyIter_src {kd : Bool} {src : Addr} {vs : List Value} {Q : Value → Shared → Prop} (h : SrcIs kd s.heap src vs) (hQ : Q (.ref s.heap.objs.size) { s with heap := s.heap.push (iterObj kd src) }) :
    wpAny (model prog w) A (pyIter (.ref src)) Q E s := by
  cases kd with
  | true => exact wpAny_pyIter_tuple h hQ
  | false => exact wpAny_pyIter_list h hQ
theorem SrcIs.up {kd : Bool} {h h' : Heap} {src : Addr} {vs : List Value} (x : SrcIs kd h src vs) (k : ∀ o, h.get? src = some o → h'.get? src = some o) : SrcIs kd h' src vs := by
  cases kd <;> (obtain ⟨o, ho, r⟩ := x; exact ⟨o, k o ho, r⟩)
theorem SrcIs.push {kd : Bool} {h : Heap} {src : Addr} {vs : List Value} (x : SrcIs kd h src vs) (o : Obj) : SrcIs kd (h.push o) src vs := x.up fun _ e => Heap.get?_push_of_some _ e
theorem iterObj_iter {kd : Bool} {h : Heap} {it src : Addr} {vs : List Value} (e : h.get? it = some (iterObj kd src)) : (⟨kd, it, src, 0, vs⟩ : It1).Iter h := by
  cases kd <;> exact ⟨_, e, rfl, rfl⟩

theorem meets_enumerate_newI (kd : Bool) (l : Addr) (vs : List Value) :
    Meets (Builtin.«enumerate.__new__» ⟨[.type "enumerate", .ref l], []⟩) (fun _ R s => SrcIs kd s.heap l vs ∧
      R (.ok (.ret (.ref (s.heap.push (iterObj kd l)).objs.size)))
        { s with heap := (s.heap.push (iterObj kd l)).push { cls := .type "enumerate", data := .fields #[.none, .bool false, .ref s.heap.objs.size, rawInt 0, .none, .none] } }) :=
  .of_wp fun prog w A R s h => by
    obtain ⟨hp, g, d, tk, os⟩ := s; obtain ⟨hl, h⟩ := h
    have hsub := sub_enumerate
    have hL : SrcIs kd (Shared.heap ⟨hp, g, d, tk, os⟩) l vs := hl
    wp_walk
    refine wpAny_stack_any fun st => wpAny_pure ?_
    split
    · rename_i c _ _ _ _ _
      cases (c == Value.type "enumerate")
      · wp_walk using pyIter_src hL
        exact ⟨_, rfl, h⟩
      · wp_walk using pyIter_src hL
        exact ⟨_, rfl, h⟩
    · wp_walk using pyIter_src hL
      exact ⟨_, rfl, h⟩
theorem call_enumerateI {kd : Bool} {l : Addr} {vs : List Value} {Q : Value → Shared → Prop} (hL : SrcIs kd s.heap l vs)
    (h : ∀ h', IsEnum h' (s.heap.objs.size + 1) s.heap.objs.size 0 .none → h'.get? s.heap.objs.size = some (iterObj kd l) → h'.objs.size = s.heap.objs.size + 2 →
      (∀ b o, s.heap.get? b = some o → h'.get? b = some o) → Q (.ref (s.heap.objs.size + 1)) { s with heap := h' }) :
    wpAny (model prog w) A (call (.type "enumerate") [.ref l]) Q E s := by
  refine callType_new PySem.F.called_enumerate (by decide) (PySem.F.typeCall_enumerate_1 _) (PySem.F.newCall_enumerate_1 _) (fun obj => PySem.F.args_object_init_2 obj _) PySem.F.entry_enumerate_new
    (meets_enumerate_newI kd l vs) ⟨hL, ?_⟩
  have hz : (s.heap.push (iterObj kd l)).objs.size = s.heap.objs.size + 1 := Heap.size_push ..
  show _ ∧ _
  rw [hz]
  have he : IsEnum ((s.heap.push (iterObj kd l)).push { cls := .type "enumerate", data := .fields #[.none, .bool false, .ref s.heap.objs.size, rawInt 0, .none, .none] }) (s.heap.objs.size + 1) s.heap.objs.size 0 .none := by
    have := Heap.get?_push_size (s.heap.push (iterObj kd l)) (o := { cls := .type "enumerate", data := .fields #[.none, .bool false, .ref s.heap.objs.size, rawInt 0, .none, .none] }) rfl
    rw [hz] at this; exact this
  refine ⟨⟨_, he, rfl⟩, h _ he (Heap.get?_push_of_some _ (Heap.get?_push_size _ (by cases kd <;> rfl))) (by rw [Heap.size_push, hz]) fun b o x => Heap.get?_push_of_some _ (Heap.get?_push_of_some _ x)⟩

/- zip -/
noncomputable abbrev zh1 (h : Heap) (k1 : Bool) (l1 : Addr) : Heap := h.push (iterObj k1 l1)
noncomputable abbrev zipObj (TI TO : Addr) : Obj := { cls := .type "zip", data := .fields #[.none, .bool false, .bool false, .ref TI, .ref TO] }
noncomputable abbrev tupObj (vs : Array Value) : Obj := { cls := .type "tuple", data := .seq vs }
theorem meets_zip_new2 (k1 k2 : Bool) (l1 l2 : Addr) (xs ys : List Value) :
    Meets (Builtin.«zip.__new__» ⟨[.type "zip", .ref l1, .ref l2], []⟩) (fun _ R s => SrcIs k1 s.heap l1 xs ∧ SrcIs k2 s.heap l2 ys ∧
      ∀ h1 h2 h3 h4 h5, h1 = s.heap.push (iterObj k1 l1) → h2 = h1.push (iterObj k2 l2) → h3 = h2.push (tupObj #[.ref s.heap.objs.size, .ref h1.objs.size]) → h4 = h3.push (tupObj #[.none, .none]) → h5 = h4.push (zipObj h2.objs.size h3.objs.size) →
      R (.ok (.ret (.ref h4.objs.size))) { s with heap := h5 }) :=
  .of_wp fun prog w A R s h => by
    obtain ⟨hp, g, d, tk, os⟩ := s; obtain ⟨hl1, hl2, h⟩ := h
    have hsub := sub_zip
    have hL1 : SrcIs k1 (Shared.heap ⟨hp, g, d, tk, os⟩) l1 xs := hl1
    have hL2 : SrcIs k2 (Shared.heap ⟨hp.push (iterObj k1 l1), g, d, tk, os⟩) l2 ys := SrcIs.push hl2 _
    wp_walk using pyIter_src hL1, pyIter_src hL2
    exact ⟨_, rfl, h _ _ _ _ _ rfl rfl rfl rfl rfl⟩
set_option maxHeartbeats 2000000 in
theorem meets_zip_new3 (k1 k2 k3 : Bool) (l1 l2 l3 : Addr) (xs ys zs : List Value) :
    Meets (Builtin.«zip.__new__» ⟨[.type "zip", .ref l1, .ref l2, .ref l3], []⟩) (fun _ R s => SrcIs k1 s.heap l1 xs ∧ SrcIs k2 s.heap l2 ys ∧ SrcIs k3 s.heap l3 zs ∧
      ∀ h1 h2 hm h3 h4 h5, h1 = s.heap.push (iterObj k1 l1) → h2 = h1.push (iterObj k2 l2) → hm = h2.push (iterObj k3 l3) → h3 = hm.push (tupObj #[.ref s.heap.objs.size, .ref h1.objs.size, .ref h2.objs.size]) → h4 = h3.push (tupObj #[.none, .none, .none]) → h5 = h4.push (zipObj hm.objs.size h3.objs.size) →
      R (.ok (.ret (.ref h4.objs.size))) { s with heap := h5 }) :=
  .of_wp fun prog w A R s h => by
    obtain ⟨hp, g, d, tk, os⟩ := s; obtain ⟨hl1, hl2, hl3, h⟩ := h
    have hsub := sub_zip
    have hL1 : SrcIs k1 (Shared.heap ⟨hp, g, d, tk, os⟩) l1 xs := hl1
    have hL2 : SrcIs k2 (Shared.heap ⟨hp.push (iterObj k1 l1), g, d, tk, os⟩) l2 ys := SrcIs.push hl2 _
    have hL3 : SrcIs k3 (Shared.heap ⟨(hp.push (iterObj k1 l1)).push (iterObj k2 l2), g, d, tk, os⟩) l3 zs := SrcIs.push (SrcIs.push hl3 _) _
    wp_walk using pyIter_src hL1, pyIter_src hL2, pyIter_src hL3
    exact ⟨_, rfl, h _ _ _ _ _ _ rfl rfl rfl rfl rfl rfl⟩
end
end
end Mine
namespace Mine
section
open PySem PySem.W PyProof.Rows PySem.Calls PySem.Spec

inductive BssR (ω : Wd) (h : Heap) : List Addr → List Bs → Prop
  | nil : BssR ω h [] []
  | cons {i : Addr} {is : List Addr} {b : Bs} {l : List Bs} : BsR ω h i b → BssR ω h is l → BssR ω h (i :: is) (b :: l)
theorem BssR.length {ω : Wd} {h : Heap} {is : List Addr} {l : List Bs} (x : BssR ω h is l) : is.length = l.length := by
  induction x with
  | nil => rfl
  | cons _ _ ih => simp [ih]
theorem BssR.later {ω ω' : Wd} {h h' : Heap} {is : List Addr} {l : List Bs} (x : BssR ω h is l) (L : Later ω h ω' h') (hk : ∀ i ∈ is, ∀ o, h.get? i = some o → h'.get? i = some o) : BssR ω' h' is l := by
  induction x with
  | nil => exact .nil
  | cons a b ih => exact .cons (a.later L fun o => hk _ (.head _) o) (ih fun i hi => hk i (.tail _ hi))
section
variable {G : Gd} {frs : List Env} {X Y : List Addr} {ω ω' : Wd} {σ σ' : Sto} {e : Bool} {A : Around}
/-- what one turn of zip's own loop wants -/
noncomputable def ZStep (G : Gd) (A : Around) {β : Type} (body : Value × Nat → β → Sem (ForInStep β)) (init : β) (z TI TO : Addr) : Prop :=
  ∀ (it : Addr) (k : Nat) (s : Shared) (Q : ForInStep β → Shared → Prop) (E : Value → Shared → Prop),
    wpAny (model G.prog G.w) A (Builtin.SmallTypes.nextOf (.ref it)) (fun v s₁ => ∃ cur, s₁.heap.get? TO = some (tupObj cur) ∧ cur.size ≤ 64 ∧ ∀ h', h'.get? TO = some (tupObj (cur.setIfInBounds k v)) → Heap.SameBut TO s₁.heap h' → Q (.yield init) { s₁ with heap := h' })
      (fun x s₁ => IsZip s₁.heap z TI TO .ellipsis ∧ ∀ h', Heap.SameBut z s₁.heap h' → E x { s₁ with heap := h' }) s →
    wpAny (model G.prog G.w) A (body (.ref it, k) init) Q E s
theorem It1.ne (hY : ∀ y ∈ Y, Loose G.toGl frs X ω h y) {x : It1} {y : Addr} (hs : x.src ∈ ω.fz ∨ x.src ∈ ω.ρ) (hy : y ∈ Y) : x.src ≠ y := fun q => by
  rcases hs with z | z
  · exact (hY y hy).fz (q ▸ z)
  · exact (hY y hy).rho (q ▸ z)
theorem zip_loop {β : Type} {body : Value × Nat → β → Sem (ForInStep β)} {init : β} {z TI TO : Addr} (hh : A.handled = none) (hstep : ZStep G A body init z TI TO) (hz : z ∈ Y) (hTO : TO ∈ Y) (hzT : z ≠ TO) :
    ∀ (l : List Bs) (is : List Addr) (k : Nat) (done rest : List Value) (K : List AV → List Bs → Bool) (s : Shared) (Q : β → Shared → Prop) (E : Value → Shared → Prop),
      Rep G.toGl frs ω σ s.heap → (∀ y ∈ Y, Loose G.toGl frs X ω s.heap y) → (∀ i ∈ is, i ∈ Y ∧ i ≠ z ∧ i ≠ TO) → is.Nodup → IsZip s.heap z TI TO .ellipsis →
      BssR ω s.heap is l → bssK σ e l K = true → s.heap.get? TO = some (tupObj (done ++ rest).toArray) → rest.length = l.length → done.length = k → done.length + rest.length ≤ 64 →
      (∀ vs avs l' s', St G frs Y ω s ω σ s' → vs.length = l.length → VRs ω s'.heap vs avs → K avs l' = true → BssR ω s'.heap is l' → s'.heap.get? TO = some (tupObj (done ++ vs).toArray) → IsZip s'.heap z TI TO .ellipsis → s'.heap.objs.size = s.heap.objs.size → (∀ c o, c ≠ TO → c ∉ is → s.heap.get? c = some o → s'.heap.get? c = some o) → s'.toks = s.toks → Q init s') →
      (e = true → ∀ h' x, (∀ c o, c ∉ Y → s.heap.get? c = some o → h'.get? c = some o) → (∃ o, h'.get? x = some o ∧ o.cls = .type "StopIteration") → E (.ref x) { s with heap := h' }) →
      wpAny (model G.prog G.w) A (forIn ((is.map fun i => Value.ref i).zipIdx k) init body) Q E s := by
  intro l
  induction l with
  | nil =>
    intro is k done rest K s Q E R hY hi hnd hzi B hK hto hr hd h64 hQ hE
    cases B
    have : rest = [] := List.eq_nil_of_length_eq_zero hr
    subst this
    exact wpAny_pure (hQ [] [] [] s (St.widen (St.refl R)) rfl .nil hK .nil (by simpa using hto) hzi rfl (fun c o _ _ q => q) rfl)
  | cons b l ih =>
    intro is k done rest K s Q E R hY hi hnd hzi B hK hto hr hd h64 hQ hE
    cases B with
    | @cons i is _ _ Bi B =>
      obtain ⟨hiY, hiz, hiT⟩ := hi i (.head _)
      have hnd' := List.nodup_cons.mp hnd
      have hK' : bsK b σ (fun v x' => bssK σ e l fun vs xs => K (v :: vs) (x' :: xs)) e = true := hK
      cases rest with
      | nil => simp at hr
      | cons r0 rest =>
        show wpAny _ _ (forIn ((Value.ref i, k) :: ((is.map fun i => Value.ref i).zipIdx (k + 1))) init body) Q E s
        rw [List.forIn_cons]
        refine wpAny_bind (hstep i k s _ _ ?_)
        rcases bs_next R Bi hK' with @⟨x, v, av, b', ei, xi, xs, hv, V, hk, hB, hsrc⟩ | @⟨x, ei, xi, xs, hv, he, hsrc⟩
        · subst ei
          refine It1.item xi xs hv fun h₁ xi₁ hs₁ => ?_
          have hto₁ : h₁.get? TO = some (tupObj (done ++ r0 :: rest).toArray) := (hs₁.2 TO (Ne.symm hiT)).trans hto
          refine ⟨_, hto₁, by rw [List.size_toArray, List.length_append]; exact h64, fun h₂ hto₂ hs₂ => ?_⟩
          have kp : ∀ c o, c ≠ TO → c ≠ x.it → s.heap.get? c = some o → h₂.get? c = some o := fun c o c1 c2 q => (hs₂.2 c c1).trans ((hs₁.2 c c2).trans q)
          have S : St G frs Y ω s ω σ { s with heap := h₂, toks := s.toks } := St.looseAll (s := s) R hY (fun c o hc q => kp c o (fun q => hc (q ▸ hTO)) (fun q => hc (q ▸ hiY)) q) (fun y hy => by
            obtain ⟨o, ho⟩ := (hY y hy).live
            by_cases y1 : y = TO
            · subst y1; exact ⟨_, hto₂⟩
            · by_cases y2 : y = x.it
              · subst y2
                obtain ⟨o', ho'⟩ := It1.nextLive xi₁
                exact ⟨o', (hs₂.2 _ y1).trans ho'⟩
              · exact ⟨o, kp y o y1 y2 ho⟩) s.toks
          have L := St.laterY R hY S
          have hY₂ : ∀ y ∈ Y, Loose G.toGl frs X ω h₂ y := fun y hy => (hY y hy).step S
          have hset : (done ++ r0 :: rest).toArray.setIfInBounds k v = ((done ++ [v]) ++ rest).toArray := by
            rw [List.setIfInBounds_toArray]
            congr 1
            rw [List.set_append_right _ _ (by omega), hd, Nat.sub_self]
            simp
          rw [hset] at hto₂
          have B₂ : BssR ω h₂ is l := B.later L fun j hj o q => kp j o (hi j (.tail _ hj)).2.2 (fun q => hnd'.1 (q ▸ hj)) q
          refine ih is (k + 1) (done ++ [v]) rest (fun vs xs => K (av :: vs) (b' :: xs)) { s with heap := h₂, toks := s.toks } Q E S.rep hY₂ (fun j hj => hi j (.tail _ hj)) hnd'.2 (kp z _ hzT (Ne.symm hiz) hzi) B₂ hk hto₂ (by simpa using hr) (by simp [hd]) (by simp at h64 ⊢; omega) ?_ ?_
          · intro vs avs l' s' S' hvl V' hk' B' hto' hz' hsz hkp htk
            have L' := St.laterY S.rep hY₂ S'
            refine hQ (v :: vs) (av :: avs) (b' :: l') s' (S.andX S') (by simp [hvl]) (.cons (L'.vr (L.vr V)) V') hk' (.cons ?_ B') ?_ hz' ?_ ?_ htk
            · refine hB ω s'.heap ⟨fun a q => L'.fz a (L.fz a q), fun i a q => L'.rho i a (L.rho i a q), fun i a q => L'.nu i a (L.nu i a q), fun a q o z => L'.keep a (L.fz a q) o (L.keep a q o z)⟩ ?_
              exact It1.up (x := x.next) xi₁ fun o q => hkp x.it o hiT hnd'.1 ((hs₂.2 _ hiT).trans q)
            · rw [hto']; simp
            · rw [hsz]
              show h₂.objs.size = _
              rw [hs₂.1, hs₁.1]
            · exact fun c o c1 c2 q => hkp c o c1 (fun z => c2 (.tail _ z)) (kp c o c1 (fun z => c2 (z ▸ .head _)) q)
          · exact fun he h' y hkp hy => hE he h' y (fun c o hc q => hkp c o hc (kp c o (fun z => hc (z ▸ hTO)) (fun z => hc (z ▸ hiY)) q)) hy
        · subst ei
          refine It1.stop hh xi xs hv fun h₁ ee hs₁ hex => ?_
          have hz₁ := hs₁ z _ (Ne.symm hiz) hzi
          refine ⟨hz₁, fun h₂ hs₂ => hE he h₂ ee (fun c o hc q => (hs₂.2 c (fun q => hc (q ▸ hz))).trans (hs₁ c o (fun q => hc (q ▸ hiY)) q)) ?_⟩
          obtain ⟨o, ho, hoc⟩ := hex
          have hne : ee ≠ z := fun q => by subst q; rw [hz₁] at ho; cases ho; simp at hoc
          exact ⟨o, (hs₂.2 ee hne).trans ho, hoc⟩
/-- zip's next tuple -/
theorem zip_next {z TI TO : Addr} {l : List Bs} {is : List Addr} {old : List Value} {K : List AV → List Bs → Bool} {s : Shared} {Q : Option Value → Shared → Prop} {E : Value → Shared → Prop} (hh : A.handled = none)
    (R : Rep G.toGl frs ω σ s.heap) (hY : ∀ y ∈ Y, Loose G.toGl frs X ω s.heap y) (hz : z ∈ Y) (hTI : TI ∈ Y) (hTO : TO ∈ Y) (hzT : z ≠ TO) (hzI : z ≠ TI) (hTT : TI ≠ TO) (hi : ∀ i ∈ is, i ∈ Y ∧ i ≠ z ∧ i ≠ TO ∧ i ≠ TI) (hnd : is.Nodup) (hne : is ≠ [])
    (hzi : IsZip s.heap z TI TO .none) (hti : s.heap.get? TI = some (tupObj (is.map fun i => Value.ref i).toArray)) (hto : s.heap.get? TO = some (tupObj old.toArray)) (ho : old.length = l.length) (h64 : old.length ≤ 64) (B : BssR ω s.heap is l) (hK : bssK σ e l K = true)
    (hQ : ∀ vs avs l' s' T, (∀ c o, c ∉ Y → s.heap.get? c = some o → s'.heap.get? c = some o) → (∀ y ∈ Y, ∃ o, s'.heap.get? y = some o) → s'.gens = s.gens ∧ s'.drawn = s.drawn ∧ s'.os = s.os → s.heap.get? T = none → T ∉ Y → s'.heap.get? T = some (tupObj vs.toArray) → vs.length = l.length → VRs ω s'.heap vs avs → K avs l' = true → BssR ω s'.heap is l' → s'.heap.get? TO = some (tupObj vs.toArray) → s'.heap.get? TI = some (tupObj (is.map fun i => Value.ref i).toArray) → IsZip s'.heap z TI TO (rawInt T) → Q (some (.ref T)) s')
    (hE : e = true → ∀ h', (∀ c o, c ∉ Y → s.heap.get? c = some o → h'.get? c = some o) → Q none { s with heap := h' }) :
    wpAny (model G.prog G.w) A (pyNext (.ref z)) Q E s := by
  have hT : s.TypeIs (.ref z) "zip" := ⟨_, hzi, rfl⟩
  unfold pyNext
  refine wpAny_bind (wpAny_attempt (wpAny_callSpecial?_slot (name := Str.ofString "__next__") hT PySem.F.slot_zip_next
    (wpAny_call_entry PySem.F.slot_zip_next hT PySem.F.entry_zip_next ?_ (PySem.F.args_zip_next_1 _))))
  show wpAny _ _ (field (.ref z) 2 >>= _) _ _ _
  refine wpAny_bind (wpAny_field hzi rfl (x := .bool false) rfl ?_)
  show wpAny _ _ (field (.ref z) 3 >>= _) _ _ _
  refine wpAny_bind (wpAny_field hzi rfl (x := .ref TI) rfl ?_)
  refine wpAny_bind (wpAny_seqItems hti rfl ?_)
  dsimp only
  have hemp : (is.map fun i => Value.ref i).toArray.isEmpty = false := by
    cases is with
    | nil => exact absurd rfl hne
    | cons i is => rfl
  rw [hemp]
  show wpAny _ _ (Builtin.SmallTypes.ownedTupleIsFree (.ref z) >>= _) _ _ s
  refine wpAny_bind ?_
  unfold Builtin.SmallTypes.ownedTupleIsFree
  refine wpAny_bind (wpAny_field hzi rfl (x := .none) rfl (wpAny_pure ?_))
  simp only [if_true]
  refine wpAny_bind (wpAny_rule ?_)
  refine wpAny_bind (wpAny_field hzi rfl (x := .ref TO) rfl ?_)
  refine wpAny_bind (wpAny_setField_rec hzi (by simp) fun h₁ hz₁ hs₁ => ?_)
  replace hz₁ : IsZip h₁ z TI TO .ellipsis := hz₁
  refine wpAny_bind ?_
  have S₁ : St G frs Y ω s ω σ { s with heap := h₁, toks := s.toks } := St.looseAll (s := s) R hY (fun c o hc q => (hs₁.2 c (fun q => hc (q ▸ hz))).trans q) (fun y hy => by
    obtain ⟨o, ho⟩ := (hY y hy).live
    by_cases y1 : y = z
    · subst y1; exact ⟨_, hz₁⟩
    · exact ⟨o, (hs₁.2 y y1).trans ho⟩) s.toks
  have L₁ := St.laterY R hY S₁
  have hY₁ : ∀ y ∈ Y, Loose G.toGl frs X ω h₁ y := fun y hy => (hY y hy).step S₁
  refine zip_loop (A := A.in1) (Y := Y) (σ := σ) (e := e) hh ?hstep hz hTO hzT l is 0 [] old K { s with heap := h₁, toks := s.toks } _ _ S₁.rep hY₁ (fun i q => ⟨(hi i q).1, (hi i q).2.1, (hi i q).2.2.1⟩) hnd hz₁ (B.later L₁ fun i q o z => (hs₁.2 i (hi i q).2.1).trans z) hK ((hs₁.2 TO (Ne.symm hzT)).trans hto) ho rfl (by simpa using h64) ?_ ?_
  case hstep =>
    intro it k s' Q' E' h
    refine wpAny_bind (wpAny_onRaise ?_)
    show wpAny _ _ (Builtin.SmallTypes.nextOf (.ref it) >>= _) _ _ _
    refine wpAny_bind (wpAny_mono h (fun v s₁ ⟨cur, hc, hcs, hq⟩ => wpAny_pure ?_) fun x s₁ ⟨hz', hq⟩ => ?_)
    · refine wpAny_bind (wpAny_seqItems hc rfl ?_)
      refine wpAny_bind (wpAny_updateSeq (hz := sizeLine_ge (by omega)) (_hz' := by rw [Array.size_setIfInBounds]; exact Nat.le_succ_of_le (sizeLine_ge (by omega))) hc rfl ?_)
      have D' := Heap.get?_update_self (Obj.mapSeq fun x => x.setIfInBounds k v) hc rfl
      refine wpAny_bind (wpAny_letGo (wpAny_pure (hq _ ?_ (Heap.SameBut.update ..))))
      rw [D']
      simp [Obj.mapSeq]
    · exact wpAny_setField_rec hz' (by simp) fun h' _ hs' => hq h' hs'
  · intro vs avs l' s₂ S₂ hvl V₂ hk B₂ hto₂ hz₂ hsz hkp htk
    rw [List.nil_append] at hto₂
    show wpAny _ _ (seqItems? (.ref TO) >>= _) _ _ _
    refine wpAny_bind (wpAny_seqItems hto₂ rfl ?_)
    refine wpAny_bind (wpAny_newTuple ?_ ?_)
    · show wpAny _ _ (Builtin.SmallTypes.ownedTupleHandOut (.ref z) (.ref s₂.heap.objs.size) >>= _) _ _ _
      refine wpAny_bind ?_
      unfold Builtin.SmallTypes.ownedTupleHandOut
      have hz₃ : IsZip (s₂.heap.push (tupObj vs.toArray)) z TI TO .ellipsis := Heap.get?_push_of_some _ hz₂
      have hz2 : s₂.heap.objs.size = s.heap.objs.size := by rw [hsz]; exact hs₁.1
      have hlen := V₂.length
      have T0 : s.heap.get? s₂.heap.objs.size = none := by rw [hz2]; exact push_none _
      have TY : s₂.heap.objs.size ∉ Y := fun q => live_ne (hY _ q).live T0 rfl
      refine wpAny_bind (wpAny_setField_rec (s := { s₂ with heap := s₂.heap.push (tupObj vs.toArray) }) hz₃ (k := 0) (by simp) fun h₄ hz₄ hs₄ => ?_)
      replace hz₄ : IsZip h₄ z TI TO (rawInt s₂.heap.objs.size) := hz₄
      refine wpAny_setField_rec (s := { s₂ with heap := h₄ }) hz₄ (k := 1) (by simp) fun h₅ hz₅ hs₅ => ?_
      replace hz₅ : IsZip h₅ z TI TO (rawInt s₂.heap.objs.size) := hz₅
      have up : ∀ c o, c ≠ z → s₂.heap.get? c = some o → h₅.get? c = some o := fun c o c1 q => (hs₅.2 c c1).trans ((hs₄.2 c c1).trans (Heap.get?_push_of_some _ q))
      have L₅ : Later ω s₂.heap ω h₅ := ⟨fun a q => q, fun _ _ q => q, fun _ _ q => q, fun b hb o q => up b o (fun q => (hY z hz).fz (q ▸ hb)) q⟩
      refine wpAny_pure ⟨_, rfl, wpAny_pure (hQ vs avs l' { s₂ with heap := h₅ } s₂.heap.objs.size ?_ ?_ ⟨S₂.gens, S₂.drawn, S₂.os⟩ T0 TY ?_ hvl ?_ hk ?_ (up TO _ (Ne.symm hzT) hto₂) ?_ hz₅)⟩
      · exact fun c o hc q => up c o (fun q => hc (q ▸ hz)) (hkp c o (fun q => hc (q ▸ hTO)) (fun q => hc (hi c q).1) ((hs₁.2 c (fun q => hc (q ▸ hz))).trans q))
      · intro y hy
        by_cases y1 : y = z
        · subst y1; exact ⟨_, hz₅⟩
        · obtain ⟨o, ho⟩ := (hY₁ y hy).live
          obtain ⟨o', ho'⟩ := S₂.step.alive y o ho
          exact ⟨o', up y o' y1 ho'⟩
      · have Tz : s₂.heap.objs.size ≠ z := fun q => TY (by rw [q]; exact hz)
        exact (hs₅.2 _ Tz).trans ((hs₄.2 _ Tz).trans (Heap.get?_push_size _ rfl))
      · exact L₅.vrs V₂
      · exact B₂.later L₅ fun i q o z => up i o (hi i q).2.1 z
      · exact up TI _ (Ne.symm hzI) (hkp TI _ hTT (fun q => (hi TI q).2.2.2 rfl) ((hs₁.2 TI (Ne.symm hzI)).trans hti))
    · show vs.toArray.toList.length ≤ sizeLine
      exact sizeLine_ge (by simp; omega)
  · intro he h' x hkp hx
    obtain ⟨o, ho, hc⟩ := hx
    refine wpAny_bind (wpAny_isInstance (T := "StopIteration") (b := true) ⟨o, ho, hc⟩ isSubtype_stop ?_)
    exact wpAny_pure (hE he h' fun c o hc q => hkp c o hc ((hs₁.2 c (fun q => hc (q ▸ hz))).trans q))
end
end
end Mine
namespace Mine
section
open PySem PySem.W PyProof.Rows PySem.Calls PySem.Spec

theorem It1.drawsAt {prog : Program} {w : World} {A : Around} (hh : A.handled = none) (x : It1) (hne : x.src ≠ x.it) (j : Nat) :
    Draws prog w A x.it [x.it, x.src] (j + (x.vs.length - x.pos)) (fun i v => x.vs[x.pos + (i - j)]? = some v) (fun i h => j ≤ i ∧ ({ x with pos := x.pos + (i - j) } : It1).Iter h ∧ x.Src h) where
  live := fun i h st => It1.live (x := { x with pos := x.pos + (i - j) }) st.2.1
  frame := fun i h h' st hk => ⟨st.1, It1.up (x := { x with pos := x.pos + (i - j) }) st.2.1 fun o e => hk _ (by simp) o e, It1.srcUp st.2.2 fun o e => hk _ (by simp) o e⟩
  item := fun i s Q E hi st hQ => by
    have hlt : x.pos + (i - j) < x.vs.length := by have := st.1; omega
    refine It1.item (x := { x with pos := x.pos + (i - j) }) (v := x.vs[x.pos + (i - j)]) st.2.1 st.2.2 (List.getElem?_eq_getElem hlt) fun h' hi' hs => ?_
    refine hQ _ h' s.toks (List.getElem?_eq_getElem hlt) ⟨Nat.le_succ_of_le st.1, ?_, It1.srcUp st.2.2 fun o e => (hs.2 _ hne).trans e⟩ hs
    have : x.pos + (i + 1 - j) = x.pos + (i - j) + 1 := by have := st.1; omega
    rw [this]
    exact hi'
  done := fun s Q E st hE => by
    refine It1.stop (x := { x with pos := x.pos + (j + (x.vs.length - x.pos) - j) }) hh st.2.1 st.2.2 ?_ hE
    rw [List.getElem?_eq_none_iff]
    show x.vs.length ≤ x.pos + (j + (x.vs.length - x.pos) - j)
    omega
section
variable {G : Gd} {frs : List Env} {X Y : List Addr} {ω ω' : Wd} {σ σ' : Sto} {s s' : Shared}
/-- such places are written, and new things are made that nobody is to change -/
theorem St.looseNew (R : Rep G.toGl frs ω σ s.heap) (hY : ∀ y ∈ Y, Loose G.toGl frs X ω s.heap y) {h' : Heap} (hk : ∀ b o, b ∉ Y → s.heap.get? b = some o → h'.get? b = some o) (hl : ∀ y ∈ Y, ∃ o, h'.get? y = some o) (new : List Addr)
    (hn : ∀ a ∈ new, s.heap.get? a = none ∧ ∃ o, h'.get? a = some o) (t : Nat) :
    St G frs Y ω s { ω with fz := new ++ ω.fz } σ { s with heap := h', toks := t } := by
  have al : ∀ b o, s.heap.get? b = some o → ∃ o', h'.get? b = some o' := fun b o e => by
    by_cases hb : b ∈ Y
    · exact hl b hb
    · exact ⟨o, hk b o hb e⟩
  have L : Later ω s.heap { ω with fz := new ++ ω.fz } h' := ⟨fun a q => List.mem_append_right _ q, fun _ _ q => q, fun _ _ q => q, fun b hb o e => hk b o (fun q => (hY b q).fz hb) e⟩
  refine ⟨⟨al, ⟨[], by simp, fun _ q => nomatch q⟩, L.fz, fun a q => ?_, ⟨[], by simp⟩, fun b o e hb hX => .inl (hk b o hX e)⟩,
    ⟨fun j o e => ?_, R.len, R.nu, R.nodup, fun b q => by obtain ⟨o, ho⟩ := R.low b q; exact al b o ho, fun b q => ?_, fun b q => ?_, fun b q => ?_, fun b o e => hk b o (fun q => ?_) (R.base b o e), ?_, fun a q => List.mem_append_right _ (R.glob a q)⟩, rfl, rfl, rfl⟩
  · rcases List.mem_append.mp q with q | q
    · exact .inr (hn a q).1
    · exact .inl q
  · obtain ⟨b, eb, ob⟩ := R.objs j o e
    exact ⟨b, eb, ob.later L fun o e => hk _ _ (fun q => (hY b q).rho (List.mem_of_getElem? eb)) e⟩
  · rcases List.mem_append.mp q with q | q
    · exact (hn b q).2
    · obtain ⟨o, ho⟩ := R.lowz b q; exact al b o ho
  · refine ⟨fun z => ?_, (R.sep b q).2⟩
    rcases List.mem_append.mp z with z | z
    · exact live_ne (R.low b q) (hn b z).1 rfl
    · exact (R.sep b q).1 z
  · rcases List.mem_append.mp q with q | q
    · exact fun z => live_ne (R.frLow b z) (hn b q).1 rfl
    · exact R.fzF b q
  · have := (hY b q).base; rw [e] at this; cases this
  · exact funFrames_on R.frames fun b hb o e hd => ⟨o, hk b o (fun q => (hY b q).frame hb) e, hd⟩

/-- an iterator: Y: the places that its turns write -/
inductive ItR (ω : Wd) (h : Heap) (I : Addr) : IT → List Addr → Prop
  | b {x : Bs} : BsR ω h I x → ItR ω h I (.b x) [I]
  | rng {lo : Int} {n : Nat} : IsRangeIter h I lo ((n : Nat) : Int) 1 → ItR ω h I (.rng lo n) [I]
  | zip {l : List Bs} {TI TO : Addr} {is : List Addr} {old : List Value} : IsZip h I TI TO .none → h.get? TI = some (tupObj (is.map fun i => Value.ref i).toArray) → h.get? TO = some (tupObj old.toArray) → old.length = l.length → old.length ≤ 64 →
      BssR ω h is l → is ≠ [] → (I :: TI :: TO :: is).Nodup → ItR ω h I (.zip l) (I :: TI :: TO :: is)
  | enm {x : Bs} {k : Nat} {it : Addr} {old : Value} : IsEnum h I it ((k : Nat) : Int) old → BsR ω h it x → I ≠ it → ItR ω h I (.enm x ((k : Nat) : Int)) [I, it]
theorem ItR.later {h h' : Heap} {I : Addr} {it : IT} (x : ItR ω h I it Y) (L : Later ω h ω' h') (hk : ∀ y ∈ Y, ∀ o, h.get? y = some o → h'.get? y = some o) : ItR ω' h' I it Y := by
  cases x with
  | b x => exact .b (x.later L (hk _ (.head _)))
  | rng x => exact .rng (hk _ (.head _) _ x)
  | zip a b c d e f g i => exact .zip (hk _ (.head _) _ a) (hk _ (.tail _ (.head _)) _ b) (hk _ (.tail _ (.tail _ (.head _))) _ c) d e (f.later L fun j hj => hk j (.tail _ (.tail _ (.tail _ hj)))) g i
  | enm a b c => exact .enm (hk _ (.head _) _ a) (b.later L (hk _ (.tail _ (.head _)))) c
noncomputable def TgtOK (t : Expr) : IT → Prop
  | .zip _ => ∃ elts k p, t = .Tuple elts k p
  | .enm _ _ => ∃ elts k p, t = .Tuple elts k p
  | _ => ∀ I v, letOwnedTupleGo t I v = pure ()
/-- an iterator's end -/
noncomputable def Ended (Y : List Addr) (s s' : Shared) : Prop := (∀ c o, c ∉ Y → s.heap.get? c = some o → s'.heap.get? c = some o) ∧ s'.gens = s.gens ∧ s'.drawn = s.drawn ∧ s'.os = s.os
noncomputable def Turn (G : Gd) (frs : List Env) (Y : List Addr) (t : Expr) (I : Addr) (k : AV → IT → Bool) (ω : Wd) (σ : Sto) (s : Shared) (v : Value) (s' : Shared) : Prop :=
  ∃ av it' ω', k av it' = true ∧ St G frs Y ω s ω' σ s' ∧ VR ω' s'.heap v av ∧ ItR ω' s'.heap I it' Y ∧ TgtOK t it'
theorem it_next {A : Around} {n : Nat} {t : Expr} {I : Addr} {it : IT} {k : AV → IT → Bool} {e : Bool} (hA : Room A n) (R : Rep G.toGl frs ω σ s.heap) (hY : ∀ y ∈ Y, Loose G.toGl frs X ω s.heap y) (x : ItR ω s.heap I it Y) (hk : itK it σ k e = true) (ht : TgtOK t it) :
    wpAny (model G.prog G.w) A (pyNext (.ref I)) (fun r s₁ => match r with
      | some v => wpAny (model G.prog G.w) A (letOwnedTupleGo t (.ref I) v) (fun _ s₂ => Turn G frs Y t I k ω σ s v s₂) (fun _ _ => False) s₁
      | none => e = true ∧ Ended Y s s₁) (fun _ _ => False) s := by
  cases x with
  | @b b x =>
    have hk' : bsK b σ (fun v x => k v (.b x)) e = true := hk
    rcases bs_next R x hk' with @⟨y, v, av, b', ei, yi, ys, hv, V, hk2, hB, hsrc⟩ | @⟨y, ei, yi, ys, hv, he, hsrc⟩
    · subst ei
      refine It1.pyItem yi ys hv fun h₁ yi₁ hs₁ => ?_
      refine wpAny_of_eq (ht _ _) ?_
      have S : St G frs [y.it] ω s ω σ { s with heap := h₁, toks := s.toks } := St.looseAll (s := s) R hY (fun c o hc q => (hs₁.2 c (fun z => hc (z ▸ .head _))).trans q) (fun z hz => by rw [List.mem_singleton.mp hz]; exact It1.nextLive yi₁) s.toks
      have L := St.laterY R hY S
      exact ⟨av, _, ω, hk2, S, L.vr V, .b (hB ω h₁ L yi₁), ht⟩
    · subst ei
      refine It1.pyStop hA.1 yi ys hv fun h₁ hs₁ => ⟨he, fun c o hc q => hs₁ c o (fun z => hc (z ▸ .head _)) q, rfl, rfl, rfl⟩
  | @rng lo m x =>
    cases m with
    | zero => exact wpAny_pyNext_range_end hA.1 x (Int.le_refl _) fun h₁ hs₁ => ⟨hk, fun c o hc q => hs₁ c o (fun z => hc (z ▸ .head _)) q, rfl, rfl, rfl⟩
    | succ m =>
      have hk' : fI (Int.add lo 1) (fun lo' => k (.int lo) (.rng lo' m)) = true := hk
      rw [fI_eq] at hk'
      refine wpAny_pyNext_range_item x (by omega) fun h₁ x₁ hs₁ => ?_
      refine wpAny_of_eq (ht _ _) ?_
      have S : St G frs [I] ω s ω σ { s with heap := h₁, toks := s.toks + 1 } := St.looseAll (s := s) R hY (fun c o hc q => (hs₁.2 c (fun z => hc (z ▸ .head _))).trans q) (fun z hz => by rw [List.mem_singleton.mp hz]; exact ⟨_, x₁⟩) _
      refine ⟨_, _, ω, hk', S, .int _ _, .rng ?_, ht⟩
      have : (((m + 1 : Nat) : Int) - 1) = ((m : Nat) : Int) := by omega
      rw [this] at x₁
      exact x₁
  | @enm b j it old xe x hne =>
    have hk' : bsK b σ (fun v x => fI (Int.add ((j : Nat) : Int) 1) fun n' => k (.tup [.int ((j : Nat) : Int), v]) (.enm x n')) e = true := hk
    obtain ⟨elts, kk, p, rfl⟩ := ht
    have hI : I ∈ [I, it] := .head _
    have hit : it ∈ [I, it] := .tail _ (.head _)
    rcases bs_next R x hk' with @⟨y, v, av, b', ei, yi, ys, hv, V, hk2, hB, hsrc⟩ | @⟨y, ei, yi, ys, hv, he, hsrc⟩
    · subst ei
      rw [fI_eq] at hk2
      have hsi := It1.ne hY hsrc hit
      have hsI := It1.ne hY hsrc hI
      have hlt : y.pos < y.vs.length := (List.getElem?_eq_some_iff.mp hv).1
      refine wpAny_pyNext_enum_itemD (It1.drawsAt (A := A.in1) hA.1 y hsi j) xe (i := j) ⟨Nat.le_refl _, by rw [Nat.sub_self]; exact yi, ys⟩ (by omega) hne (by simp; exact ⟨hne, fun q => hsI q.symm⟩) fun v' h₁ tk hv' xo st ht₁ hsz hkp => ?_
      rw [Nat.sub_self, Nat.add_zero, hv] at hv'
      cases hv'
      refine wpAny_letOwnedTupleGo_enum xo fun h₂ xe₂ hs₂ => ?_
      have T0 : s.heap.get? s.heap.objs.size = none := push_none _
      have TI : s.heap.objs.size ≠ I := fun q => live_ne (hY I hI).live T0 q.symm
      have kp : ∀ c o, c ∉ [I, y.it] → s.heap.get? c = some o → h₂.get? c = some o := fun c o hc q => (hs₂.2 c (fun z => hc (z ▸ hI))).trans (hkp c o (fun z => hc (z ▸ hI)) (fun z => hc (z ▸ hit)) q)
      have yi₁ : y.next.Iter h₂ := by
        have := st.2.1
        rw [show y.pos + (j + 1 - j) = y.pos + 1 by omega] at this
        exact It1.up (x := y.next) this fun o q => (hs₂.2 _ (Ne.symm hne)).trans q
      have hT := (hs₂.2 _ TI).trans ht₁
      have S := St.looseNew (s := s) (Y := [I, y.it]) R hY kp (fun z hz => by
        rcases List.mem_cons.mp hz with rfl | hz
        · exact ⟨_, xe₂⟩
        · rw [List.mem_singleton.mp hz]; exact It1.nextLive yi₁) [s.heap.objs.size] (fun a q => by rw [List.mem_singleton.mp q]; exact ⟨T0, _, hT⟩) (tk + 1)
      have L := St.laterY R hY S
      refine ⟨_, _, _, hk2, S, .tup (vs := [.int ((j : Nat) : Int) tk, v]) (.head _) ⟨_, hT, rfl, _, rfl⟩ (.cons (.int _ _) (VRs.one (L.vr V))), ?_, elts, kk, p, rfl⟩
      have : Int.add ((j : Nat) : Int) 1 = (((j + 1 : Nat)) : Int) := rfl
      rw [this]
      exact .enm xe₂ (hB _ _ L yi₁) hne
    · subst ei
      have hsi := It1.ne hY hsrc hit
      have hge : y.vs.length ≤ y.pos := List.getElem?_eq_none_iff.mp hv
      refine wpAny_pyNext_enum_endD (It1.drawsAt (A := A.in1) hA.1 y hsi j) xe ⟨by omega, by rw [show y.pos + (j + (y.vs.length - y.pos) - j) = y.pos by omega]; exact yi, ys⟩ fun h₁ hs₁ => ⟨he, fun c o hc q => hs₁ c o (fun z => hc (z ▸ hit)) q, rfl, rfl, rfl⟩
  | @zip l TI TO is old xz xti xto ho h64 B hne hnd =>
    have hk' : bssK σ e l (fun vs l => k (.tup vs) (.zip l)) = true := hk
    obtain ⟨elts, kk, p, rfl⟩ := ht
    have hz : I ∈ I :: TI :: TO :: is := .head _
    have hTI : TI ∈ I :: TI :: TO :: is := .tail _ (.head _)
    have hTO : TO ∈ I :: TI :: TO :: is := .tail _ (.tail _ (.head _))
    obtain ⟨n1, hnd1⟩ := List.nodup_cons.mp hnd
    obtain ⟨n2, hnd2⟩ := List.nodup_cons.mp hnd1
    obtain ⟨n3, hnd3⟩ := List.nodup_cons.mp hnd2
    have hzI : I ≠ TI := fun q => n1 (q ▸ .head _)
    have hzT : I ≠ TO := fun q => n1 (q ▸ .tail _ (.head _))
    have hTT : TI ≠ TO := fun q => n2 (q ▸ .head _)
    have hi : ∀ i ∈ is, i ∈ I :: TI :: TO :: is ∧ i ≠ I ∧ i ≠ TO ∧ i ≠ TI := fun i hi => ⟨.tail _ (.tail _ (.tail _ hi)), fun q => n1 (q ▸ .tail _ (.tail _ hi)), fun q => n3 (q ▸ hi), fun q => n2 (q ▸ .tail _ hi)⟩
    refine zip_next (Q := _) (E := fun _ _ => False) hA.1 R hY hz hTI hTO hzT hzI hTT hi hnd3 hne xz xti xto ho h64 B hk' ?_ fun he h₁ hkp => ⟨he, hkp, rfl, rfl, rfl⟩
    intro vs avs l' s₁ T hkp hal hgd T0 TY hT hvs V hk2 B₁ hto₁ hti₁ hz₁
    refine wpAny_letOwnedTupleGo_zip hz₁ fun h₂ hz₂ hs₂ => ?_
    have TI' : T ≠ I := fun q => TY (q ▸ hz)
    have kp : ∀ c o, c ∉ I :: TI :: TO :: is → s.heap.get? c = some o → h₂.get? c = some o := fun c o hc q => (hs₂.2 c (fun z => hc (z ▸ hz))).trans (hkp c o hc q)
    have S : St G frs (I :: TI :: TO :: is) ω s { ω with fz := [T] ++ ω.fz } σ { s with heap := h₂, toks := s₁.toks } := St.looseNew (s := s) R hY kp (fun y hy => by
      by_cases y1 : y = I
      · subst y1; exact ⟨_, hz₂⟩
      · obtain ⟨o, ho⟩ := hal y hy
        exact ⟨o, (hs₂.2 y y1).trans ho⟩) [T] (fun a q => by rw [List.mem_singleton.mp q]; exact ⟨T0, _, (hs₂.2 _ TI').trans hT⟩) s₁.toks
    have e2 : ({ s with heap := h₂, toks := s₁.toks } : Shared) = { s₁ with heap := h₂ } := by
      obtain ⟨g1, g2, g3⟩ := hgd
      rw [← g1, ← g2, ← g3]
    rw [e2] at S
    have L₂ : Later ω s₁.heap { ω with fz := [T] ++ ω.fz } h₂ := ⟨fun a q => .tail _ q, fun _ _ q => q, fun _ _ q => q, fun b hb o q => (hs₂.2 b (fun z => (hY I hz).fz (z ▸ hb))).trans q⟩
    refine ⟨_, _, _, hk2, S, .tup (.head _) ⟨_, (hs₂.2 _ TI').trans hT, rfl, _, rfl⟩ (L₂.vrs V), ?_, elts, kk, p, rfl⟩
    have hvl := V.length
    have hl' := B₁.length
    have hl := B.length
    refine .zip hz₂ ((hs₂.2 _ (Ne.symm hzI)).trans hti₁) ((hs₂.2 _ (Ne.symm hzT)).trans hto₁) ?_ ?_ (B₁.later L₂ fun i q o z => (hs₂.2 i (hi i q).2.1).trans z) hne hnd
    · omega
    · omega
end
end
end Mine
namespace Mine
section
open PySem PySem.W PyProof.Rows PySem.Calls PySem.Spec

noncomputable def IT.pair : IT → Bool
  | .zip _ => true
  | .enm _ _ => true
  | _ => false
noncomputable def OkI (G : Gd) (frs : List Env) (X : List Addr) (p : Bool) (ω : Wd) (s : Shared) (k : IT → Sto → Bool) (v : Value) (s' : Shared) : Prop :=
  ∃ it ω' σ' a Y, k it σ' = true ∧ v = .ref a ∧ it.pair = p ∧ St G frs [] ω s ω' σ' s' ∧ (∀ y ∈ Y, Loose G.toGl frs X ω' s'.heap y ∧ s.heap.get? y = none) ∧ ItR ω' s'.heap a it Y
/-- the code of what a for goes along -/
noncomputable def SI (G : Gd) (n : Nat) (Γ : Ct) (p : Bool) (c : CI) (e : Expr) : Prop :=
  ∀ (A : Around) (frs : List Env) (env : Env) (X : List Addr) (fr : Fra) (ω : Wd) (σ : Sto) (s : Shared) (k : IT → Sto → Bool) (x : KX),
    Room A n → A.frames = some frs → Rep G.toGl frs ω σ s.heap → FrOK G.toGl frs Γ env X fr ω s.heap → c fr σ k x = true →
    wpAny (model G.prog G.w) A (eval e env) (fun xv s₁ => wpAny (model G.prog G.w) A (pyIter xv) (OkI G frs X p ω s k) (ExV G frs [] ω s x) s₁) (ExV G frs [] ω s x) s
section
variable {G : Gd} {frs : List Env} {X Y : List Addr} {ω ω₁ ω' : Wd} {σ σ₁ σ' : Sto} {s s₁ s' : Shared} {p : Bool} {k : IT → Sto → Bool}
theorem OkI.after {v : Value} (a : St G frs [] ω s ω₁ σ₁ s₁) (b : OkI G frs X p ω₁ s₁ k v s') : OkI G frs X p ω s k v s' := by
  obtain ⟨it, ω', σ', I, Y, h1, h2, h3, h4, h5, h6⟩ := b
  exact ⟨it, ω', σ', I, Y, h1, h2, h3, a.then h4, fun y hy => ⟨(h5 y hy).1, a.step.back (h5 y hy).2⟩, h6⟩
theorem base_inv {h : Heap} {v : Value} {av : AV} {kk : Bs → Bool} (R : Rep G.toGl frs ω σ h) (V : VR ω h v av) (hk : baseK av σ kk = true) :
    ∃ kd src its b, v = .ref src ∧ SrcIs kd h src its ∧ kk b = true ∧ ∀ ω' h' it, Later ω h ω' h' → (∀ o, h.get? src = some o → h'.get? src = some o) → h'.get? it = some (iterObj kd src) → BsR ω' h' it b := by
  cases av with
  | tup l =>
    obtain ⟨a, vs, rfl, ha, q, V'⟩ := V.tup_inv
    exact ⟨true, a, vs, .seq l, rfl, q, hk, fun ω' h' it L hs e => .seq (x := ⟨true, it, a, 0, vs⟩) rfl (iterObj_iter e) (SrcIs.up (kd := true) (vs := vs) q hs) (fun q => by cases q) (L.fz _ ha) (L.vrs V')⟩
  | lst l =>
    obtain ⟨a, vs, rfl, ha, q, V'⟩ := V.lst_inv
    exact ⟨false, a, vs, .seq l, rfl, q.isList, hk, fun ω' h' it L hs e => .seq (x := ⟨false, it, a, 0, vs⟩) rfl (iterObj_iter e) (SrcIs.up (kd := false) (vs := vs) q.isList hs) (fun _ => by obtain ⟨n, z⟩ := q; exact ⟨n, hs _ z⟩) (L.fz _ ha) (L.vrs V')⟩
  | obj i =>
    obtain ⟨o, eo, ho⟩ := getO_inv (k := fun o => @AO.rec (fun _ => Bool) (fun _ => kk (.lst i 0)) (fun _ _ => false) (fun _ => false) (fun _ => false) false (fun _ => false) o) hk
    cases o with
    | list l =>
      obtain ⟨a, rfl, ea, vs, q, V'⟩ := R.at V eo
      exact ⟨false, a, vs, .lst i 0, rfl, q.isList, ho, fun ω' h' it L hs e => .lst (iterObj_iter (kd := false) (vs := vs) e) (L.rho _ _ ea)⟩
    | _ => exact (nomatch (show false = true from ho))
  | _ => exact (nomatch (show false = true from hk))
theorem iterObj_live (kd : Bool) (src : Addr) : (iterObj kd src).isFreed = false := by cases kd <;> rfl
end
section
variable {G : Gd} {n : Nat} {Γ : Ct} {a b c : CV} {l r e : Expr} {pos np : Pos}
theorem SI.ex (ha : SE G n Γ a e) : SI G n Γ false (iEx a) e := by
  intro A frs env X fr ω σ s k x hA hF R F h
  refine ha.then hA hF R F h fun v s₁ av ω₁ σ₁ S V h₁ => ?_
  obtain ⟨kd, src, its, b, rfl, hs, hk, hB⟩ := base_inv S.rep V h₁
  refine pyIter_src hs ?_
  have T := St.scratch (s := s₁) S.rep (iterObj kd src)
  refine OkI.after S ⟨_, ω₁, σ₁, _, [s₁.heap.objs.size], hk, rfl, rfl, T, fun y hy => ?_, .b (hB _ _ _ (T.later S.rep) (fun o q => Heap.get?_push_of_some _ q) (Heap.get?_push_size _ (iterObj_live _ _)))⟩
  rw [List.mem_singleton.mp hy]
  exact ⟨Loose.new (s := s₁) S.rep (S.fr R F).low (push_none _) ⟨_, Heap.get?_push_size _ (iterObj_live _ _)⟩, push_none _⟩
theorem rangeIt {A : Around} {frs : List Env} {X : List Addr} {ω : Wd} {s s₁ : Shared} {k : IT → Sto → Bool} {v : Value} {E : Value → Shared → Prop} (hX : ∀ a ∈ X, ∃ o, s.heap.get? a = some o) (h : OkR G frs ω s (fun lo n σ => k (.rng lo n) σ) v s₁) :
    wpAny (model G.prog G.w) A (pyIter v) (OkI G frs X false ω s k) E s₁ := by
  obtain ⟨lo, m, ω', σ', r, b, t, u, w, h1, S, rfl, hr, hsm, hn, hl, _⟩ := h
  refine wpAny_pyIter_range hr hsm ?_
  have T := St.scratch (s := s₁) S.rep { cls := .type "range_iterator", data := .fields #[rawInt lo, rawInt (Builtin.Range.rangeSize lo b 1), rawInt 1] }
  rw [hn] at T ⊢
  refine OkI.after S ⟨_, ω', σ', _, [s₁.heap.objs.size], h1, rfl, rfl, T, fun y hy => ?_, .rng (Heap.get?_push_size _ rfl)⟩
  rw [List.mem_singleton.mp hy]
  exact ⟨Loose.new (s := s₁) S.rep (fun a ha => by obtain ⟨o, ho⟩ := hX a ha; exact S.step.alive a o ho) (push_none _) ⟨_, Heap.get?_push_size _ rfl⟩, push_none _⟩
theorem SI.rng (hg : GlobV G "range" (.type "range")) (hx : ("range" : Str) ∈ Γ.globs) (hb : SE G n Γ b r) (hs : ∀ env rest, starEach (r :: rest) env = (false, eval r env) :: starEach rest env) :
    SI G n Γ false (iRng Option.none b) (.Call (.Name "range" np) [r] [] pos) := fun A frs env X fr ω σ s k x hA hF R F h =>
  wpAny_mono (SE.range hg hx hb hs hA hF R F h) (fun v s₁ q => rangeIt F.low q) fun _ _ q => q
theorem SI.rng2 (hg : GlobV G "range" (.type "range")) (hx : ("range" : Str) ∈ Γ.globs) (ha : SE G n Γ a l) (hs₀ : ∀ env rest, starEach (l :: rest) env = (false, eval l env) :: starEach rest env) (hb : SE G n Γ b r) (hs : ∀ env rest, starEach (r :: rest) env = (false, eval r env) :: starEach rest env) :
    SI G n Γ false (iRng (some a) b) (.Call (.Name "range" np) [l, r] [] pos) := fun A frs env X fr ω σ s k x hA hF R F h =>
  wpAny_mono (SE.range2 hg hx ha hs₀ hb hs hA hF R F h) (fun v s₁ q => rangeIt F.low q) fun _ _ q => q
theorem SI.enm (hg : GlobV G "enumerate" (.type "enumerate")) (hx : ("enumerate" : Str) ∈ Γ.globs) (ha : SE G n Γ a e) (hs : ∀ env rest, starEach (e :: rest) env = (false, eval e env) :: starEach rest env) :
    SI G n Γ true (iEnm a) (.Call (.Name "enumerate" np) [e] [] pos) := by
  intro A frs env X fr ω σ s k x hA hF R F h
  refine callName (k := K1 fun v σ => baseK v σ fun b => k (.enm b 0) σ) hg hx (.type _) (.cons ha hs .nil) hA hF R F h fun vs s₁ l ω₁ σ₁ hl S V q => ?_
  obtain ⟨av, rfl, q'⟩ := K1_inv q
  obtain ⟨v, rfl, V'⟩ := V.one_inv
  obtain ⟨kd, src, its, b, rfl, hs', hk, hB⟩ := base_inv S.rep V' q'
  refine call_enumerateI hs' fun h' he hi hsz hkp => ?_
  refine wpAny_pyIter_enum he ?_
  have T : St G frs [] ω₁ s₁ ω₁ σ₁ { s₁ with heap := h', toks := s₁.toks } := St.keep0 (s := s₁) S.rep hkp s₁.toks
  have hne : s₁.heap.objs.size + 1 ≠ s₁.heap.objs.size := by omega
  have e0 : s₁.heap.get? (s₁.heap.objs.size + 1) = Option.none := Heap.get?_none_of_le (Nat.le_succ _)
  refine OkI.after S ⟨_, ω₁, σ₁, _, [s₁.heap.objs.size + 1, s₁.heap.objs.size], hk, rfl, rfl, T, fun y hy => ?_, .enm (k := 0) he (hB _ _ _ (T.later S.rep) (fun o q => hkp _ _ q) hi) hne⟩
  have FX := (S.fr R F).low
  rcases List.mem_cons.mp hy with rfl | hy
  · exact ⟨Loose.new (s := s₁) S.rep FX e0 ⟨_, he⟩, e0⟩
  · rw [List.mem_singleton.mp hy]
    exact ⟨Loose.new (s := s₁) S.rep FX (push_none _) ⟨_, hi⟩, push_none _⟩
end
namespace Zf
theorem typeCall3 (a b c : Value) : checkTypeCall "zip" ⟨[a, b, c], []⟩ = pure () := by kernel_rfl
theorem newCall3 (a b c : Value) : checkBuiltinCall "zip.__new__" ⟨[.type "zip", a, b, c], []⟩ = pure () := by kernel_rfl
theorem init4 (a b c d : Value) : argsOk "object.__init__" ⟨[a, b, c, d], []⟩ := by
  unfold argsOk; rw [PySem.signature?_of (id := "object.__init__") (n := ['_', '_', 't', 'i', 'n', 'i', '_', '_']) (o := ['t', 'c', 'e', 'j', 'b', 'o']) (by kernel_rfl) PySem.F.owner_object]; kernel_rfl
end Zf
section
variable {prog : Program} {w : World} {A : Around} {E : Value → Shared → Prop} {s : Shared}
theorem call_zip2I {k1 k2 : Bool} {l1 l2 : Addr} {xs ys : List Value} {Q : Value → Shared → Prop} (hl1 : SrcIs k1 s.heap l1 xs) (hl2 : SrcIs k2 s.heap l2 ys)
    (h : ∀ h', IsZip h' (s.heap.objs.size + 4) (s.heap.objs.size + 2) (s.heap.objs.size + 3) .none → h'.get? (s.heap.objs.size + 2) = some (tupObj #[.ref s.heap.objs.size, .ref (s.heap.objs.size + 1)]) →
      h'.get? (s.heap.objs.size + 3) = some (tupObj #[.none, .none]) → h'.get? s.heap.objs.size = some (iterObj k1 l1) → h'.get? (s.heap.objs.size + 1) = some (iterObj k2 l2) →
      (∀ c o, s.heap.get? c = some o → h'.get? c = some o) → Q (.ref (s.heap.objs.size + 4)) { s with heap := h' }) :
    wpAny (model prog w) A (call (.type "zip") [.ref l1, .ref l2]) Q E s := by
  refine callType_new PySem.F.called_zip (by decide) (PySem.F.typeCall_zip_2 _ _) (PySem.F.newCall_zip_2 _ _) (fun obj => PySem.F.args_object_init_3 obj _ _) PySem.F.entry_zip_new
    (meets_zip_new2 k1 k2 l1 l2 xs ys) ⟨hl1, hl2, fun h1 h2 h3 h4 h5 e1 e2 e3 e4 e5 => ?_⟩
  have z1 : h1.objs.size = s.heap.objs.size + 1 := by rw [e1, Heap.size_push]
  have z2 : h2.objs.size = s.heap.objs.size + 2 := by rw [e2, Heap.size_push, z1]
  have z3 : h3.objs.size = s.heap.objs.size + 3 := by rw [e3, Heap.size_push, z2]
  have z4 : h4.objs.size = s.heap.objs.size + 4 := by rw [e4, Heap.size_push, z3]
  have up1 : ∀ c o, s.heap.get? c = some o → h1.get? c = some o := fun c o q => by rw [e1]; exact Heap.get?_push_of_some _ q
  have up2 : ∀ c o, h1.get? c = some o → h2.get? c = some o := fun c o q => by rw [e2]; exact Heap.get?_push_of_some _ q
  have up3 : ∀ c o, h2.get? c = some o → h3.get? c = some o := fun c o q => by rw [e3]; exact Heap.get?_push_of_some _ q
  have up4 : ∀ c o, h3.get? c = some o → h4.get? c = some o := fun c o q => by rw [e4]; exact Heap.get?_push_of_some _ q
  have up5 : ∀ c o, h4.get? c = some o → h5.get? c = some o := fun c o q => by rw [e5]; exact Heap.get?_push_of_some _ q
  have g1 : h1.get? s.heap.objs.size = some (iterObj k1 l1) := by rw [e1]; exact Heap.get?_push_size _ (iterObj_live _ _)
  have g2 : h2.get? (s.heap.objs.size + 1) = some (iterObj k2 l2) := by rw [← z1, e2]; exact Heap.get?_push_size _ (iterObj_live _ _)
  have g3 : h3.get? (s.heap.objs.size + 2) = some (tupObj #[.ref s.heap.objs.size, .ref (s.heap.objs.size + 1)]) := by rw [← z2, ← z1, e3]; exact Heap.get?_push_size _ rfl
  have g4 : h4.get? (s.heap.objs.size + 3) = some (tupObj #[.none, .none]) := by rw [← z3, e4]; exact Heap.get?_push_size _ rfl
  have g5 : IsZip h5 (s.heap.objs.size + 4) (s.heap.objs.size + 2) (s.heap.objs.size + 3) .none := by
    show h5.get? (s.heap.objs.size + 4) = some (zipObj (s.heap.objs.size + 2) (s.heap.objs.size + 3))
    rw [← z4, ← z2, ← z3, e5]
    exact Heap.get?_push_size _ rfl
  show _ ∧ _
  rw [z4]
  exact ⟨⟨_, g5, rfl⟩, h h5 g5 (up5 _ _ (up4 _ _ g3)) (up5 _ _ g4) (up5 _ _ (up4 _ _ (up3 _ _ (up2 _ _ g1)))) (up5 _ _ (up4 _ _ (up3 _ _ g2))) fun c o q => up5 _ _ (up4 _ _ (up3 _ _ (up2 _ _ (up1 _ _ q))))⟩
theorem call_zip3I {k1 k2 k3 : Bool} {l1 l2 l3 : Addr} {xs ys zs : List Value} {Q : Value → Shared → Prop} (hl1 : SrcIs k1 s.heap l1 xs) (hl2 : SrcIs k2 s.heap l2 ys) (hl3 : SrcIs k3 s.heap l3 zs)
    (h : ∀ h', IsZip h' (s.heap.objs.size + 5) (s.heap.objs.size + 3) (s.heap.objs.size + 4) .none → h'.get? (s.heap.objs.size + 3) = some (tupObj #[.ref s.heap.objs.size, .ref (s.heap.objs.size + 1), .ref (s.heap.objs.size + 2)]) →
      h'.get? (s.heap.objs.size + 4) = some (tupObj #[.none, .none, .none]) → h'.get? s.heap.objs.size = some (iterObj k1 l1) → h'.get? (s.heap.objs.size + 1) = some (iterObj k2 l2) → h'.get? (s.heap.objs.size + 2) = some (iterObj k3 l3) →
      (∀ c o, s.heap.get? c = some o → h'.get? c = some o) → Q (.ref (s.heap.objs.size + 5)) { s with heap := h' }) :
    wpAny (model prog w) A (call (.type "zip") [.ref l1, .ref l2, .ref l3]) Q E s := by
  refine callType_new PySem.F.called_zip (by decide) (Zf.typeCall3 _ _ _) (Zf.newCall3 _ _ _) (fun obj => Zf.init4 obj _ _ _) PySem.F.entry_zip_new
    (meets_zip_new3 k1 k2 k3 l1 l2 l3 xs ys zs) ⟨hl1, hl2, hl3, fun h1 h2 hm h3 h4 h5 e1 e2 em e3 e4 e5 => ?_⟩
  have z1 : h1.objs.size = s.heap.objs.size + 1 := by rw [e1, Heap.size_push]
  have z2 : h2.objs.size = s.heap.objs.size + 2 := by rw [e2, Heap.size_push, z1]
  have zm : hm.objs.size = s.heap.objs.size + 3 := by rw [em, Heap.size_push, z2]
  have z3 : h3.objs.size = s.heap.objs.size + 4 := by rw [e3, Heap.size_push, zm]
  have z4 : h4.objs.size = s.heap.objs.size + 5 := by rw [e4, Heap.size_push, z3]
  have up1 : ∀ c o, s.heap.get? c = some o → h1.get? c = some o := fun c o q => by rw [e1]; exact Heap.get?_push_of_some _ q
  have up2 : ∀ c o, h1.get? c = some o → h2.get? c = some o := fun c o q => by rw [e2]; exact Heap.get?_push_of_some _ q
  have upm : ∀ c o, h2.get? c = some o → hm.get? c = some o := fun c o q => by rw [em]; exact Heap.get?_push_of_some _ q
  have up3 : ∀ c o, hm.get? c = some o → h3.get? c = some o := fun c o q => by rw [e3]; exact Heap.get?_push_of_some _ q
  have up4 : ∀ c o, h3.get? c = some o → h4.get? c = some o := fun c o q => by rw [e4]; exact Heap.get?_push_of_some _ q
  have up5 : ∀ c o, h4.get? c = some o → h5.get? c = some o := fun c o q => by rw [e5]; exact Heap.get?_push_of_some _ q
  have g1 : h1.get? s.heap.objs.size = some (iterObj k1 l1) := by rw [e1]; exact Heap.get?_push_size _ (iterObj_live _ _)
  have g2 : h2.get? (s.heap.objs.size + 1) = some (iterObj k2 l2) := by rw [← z1, e2]; exact Heap.get?_push_size _ (iterObj_live _ _)
  have gm : hm.get? (s.heap.objs.size + 2) = some (iterObj k3 l3) := by rw [← z2, em]; exact Heap.get?_push_size _ (iterObj_live _ _)
  have g3 : h3.get? (s.heap.objs.size + 3) = some (tupObj #[.ref s.heap.objs.size, .ref (s.heap.objs.size + 1), .ref (s.heap.objs.size + 2)]) := by rw [← zm, ← z1, ← z2, e3]; exact Heap.get?_push_size _ rfl
  have g4 : h4.get? (s.heap.objs.size + 4) = some (tupObj #[.none, .none, .none]) := by rw [← z3, e4]; exact Heap.get?_push_size _ rfl
  have g5 : IsZip h5 (s.heap.objs.size + 5) (s.heap.objs.size + 3) (s.heap.objs.size + 4) .none := by
    show h5.get? (s.heap.objs.size + 5) = some (zipObj (s.heap.objs.size + 3) (s.heap.objs.size + 4))
    rw [← z4, ← zm, ← z3, e5]
    exact Heap.get?_push_size _ rfl
  show _ ∧ _
  rw [z4]
  exact ⟨⟨_, g5, rfl⟩, h h5 g5 (up5 _ _ (up4 _ _ g3)) (up5 _ _ g4) (up5 _ _ (up4 _ _ (up3 _ _ (upm _ _ (up2 _ _ g1))))) (up5 _ _ (up4 _ _ (up3 _ _ (upm _ _ g2)))) (up5 _ _ (up4 _ _ (up3 _ _ gm))) fun c o q => up5 _ _ (up4 _ _ (up3 _ _ (upm _ _ (up2 _ _ (up1 _ _ q)))))⟩
end
end
end Mine
namespace Mine
section
open PySem PySem.W PyProof.Rows PySem.Calls PySem.Spec

section
variable {G : Gd} {n : Nat} {Γ : Ct} {a b c : CV} {l r e f : Expr} {pos np : Pos}
theorem VRs.three_inv {ω : Wd} {h : Heap} {vs : List Value} {a b c : AV} (V : VRs ω h vs [a, b, c]) : ∃ v w z, vs = [v, w, z] ∧ VR ω h v a ∧ VR ω h w b ∧ VR ω h z c := by
  cases V with | cons p q => cases q with | cons q r => cases r with | cons r t => cases t; exact ⟨_, _, _, rfl, p, q, r⟩
theorem K3_inv {f : AV → AV → AV → Sto → Bool} {l : List AV} {σ : Sto} (h : K3 f l σ = true) : ∃ a b c, l = [a, b, c] ∧ f a b c σ = true := by
  match l, h with
  | [a, b, c], h => exact ⟨a, b, c, rfl, h⟩
theorem SI.zip2 (hg : GlobV G "zip" (.type "zip")) (hx : ("zip" : Str) ∈ Γ.globs) (ha : SE G n Γ a e) (hs : ∀ env rest, starEach (e :: rest) env = (false, eval e env) :: starEach rest env) (hb : SE G n Γ b r) (hs' : ∀ env rest, starEach (r :: rest) env = (false, eval r env) :: starEach rest env) :
    SI G n Γ true (iZip [a, b]) (.Call (.Name "zip" np) [e, r] [] pos) := by
  intro A frs env X fr ω σ s k x hA hF R F h
  refine callName (k := K2 fun u v σ => baseK u σ fun b1 => baseK v σ fun b2 => k (.zip [b1, b2]) σ) hg hx (.type _) (.cons ha hs (.cons hb hs' .nil)) hA hF R F h fun vs s₁ l ω₁ σ₁ hl S V q => ?_
  obtain ⟨av, bv, rfl, q'⟩ := K2_inv q
  obtain ⟨v, w, rfl, V', W'⟩ := V.two_inv
  obtain ⟨kd, src, its, b1, rfl, hs1, q1, hB1⟩ := base_inv S.rep V' q'
  obtain ⟨kd2, src2, its2, b2, rfl, hs2, q2, hB2⟩ := base_inv S.rep W' q1
  refine call_zip2I hs1 hs2 fun h' hz hTI hTO hi1 hi2 hkp => ?_
  refine wpAny_pyIter_zip hz ?_
  have T : St G frs [] ω₁ s₁ ω₁ σ₁ { s₁ with heap := h', toks := s₁.toks } := St.keep0 (s := s₁) S.rep hkp s₁.toks
  have L := T.later S.rep
  have FX := (S.fr R F).low
  have new : ∀ d, s₁.heap.get? (s₁.heap.objs.size + d) = Option.none := fun d => Heap.get?_none_of_le (Nat.le_add_right _ _)
  have lo : ∀ d, (∃ o, h'.get? (s₁.heap.objs.size + d) = some o) → Loose G.toGl frs X ω₁ h' (s₁.heap.objs.size + d) ∧ s₁.heap.get? (s₁.heap.objs.size + d) = Option.none := fun d ho => ⟨Loose.new (s := s₁) S.rep FX (new d) ho, new d⟩
  refine OkI.after S ⟨_, ω₁, σ₁, _, [s₁.heap.objs.size + 4, s₁.heap.objs.size + 2, s₁.heap.objs.size + 3, s₁.heap.objs.size + 0, s₁.heap.objs.size + 1], q2, rfl, rfl, T, fun y hy => ?_,
    .zip (old := [.none, .none]) hz hTI hTO rfl (by decide) (.cons (hB1 _ _ _ L (fun o q => hkp _ _ q) hi1) (.cons (hB2 _ _ _ L (fun o q => hkp _ _ q) hi2) .nil)) (by simp) ?_⟩
  · simp only [List.mem_cons, List.not_mem_nil, or_false] at hy
    rcases hy with rfl | rfl | rfl | rfl | rfl
    · exact lo 4 ⟨_, hz⟩
    · exact lo 2 ⟨_, hTI⟩
    · exact lo 3 ⟨_, hTO⟩
    · exact lo 0 ⟨_, hi1⟩
    · exact lo 1 ⟨_, hi2⟩
  · simp
theorem SI.zip3 (hg : GlobV G "zip" (.type "zip")) (hx : ("zip" : Str) ∈ Γ.globs) (ha : SE G n Γ a e) (hs : ∀ env rest, starEach (e :: rest) env = (false, eval e env) :: starEach rest env) (hb : SE G n Γ b r) (hs' : ∀ env rest, starEach (r :: rest) env = (false, eval r env) :: starEach rest env)
    (hc : SE G n Γ c f) (hs'' : ∀ env rest, starEach (f :: rest) env = (false, eval f env) :: starEach rest env) :
    SI G n Γ true (iZip [a, b, c]) (.Call (.Name "zip" np) [e, r, f] [] pos) := by
  intro A frs env X fr ω σ s k x hA hF R F h
  refine callName (k := K3 fun u v w σ => baseK u σ fun b1 => baseK v σ fun b2 => baseK w σ fun b3 => k (.zip [b1, b2, b3]) σ) hg hx (.type _) (.cons ha hs (.cons hb hs' (.cons hc hs'' .nil))) hA hF R F h fun vs s₁ l ω₁ σ₁ hl S V q => ?_
  obtain ⟨av, bv, cv, rfl, q'⟩ := K3_inv q
  obtain ⟨v, w, z, rfl, V', W', Z'⟩ := V.three_inv
  obtain ⟨kd, src, its, b1, rfl, hs1, q1, hB1⟩ := base_inv S.rep V' q'
  obtain ⟨kd2, src2, its2, b2, rfl, hs2, q2, hB2⟩ := base_inv S.rep W' q1
  obtain ⟨kd3, src3, its3, b3, rfl, hs3, q3, hB3⟩ := base_inv S.rep Z' q2
  refine call_zip3I hs1 hs2 hs3 fun h' hz hTI hTO hi1 hi2 hi3 hkp => ?_
  refine wpAny_pyIter_zip hz ?_
  have T : St G frs [] ω₁ s₁ ω₁ σ₁ { s₁ with heap := h', toks := s₁.toks } := St.keep0 (s := s₁) S.rep hkp s₁.toks
  have L := T.later S.rep
  have FX := (S.fr R F).low
  have new : ∀ d, s₁.heap.get? (s₁.heap.objs.size + d) = Option.none := fun d => Heap.get?_none_of_le (Nat.le_add_right _ _)
  have lo : ∀ d, (∃ o, h'.get? (s₁.heap.objs.size + d) = some o) → Loose G.toGl frs X ω₁ h' (s₁.heap.objs.size + d) ∧ s₁.heap.get? (s₁.heap.objs.size + d) = Option.none := fun d ho => ⟨Loose.new (s := s₁) S.rep FX (new d) ho, new d⟩
  refine OkI.after S ⟨_, ω₁, σ₁, _, [s₁.heap.objs.size + 5, s₁.heap.objs.size + 3, s₁.heap.objs.size + 4, s₁.heap.objs.size + 0, s₁.heap.objs.size + 1, s₁.heap.objs.size + 2], q3, rfl, rfl, T, fun y hy => ?_,
    .zip (old := [.none, .none, .none]) hz hTI hTO rfl (by decide) (.cons (hB1 _ _ _ L (fun o q => hkp _ _ q) hi1) (.cons (hB2 _ _ _ L (fun o q => hkp _ _ q) hi2) (.cons (hB3 _ _ _ L (fun o q => hkp _ _ q) hi3) .nil))) (by simp) ?_⟩
  · simp only [List.mem_cons, List.not_mem_nil, or_false] at hy
    rcases hy with rfl | rfl | rfl | rfl | rfl | rfl
    · exact lo 5 ⟨_, hz⟩
    · exact lo 3 ⟨_, hTI⟩
    · exact lo 4 ⟨_, hTO⟩
    · exact lo 0 ⟨_, hi1⟩
    · exact lo 1 ⟨_, hi2⟩
    · exact lo 2 ⟨_, hi3⟩
  · simp
end

noncomputable def TgtP (t : Expr) (p : Bool) : Prop := if p then ∃ elts k q, t = .Tuple elts k q else ∀ I v, letOwnedTupleGo t I v = pure ()
theorem TgtP.of {t : Expr} {p : Bool} {it : IT} (h : TgtP t p) (e : it.pair = p) : TgtOK t it := by
  subst e
  cases it <;> exact h
section
variable {G : Gd} {frs : List Env} {X Y : List Addr} {ω₀ ω ω' : Wd} {σ σ' : Sto} {s₀ s s' : Shared} {Γ : Ct} {env : Env} {fr : Fra} {n : Nat}
/-- what came since: places made since may have turned -/
theorem St.since (a : St G frs X ω₀ s₀ ω σ s) (b : St G frs Y ω s ω' σ' s') (hY : ∀ y ∈ Y, s₀.heap.get? y = none) : St G frs X ω₀ s₀ ω' σ' s' := a.trans b fun y hy => .inr (hY y hy)
/-- an iterator's end, seen from ahead of it -/
theorem St.ended (a : St G frs X ω₀ s₀ ω σ s) (hY : ∀ y ∈ Y, Loose G.toGl frs X ω s.heap y ∧ s₀.heap.get? y = none) (e : Ended Y s s') : St G frs X ω₀ s₀ ω σ s' := by
  obtain ⟨hk, g1, g2, g3⟩ := e
  have R := a.rep
  have al : ∀ b o, s.heap.get? b = some o → b ∉ Y → ∃ o', s'.heap.get? b = some o' := fun b o e hb => ⟨o, hk b o hb e⟩
  have L : Later ω s.heap ω s'.heap := ⟨fun a q => q, fun _ _ q => q, fun _ _ q => q, fun b hb o e => hk b o (fun q => (hY b q).1.fz hb) e⟩
  have nY : ∀ b o, s₀.heap.get? b = some o → b ∉ Y := fun b o e q => by have := (hY b q).2; rw [e] at this; cases this
  refine ⟨⟨fun b o e => ?_, a.step.rho, a.step.fz, a.step.fz', a.step.nu, fun b o e hr hX => ?_⟩,
    ⟨fun j o e => ?_, R.len, R.nu, R.nodup, fun b q => ?_, fun b q => ?_, R.sep, R.fzF, fun b o e => hk b o (fun q => ?_) (R.base b o e), ?_, R.glob⟩, g1.trans a.gens, g2.trans a.drawn, g3.trans a.os⟩
  · obtain ⟨o', ho'⟩ := a.step.alive b o e
    exact al b o' ho' (nY b o e)
  · rcases a.step.keep b o e hr hX with q | ⟨q, sl, z⟩
    · exact .inl (hk b o (nY b o e) q)
    · exact .inr ⟨q, sl, hk b _ (nY b o e) z⟩
  · obtain ⟨b, eb, ob⟩ := R.objs j o e
    exact ⟨b, eb, ob.later L fun o e => hk _ _ (fun q => (hY b q).1.rho (List.mem_of_getElem? eb)) e⟩
  · obtain ⟨o, ho⟩ := R.low b q
    exact al b o ho fun z => (hY b z).1.rho q
  · obtain ⟨o, ho⟩ := R.lowz b q
    exact al b o ho fun z => (hY b z).1.fz q
  · have := (hY b q).1.base; rw [e] at this; cases this
  · exact funFrames_on R.frames fun b hb o e hd => ⟨o, hk b o (fun q => (hY b q).1.frame hb) e, hd⟩
theorem FrOK.ended (f : FrOK G.toGl frs Γ env X fr ω s.heap) (R : Rep G.toGl frs ω σ s.heap) (hY : ∀ y ∈ Y, Loose G.toGl frs X ω s.heap y) (hc : ∀ (i : Nat) x k, Γ.vars[i]? = some (x, k) → k ≠ .loc → ∀ c, env.cells.lookup x = some c → c ∉ Y) (e : Ended Y s s') : FrOK G.toGl frs Γ env X fr ω s'.heap := by
  obtain ⟨hk, g1, g2, g3⟩ := e
  have L : Later ω s.heap ω s'.heap := ⟨fun a q => q, fun _ _ q => q, fun _ _ q => q, fun b hb o e => hk b o (fun q => (hY b q).fz hb) e⟩
  have own : ∀ a ∈ X, a ∉ Y := fun a ha hy => (hY a hy).own ha
  obtain ⟨m, hns, hloc⟩ := f.loc
  refine ⟨f.e, ⟨m, ns_up hns fun o ho => ⟨o.slots, hk _ _ (own _ f.here) ho⟩, fun i x hx => (hloc i x hx).later L⟩, fun i x k hx hkk => ?_, f.apart, f.here, fun a ha => by obtain ⟨o, ho⟩ := f.low a ha; exact ⟨o, hk a o (own a ha) ho⟩, f.out, f.frame⟩
  obtain ⟨c, v, h1, h2, h3, h4, h5, h6⟩ := f.cel i x k hx hkk
  exact ⟨c, v, h1, cell_up h2 fun o ho => ⟨o.slots, hk c o (hc i x k hx hkk c h1) ho⟩, h3, h4, h5, h6.later L⟩
/-- the iterator stands behind a turn of the body -/
theorem body_keeps {I : Addr} {it : IT} (S : St G frs X ω s ω' σ' s') (R : Rep G.toGl frs ω σ s.heap) (f : ∀ a ∈ X, a ∉ ω.fz) (hY : ∀ y ∈ Y, Loose G.toGl frs X ω s.heap y) (x : ItR ω s.heap I it Y) :
    (∀ y ∈ Y, Loose G.toGl frs X ω' s'.heap y) ∧ ItR ω' s'.heap I it Y :=
  ⟨fun y hy => (hY y hy).step S, x.later (S.step.later R f) fun y hy o e => (hY y hy).kept S (hY y hy).own e⟩
end
section
variable {G : Gd} {n : Nat} {Γ : Ct}
theorem noExV {frs : List Env} {X : List Addr} {ω : Wd} {s : Shared} {v : Value} {s' : Shared} {P : Prop} (h : ExV G frs X ω s noX v s') : P := h.no
/-- the turns of a for -/
theorem for_turns {t : Expr} {g : TG} {body : List Stmt} {cb : CX} {env : Env} (hg : SG G n Γ g t) (hb : SXs G n Γ cb body) {A : Around} {frs : List Env} {X Y : List Addr} {I : Addr} (hA : Room A n) (hF : A.frames = some frs) {k : KF} {r : KV} {ω₀ : Wd} {s₀ : Shared} {RR : Result → Shared → Prop}
    (hYn : ∀ y ∈ Y, s₀.heap.get? y = none) (hc : ∀ (i : Nat) x k, Γ.vars[i]? = some (x, k) → k ≠ .loc → ∀ c, env.cells.lookup x = some c → c ∉ Y)
    (hRR : ∀ fl s', EndX G frs Γ env X ω₀ s₀ k r fl s' → RR (.ok fl) s') :
    ∀ (m : Nat) (it : IT) (fr : Fra) (ω : Wd) (σ : Sto) (s : Shared), loopF g cb m it fr σ k r = true → St G frs X ω₀ s₀ ω σ s → FrOK G.toGl frs Γ env X fr ω s.heap → (∀ y ∈ Y, Loose G.toGl frs X ω s.heap y) → ItR ω s.heap I it Y → TgtOK t it →
      codeAny (model G.prog G.w) A (.forLoop t (.ref I) body [] env) RR s
  | 0, _, _, _, _, _, h, _, _, _, _, _ => nomatch (show false = true from h)
  | m + 1, it, fr, ω, σ, s, h, S, F, hY, x, ht => by
    have h' : itK it σ (fun v it' => g v fr σ fun fr σ => cb fr σ (fun fr σ => loopF g cb m it' fr σ k r) r noX) (k fr σ) = true := h
    refine codeAny_of_tree ?_
    show wpAny _ _ ((forTurn t (.ref I) body [] env).onRaise (fun x => do noteFrame x env; theTreesLotGoes x)) _ _ s
    refine wpAny_onRaise (wpAny_mono (Q := fun fin s' => match fin with | .done f => RR (.ok f) s' | .again c' => c'.quiet = true ∧ codeAny (model G.prog G.w) A c' RR s') (E := fun _ _ => False) ?_ (fun _ _ z => z) fun _ _ z => z.elim)
    simp only [forTurn]
    refine wpAny_bind (wpAny_standAt (wpAny_bind (wpAny_onRaise (wpAny_mono (it_next hA S.rep hY x h' ht) (fun rr s₁ h₁ => ?_) fun _ _ z => z.elim))))
    cases rr with
    | none =>
      obtain ⟨hk, he⟩ := h₁
      refine wpAny_pure ⟨rfl, codeAny_block (wpAny_execs_nil (hRR _ _ ?_))⟩
      exact ⟨fr, ω, σ, hk, S.ended (fun y hy => ⟨hY y hy, hYn y hy⟩) he, F.ended S.rep hY hc he⟩
    | some v =>
      refine wpAny_bind (wpAny_mono h₁ (fun _ s₂ ⟨av, it', ω₂, hk, S₂, V, x₂, ht₂⟩ => ?_) fun _ _ z => z.elim)
      have F₂ := F.loose S.rep hY hc S₂
      have S₀₂ := S.since S₂ hYn
      have hY₂ : ∀ y ∈ Y, Loose G.toGl frs X ω₂ s₂.heap y := fun y hy => (hY y hy).step S₂
      refine wpAny_bind (wpAny_mono (hg A frs env X fr ω₂ σ s₂ _ v av hA hF S₂.rep F₂ V hk) (fun _ s₃ ⟨fr₃, ω₃, σ₃, h₃, S₃, F₃⟩ => ?_) fun _ _ z => z.elim)
      obtain ⟨hY₃, x₃⟩ := body_keeps S₃ S₂.rep (fun a ha => (F₂.out a ha).2.1) hY₂ x₂
      refine wpAny_bind (wpAny_mono (hb A frs env X fr₃ ω₃ σ₃ s₃ _ r noX hA hF S₃.rep F₃ h₃) (fun fl s₄ q => ?_) fun _ _ z => noExV z)
      have S₀₃ := S₀₂.andX S₃
      cases fl with
      | next =>
        obtain ⟨fr₄, ω₄, σ₄, h₄, S₄, F₄⟩ := q
        obtain ⟨hY₄, x₄⟩ := body_keeps S₄ S₃.rep (fun a ha => (F₃.out a ha).2.1) hY₃ x₃
        exact wpAny_pure ⟨rfl, for_turns hg hb hA hF hYn hc hRR m it' fr₄ ω₄ σ₄ s₄ h₄ (S₀₃.andX S₄) F₄ hY₄ x₄ ht₂⟩
      | ret v => exact wpAny_pure (hRR _ _ (OkV.afterX S₀₃ q))
      | _ => exact q.elim
theorem SX.for {t it : Expr} {g : TG} {body : List Stmt} {cb : CX} {ci : CI} {p : Bool} {pos : Pos} (hi : SI G n Γ p ci it) (hg : SG G n Γ g t) (hb : SXs G n Γ cb body) (ht : TgtP t p) (hs : ∀ env x, foldedSetIterable it env x = pure x) :
    SX G n Γ (xFor g ci cb) (.For t it body [] pos) := by
  intro A frs env X fr ω σ s k r x hA hF R F h
  refine wpAny_For (wpAny_mono (hi A frs env X fr ω σ s _ x hA hF R F h) (fun xv s₁ h₁ => wpAny_mono h₁ (fun iv s₂ q => ?_) fun _ _ z => z.widen) fun _ _ z => z.widen) (hs env)
  obtain ⟨itr, ω', σ', I, Y, h1, rfl, h3, S, hY, hI⟩ := q
  refine for_turns hg hb hA hF (fun y hy => (hY y hy).2) (fun i y kk hy hkk c hcl hm => ?_) (fun fl s' z => z) 64 itr fr ω' σ' s₂ h1 S.widen (S.fr R F) (fun y hy => (hY y hy).1) hI (ht.of h3)
  obtain ⟨c', v, q1, q2, _⟩ := F.cel i y kk hy hkk
  rw [hcl] at q1
  cases q1
  obtain ⟨o, ho, _⟩ := q2
  exact live_ne ⟨o, ho⟩ (hY c hm).2 rfl
end
end
end Mine
namespace Mine
section
open PySem PySem.W PyProof.Rows PySem.Calls PySem.Spec

/-- what a comprehension gathers (the last first) -/
noncomputable def AccR (ω : Wd) (h : Heap) (D : Addr) (acc : List AV) : Prop := ∃ vs, h.PlainList D vs.toArray ∧ VRs ω h vs acc.reverse
/-- what a comprehension's innermost place leaves -/
noncomputable def EndC (G : Gd) (frs : List Env) (Γ : Ct) (env : Env) (X : List Addr) (D : Addr) (N : Nat) (ω : Wd) (s : Shared) (k : KC) (s' : Shared) : Prop :=
  ∃ fr' acc' ω' σ', k fr' acc' σ' = true ∧ acc'.length ≤ N ∧ St G frs (D :: X) ω s ω' σ' s' ∧ FrOK G.toGl frs Γ env X fr' ω' s'.heap ∧ AccR ω' s'.heap D acc' ∧ Loose G.toGl frs X ω' s'.heap D
noncomputable def ApartD (Γ : Ct) (env : Env) (D : Addr) : Prop := ∀ (i : Nat) x k, Γ.vars[i]? = some (x, k) → k ≠ .loc → ∀ c, env.cells.lookup x = some c → c ≠ D
/-- the code of what is done in a turn; Bd: how many items it adds at most -/
noncomputable def SB (G : Gd) (n : Nat) (Γ : Ct) (Bd : Nat) (c : CB) (run : Env → Value → Sem Unit) : Prop :=
  ∀ (A : Around) (frs : List Env) (env : Env) (X : List Addr) (D : Addr) (fr : Fra) (acc : List AV) (ω : Wd) (σ : Sto) (s : Shared) (k : KC),
    Room A n → A.frames = some frs → Rep G.toGl frs ω σ s.heap → FrOK G.toGl frs Γ env X fr ω s.heap → AccR ω s.heap D acc → Loose G.toGl frs X ω s.heap D → ApartD Γ env D → acc.length + Bd ≤ 4096 → c fr acc σ k = true →
    wpAny (model G.prog G.w) A (run env (.ref D)) (fun _ s' => EndC G frs Γ env X D (acc.length + Bd) ω s k s') (fun _ _ => False) s
/-- the code of its tests -/
noncomputable def SC (G : Gd) (n : Nat) (Γ : Ct) (c : CT) (ifs : List Expr) : Prop :=
  ∀ (A : Around) (frs : List Env) (env : Env) (X : List Addr) (fr : Fra) (ω : Wd) (σ : Sto) (s : Shared) (k : Bool → Sto → Bool),
    Room A n → A.frames = some frs → Rep G.toGl frs ω σ s.heap → FrOK G.toGl frs Γ env X fr ω s.heap → c fr σ k noX = true →
    wpAny (model G.prog G.w) A (forIn ifs true fun c r => if r = true then do let ok ← isTrue c env (eval c env); pure (ForInStep.yield ok) else pure (ForInStep.yield r)) (OkB G frs ω s k) (fun _ _ => False) s
section
variable {G : Gd} {n : Nat} {Γ : Ct} {t : CT} {e : Expr} {b : CV}
theorem SC.none : SC G n Γ tT [] := fun A frs env X fr ω σ s k hA hF R F h => wpAny_tests_nil ⟨ω, σ, h, St.refl R⟩
theorem SC.one (ht : ST G n Γ t e) : SC G n Γ t [e] := fun A frs env X fr ω σ s k hA hF R F h =>
  wpAny_tests_one (wpAny_mono (ht A frs env X fr ω σ s k noX hA hF R F h) (fun _ _ q => q) fun _ _ q => q.no)
theorem AccR.later {ω ω' : Wd} {h h' : Heap} {D : Addr} {acc : List AV} (x : AccR ω h D acc) (L : Later ω h ω' h') (hk : ∀ o, h.get? D = some o → h'.get? D = some o) : AccR ω' h' D acc := by
  obtain ⟨vs, p, q⟩ := x
  exact ⟨vs, p.at hk, L.vrs q⟩
theorem AccR.keep {frs : List Env} {X Z : List Addr} {ω ω' : Wd} {σ σ' : Sto} {s s' : Shared} {D : Addr} {acc : List AV} (x : AccR ω s.heap D acc) (R : Rep G.toGl frs ω σ s.heap) (S : St G frs Z ω s ω' σ' s') (hZ : ∀ a ∈ Z, a ∉ ω.fz) (l : Loose G.toGl frs X ω s.heap D) (hD : D ∉ Z) : AccR ω' s'.heap D acc :=
  x.later (S.step.later R hZ) fun o ho => l.kept S hD ho
/-- an item is gathered -/
theorem SB.elt (hb : SE G n Γ b e) : SB G n Γ 1 (bElt b) (fun env acc => do let _ ← call (.builtin "list.append") [acc, ← eval e env]) := by
  intro A frs env X D fr acc ω σ s k hA hF R F x lD hD hN h
  refine wpAny_bind (wpAny_mono (hb A frs env X fr ω σ s _ noX hA hF R F h) (fun v s₁ q => ?_) fun _ _ q => q.no)
  obtain ⟨av, ω₁, σ₁, h₁, S, V⟩ := q
  obtain ⟨vs, p, q⟩ := x.keep R S (fun _ z => nomatch z) lD (fun z => nomatch z)
  have l₁ := lD.step S
  refine wpAny_bind (wpAny_list_append_plain p (fun h' p' hs' => ?_) ?_)
  · have T : St G frs [D] ω₁ s₁ ω₁ σ₁ { s₁ with heap := h', toks := s₁.toks } := St.looseAll (s := s₁) S.rep (fun y hy => by rw [List.mem_singleton.mp hy]; exact l₁) (fun b o hb e => (hs'.2 b (fun q => hb (by rw [q]; exact .head _))).trans e)
      (fun y hy => by rw [List.mem_singleton.mp hy]; obtain ⟨_, z⟩ := p'; exact ⟨_, z⟩) s₁.toks
    have L := St.laterY (X := X) S.rep (fun y hy => by rw [List.mem_singleton.mp hy]; exact l₁) T
    refine wpAny_pure ⟨fr, av :: acc, ω₁, σ₁, h₁, Nat.le_refl _, (S.widen (X := D :: X)).trans T fun y hy => .inl (by rw [List.mem_singleton.mp hy]; exact .head _), (S.fr R F).loose S.rep (fun y hy => by rw [List.mem_singleton.mp hy]; exact l₁) (fun i y kk h1 h2 c h3 hm => hD i y kk h1 h2 c h3 (List.mem_singleton.mp hm)) T, ⟨vs ++ [v], ?_, ?_⟩, l₁.step T⟩
    · rw [← push_toArray]; exact p'
    · rw [List.reverse_cons]
      exact (L.vrs q).append (VRs.one (L.vr V))
  · rw [List.size_toArray, q.length, List.length_reverse]
    exact sizeLine_ge (by omega)
end
/-- a turn's text -/
noncomputable def turnC (e : Expr) (d : Nat) (t iter : Expr) (ifs : List Expr) (run : Env → Value → Sem Unit) (it acc : Value) (env : Env) : Sem Fin := do
  standAt iter.pos
  match ← pyNext it with
  | none => pure (.done .next)
  | some v =>
    letOwnedTupleGo t it v
    assign t env v
    let ok ← forIn ifs true fun c r => if r = true then do let ok ← isTrue c env (eval c env); pure (ForInStep.yield ok) else pure (ForInStep.yield r)
    if ok = true then do
      run env acc
      again (.compLoop e d it acc env)
    else again (.compLoop e d it acc env)
section
variable {G : Gd} {n : Nat} {Γ : Ct}
theorem comp_turns {elt t iter : Expr} {gens : List Comprehension} {scope : Scope} {pos : Pos} {d Bd N : Nat} {ifs : List Expr} {run : Env → Value → Sem Unit} {g : TG} {ci : CT} {cb : CB} {env : Env} (hg : SG G n Γ g t) (hi : SC G n Γ ci ifs) (hb : SB G n Γ Bd cb run)
    {A : Around} {frs : List Env} {X Y : List Addr} {I D : Addr} (hturn : compTurn (.ListComp elt gens scope pos) d (.ref I) (.ref D) env = turnC (.ListComp elt gens scope pos) d t iter ifs run (.ref I) (.ref D) env)
    (hA : Room A n) (hF : A.frames = some frs) {k : KC} {ω₀ : Wd} {s₀ : Shared} {RR : Result → Shared → Prop}
    (hYn : ∀ y ∈ Y, s₀.heap.get? y = none) (hc : ∀ (i : Nat) x k, Γ.vars[i]? = some (x, k) → k ≠ .loc → ∀ c, env.cells.lookup x = some c → c ∉ Y) (hD : ApartD Γ env D) (hDY : D ∉ Y) (hN : N ≤ 4096)
    (hRR : ∀ s', EndC G frs Γ env X D N ω₀ s₀ k s' → RR (.ok .next) s') :
    ∀ (m : Nat) (it : IT) (fr : Fra) (acc : List AV) (ω : Wd) (σ : Sto) (s : Shared), loopC g ci cb m it fr acc σ k = true → acc.length + m * Bd ≤ N → St G frs (D :: X) ω₀ s₀ ω σ s → FrOK G.toGl frs Γ env X fr ω s.heap →
      (∀ y ∈ Y, Loose G.toGl frs X ω s.heap y) → AccR ω s.heap D acc → Loose G.toGl frs X ω s.heap D → ItR ω s.heap I it Y → TgtOK t it →
      codeAny (model G.prog G.w) A (.compLoop (.ListComp elt gens scope pos) d (.ref I) (.ref D) env) RR s
  | 0, _, _, _, _, _, _, h, _, _, _, _, _, _, _, _ => nomatch (show false = true from h)
  | m + 1, it, fr, acc, ω, σ, s, h, hl, S, F, hY, x, lD, xi, ht => by
    have h' : itK it σ (fun v it' => g v fr σ fun fr σ => ci fr σ (fun b σ => @Bool.rec (fun _ => Bool) (loopC g ci cb m it' fr acc σ k) (cb fr acc σ fun fr acc σ => loopC g ci cb m it' fr acc σ k) b) noX) (k fr acc σ) = true := h
    have hm : (m + 1) * Bd = m * Bd + Bd := Nat.succ_mul _ _
    refine codeAny_of_tree ?_
    show wpAny _ A ((compTurn (.ListComp elt gens scope pos) d (.ref I) (.ref D) env).onRaise (fun x => do noteFrame x env; theTreesLotGoes x)) _ _ s
    refine wpAny_onRaise (wpAny_mono (Q := fun fin s' => match fin with | .done f => RR (.ok f) s' | .again c' => c'.quiet = true ∧ codeAny (model G.prog G.w) A c' RR s') (E := fun _ _ => False) ?_ (fun _ _ z => z) fun _ _ z => z.elim)
    rw [hturn]
    unfold turnC
    refine wpAny_bind (wpAny_standAt (wpAny_bind (wpAny_mono (it_next hA S.rep hY xi h' ht) (fun rr s₁ h₁ => ?_) fun _ _ z => z.elim)))
    cases rr with
    | none =>
      obtain ⟨hk, he⟩ := h₁
      have L : Later ω s.heap ω s₁.heap := ⟨fun a q => q, fun _ _ q => q, fun _ _ q => q, fun b hb o ee => he.1 b o (fun q => (hY b q).fz hb) ee⟩
      have S' : St G frs (D :: X) ω₀ s₀ ω σ s₁ := S.ended (fun y hy => ⟨⟨(hY y hy).rho, (hY y hy).fz, (hY y hy).base, (hY y hy).frame, fun q => (List.mem_cons.mp q).elim (fun q => hDY (q ▸ hy)) (hY y hy).own, (hY y hy).live⟩, hYn y hy⟩) he
      refine wpAny_pure (hRR _ ⟨fr, acc, ω, σ, hk, by omega, S', F.ended S.rep hY hc he, x.later L fun o ho => he.1 D o hDY ho, ⟨lD.rho, lD.fz, lD.base, lD.frame, lD.own, ?_⟩⟩)
      obtain ⟨o, ho⟩ := lD.live
      exact ⟨o, he.1 D o hDY ho⟩
    | some v =>
      refine wpAny_bind (wpAny_mono h₁ (fun _ s₂ ⟨av, it', ω₂, hk, S₂, V, x₂, ht₂⟩ => ?_) fun _ _ z => z.elim)
      have F₂ := F.loose S.rep hY hc S₂
      have S₀₂ : St G frs (D :: X) ω₀ s₀ ω₂ σ s₂ := S.since S₂ hYn
      have hY₂ : ∀ y ∈ Y, Loose G.toGl frs X ω₂ s₂.heap y := fun y hy => (hY y hy).step S₂
      have xx₂ := x.keep S.rep S₂ (fun a q => (hY a q).fz) lD hDY
      have lD₂ := lD.step S₂
      refine wpAny_bind (wpAny_mono (hg A frs env X fr ω₂ σ s₂ _ v av hA hF S₂.rep F₂ V hk) (fun _ s₃ ⟨fr₃, ω₃, σ₃, h₃, S₃, F₃⟩ => ?_) fun _ _ z => z.elim)
      obtain ⟨hY₃, x₃⟩ := body_keeps S₃ S₂.rep (fun a ha => (F₂.out a ha).2.1) hY₂ x₂
      have xx₃ := xx₂.keep S₂.rep S₃ (fun a ha => (F₂.out a ha).2.1) lD₂ lD₂.own
      have lD₃ := lD₂.step S₃
      have S₀₃ : St G frs (D :: X) ω₀ s₀ ω₃ σ₃ s₃ := S₀₂.trans S₃ fun a ha => .inl (.tail _ ha)
      refine wpAny_bind (wpAny_mono (hi A frs env X fr₃ ω₃ σ₃ s₃ _ hA hF S₃.rep F₃ h₃) (fun ok s₄ ⟨ω₄, σ₄, h₄, S₄⟩ => ?_) fun _ _ z => z)
      have F₄ := S₄.fr S₃.rep F₃
      obtain ⟨hY₄, x₄⟩ := body_keeps (S₄.widen (X := X)) S₃.rep (fun a ha => (F₃.out a ha).2.1) hY₃ x₃
      have xx₄ := xx₃.keep S₃.rep S₄ (fun _ z => nomatch z) lD₃ (fun z => nomatch z)
      have lD₄ := lD₃.step S₄
      have S₀₄ : St G frs (D :: X) ω₀ s₀ ω₄ σ₄ s₄ := S₀₃.trans S₄ fun _ z => nomatch z
      cases ok with
      | false =>
        have h₄' : loopC g ci cb m it' fr₃ acc σ₄ k = true := h₄
        exact wpAny_pure ⟨rfl, comp_turns hg hi hb hturn hA hF hYn hc hD hDY hN hRR m it' fr₃ acc ω₄ σ₄ s₄ h₄' (by omega) S₀₄ F₄ hY₄ xx₄ lD₄ x₄ ht₂⟩
      | true =>
        have h₄' : (cb fr₃ acc σ₄ fun fr acc σ => loopC g ci cb m it' fr acc σ k) = true := h₄
        refine wpAny_bind (wpAny_mono (hb A frs env X D fr₃ acc ω₄ σ₄ s₄ _ hA hF S₄.rep F₄ xx₄ lD₄ hD (by omega) h₄') (fun _ s₅ ⟨fr₅, acc₅, ω₅, σ₅, h₅, hl₅, S₅, F₅, xx₅, lD₅⟩ => ?_) fun _ _ z => z)
        have hfz : ∀ a ∈ D :: X, a ∉ ω₄.fz := fun a ha => (List.mem_cons.mp ha).elim (fun q => q ▸ lD₄.fz) fun q => (F₄.out a q).2.1
        have hY₅ : ∀ y ∈ Y, Loose G.toGl frs X ω₅ s₅.heap y := fun y hy => (hY₄ y hy).step S₅
        have x₅ : ItR ω₅ s₅.heap I it' Y := x₄.later (S₅.step.later S₄.rep hfz) fun y hy o ee => (hY₄ y hy).kept S₅ (fun q => (List.mem_cons.mp q).elim (fun q => hDY (q ▸ hy)) (hY₄ y hy).own) ee
        exact wpAny_pure ⟨rfl, comp_turns hg hi hb hturn hA hF hYn hc hD hDY hN hRR m it' fr₅ acc₅ ω₅ σ₅ s₅ h₅ (by omega) (S₀₄.andX S₅) F₅ hY₅ xx₅ lD₅ x₅ ht₂⟩
/-- an iterator gives itself -/
theorem it_self {A : Around} {E : Value → Shared → Prop} {Q : Value → Shared → Prop} {ω : Wd} {s : Shared} {I : Addr} {it : IT} {Y : List Addr} (x : ItR ω s.heap I it Y) (h : Q (.ref I) s) : wpAny (model G.prog G.w) A (pyIter (.ref I)) Q E s := by
  cases x with
  | @b b x =>
    cases x with
    | @seq y all e i s' kk z V =>
      subst e
      unfold It1.Iter at i
      split at i
      · exact wpAny_pyIter_tupleiter i h
      · exact wpAny_pyIter_listiter i h
    | lst i e => exact wpAny_pyIter_listiter i h
  | rng x => exact wpAny_pyIter_rangeiter x h
  | zip a => exact wpAny_pyIter_zip a h
  | enm a => exact wpAny_pyIter_enum a h
end
end
end Mine
namespace Mine
section
open PySem PySem.W PyProof.Rows PySem.Calls PySem.Spec

section
variable {prog : Program} {w : World} {A : Around} {R : Result → Shared → Prop} {s : Shared}
theorem codeAny_compStartD {elt t iter ifs gens scope pos d acc env} {I : Addr} (hg : (gens : List Comprehension)[d]? = some ⟨t, iter, ifs, 0⟩)
    (h0 : codeAny (model prog w) A (.compLoop (.ListComp elt gens scope pos) d (.ref I) acc env) R s)
    (hi : ∀ E, wpAny (model prog w) A (pyIter (.ref I)) (fun v s' => v = .ref I ∧ s' = s) E s) :
    codeAny (model prog w) A (.compStart (.ListComp elt gens scope pos) d (.ref I) acc env) R s := by
  refine codeAny_of_tree ?_
  show wpAny _ A ((compStart (.ListComp elt gens scope pos) d (.ref I) acc env).onRaise (fun x => do noteFrame x env; standAt theWindowsPlace)) _ _ s
  refine wpAny_notedAt ?_
  unfold compStart
  rw [show clausesOf (.ListComp elt gens scope pos) = gens from rfl, hg]
  refine (show wpAny _ _ (ask >>= _) _ _ s from wpAny_bind (wpAny_askSetting (wpAny_ite ?_)))
  split
  · exact wpAny_bind (wpAny_pure (wpAny_pure ⟨rfl, h0⟩))
  · exact wpAny_bind (wpAny_rule (wpAny_bind (wpAny_standAt (wpAny_bind (wpAny_mono (hi _) (fun _ _ z => z.1 ▸ z.2 ▸ wpAny_pure ⟨rfl, h0⟩) fun _ _ z => z)))))
end
/-- what an inner for of a comprehension does -/
noncomputable def innerC (e : Expr) (d : Nat) (iter : Expr) (env : Env) (acc : Value) : Sem Unit := do
  let x ← eval iter env
  standAt iter.pos
  let x ← foldedSetIterable iter env x
  let _ ← runOwn (.compStart e d (← holding [x] (pyIter x)) acc env) env
section
variable {G : Gd} {n : Nat} {Γ : Ct}
theorem SB.gen {elt t iter : Expr} {gens : List Comprehension} {scope : Scope} {pos : Pos} {d Bd : Nat} {ifs : List Expr} {run : Env → Value → Sem Unit} {g : TG} {ci : CI} {ct : CT} {cb : CB} {p : Bool}
    (hs : ∀ env x, foldedSetIterable iter env x = pure x) (hgd : gens[d]? = some ⟨t, iter, ifs, 0⟩) (hI : SI G n Γ p ci iter) (hg : SG G n Γ g t) (ht : TgtP t p) (hi : SC G n Γ ct ifs) (hb : SB G n Γ Bd cb run)
    (hturn : ∀ env it acc, compTurn (.ListComp elt gens scope pos) d it acc env = turnC (.ListComp elt gens scope pos) d t iter ifs run it acc env) :
    SB G n Γ (64 * Bd) (bGen ci g ct cb) (innerC (.ListComp elt gens scope pos) d iter) := by
  intro A frs env X D fr acc ω σ s k hA hF R F x lD hD hN h
  unfold innerC
  refine wpAny_bind (wpAny_mono (hI A frs env X fr ω σ s _ noX hA hF R F h) (fun xv s₁ h₁ => ?_) fun _ _ z => z.no)
  refine wpAny_bind (wpAny_standAt (wpAny_bind (wpAny_of_eq (hs env xv) (wpAny_bind (wpAny_holding (wpAny_mono h₁ (fun iv s₂ q => ?_) fun _ _ z => z.no))))))
  obtain ⟨itr, ω', σ', I, Y, h1, rfl, h3, S, hY, hI'⟩ := q
  have F' := S.fr R F
  have cells : ∀ (i : Nat) x k, Γ.vars[i]? = some (x, k) → k ≠ .loc → ∀ c, env.cells.lookup x = some c → c ∉ Y := fun i y kk hy hkk c hcl hm => by
    obtain ⟨c', v, q1, q2, _⟩ := F.cel i y kk hy hkk
    rw [hcl] at q1
    cases q1
    obtain ⟨o, ho, _⟩ := q2
    exact live_ne ⟨o, ho⟩ (hY c hm).2 rfl
  have xx := x.keep R S (fun _ z => nomatch z) lD (fun z => nomatch z)
  have hDY : D ∉ Y := fun q => live_ne lD.live (hY D q).2 rfl
  refine wpAny_bind (wpAny_runOwn (h := none) ?_)
  show codeAny _ A _ _ s₂
  refine codeAny_compStartD hgd ?_ fun E => it_self hI' ⟨rfl, rfl⟩
  refine comp_turns (Bd := Bd) (N := acc.length + 64 * Bd) (X := X) (RR := fun r s' => match r with | .ok f => wpAny (model G.prog G.w) A (pure ()) (fun _ s' => EndC G frs Γ env X D (acc.length + 64 * Bd) ω s k s') (fun _ _ => False) s' | .error e => cameBackBy (model G.prog G.w) A env (fun _ _ => False) e s')
    hg hi hb (hturn env _ _) hA hF (ω₀ := ω) (s₀ := s) (fun y hy => (hY y hy).2) cells hD hDY hN ?_ 64 itr fr acc ω' σ' s₂ h1 (Nat.le_refl _) (S.widen (X := D :: X)) F' (fun y hy => (hY y hy).1) xx (lD.step S) hI' (ht.of h3)
  intro s' z
  exact wpAny_pure z
end
/-- the kinds of names -/
noncomputable def scKind : SK → NameKind
  | .loc => .local
  | .own => .cell
  | .cap => .free
/-- the block's names are a scope's -/
structure ScOK (Γ : Ct) (sc : Scope) : Prop where
  kind : sc.kind = .function
  vars : ∀ (i : Nat) x k, Γ.vars[i]? = some (x, k) → sc.names.lookup x = some (scKind k)
  globs : ∀ x ∈ Γ.globs, sc.names.lookup x = some .globalImplicit
  names : (Γ.vars.map (·.1)).Nodup
  dbg : ∀ (i : Nat) x k, Γ.vars[i]? = some (x, k) → (x == ("__debug__" : Str)) = false ∧ (x == ("__classdict__" : Str)) = false
  uniq : (sc.names.map (·.1)).Nodup
noncomputable def scOK (Γ : Ct) (sc : Scope) : Bool :=
  decide (sc.kind = .function) && Γ.vars.all (fun p => (sc.names.lookup p.1 == some (scKind p.2)) && !(p.1 == ("__debug__" : Str)) && !(p.1 == ("__classdict__" : Str))) &&
    Γ.globs.all (fun x => sc.names.lookup x == some .globalImplicit) && decide (Γ.vars.map (·.1)).Nodup && decide (sc.names.map (·.1)).Nodup
theorem ScOK.of {Γ : Ct} {sc : Scope} (h : scOK Γ sc = true) : ScOK Γ sc := by
  simp only [scOK, Bool.and_eq_true, decide_eq_true_eq, List.all_eq_true, beq_iff_eq, Bool.not_eq_true'] at h
  obtain ⟨⟨⟨⟨h1, h2⟩, h3⟩, h4⟩, h5⟩ := h
  exact ⟨h1, fun i x k e => (h2 _ (List.mem_of_getElem? e)).1.1, fun x hx => h3 x hx, h4, fun i x k e => ⟨(h2 _ (List.mem_of_getElem? e)).1.2, (h2 _ (List.mem_of_getElem? e)).2⟩, h5⟩
theorem lookup_mem {α : Type} : ∀ {l : List (Str × α)} {x : Str} {k : α}, (l.map (·.1)).Nodup → (x, k) ∈ l → l.lookup x = some k
  | (y, a) :: l, x, k, hn, hm => by
    obtain ⟨h1, h2⟩ := List.nodup_cons.mp hn
    rw [List.lookup_cons]
    rcases List.mem_cons.mp hm with e | hm
    · cases e; simp
    · have : (x == y) = false := beq_eq_false_iff_ne.mpr fun e => h1 (by rw [← e]; exact List.mem_map.mpr ⟨(x, k), hm, rfl⟩)
      rw [this]
      exact lookup_mem h2 hm
theorem closure_fold (env : Env) : ∀ (names : List (Str × NameKind)) (acc : List (Str × Addr)), (∀ x ∈ names, x.2 = .free → ∃ c, env.cells.lookup x.1 = some c) →
    ∃ cl, (forIn names acc fun (x : Str × NameKind) (cs : List (Str × Addr)) => if x.2 == .free then (do let a ← cellOf env x.1; pure (ForInStep.yield ((x.1, a) :: cs))) else pure (ForInStep.yield cs)) = (pure cl : Sem (List (Str × Addr))) ∧
      (∀ x c, (x, c) ∈ cl → (x, c) ∈ acc ∨ ((x, .free) ∈ names ∧ env.cells.lookup x = some c)) ∧ (∀ p ∈ acc, p ∈ cl) ∧ (∀ x, (x, .free) ∈ names → ∃ c, (x, c) ∈ cl)
  | [], acc, _ => ⟨acc, rfl, fun _ _ h => .inl h, fun _ h => h, fun _ h => nomatch h⟩
  | (x, k) :: r, acc, h => by
    by_cases hk : k = .free
    · subst hk
      obtain ⟨c, hc⟩ := h (x, .free) (.head _) rfl
      obtain ⟨cl, e, h1, h2, h3⟩ := closure_fold env r ((x, c) :: acc) fun y hy => h y (.tail _ hy)
      refine ⟨cl, ?_, fun y d hy => ?_, fun p hp => h2 p (.tail _ hp), fun y hy => ?_⟩
      · rw [← e, List.forIn_cons]
        have : cellOf env x = pure c := by unfold cellOf; rw [hc]
        simp only [beq_self_eq_true, if_true, this]
        rfl
      · rcases h1 y d hy with q | ⟨q, q'⟩
        · rcases List.mem_cons.mp q with q | q
          · cases q; exact .inr ⟨.head _, hc⟩
          · exact .inl q
        · exact .inr ⟨.tail _ q, q'⟩
      · rcases List.mem_cons.mp hy with q | q
        · cases q; exact ⟨c, h2 _ (.head _)⟩
        · exact h3 y q
    · obtain ⟨cl, e, h1, h2, h3⟩ := closure_fold env r acc fun y hy => h y (.tail _ hy)
      refine ⟨cl, ?_, fun y d hy => (h1 y d hy).imp id fun q => ⟨.tail _ q.1, q.2⟩, h2, fun y hy => ?_⟩
      · rw [← e, List.forIn_cons]
        have : (k == NameKind.free) = false := by simpa using hk
        simp only [this]
        rfl
      · rcases List.mem_cons.mp hy with q | q
        · cases q; exact absurd rfl hk
        · exact h3 y q
theorem closure_of {env : Env} {sc : Scope} (h : ∀ x ∈ sc.names, x.2 = .free → ∃ c, env.cells.lookup x.1 = some c) :
    ∃ cl, closureFor sc env = pure cl ∧ (∀ x c, (x, c) ∈ cl → (x, .free) ∈ sc.names ∧ env.cells.lookup x = some c) ∧ (∀ x, (x, .free) ∈ sc.names → ∃ c, (x, c) ∈ cl) := by
  obtain ⟨cl, e, h1, _, h3⟩ := closure_fold env sc.names [] h
  refine ⟨cl, ?_, fun x c hx => (h1 x c hx).elim (fun q => nomatch q) id, h3⟩
  show (forIn sc.names ([] : List (Str × Addr)) (fun (x : Str × NameKind) (cs : List (Str × Addr)) => if x.2 == .free then (do let a ← cellOf env x.1; pure (ForInStep.yield ((x.1, a) :: cs))) else pure (ForInStep.yield cs)) >>= fun cs => (pure cs : Sem (List (Str × Addr)))) = pure cl
  rw [e]
  rfl
end
end Mine
namespace Mine
section
open PySem PySem.W PyProof.Rows PySem.Calls PySem.Spec

theorem cellsFrom_app : ∀ (names : List (Str × NameKind)) (n : Nat) (acc : List (Str × Addr)), cellsFrom n names acc = cellsFrom n names [] ++ acc
  | [], _, _ => rfl
  | (x, k) :: r, n, acc => by
    unfold cellsFrom
    split
    · rw [cellsFrom_app r (n + 1) ((x, n) :: acc), cellsFrom_app r (n + 1) [(x, n)], List.append_assoc]
      rfl
    · exact cellsFrom_app r n acc
theorem cellsFrom_mem : ∀ (names : List (Str × NameKind)) (n : Nat) (x : Str), (x, .cell) ∈ names → ∃ c, (x, c) ∈ cellsFrom n names []
  | (y, k) :: r, n, x, h => by
    unfold cellsFrom
    rcases List.mem_cons.mp h with e | h
    · cases e
      rw [if_pos (by rfl), cellsFrom_app]
      exact ⟨n, List.mem_append_right _ (.head _)⟩
    · split
      · rw [cellsFrom_app]
        obtain ⟨c, hc⟩ := cellsFrom_mem r (n + 1) x h
        exact ⟨c, List.mem_append_left _ hc⟩
      · exact cellsFrom_mem r n x h
theorem cellsFrom_in : ∀ (names : List (Str × NameKind)) (n : Nat) (x : Str) (c : Addr), (x, c) ∈ cellsFrom n names [] → (x, .cell) ∈ names
  | [], _, _, _, h => nomatch h
  | (y, k) :: r, n, x, c, h => by
    unfold cellsFrom at h
    split at h
    · rename_i hk
      rw [cellsFrom_app] at h
      rcases List.mem_append.mp h with h | h
      · exact .tail _ (cellsFrom_in r (n + 1) x c h)
      · rw [List.mem_singleton] at h
        cases h
        have : k = .cell := by simpa using hk
        rw [this]; exact .head _
    · exact .tail _ (cellsFrom_in r n x c h)
theorem lookup_some {α : Type} : ∀ {l : List (Str × α)} {x : Str} {c : α}, (x, c) ∈ l → ∃ d, l.lookup x = some d
  | (y, a) :: l, x, c, h => by
    rw [List.lookup_cons]
    cases e : x == y with
    | true => exact ⟨a, rfl⟩
    | false =>
      rcases List.mem_cons.mp h with q | h
      · cases q; simp at e
      · exact lookup_some h
theorem lookup_app {α : Type} : ∀ {l r : List (Str × α)} {x : Str} {c : α}, (l ++ r).lookup x = some c → (x, c) ∈ l ∨ ((∀ d, (x, d) ∉ l) ∧ r.lookup x = some c)
  | [], r, x, c, h => .inr ⟨fun _ q => (nomatch q), h⟩
  | (y, a) :: l, r, x, c, h => by
    rw [List.cons_append, List.lookup_cons] at h
    cases e : x == y with
    | true =>
      rw [e] at h
      cases h
      rw [beq_iff_eq.mp e]
      exact .inl (.head _)
    | false =>
      rw [e] at h
      rcases lookup_app (l := l) h with q | ⟨q, q'⟩
      · exact .inl (.tail _ q)
      · refine .inr ⟨fun d hd => ?_, q'⟩
        rcases List.mem_cons.mp hd with z | hd
        · cases z; simp at e
        · exact q d hd
/-- the kinds of a list of names, turned one by one -/
theorem lookup_turned (g : Str → NameKind → NameKind) (x : Str) : ∀ names : List (Str × NameKind), (names.map fun p => (p.1, g p.1 p.2)).lookup x = (names.lookup x).map (g x)
  | [] => rfl
  | (n, k) :: r => by
    have ih := lookup_turned g x r
    rw [List.map_cons, List.lookup_cons, List.lookup_cons, ih]
    cases e : x == n with
    | true => rw [eq_of_beq e]; rfl
    | false => rfl
theorem relabel_turns (env : Env) : (fun (p : Str × NameKind) => match p with | (n, k) => if (k == NameKind.free && env.scope.kind == .function && env.kindOf n == some .cell) then (n, NameKind.cell) else (n, k)) =
    fun p => (p.1, if (p.2 == NameKind.free && env.scope.kind == .function && env.kindOf p.1 == some .cell) then NameKind.cell else p.2) := by
  funext p
  obtain ⟨n, k⟩ := p
  dsimp only
  split <;> rfl
theorem lookup_relabel {env : Env} {k : NameKind} (hk : k ≠ .free) {names : List (Str × NameKind)} {x : Str} (h : names.lookup x = some k) :
    (names.map fun (n, k) => if (k == NameKind.free && env.scope.kind == .function && env.kindOf n == some .cell) then (n, NameKind.cell) else (n, k)).lookup x = some k := by
  have no : (k == NameKind.free) = false := by simpa using hk
  rw [relabel_turns, lookup_turned (fun n k => if (k == NameKind.free && env.scope.kind == .function && env.kindOf n == some .cell) then NameKind.cell else k), h, Option.map_some, no]
  rfl
theorem lookup_relabelF {env : Env} {names : List (Str × NameKind)} {x : Str} (h : names.lookup x = some .free) :
    (names.map fun (n, k) => if (k == NameKind.free && env.scope.kind == .function && env.kindOf n == some .cell) then (n, NameKind.cell) else (n, k)).lookup x = some .free ∨
    (names.map fun (n, k) => if (k == NameKind.free && env.scope.kind == .function && env.kindOf n == some .cell) then (n, NameKind.cell) else (n, k)).lookup x = some .cell := by
  rw [relabel_turns, lookup_turned (fun n k => if (k == NameKind.free && env.scope.kind == .function && env.kindOf n == some .cell) then NameKind.cell else k), h, Option.map_some]
  split
  · exact .inr rfl
  · exact .inl rfl
theorem newComp {M : Model} {A : Around} {E : Value → Shared → Prop} {s : Shared} {scope : Scope} {env : Env} {cl : List (Str × Addr)} {Q : Env → Shared → Prop}
    (h : Q (newEnv scope s.heap.objs.size env.globals (cellsFrom (s.heap.objs.size + 1) scope.names cl) env.qual none .none (some env) builtinsNs) { s with heap := pushCells (s.heap.push { cls := .type "dict", data := .dict #[] }) scope.names }) :
    wpAny M A (newFunctionEnv scope env.globals cl [] env.qual none .none (some env)) Q E s := by
  simp only [newFunctionEnv, Option.isSome_some, if_true]
  refine wpAny_bind (wpAny_alloc ?_)
  refine wpAny_bind (wpAny_layCells _ (fun name kind cells => by cases kind == NameKind.cell <;> simp) _ _ _ _ ?_)
  rw [show ({ s with heap := s.heap.push { cls := .type "dict", data := .dict #[] } } : Shared).heap.objs.size = s.heap.objs.size + 1 from Heap.size_push ..]
  exact wpAny_bind (wpAny_pure (wpAny_pure h))
noncomputable def freeOK (Γ : Ct) (sc : Scope) : Bool := sc.names.all fun p => !(p.2 == .free) || Γ.vars.any fun q => q.1 == p.1 && !(q.2 == SK.loc)
theorem freeOK_of {Γ : Ct} {sc : Scope} (h : freeOK Γ sc = true) : ∀ x ∈ sc.names, x.2 = .free → ∃ (j : Nat) (k : SK), Γ.vars[j]? = some (x.1, k) ∧ k ≠ .loc := by
  intro x hx hf
  have := List.all_eq_true.mp h x hx
  rw [hf] at this
  simp only [beq_self_eq_true, Bool.not_true, Bool.false_or, List.any_eq_true, Bool.and_eq_true, beq_iff_eq, Bool.not_eq_true', beq_eq_false_iff_ne] at this
  obtain ⟨q, hq, h1, h2⟩ := this
  obtain ⟨j, hj⟩ := List.getElem?_of_mem hq
  exact ⟨j, q.2, by rw [hj, ← h1], h2⟩
/-- which slots of the frame a block takes over -/
noncomputable def CpOK (Γ Γ' : Ct) (cp : Fra → (Fra → Bool) → Bool) : Prop :=
  ∀ fr k, cp fr k = true → ∃ fr', k fr' = true ∧ ∀ i, fr'.get i = .un ∨ ∃ x j k', Γ'.vars[i]? = some (x, SK.cap) ∧ Γ.vars[j]? = some (x, k') ∧ k' ≠ SK.loc ∧ fr'.get i = fr.get j
section
variable {G : Gd} {frs : List Env} {Γ Γ' : Ct} {env : Env} {X : List Addr} {fr fr' : Fra} {ω : Wd} {σ : Sto} {s : Shared} {sc : Scope} {cl : List (Str × Addr)}
noncomputable abbrev compEnv (sc : Scope) (L : Addr) (cl : List (Str × Addr)) (env : Env) : Env :=
  { newEnv sc L env.globals (cellsFrom (L + 1) sc.names cl) env.qual none .none (some env) builtinsNs with scope := relabel sc env }
theorem comp_frame (R : Rep G.toGl frs ω σ s.heap) (F : FrOK G.toGl frs Γ env X fr ω s.heap) (hsc : ScOK Γ' sc) (hco : Γ'.code = none) (hfree : freeOK Γ sc = true)
    (h1 : ∀ x c, (x, c) ∈ cl → (x, .free) ∈ sc.names ∧ env.cells.lookup x = some c) (h2 : ∀ x, (x, .free) ∈ sc.names → ∃ c, (x, c) ∈ cl)
    (hcp : ∀ i, fr'.get i = .un ∨ ∃ x j k', Γ'.vars[i]? = some (x, SK.cap) ∧ Γ.vars[j]? = some (x, k') ∧ k' ≠ SK.loc ∧ fr'.get i = fr.get j) (t : Nat) :
    St G frs [] ω s ω σ { s with heap := pushCells (s.heap.push { cls := .type "dict", data := .dict #[] }) sc.names, toks := t } ∧
      ∃ X', FrOK G.toGl frs Γ' (compEnv sc s.heap.objs.size cl env) X' fr' ω (pushCells (s.heap.push { cls := .type "dict", data := .dict #[] }) sc.names) ∧ (∀ a ∈ X', s.heap.get? a = none) ∧
        ∀ x c, (compEnv sc s.heap.objs.size cl env).cells.lookup x = some c → c ∈ X' ∨ ((x, .free) ∈ sc.names ∧ env.cells.lookup x = some c) := by
  have kp : ∀ b o, s.heap.get? b = some o → (pushCells (s.heap.push { cls := .type "dict", data := .dict #[] }) sc.names).get? b = some o := fun b o e => pushCells_keeps _ _ b o (Heap.get?_push_of_some _ e)
  have T : St G frs [] ω s ω σ { s with heap := pushCells (s.heap.push { cls := .type "dict", data := .dict #[] }) sc.names, toks := t } := St.keep0 (s := s) R kp t
  have L := T.later R
  have ok := cellsFrom_ok sc.names (s.heap.push { cls := .type "dict", data := .dict #[] }) (s.heap.objs.size + 1) [] ⟨fun _ _ hm => (nomatch hm), List.Pairwise.nil⟩ (by rw [Heap.size_push]; exact Nat.le_refl _)
  rw [Heap.size_push] at ok
  have none_ge : ∀ c, s.heap.objs.size ≤ c → s.heap.get? c = none := fun c hc => Heap.get?_none_of_le hc
  have newL : ∀ c, s.heap.get? c = none → c ∉ ω.ρ ∧ c ∉ ω.fz ∧ G.base.get? c = none := fun c hc => ⟨fun q => live_ne (R.low c q) hc rfl, fun q => live_ne (R.lowz c q) hc rfl, by
    cases e : G.base.get? c with
    | none => rfl
    | some o => have := R.base c o e; rw [hc] at this; cases this⟩
  have hCO : (pushCells (s.heap.push { cls := .type "dict", data := .dict #[] }) sc.names).Ns s.heap.objs.size fun _ => none := (Heap.Ns.new s.heap (.type "dict")).keeps (pushCells_keeps _ _)
  -- a name's cell
  have look : ∀ x c, (compEnv sc s.heap.objs.size cl env).cells.lookup x = some c → (x, c) ∈ cellsFrom (s.heap.objs.size + 1) sc.names [] ∨ ((x, .free) ∈ sc.names ∧ env.cells.lookup x = some c) := fun x c hc => by
    have hc' : (cellsFrom (s.heap.objs.size + 1) sc.names cl).lookup x = some c := hc
    rw [cellsFrom_app] at hc'
    rcases lookup_app hc' with q | ⟨_, q⟩
    · exact .inl q
    · exact .inr (h1 x c (mem_of_lookup q))
  have capLow : ∀ x c, (x, .free) ∈ sc.names → env.cells.lookup x = some c → ∃ o, s.heap.get? c = some o := fun x c hx hc => by
    obtain ⟨j, k, hj, hk⟩ := freeOK_of hfree (x, .free) hx rfl
    obtain ⟨c', v, q1, q2, _⟩ := F.cel j x k hj hk
    rw [hc] at q1
    cases q1
    obtain ⟨o, ho, _⟩ := q2
    exact ⟨o, ho⟩
  refine ⟨T, s.heap.objs.size :: (cellsFrom (s.heap.objs.size + 1) sc.names []).map (·.2), ⟨⟨hsc.kind, F.e.glob, F.e.blt, fun i x hx => lookup_relabel (k := .local) (by decide) (hsc.vars i x _ hx), fun i x hx => lookup_relabel (k := .cell) (by decide) (hsc.vars i x _ hx), fun i x hx => lookup_relabelF (hsc.vars i x _ hx),
      fun x hx => lookup_relabel (k := .globalImplicit) (by decide) (hsc.globs x hx), hsc.names, fun c q e => (by rw [hco] at e; cases e), hsc.dbg⟩, ⟨_, hCO, fun i x hx => ?_⟩, fun i x k hx hk => ?_, fun x y c hx hy => ?_, .head _, fun a ha => ?_, fun a ha => ?_, F.frame⟩, fun a ha => ?_, fun x c hx => (look x c hx).imp (fun q => .tail _ (List.mem_map.mpr ⟨_, q, rfl⟩)) id⟩
  · rcases hcp i with q | ⟨y, j, k', q, _⟩
    · rw [q]; trivial
    · rw [hx] at q; cases q
  · cases k with
    | loc => exact absurd rfl hk
    | own =>
      have hm := mem_of_lookup (hsc.vars i x _ hx)
      obtain ⟨c, hc⟩ := cellsFrom_mem sc.names (s.heap.objs.size + 1) x hm
      obtain ⟨d, hd⟩ := lookup_some (l := cellsFrom (s.heap.objs.size + 1) sc.names cl) (x := x) (by rw [cellsFrom_app]; exact List.mem_append_left _ hc)
      have hd' : (x, d) ∈ cellsFrom (s.heap.objs.size + 1) sc.names [] := by
        rcases look x d hd with q | ⟨q, _⟩
        · exact q
        · have := lookup_mem hsc.uniq q
          rw [hsc.vars i x _ hx] at this
          cases this
      obtain ⟨e1, e2⟩ := ok.empty x d hd'
      refine ⟨d, none, hd, e1, (newL d (none_ge d (by omega))).1, fun q => ?_, fun _ => .tail _ (List.mem_map.mpr ⟨_, hd', rfl⟩), ?_⟩
      · have e2' : s.heap.objs.size + 1 ≤ d := e2
        have q' : d = s.heap.objs.size := q
        rw [q'] at e2'
        exact Nat.not_succ_le_self _ e2'
      · rcases hcp i with q | ⟨y, j, k', q, _⟩
        · rw [q]; trivial
        · rw [hx] at q; cases q
    | cap =>
      have hm := mem_of_lookup (hsc.vars i x _ hx)
      obtain ⟨j, k, hj, hkk⟩ := freeOK_of hfree (x, .free) hm rfl
      obtain ⟨c, v, q1, q2, q3, q4, q5, q6⟩ := F.cel j x k hj hkk
      obtain ⟨c', hc'⟩ := h2 x hm
      obtain ⟨d, hd⟩ := lookup_some (l := cellsFrom (s.heap.objs.size + 1) sc.names cl) (x := x) (by rw [cellsFrom_app]; exact List.mem_append_right _ hc')
      have hdc : d = c := by
        rcases look x d hd with q | ⟨_, q⟩
        · have := lookup_mem hsc.uniq (cellsFrom_in _ _ _ _ q)
          rw [hsc.vars i x _ hx] at this
          cases this
        · rw [q1] at q; cases q; rfl
      subst hdc
      obtain ⟨o, ho, ho'⟩ := q2
      refine ⟨d, v, hd, ⟨o, kp d o ho, ho'⟩, q3, fun q => ?_, fun q => (by cases q), ?_⟩
      · have q' : d = s.heap.objs.size := q
        rw [q', none_ge _ (Nat.le_refl _)] at ho; cases ho
      · rcases hcp i with q | ⟨y, j', k', z1, z2, z3, z4⟩
        · rw [q]; trivial
        · rw [hx] at z1
          cases z1
          rw [z4, nodup_vars F.e.names z2 hj]
          exact q6.later L
  · rcases look x c hx with a | ⟨a, a'⟩ <;> rcases look y c hy with b | ⟨b, b'⟩
    · exact name_of_addr ok.apart a b
    · have e := (ok.empty x c a).2
      obtain ⟨o, ho⟩ := capLow y c b b'
      rw [none_ge c (by omega)] at ho; cases ho
    · have e := (ok.empty y c b).2
      obtain ⟨o, ho⟩ := capLow x c a a'
      rw [none_ge c (by omega)] at ho; cases ho
    · exact F.apart x y c a' b'
  · rcases List.mem_cons.mp ha with rfl | ha
    · obtain ⟨o, _, _, ho, _⟩ := hCO; exact ⟨o, ho⟩
    · obtain ⟨p, hp, rfl⟩ := List.mem_map.mp ha
      obtain ⟨⟨o, ho, _⟩, _⟩ := ok.empty p.1 p.2 hp
      exact ⟨o, ho⟩
  · refine newL a ?_
    rcases List.mem_cons.mp ha with rfl | ha
    · exact none_ge _ (Nat.le_refl _)
    · obtain ⟨p, hp, rfl⟩ := List.mem_map.mp ha
      have := (ok.empty p.1 p.2 hp).2
      exact none_ge _ (by omega)
  · rcases List.mem_cons.mp ha with rfl | ha
    · exact none_ge _ (Nat.le_refl _)
    · obtain ⟨p, hp, rfl⟩ := List.mem_map.mp ha
      have := (ok.empty p.1 p.2 hp).2
      exact none_ge _ (by omega)
end
end
end Mine
namespace Mine
section
open PySem PySem.W PyProof.Rows PySem.Calls PySem.Spec

section
variable {G : Gd} {frs : List Env} {X : List Addr} {ω ω' : Wd} {σ σ' : Sto} {s s' : Shared}
/-- a list that nobody changes any more -/
theorem St.freeze (S : St G frs X ω s ω' σ' s') {D : Addr} (hn : s.heap.get? D = none) (l : Loose G.toGl frs [] ω' s'.heap D) : St G frs X ω s { ω' with fz := D :: ω'.fz } σ' s' := by
  have R := S.rep
  have L : Later ω' s'.heap { ω' with fz := D :: ω'.fz } s'.heap := ⟨fun a q => .tail _ q, fun _ _ q => q, fun _ _ q => q, fun b hb o e => e⟩
  refine ⟨⟨S.step.alive, S.step.rho, fun a q => .tail _ (S.step.fz a q), fun a q => ?_, S.step.nu, S.step.keep⟩, ⟨fun i o e => ?_, R.len, R.nu, R.nodup, R.low, fun a q => ?_, fun a q => ⟨fun z => ?_, (R.sep a q).2⟩, fun a q => ?_, R.base, R.frames, fun a q => .tail _ (R.glob a q)⟩, S.gens, S.drawn, S.os⟩
  · rcases List.mem_cons.mp q with rfl | q
    · exact .inr hn
    · exact S.step.fz' a q
  · obtain ⟨b, eb, ob⟩ := R.objs i o e
    exact ⟨b, eb, ob.later L fun o e => e⟩
  · rcases List.mem_cons.mp q with rfl | q
    · exact l.live
    · exact R.lowz a q
  · rcases List.mem_cons.mp z with rfl | z
    · exact l.rho q
    · exact (R.sep a q).1 z
  · rcases List.mem_cons.mp q with rfl | q
    · exact l.frame
    · exact R.fzF a q
theorem Loose.other {h : Heap} {Z : List Addr} {y : Addr} (l : Loose G.toGl frs X ω h y) (hz : y ∉ Z) : Loose G.toGl frs Z ω h y := ⟨l.rho, l.fz, l.base, l.frame, hz, l.live⟩
end
section
variable {G : Gd} {n : Nat} {Γ Γ' : Ct}
theorem comp_core {elt iter t : Expr} {ifs : List Expr} {rest : List Comprehension} {sc : Scope} {pos fpos : Pos} {cp : Fra → (Fra → Bool) → Bool} {ci : CI} {g : TG} {ct : CT} {cb : CB} {p : Bool} {Bd : Nat} {run : Env → Value → Sem Unit}
    (hs : ∀ env x, foldedSetIterable iter env x = pure x) (hsc : scOK Γ' sc = true) (hco : Γ'.code = none) (hfree : freeOK Γ sc = true) (hcp : CpOK Γ Γ' cp) (hI : SI G n Γ p ci iter) (hg : SG G n Γ' g t) (ht : TgtP t p) (hi : SC G n Γ' ct ifs) (hb : SB G n Γ' Bd cb run) (hBd : 64 * Bd ≤ 4096)
    (hturn : ∀ env it acc, compTurn (.ListComp elt (⟨t, iter, ifs, 0⟩ :: rest) sc pos) 0 it acc env = turnC (.ListComp elt (⟨t, iter, ifs, 0⟩ :: rest) sc pos) 0 t iter ifs run it acc env)
    {A : Around} {frs : List Env} {env : Env} {X : List Addr} {fr : Fra} {ω : Wd} {σ : Sto} {s : Shared} {k : KV} {x : KX} (hA : Room A n) (hF : A.frames = some frs) (R : Rep G.toGl frs ω σ s.heap) (F : FrOK G.toGl frs Γ env X fr ω s.heap)
    (h : vComp cp ci g ct cb fr σ k x = true) {use : Option (Value → Sem Unit)} {Q : Value → Shared → Prop} {E : Value → Shared → Prop} (hE : ∀ v s', ExV G frs [] ω s x v s' → E v s')
    (hfin : ∀ C D l ω' σ' s', k (.lst l) σ' = true → St G frs [] ω s ω' σ' s' → VR ω' s'.heap (.ref D) (.lst l) → Loose G.toGl frs [] ω' s'.heap C → s.heap.get? C = none → (∃ m, s'.heap.Ns C m) →
      compPost (model G.prog G.w) A E use Q (.ref D) C (.ok .next) s') :
    wpAny (model G.prog G.w) A (comprehension (.ListComp elt (⟨t, iter, ifs, 0⟩ :: rest) sc pos) sc env fpos (newList []) false (eval iter env) use) Q E s := by
  have SC' := ScOK.of hsc
  obtain ⟨cl, hclos, hcl1, hcl2⟩ := closure_of (env := env) (sc := sc) fun y hy hyf => by
    obtain ⟨j, kk, hj, hk⟩ := freeOK_of hfree y hy hyf
    obtain ⟨c, v, q1, _⟩ := F.cel j y.1 kk hj hk
    exact ⟨c, q1⟩
  refine wpAny_comprehension_free (g := ⟨t, iter, ifs, 0⟩) (gs := rest) rfl (hs env) hclos SC'.kind (fun y hy hl => by rw [← hl]; exact lookup_mem SC'.uniq hy)
    (wpAny_mono (hI A frs env X fr ω σ s _ x hA hF R F h) (fun xv s₁ h₁ => wpAny_mono h₁ (fun iv s₂ q => ?_) fun _ _ z => hE _ _ z) fun _ _ z => hE _ _ z)
  obtain ⟨itr, ω₂, σ₂, I, Y, h1, rfl, h3, S, hY, hI'⟩ := q
  obtain ⟨fr', h1', hfr⟩ := hcp fr _ h1
  have F₂ := S.fr R F
  refine wpAny_newObj_type (newComp ?_)
  have T₁ : St G frs [] ω₂ s₂ ω₂ σ₂ { s₂ with heap := s₂.heap.push { cls := .type "list", dict := none, data := .seq ([] : List Value).toArray }, toks := s₂.toks } := St.keep0 (s := s₂) S.rep (fun b o e => Heap.get?_push_of_some _ e) s₂.toks
  obtain ⟨T₂, X', F₃, hX', hcells⟩ := comp_frame (s := { s₂ with heap := s₂.heap.push { cls := .type "list", dict := none, data := .seq ([] : List Value).toArray }, toks := s₂.toks }) T₁.rep (T₁.fr S.rep F₂) SC' hco hfree hcl1 hcl2 hfr s₂.toks
  have S₃ := (S.then T₁).then T₂
  have hDn₂ : s₂.heap.get? s₂.heap.objs.size = none := push_none _
  have hDn : s.heap.get? s₂.heap.objs.size = none := S.step.back hDn₂
  have hD₃ : (s₂.heap.push { cls := .type "list", dict := none, data := .seq ([] : List Value).toArray }).get? s₂.heap.objs.size = some { cls := .type "list", dict := none, data := .seq ([] : List Value).toArray } := Heap.get?_push_size _ rfl
  have hD₄ := pushCells_keeps sc.names _ _ _ (Heap.get?_push_of_some { cls := .type "dict", data := .dict #[] } hD₃)
  have up₂ : ∀ y, (∃ o, s₂.heap.get? y = some o) → y ∉ X' := fun y ⟨o, ho⟩ q => by
    have := hX' y q
    rw [show ({ s₂ with heap := s₂.heap.push { cls := .type "list", dict := none, data := .seq ([] : List Value).toArray }, toks := s₂.toks } : Shared).heap.get? y = some o from Heap.get?_push_of_some _ ho] at this
    cases this
  have hDX : s₂.heap.objs.size ∉ X' := fun q => by have := hX' _ q; rw [show ({ s₂ with heap := s₂.heap.push { cls := .type "list", dict := none, data := .seq ([] : List Value).toArray }, toks := s₂.toks } : Shared).heap.get? s₂.heap.objs.size = _ from hD₃] at this; cases this
  have hX'n : ∀ y ∈ X', s.heap.get? y = none := fun y hy => S.step.back (by
    cases e : s₂.heap.get? y with
    | none => rfl
    | some o => exact absurd hy (up₂ y ⟨o, e⟩))
  have hDY : s₂.heap.objs.size ∉ Y := fun q => by obtain ⟨o, ho⟩ := (hY _ q).1.live; rw [hDn₂] at ho; cases ho
  have capLow : ∀ y c, (y, .free) ∈ sc.names → env.cells.lookup y = some c → ∃ o, s.heap.get? c = some o := fun y c hy hc => by
    obtain ⟨j, kk, hj, hk⟩ := freeOK_of hfree (y, .free) hy rfl
    obtain ⟨c', v, q1, q2, _⟩ := F.cel j y kk hj hk
    rw [hc] at q1
    cases q1
    obtain ⟨o, ho, _⟩ := q2
    exact ⟨o, ho⟩
  have T₁₂ := T₁.then T₂
  refine codeAny_compStartD (gens := ⟨t, iter, ifs, 0⟩ :: rest) (d := 0) rfl ?_ fun E => it_self (it := itr) (Y := Y) (ω := ω₂) (hI'.later (T₁₂.later S.rep) fun y hy o e => (hY y hy).1.kept T₁₂ (fun z => nomatch z) e) ⟨rfl, rfl⟩
  refine comp_turns (Γ := Γ') (Bd := Bd) (N := 64 * Bd) (X := X') hg hi hb (hturn _ _ _) hA hF (k := fun _ acc σ => revK acc [] fun l => k (.lst l) σ) (ω₀ := ω) (s₀ := s) (fun y hy => (hY y hy).2) (fun i y kk hy hkk c hcl hm => ?_) (fun i y kk hy hkk c hcl => ?_) hDY hBd ?_ 64 itr fr' [] ω₂ σ₂ _ h1' (by simp) (S₃.widen (X := s₂.heap.objs.size :: X')) F₃
    (fun y hy => ((hY y hy).1.step T₁₂).other (up₂ y (hY y hy).1.live)) ⟨[], ⟨_, hD₄⟩, .nil⟩ ?_ (hI'.later (T₁₂.later S.rep) fun y hy o e => (hY y hy).1.kept T₁₂ (fun z => nomatch z) e) (ht.of h3)
  · rcases hcells y c hcl with q | ⟨q, q'⟩
    · exact up₂ c (hY c hm).1.live q
    · exact live_ne (capLow y c q q') (hY c hm).2 rfl
  · rcases hcells y c hcl with q | ⟨q, q'⟩
    · exact fun e => hDX (e ▸ q)
    · exact live_ne (capLow y c q q') hDn
  · rintro s' ⟨fr₅, acc, ω₅, σ₅, hk, hl, S₅, F₅, ⟨vs, xp, xv⟩, lD⟩
    have hk' : revK acc [] (fun l => k (.lst l) σ₅) = true := hk
    rw [revK_eq, List.append_nil] at hk'
    have S₆ : St G frs [] ω s ω₅ σ₅ s' := ⟨⟨S₅.step.alive, S₅.step.rho, S₅.step.fz, S₅.step.fz', S₅.step.nu, fun a o e hr _ => S₅.step.keep a o e hr fun q => by
      rcases List.mem_cons.mp q with rfl | q
      · rw [hDn] at e; cases e
      · rw [hX'n a q] at e; cases e⟩, S₅.rep, S₅.gens, S₅.drawn, S₅.os⟩
    have S₇ := S₆.freeze hDn (lD.other fun z => nomatch z)
    obtain ⟨m, hm, _⟩ := F₅.loc
    have hC := F₅.out _ F₅.here
    have L : Later ω₅ s'.heap { ω₅ with fz := s₂.heap.objs.size :: ω₅.fz } s'.heap := ⟨fun a q => .tail _ q, fun _ _ q => q, fun _ _ q => q, fun b hb o e => e⟩
    refine hfin _ _ acc.reverse _ σ₅ s' hk' S₇ (.lst (.head _) xp (L.vrs xv)) ⟨hC.1, fun q => ?_, hC.2.2, fun q => ?_, fun z => (nomatch z), F₅.low _ F₅.here⟩ (hX'n _ F₃.here) ⟨m, hm⟩
    · rcases List.mem_cons.mp q with q | q
      · exact hDX (q ▸ F₃.here)
      · exact hC.2.1 q
    · obtain ⟨o, ho⟩ := R.frLow _ q
      rw [hX'n _ F₃.here] at ho; cases ho
  · have hb : G.base.get? s₂.heap.objs.size = none := by
      cases e : G.base.get? s₂.heap.objs.size with
      | none => rfl
      | some o => have := S.rep.base _ o e; rw [hDn₂] at this; cases this
    exact ⟨fun q => live_ne (S.rep.low _ q) hDn₂ rfl, fun q => live_ne (S.rep.lowz _ q) hDn₂ rfl, hb, fun q => live_ne (S.rep.frLow _ q) hDn₂ rfl, hDX, ⟨_, hD₄⟩⟩
end
end
end Mine
namespace Mine
section
open PySem PySem.W PyProof.Rows PySem.Calls PySem.Spec

section
variable {G : Gd} {n : Nat} {Γ Γ' : Ct}
theorem ended1 {C : Addr} {s s' : Shared} (hs : Heap.SameBut C s.heap s'.heap) (h1 : s'.gens = s.gens) (h2 : s'.drawn = s.drawn) (h3 : s'.os = s.os) : Ended [C] s s' :=
  ⟨fun c o hc e => (hs.2 c fun q => hc (by rw [q]; exact .head _)).trans e, h1, h2, h3⟩
theorem SE.comp {elt iter t : Expr} {ifs : List Expr} {rest : List Comprehension} {sc : Scope} {pos : Pos} {cp : Fra → (Fra → Bool) → Bool} {ci : CI} {g : TG} {ct : CT} {cb : CB} {p : Bool} {Bd : Nat} {run : Env → Value → Sem Unit}
    (hs : ∀ env x, foldedSetIterable iter env x = pure x) (hsc : scOK Γ' sc = true) (hco : Γ'.code = Option.none) (hfree : freeOK Γ sc = true) (hcp : CpOK Γ Γ' cp) (hI : SI G n Γ p ci iter) (hg : SG G n Γ' g t) (ht : TgtP t p) (hi : SC G n Γ' ct ifs) (hb : SB G n Γ' Bd cb run) (hBd : 64 * Bd ≤ 4096)
    (hturn : ∀ env it acc, compTurn (.ListComp elt (⟨t, iter, ifs, 0⟩ :: rest) sc pos) 0 it acc env = turnC (.ListComp elt (⟨t, iter, ifs, 0⟩ :: rest) sc pos) 0 t iter ifs run it acc env) :
    SE G n Γ (vComp cp ci g ct cb) (.ListComp elt (⟨t, iter, ifs, 0⟩ :: rest) sc pos) := by
  intro A frs env X fr ω σ s k x hA hF R F h
  rw [eval_ListComp]
  refine comp_core hs hsc hco hfree hcp hI hg ht hi hb hBd hturn hA hF R F h (use := Option.none) (fun _ _ z => z) fun C D l ω' σ' s' hk S V lC hCn hm => ?_
  obtain ⟨m, hm⟩ := hm
  refine ⟨m, hm, fun h' hs' => ?_⟩
  have e := ended1 (s := s') (s' := { s' with heap := h' }) hs' rfl rfl rfl
  have S' := S.ended (Y := [C]) (fun y hy => by rw [List.mem_singleton.mp hy]; exact ⟨lC, hCn⟩) e
  refine ⟨_, ω', σ', hk, S', ?_⟩
  exact Later.vr (h := s'.heap) ⟨fun a q => q, fun _ _ q => q, fun _ _ q => q, fun b hb o ee => e.1 b o (fun q => lC.fz (List.mem_singleton.mp q ▸ hb)) ee⟩ V
/-- a local name takes a comprehension while its frame stands -/
theorem SX.asgComp {y : Str} {py : Pos} {spos : Pos} {i : Nat} {gy : TG} {elt iter t : Expr} {ifs : List Expr} {rest : List Comprehension} {sc : Scope} {pos : Pos} {cp : Fra → (Fra → Bool) → Bool} {ci : CI} {g : TG} {ct : CT} {cb : CB} {p : Bool} {Bd : Nat} {run : Env → Value → Sem Unit}
    (hy : Γ.vars[i]? = some (y, .loc)) (hgy : IsG i gy) (hline : (py.line == pos.line) = true) (hno : (sc.names.any fun x => x.1 == y && (x.2 == .local || x.2 == .cell)) = false)
    (hs : ∀ env x, foldedSetIterable iter env x = pure x) (hsc : scOK Γ' sc = true) (hco : Γ'.code = Option.none) (hfree : freeOK Γ sc = true) (hcp : CpOK Γ Γ' cp) (hI : SI G n Γ p ci iter) (hg : SG G n Γ' g t) (ht : TgtP t p) (hi : SC G n Γ' ct ifs) (hb : SB G n Γ' Bd cb run) (hBd : 64 * Bd ≤ 4096)
    (hturn : ∀ env it acc, compTurn (.ListComp elt (⟨t, iter, ifs, 0⟩ :: rest) sc pos) 0 it acc env = turnC (.ListComp elt (⟨t, iter, ifs, 0⟩ :: rest) sc pos) 0 t iter ifs run it acc env) :
    SX G n Γ (xAsg gy (vComp cp ci g ct cb)) (.Assign [.Name y py] (.ListComp elt (⟨t, iter, ifs, 0⟩ :: rest) sc pos) spos) := by
  intro A frs env X fr ω σ s k r x hA hF R F h
  have hsw : swapsWith (.ListComp elt (⟨t, iter, ifs, 0⟩ :: rest) sc pos) (some (.Name y py)) spos.line env = pure true := by
    show (pure (env.blockKind == .function && env.kindOf y == some .local && py.line == pos.line && !(sc.names.any fun x => x.1 == y && (x.2 == .local || x.2 == .cell))) : Sem Bool) = pure true
    have hb : env.blockKind = .function := by unfold Env.blockKind; rw [F.e.kind]; rfl
    rw [hb, F.e.loc i y hy, hline, hno]
    rfl
  rw [exec_Assign_Name_used _ _ _ _ hsw]
  refine wpAny_bind (wpAny_standAt (wpAny_bind ?_))
  show wpAny _ A (do let _ ← comprehension (.ListComp elt (⟨t, iter, ifs, 0⟩ :: rest) sc pos) sc env _ (newList []) false (eval iter env) (some (assign (.Name y py) env))) _ _ s
  refine wpAny_bind (wpAny_mono (comp_core (E := ExV G frs X ω s x) (Q := fun _ s' => EndX G frs Γ env X ω s k r .next s') hs hsc hco hfree hcp hI hg ht hi hb hBd hturn hA hF R F h (use := some (assign (.Name y py) env)) (fun _ _ z => z.widen) fun C D l ω' σ' s' hk S V lC hCn hm => ?_) (fun _ s' hq => wpAny_pure (wpAny_pure hq)) fun _ _ e => e)
  obtain ⟨m, hm⟩ := hm
  have F' := S.fr R F
  have hCX : C ∉ X := fun q => live_ne (F.low C q) hCn rfl
  have lC' : Loose G.toGl frs X ω' s'.heap C := lC.other hCX
  refine wpAny_mono (SG.name (n := n) hgy hy (by decide) A frs env X fr ω' σ' s' k _ _ hA hF S.rep F' V hk) (fun _ s'' hq => ?_) fun _ _ z => z.elim
  obtain ⟨fr₂, ω₂, σ₂, hk₂, S₂, F₂⟩ := hq
  refine ⟨m, by obtain ⟨o, es, ep, ho, q⟩ := hm; exact ⟨o, es, ep, lC'.kept S₂ hCX ho, q⟩, fun h' hs' => ?_⟩
  have e := ended1 (s := s'') (s' := { s'' with heap := h' }) hs' rfl rfl rfl
  have lC₂ := lC'.step S₂
  have cells : ∀ (i : Nat) x k, Γ.vars[i]? = some (x, k) → k ≠ .loc → ∀ c, env.cells.lookup x = some c → c ∉ [C] := fun i y kk hy hkk c hcl hm => by
    obtain ⟨c', v, q1, q2, _⟩ := F.cel i y kk hy hkk
    rw [hcl] at q1
    cases q1
    obtain ⟨o, ho, _⟩ := q2
    rw [List.mem_singleton.mp hm, hCn] at ho; cases ho
  exact ⟨fr₂, ω₂, σ₂, hk₂, (S.widen.andX S₂).ended (Y := [C]) (fun y hy => by rw [List.mem_singleton.mp hy]; exact ⟨lC₂, hCn⟩) e, F₂.ended S₂.rep (Y := [C]) (fun y hy => by rw [List.mem_singleton.mp hy]; exact lC₂) cells e⟩
/-- a name with a cell takes one the plain way -/
theorem swaps_cell {y : Str} {py : Pos} {i : Nat} {kk : SK} {elt : Expr} {gens : List Comprehension} {sc : Scope} {pos : Pos} (hy : Γ.vars[i]? = some (y, .own)) : ∀ env line, EnvOK Γ env → swapsWithSole [.Name y py] (.ListComp elt gens sc pos) line env = pure false := by
  intro env line e
  show (pure (env.blockKind == .function && env.kindOf y == some .local && py.line == pos.line && !(sc.names.any fun x => x.1 == y && (x.2 == .local || x.2 == .cell))) : Sem Bool) = pure false
  rw [e.own i y hy, show (some NameKind.cell == some NameKind.local) = false from rfl, Bool.and_false, Bool.false_and, Bool.false_and]
end
end
end Mine
namespace Mine
section
open PySem PySem.W PyProof.Rows PySem.Calls PySem.Spec

/-- what leaving a frame does to the heap: e: the exception; Z: what else may turn -/
structure LeftH (fs : List Addr) (e : Addr) (c : Value) (d : Option Addr) (vs : Array Value) (sl : Array (Option Value)) (Z : List Addr) (T : Addr) (h h' : Heap) : Prop where
  keep : ∀ b o, b ≠ e → b ∉ Z → b ∉ fs → h.get? b = some o → h'.get? b = some o
  frame : ∀ b o, b ∈ fs → h.get? b = some o → ∃ sl', h'.get? b = some { o with slots := sl' }
  old : ∀ b o, h.get? b = some o → ∃ o', h'.get? b = some o'
  exc : h'.get? e = some ⟨c, d, .fields (vs.setIfInBounds 1 (.ref T)), sl⟩
  new : h.get? T = none
  entry : ∃ o ts, h'.get? T = some o ∧ o.data = .fields ts ∧ ts[3]? = some .none
section
variable {M : Model} {A : Around} {E : Value → Shared → Prop} {s : Shared}
theorem newEntry_ok {base : Heap} {env : Env} {outer : List Env} {L e : Addr} {c : Value} {d : Option Addr} {vs : Array Value} {sl : Array (Option Value)} {head : Value} {hadNext : Bool} {Q : Unit → Shared → Prop}
    (hfr : A.frames = some (env :: outer)) (hl : s.heap.FunFrames base (env :: outer)) (hf : env.frame = some L) (he : s.heap.get? e = some ⟨c, d, .fields vs, sl⟩) (hsz : 1 < vs.size)
    (h : ∀ h' T, LeftH (fr_ (env :: outer)) e c d vs sl [] T s.heap h' → Q () { s with heap := h' }) :
    wpAny M A (do let a ← frameOf env; let pl ← entryPlaceOf L hadNext; let b ← EntryCells.newEntry head a .none (rawInt L) .none pl; setField (.ref e) 1 b) (fun _ s' => wpAny M A (setFlight (.ref e) none) Q E s') E s := by
  have hene : e ∉ fr_ (env :: outer) := fun q => let ⟨_, _, ho, n⟩ := hl.mem q; n vs (by rw [he] at ho; cases ho; rfl)
  refine wpAny_bind (wpAny_frameOf_fun hfr hl hf fun h₁ hs₁ => wpAny_bind (wpAny_entryPlaceOf fun pl hpl => ?_))
  unfold EntryCells.newEntry newFields
  refine wpAny_bind (wpAny_newObj_type (hd := hpl.sizeOk5 _ _ _ _ _) ?_)
  have he₁ : h₁.get? e = some ⟨c, d, .fields vs, sl⟩ := (hs₁.2.1 e hene).trans he
  have hTn : s.heap.get? h₁.objs.size = none := by rw [hs₁.1]; exact push_none _
  generalize htb : ({ cls := .type "traceback", dict := none, data := .fields ([head, .ref L, .none, rawInt L, .none] ++ (if pl.isEmpty then List.replicate 6 Value.none else pl)).toArray } : Obj) = tb
  have hdt : tb.data = .fields ([head, .ref L, .none, rawInt L, .none] ++ (if pl.isEmpty then List.replicate 6 Value.none else pl)).toArray := by rw [← htb]
  have hfr' : tb.isFreed = false := by rw [← htb]; rfl
  have he₂ := Heap.get?_push_of_some (h := h₁) tb he₁
  refine wpAny_setField he₂ rfl hsz ?_
  have hTe : h₁.objs.size ≠ e := (Nat.ne_of_lt (Heap.lt_size he₁)).symm
  have he₃ : ((h₁.push tb).update e (Obj.mapFields (·.setIfInBounds 1 (Value.ref h₁.objs.size)))).get? e = some ⟨c, d, .fields (vs.setIfInBounds 1 (.ref h₁.objs.size)), sl⟩ := Heap.get?_update_self _ he₂ rfl
  have hT₃ : ((h₁.push tb).update e (Obj.mapFields (·.setIfInBounds 1 (Value.ref h₁.objs.size)))).get? h₁.objs.size = some tb :=
    (Heap.get?_update_other (h₁.push tb) (Obj.mapFields (·.setIfInBounds 1 (Value.ref h₁.objs.size))) (Ne.symm hTe)).trans (Heap.get?_push_size h₁ hfr')
  unfold setFlight
  refine wpAny_bind (wpAny_field he₃ rfl (x := .ref h₁.objs.size) (by simp [hsz]) ?_)
  rw [if_pos (by simp : (Value.ref h₁.objs.size != Value.none) = true)]
  refine wpAny_setField hT₃ hdt (by simp only [List.size_toArray, List.length_append, List.length_cons, List.length_nil] <;> omega) (h _ h₁.objs.size ?_)
  have hd₄ := Obj.data_mapFields hdt (·.setIfInBounds 3 ((none : Option Addr).elim Value.none fun f => rawInt f))
  have keep : ∀ b o, b ≠ e → h₁.get? b = some o → (((h₁.push tb).update e (Obj.mapFields (·.setIfInBounds 1 (Value.ref h₁.objs.size)))).update h₁.objs.size (Obj.mapFields (·.setIfInBounds 3 ((none : Option Addr).elim Value.none fun f => rawInt f)))).get? b = some o := fun b o hbe hb => by
    exact ((Heap.get?_update_other _ _ (Nat.ne_of_lt (Heap.lt_size hb)).symm).trans (Heap.get?_update_other _ _ hbe.symm)).trans (Heap.get?_push_of_some _ hb)
  have hexc : (((h₁.push tb).update e (Obj.mapFields (·.setIfInBounds 1 (Value.ref h₁.objs.size)))).update h₁.objs.size (Obj.mapFields (·.setIfInBounds 3 ((none : Option Addr).elim Value.none fun f => rawInt f)))).get? e = some ⟨c, d, .fields (vs.setIfInBounds 1 (.ref h₁.objs.size)), sl⟩ := by
    rw [Heap.get?_update_other _ _ hTe]; exact he₃
  refine ⟨fun b o hbe _ hbf hb => keep b o hbe ((hs₁.2.1 b hbf).trans hb), fun b o hb ho => ?_, fun b o ho => ?_, hexc, hTn, _, _, Heap.get?_update_self _ hT₃ (Obj.isFreed_of_fields hd₄), hd₄, by first | (simp; done) | (rcases hpl with rfl | ⟨_, _, _, _, _, _, _, rfl⟩ <;> simp)⟩
  · obtain ⟨sl', q⟩ := hs₁.2.2 b o ho
    exact ⟨sl', keep b _ (fun q => hene (q ▸ hb)) q⟩
  · by_cases hbe : b = e
    · subst hbe; exact ⟨_, hexc⟩
    · obtain ⟨sl', q⟩ := hs₁.2.2 b o ho
      exact ⟨_, keep b _ hbe q⟩
theorem note_first {base : Heap} {env : Env} {outer : List Env} {L e : Addr} {c : Value} {d : Option Addr} {vs : Array Value} {sl : Array (Option Value)} {Q : Unit → Shared → Prop}
    (hfr : A.frames = some (env :: outer)) (hl : s.heap.FunFrames base (env :: outer)) (hf : env.frame = some L) (he : s.heap.get? e = some ⟨c, d, .fields vs, sl⟩) (h1 : vs[1]? = some .none)
    (h : ∀ h' T, LeftH (fr_ (env :: outer)) e c d vs sl [] T s.heap h' → Q () { s with heap := h' }) : wpAny M A (noteFrame (.ref e) env) (fun _ s' => wpAny M A (setFlight (.ref e) none) Q E s') E s := by
  unfold noteFrame
  simp only [hf]
  refine wpAny_bind (wpAny_field he rfl h1 ?_)
  rw [if_neg (by decide)]
  exact newEntry_ok hfr hl hf he (Array.getElem?_eq_some_iff.mp h1).1 h
theorem note_next {base : Heap} {env : Env} {outer : List Env} {L e T : Addr} {c : Value} {d : Option Addr} {vs ts : Array Value} {oT : Obj} {sl : Array (Option Value)} {Q : Unit → Shared → Prop}
    (hfr : A.frames = some (env :: outer)) (hl : s.heap.FunFrames base (env :: outer)) (hf : env.frame = some L) (he : s.heap.get? e = some ⟨c, d, .fields vs, sl⟩) (h1 : vs[1]? = some (.ref T)) (hTe : T ≠ e) (hT : s.heap.get? T = some oT) (hdT : oT.data = .fields ts) (h3 : ts[3]? = some .none)
    (h : ∀ h' T', LeftH (fr_ (env :: outer)) e c d vs sl [T] T' s.heap h' → Q () { s with heap := h' }) : wpAny M A (noteFrame (.ref e) env) (fun _ s' => wpAny M A (setFlight (.ref e) none) Q E s') E s := by
  -- the record ahead, with its place closed
  have closed : ∃ oT', (s.heap.update T (Obj.mapFields (·.setIfInBounds 3 Value.none))).get? T = some oT' := ⟨_, Heap.get?_update_self _ hT (Obj.isFreed_of_fields (Obj.data_mapFields hdT _))⟩
  have rest : ∀ {b}, b ≠ T → (s.heap.update T (Obj.mapFields (·.setIfInBounds 3 Value.none))).get? b = s.heap.get? b := fun ne => Heap.get?_update_other _ _ ne.symm
  have notT : ∀ {b o}, s.heap.get? b = some o → (∀ vs, o.data ≠ .fields vs) → b ≠ T := by
    rintro b o q n rfl
    exact n ts (by rw [hT] at q; cases q; exact hdT)
  have frames := hl.of_keeps (h' := s.heap.update T (Obj.mapFields (·.setIfInBounds 3 Value.none))) fun b o q n => ⟨o, (rest (notT q n)).trans q, rfl⟩
  have apart : ∀ b ∈ fr_ (env :: outer), b ≠ T := fun b q => let ⟨_, _, ho, n⟩ := hl.mem q; notT ho n
  have size := (Array.getElem?_eq_some_iff.mp h1).1
  unfold noteFrame
  simp only [hf]
  refine wpAny_bind (wpAny_field he rfl h1 ?_)
  rw [if_pos (by simp : (Value.ref T != Value.none) = true)]
  refine wpAny_bind (wpAny_field hT hdT h3 ?_)
  rw [if_neg (by simp [rawInt] : ¬ (Value.none == rawInt L) = true)]
  refine wpAny_bind (wpAny_setField hT hdT (Array.getElem?_eq_some_iff.mp h3).1 (newEntry_ok hfr frames hf ((rest hTe.symm).trans he) size fun h' T' x => h h' T' ?_))
  refine ⟨fun b o hbe hbZ hbf hb => x.keep b o hbe (fun q => nomatch q) hbf ((rest fun q => hbZ (q ▸ .head _)).trans hb), fun b o hb ho => x.frame b o hb ((rest (apart b hb)).trans ho), fun b o hb => ?_, x.exc, ?_, x.entry⟩
  · rcases Decidable.em (b = T) with rfl | q
    · exact closed.elim fun o' e => x.old b o' e
    · exact x.old b o ((rest q).trans hb)
  · rcases Decidable.em (T' = T) with rfl | q
    · exact closed.elim fun o' e => (nomatch x.new.symm.trans e)
    · exact (rest q).symm.trans x.new
theorem leave_first {base : Heap} {env : Env} {outer : List Env} {L e : Addr} {c : Value} {d : Option Addr} {vs : Array Value} {sl : Array (Option Value)} {Q : Unit → Shared → Prop}
    (hfr : A.frames = some (env :: outer)) (hl : s.heap.FunFrames base (env :: outer)) (hf : env.frame = some L) (he : s.heap.get? e = some ⟨c, d, .fields vs, sl⟩) (h1 : vs[1]? = some .none)
    (h : ∀ h' T, LeftH (fr_ (env :: outer)) e c d vs sl [] T s.heap h' → Q () { s with heap := h' }) : wpAny M A (leaving env (.ref e)) Q E s := by
  unfold leaving
  exact wpAny_bind (note_first hfr hl hf he h1 h)
theorem leave_next {base : Heap} {env : Env} {outer : List Env} {L e T : Addr} {c : Value} {d : Option Addr} {vs ts : Array Value} {oT : Obj} {sl : Array (Option Value)} {Q : Unit → Shared → Prop}
    (hfr : A.frames = some (env :: outer)) (hl : s.heap.FunFrames base (env :: outer)) (hf : env.frame = some L) (he : s.heap.get? e = some ⟨c, d, .fields vs, sl⟩) (h1 : vs[1]? = some (.ref T)) (hTe : T ≠ e) (hT : s.heap.get? T = some oT) (hdT : oT.data = .fields ts) (h3 : ts[3]? = some .none)
    (h : ∀ h' T', LeftH (fr_ (env :: outer)) e c d vs sl [T] T' s.heap h' → Q () { s with heap := h' }) : wpAny M A (leaving env (.ref e)) Q E s := by
  unfold leaving
  exact wpAny_bind (note_next hfr hl hf he h1 hTe hT hdT h3 h)
end
section
variable {G : Gd} {frs : List Env} {ω : Wd} {σ : Sto} {s₀ s : Shared} {env : Env} {i : Nat} {v : Value}
theorem LeftH.ok {e : Addr} {c : Value} {d : Option Addr} {vs : Array Value} {sl : Array (Option Value)} {Z : List Addr} {T : Addr} {h' : Heap} {av : List AV} (x : LeftH (fr_ frs) e c d vs sl Z T s.heap h') (R : Rep G.toGl frs ω σ s.heap) (hex : σ.t.get i = some (.exc (.tup av))) (hi : ω.ρ[i]? = some e)
    (he : s.heap.get? e = some ⟨c, d, .fields vs, sl⟩) (hsz : 1 < vs.size) (hZ : ∀ a ∈ Z, s₀.heap.get? a = none ∧ a ∉ ω.ρ ∧ a ∉ ω.fz ∧ G.base.get? a = none ∧ a ∉ fr_ frs) (hs₀ : ∀ a, s.heap.get? a = none → s₀.heap.get? a = none) (t : Nat) :
    St G frs Z ω s ω σ { s with heap := h', toks := t } ∧ Flies ω σ i (.ref e) s₀ { s with heap := h', toks := t } := by
  have heρ : e ∈ ω.ρ := List.mem_of_getElem? hi
  have he_fz := (R.sep e heρ).1
  have kz : ∀ b ∈ ω.fz, ∀ o, s.heap.get? b = some o → h'.get? b = some o := fun b hb o ho => x.keep b o (fun q => he_fz (q ▸ hb)) (fun q => (hZ b q).2.2.1 hb) (R.fzF b hb) ho
  have L : Later ω s.heap ω h' := ⟨fun a q => q, fun _ _ q => q, fun _ _ q => q, fun b hb o e => kz b hb o e⟩
  have hTe : T ≠ e := fun q => by have := x.new; rw [q, he] at this; cases this
  refine ⟨⟨⟨x.old, ⟨[], by simp, fun _ q => nomatch q⟩, fun a q => q, fun a q => .inl q, ⟨[], by simp⟩, fun b o ho hb hX => ?_⟩,
    ⟨fun j o ej => ?_, R.len, R.nu, R.nodup, fun b q => by obtain ⟨o, ho⟩ := R.low b q; exact x.old b o ho, fun b q => by obtain ⟨o, ho⟩ := R.lowz b q; exact x.old b o ho, R.sep, R.fzF, fun b o ho => ?_, ?_, R.glob⟩, rfl, rfl, rfl⟩, ?_⟩
  · by_cases hf : b ∈ fr_ frs
    · exact .inr ⟨hf, x.frame b o hf ho⟩
    · exact .inl (x.keep b o (fun q => hb (q ▸ heρ)) hX hf ho)
  · obtain ⟨a, ea, oa⟩ := R.objs j o ej
    refine ⟨a, ea, ?_⟩
    by_cases hae : a = e
    · subst hae
      have : j = i := by
        obtain ⟨p, ep⟩ := List.getElem?_eq_some_iff.mp ea
        obtain ⟨q, eq⟩ := List.getElem?_eq_some_iff.mp hi
        exact (List.getElem_inj (h₀ := p) (h₁ := q) R.nodup).mp (by rw [ep, eq])
      subst this
      rw [hex] at ej
      cases ej
      obtain ⟨o, dx, es, n, w, vs', h1, h2, h3, h4, h5, h6, h7, h8, h9, h10⟩ := oa
      rw [he] at h1
      cases h1
      exact ⟨_, dx, es, n, w, _, x.exc, h2, h3, rfl, h5, kz _ h5 _ h6, h7, L.vr h8, by simpa using hsz, fun ⟨u, q⟩ => (by cases q)⟩
    · have haρ := List.mem_of_getElem? ea
      exact oa.later L fun o ho => x.keep a o hae (fun q => (hZ a q).2.1 haρ) (R.sep a haρ).2.2 ho
  · have hb : s.heap.get? b = some o := R.base b o ho
    refine x.keep b o (fun q => ?_) (fun q => ?_) (fun q => ?_) hb
    · have := (R.sep e heρ).2.1; rw [← q, ho] at this; cases this
    · have := (hZ b q).2.2.2.1; rw [ho] at this; cases this
    · have := (R.frames.mem q).1; rw [ho] at this; cases this
  · exact funFrames_on R.frames fun b hb o ho hd => by
      obtain ⟨sl', q⟩ := x.frame b o hb ho
      exact ⟨_, q, hd⟩
  · obtain ⟨o, ts, h1, h2, h3⟩ := x.entry
    refine ⟨av, e, _, _, hex, rfl, hi, x.exc, rfl, by simpa using hsz, .inr ⟨T, o, ts, by simp [hsz], hTe, hs₀ T x.new, fun q => live_ne (R.low T q) x.new rfl, fun q => live_ne (R.lowz T q) x.new rfl, h1, h2, h3⟩⟩
/-- an exception leaves a function -/
theorem leave_ok {A : Around} {E : Value → Shared → Prop} {L : Addr} {Q : Shared → Prop} (hF : A.frames = some (env :: frs)) (hf : env.frame = some L) (R : Rep G.toGl (env :: frs) ω σ s.heap) (hfl : Flies ω σ i v s₀ s) (hs₀ : ∀ a, s.heap.get? a = none → s₀.heap.get? a = none)
    (hb₀ : ∀ a o, G.base.get? a = some o → ∃ o', s₀.heap.get? a = some o')
    (h : ∀ Z s', (∀ a ∈ Z, s₀.heap.get? a = none) → St G (env :: frs) Z ω s ω σ s' → Flies ω σ i v s₀ s' → Q s') : wpAny (model G.prog G.w) A (leaving env v) (fun _ s' => Q s') E s := by
  obtain ⟨av, a, o, vs, h1, rfl, h3, h4, h5, h6, h7⟩ := hfl
  obtain ⟨c, d, dt, sl⟩ := o
  cases h5
  rcases h7 with q | ⟨T, oT, ts, q1, q2, q3, q4, q5, q6, q7, q8⟩
  · refine leave_first hF R.frames hf h4 q fun h' T x => ?_
    obtain ⟨S, Fl⟩ := x.ok (s₀ := s₀) R h1 h3 h4 h6 (fun _ z => nomatch z) hs₀ s.toks
    exact h [] _ (fun _ z => nomatch z) S Fl
  · have nF : T ∉ fr_ (env :: frs) := fun q => by
      obtain ⟨_, o, ho, hnf⟩ := R.frames.mem q
      rw [q6] at ho; cases ho; exact hnf ts q7
    have nB : G.base.get? T = none := by
      cases e : G.base.get? T with
      | none => rfl
      | some o => obtain ⟨o', ho'⟩ := hb₀ T o e; rw [q3] at ho'; cases ho'
    refine leave_next hF R.frames hf h4 q1 q2 q6 q7 q8 fun h' T' x => ?_
    obtain ⟨S, Fl⟩ := x.ok (s₀ := s₀) R h1 h3 h4 h6 (fun b hb => by rw [List.mem_singleton.mp hb]; exact ⟨q3, q4, q5, nB, nF⟩) hs₀ s.toks
    exact h [T] _ (fun b hb => by rw [List.mem_singleton.mp hb]; exact q3) S Fl
end
end
end Mine
namespace Mine
section
open PySem PySem.W PyProof.Rows PySem.Calls PySem.Spec

/-- a function of the module -/
structure FnAt (G : Gd) (f : Addr) (fd : FuncData) : Prop where
  at_ : ∃ o, G.base.get? f = some o ∧ o.data = .func fd
  co : fd.scope.isCoroutine = false
  gen : fd.scope.isGenerator = false
  globals : fd.globals = mainGlobals
  clos : fd.closure = []
  bi : fd.builtins = builtinsNs
  code : G.base.CodeRec fd.code fd.qualname
noncomputable def frSlot (l : List AV) (i : Nat) : SV := match l[i]? with | some v => .va v | none => .un
/-- the frame of a call -/
noncomputable def frOf (l : List AV) : Fra := ⟨frSlot l 0, frSlot l 1, frSlot l 2, frSlot l 3, frSlot l 4, frSlot l 5, frSlot l 6, frSlot l 7, frSlot l 8, frSlot l 9, frSlot l 10, frSlot l 11⟩
theorem frOf_get (l : List AV) (i : Nat) : (frOf l).get i = .un ∨ ∃ v, l[i]? = some v ∧ (frOf l).get i = .va v := by
  have key : ∀ j, frSlot l j = .un ∨ ∃ v, l[j]? = some v ∧ frSlot l j = .va v := fun j => by
    unfold frSlot
    cases e : l[j]? with
    | none => exact .inl rfl
    | some v => exact .inr ⟨v, rfl, rfl⟩
  match i with
  | 0 => exact key 0 | 1 => exact key 1 | 2 => exact key 2 | 3 => exact key 3 | 4 => exact key 4 | 5 => exact key 5
  | 6 => exact key 6 | 7 => exact key 7 | 8 => exact key 8 | 9 => exact key 9 | 10 => exact key 10 | 11 => exact key 11
  | n + 12 => exact .inl rfl
theorem bindL_keep {kf : Str → Option NameKind} {x : Str} : ∀ {binds : List (Str × Value)} {m : Str → Option Value}, (∀ v, (x, v) ∉ binds) → bindL kf binds m x = m x
  | [], _, _ => rfl
  | (n, v) :: r, m, h => by
    unfold bindL
    rw [bindL_keep fun w hw => h w (.tail _ hw)]
    have hn : x ≠ n := fun e => h v (by rw [e]; exact .head _)
    split
    · exact if_neg hn
    · rfl
theorem bindL_get {kf : Str → Option NameKind} {x : Str} {v : Value} : ∀ {binds : List (Str × Value)} {m : Str → Option Value}, (binds.map (·.1)).Nodup → (x, v) ∈ binds → kf x = some .local → bindL kf binds m x = some v
  | (n, w) :: r, m, hn, hm, hk => by
    obtain ⟨h1, h2⟩ := List.nodup_cons.mp hn
    unfold bindL
    rcases List.mem_cons.mp hm with e | hm
    · cases e
      rw [bindL_keep fun w hw => h1 (List.mem_map.mpr ⟨_, hw, rfl⟩), if_pos hk, if_pos rfl]
    · exact bindL_get h2 hm hk
theorem bindC_keep {kf : Str → Option NameKind} {x : Str} : ∀ {binds : List (Str × Value)} {m : Str → Option Value}, (∀ v, (x, v) ∉ binds) → bindC kf binds m x = m x
  | [], _, _ => rfl
  | (n, v) :: r, m, h => by
    unfold bindC
    rw [bindC_keep fun w hw => h w (.tail _ hw)]
    have hn : x ≠ n := fun e => h v (by rw [e]; exact .head _)
    split
    · rfl
    · exact if_neg hn
theorem bindC_get {kf : Str → Option NameKind} {x : Str} {v : Value} : ∀ {binds : List (Str × Value)} {m : Str → Option Value}, (binds.map (·.1)).Nodup → (x, v) ∈ binds → kf x ≠ some .local → bindC kf binds m x = some v
  | (n, w) :: r, m, hn, hm, hk => by
    obtain ⟨h1, h2⟩ := List.nodup_cons.mp hn
    unfold bindC
    rcases List.mem_cons.mp hm with e | hm
    · cases e
      rw [bindC_keep fun w hw => h1 (List.mem_map.mpr ⟨_, hw, rfl⟩), if_neg hk, if_pos rfl]
    · exact bindC_get h2 hm hk
theorem VRs.nth {ω : Wd} {h : Heap} : ∀ {vs : List Value} {l : List AV}, VRs ω h vs l → ∀ {i : Nat} {v : AV}, l[i]? = some v → ∃ w, vs[i]? = some w ∧ VR ω h w v
  | _, _, .cons a b, 0, v, e => by cases e; exact ⟨_, rfl, a⟩
  | _, _, .cons a b, i + 1, v, e => VRs.nth b (i := i) e
section
variable {G : Gd} {frs : List Env} {X : List Addr} {ω ω' : Wd} {σ σ' : Sto} {s s₁ s' : Shared} {env : Env} {L : Addr}
theorem Rep.push {h : Heap} {m : Str → Option Value} (R : Rep G.toGl frs ω σ h) (hk : env.scope.kind = .function) (hf : env.frame = some L) (hn : h.Ns L m) (hb : G.base.get? L = none) (hr : L ∉ ω.ρ) (hz : L ∉ ω.fz) : Rep G.toGl (env :: frs) ω σ h := by
  have e : fr_ (env :: frs) = L :: fr_ frs := by show (env :: frs).filterMap (·.frame) = _; rw [List.filterMap_cons, hf]
  refine ⟨R.objs, R.len, R.nu, R.nodup, R.low, R.lowz, fun a ha => ⟨(R.sep a ha).1, (R.sep a ha).2.1, fun q => ?_⟩, fun a ha q => ?_, R.base, Heap.FunFrames.cons (by rw [hk]; decide) hf hn hb R.frames, R.glob⟩
  · rw [show List.filterMap (fun x => x.frame) (env :: frs) = L :: fr_ frs from e] at q
    rcases List.mem_cons.mp q with q | q
    · exact hr (q ▸ ha)
    · exact (R.sep a ha).2.2 q
  · rw [show List.filterMap (fun x => x.frame) (env :: frs) = L :: fr_ frs from e] at q
    rcases List.mem_cons.mp q with q | q
    · exact hz (q ▸ ha)
    · exact R.fzF a ha q
theorem Rep.pop {h : Heap} (R : Rep G.toGl (env :: frs) ω σ h) (hf : env.frame = some L) : Rep G.toGl frs ω σ h := by
  have e : List.filterMap (fun x => x.frame) (env :: frs) = L :: fr_ frs := by rw [List.filterMap_cons, hf]
  have up : ∀ a, a ∈ fr_ frs → a ∈ List.filterMap (fun x => x.frame) (env :: frs) := fun a q => by rw [e]; exact .tail _ q
  exact ⟨R.objs, R.len, R.nu, R.nodup, R.low, R.lowz, fun a ha => ⟨(R.sep a ha).1, (R.sep a ha).2.1, fun q => (R.sep a ha).2.2 (up a q)⟩, fun a ha q => R.fzF a ha (up a q), R.base, R.frames.2.2, R.glob⟩
/-- a call's step, seen from its caller -/
theorem St.pop {ω₁ : Wd} {σ₁ : Sto} {Z : List Addr} (T : St G frs Z ω s ω₁ σ₁ s₁) (S : St G (env :: frs) X ω₁ s₁ ω' σ' s') (hf : env.frame = some L) (hL : s.heap.get? L = none) (hX : ∀ a ∈ X, s.heap.get? a = none) : St G frs Z ω s ω' σ' s' := by
  have e : fr_ (env :: frs) = L :: fr_ frs := by show (env :: frs).filterMap (·.frame) = _; rw [List.filterMap_cons, hf]
  have S' : Step (fr_ frs) (L :: X) ω₁ s₁.heap ω' s'.heap := ⟨S.step.alive, S.step.rho, S.step.fz, S.step.fz', S.step.nu, fun a o ho hr hx => by
    rcases S.step.keep a o ho hr fun q => hx (.tail _ q) with q | ⟨q, r⟩
    · exact .inl q
    · rw [e] at q
      rcases List.mem_cons.mp q with q | q
      · exact absurd (by rw [q]; exact .head _) hx
      · exact .inr ⟨q, r⟩⟩
  exact ⟨T.step.trans S' fun a ha => .inr ((List.mem_cons.mp ha).elim (fun q => q ▸ hL) (hX a)), S.rep.pop hf, S.gens.trans T.gens, S.drawn.trans T.drawn, S.os.trans T.os⟩
end
theorem Room.deeper {A : Around} {n : Nat} {env : Env} (h : Room A (n + 1)) : Room (A.deeper env) n := by
  obtain ⟨a, b, c⟩ := h
  refine ⟨a, ?_, ?_⟩
  · show A.depth + 1 + n < _; omega
  · show A.units + 3 + 4 * n + 200 < _; omega
section
variable {G : Gd} {frs : List Env} {ω : Wd} {σ : Sto} {s : Shared} {Γ : Ct} {f : Addr} {fd : FuncData}
/-- the frame of a call of a function -/
theorem fn_frame {l : List AV} {binds : List (Str × Value)} {env : Env} {s' : Shared} (R : Rep G.toGl frs ω σ s.heap) (FA : FnAt G f fd) (hsc : ScOK Γ fd.scope) (hcap : ∀ (i : Nat) x, Γ.vars[i]? ≠ some (x, SK.cap)) (hcode : ∀ c q, Γ.code = some (c, q) → fd.code = .ref c ∧ fd.qualname ++ ".<locals>." = q)
    (hnames : ∀ (i : Nat) x, (binds.map (·.1))[i]? = some x → ∃ kk, Γ.vars[i]? = some (x, kk)) (hnd : (binds.map (·.1)).Nodup) (V : VRs ω s.heap (binds.map (·.2)) l)
    (he : env = newEnv fd.scope s.heap.objs.size fd.globals (cellsFrom (s.heap.objs.size + 1) fd.scope.names []) (fd.qualname ++ ".<locals>.") (some f) fd.code none fd.builtins)
    (x : InCallC s env.locals (bindL env.kindOf binds fun _ => none) env.cells (bindC env.kindOf binds fun _ => none) s') :
    ∃ X, St G frs [] ω s ω σ s' ∧ Rep G.toGl (env :: frs) ω σ s'.heap ∧ FrOK G.toGl (env :: frs) Γ env X (frOf l) ω s'.heap ∧ (∀ a ∈ X, s.heap.get? a = none) ∧ env.frame = some s.heap.objs.size ∧ s.heap.get? s.heap.objs.size = none := by
  subst he
  obtain ⟨h₁, tk, rfl, hk₁⟩ := x.done
  have T : St G frs [] ω s ω σ { s with heap := h₁, toks := tk } := St.keep0 (s := s) R hk₁ tk
  have L := T.later R
  have hnew := push_none s.heap
  have newL : ∀ c, s.heap.get? c = none → c ∉ ω.ρ ∧ c ∉ ω.fz ∧ G.base.get? c = none := fun c hc => ⟨fun q => live_ne (R.low c q) hc rfl, fun q => live_ne (R.lowz c q) hc rfl, by
    cases e : G.base.get? c with
    | none => rfl
    | some o => have := R.base c o e; rw [hc] at this; cases this⟩
  have above : ∀ y c, (cellsFrom (s.heap.objs.size + 1) fd.scope.names []).lookup y = some c → s.heap.get? c = none ∧ c ≠ s.heap.objs.size := fun y c hc => by
    have h := x.above y c (mem_of_lookup hc)
    have h' : s.heap.objs.size < c := h
    exact ⟨Heap.get?_none_of_le (Nat.le_of_lt h'), Nat.ne_of_gt h'⟩
  have R' : Rep G.toGl (newEnv fd.scope s.heap.objs.size fd.globals (cellsFrom (s.heap.objs.size + 1) fd.scope.names []) (fd.qualname ++ ".<locals>.") (some f) fd.code none fd.builtins :: frs) ω σ h₁ :=
    T.rep.push hsc.kind rfl x.toInCall.ns (newL _ hnew).2.2 (newL _ hnew).1 (newL _ hnew).2.1
  have slot : ∀ (i : Nat) y kk, Γ.vars[i]? = some (y, kk) → (frOf l).get i = .un ∨ ∃ v av, (y, v) ∈ binds ∧ (frOf l).get i = .va av ∧ VR ω h₁ v av := fun i y kk hy => by
    rcases frOf_get l i with q | ⟨av, q, q'⟩
    · exact .inl q
    · obtain ⟨v, hv, VV⟩ := V.nth q
      rw [List.getElem?_map] at hv
      obtain ⟨p, hp, hp2⟩ := Option.map_eq_some_iff.mp hv
      obtain ⟨kk', hk'⟩ := hnames i p.1 (by rw [List.getElem?_map, hp]; rfl)
      rw [hy] at hk'
      cases hk'
      exact .inr ⟨v, av, by rw [← hp2]; exact List.mem_of_getElem? hp, q', L.vr VV⟩
  refine ⟨s.heap.objs.size :: Γ.vars.filterMap (fun p => (cellsFrom (s.heap.objs.size + 1) fd.scope.names []).lookup p.1), T, R', ⟨⟨hsc.kind, FA.globals, FA.bi, fun i y hy => hsc.vars i y _ hy, fun i y hy => hsc.vars i y _ hy, fun i y hy => absurd hy (hcap i y), fun y hy => hsc.globs y hy, hsc.names, fun c q e => hcode c q e, hsc.dbg⟩,
    ⟨_, x.toInCall.ns, fun i y hy => ?_⟩, fun i y kk hy hkk => ?_, fun y z c hy hz => ?_, .head _, fun a ha => ?_, fun a ha => ?_, ⟨_, rfl, _, rfl, rfl⟩⟩, fun a ha => ?_, rfl, hnew⟩
  · rcases slot i y _ hy with q | ⟨v, av, hm, q, VV⟩
    · rw [q]; trivial
    · rw [q]
      exact ⟨v, bindL_get hnd hm (hsc.vars i y _ hy), VV⟩
  · cases kk with
    | loc => exact absurd rfl hkk
    | cap => exact absurd hy (hcap i y)
    | own =>
      obtain ⟨c, hc⟩ := cellsFrom_mem fd.scope.names (s.heap.objs.size + 1) y (mem_of_lookup (hsc.vars i y _ hy))
      obtain ⟨d, hd⟩ := lookup_some hc
      obtain ⟨e1, e2⟩ := above y d hd
      refine ⟨d, _, hd, x.cell y d hd, (newL d e1).1, e2, fun _ => .tail _ (List.mem_filterMap.mpr ⟨_, List.mem_of_getElem? hy, hd⟩), ?_⟩
      rcases slot i y _ hy with q | ⟨v, av, hm, q, VV⟩
      · rw [q]; trivial
      · rw [q]
        refine ⟨v, bindC_get hnd hm ?_, VV⟩
        show fd.scope.names.lookup y ≠ _
        rw [hsc.vars i y _ hy]
        decide
  · exact name_of_addr x.apart (mem_of_lookup hy) (mem_of_lookup hz)
  · rcases List.mem_cons.mp ha with rfl | ha
    · obtain ⟨o, _, _, ho, _⟩ := x.toInCall.ns; exact ⟨o, ho⟩
    · obtain ⟨p, _, hp⟩ := List.mem_filterMap.mp ha
      obtain ⟨o, ho, _⟩ := x.cell p.1 a hp
      exact ⟨o, ho⟩
  · rcases List.mem_cons.mp ha with rfl | ha
    · exact newL _ hnew
    · obtain ⟨p, _, hp⟩ := List.mem_filterMap.mp ha
      exact newL _ (above p.1 a hp).1
  · rcases List.mem_cons.mp ha with rfl | ha
    · exact hnew
    · obtain ⟨p, _, hp⟩ := List.mem_filterMap.mp ha
      exact (above p.1 a hp).1
theorem call_fn {n : Nat} {body : List Stmt} {cb : CX} {A : Around} {l : List AV} {binds : List (Str × Value)} {args : Args} {k : KV} {x : KX} (FA : FnAt G f fd) (hbody : fd.body = .stmts body) (hsc : ScOK Γ fd.scope) (hcap : ∀ (i : Nat) x, Γ.vars[i]? ≠ some (x, SK.cap)) (hcode : ∀ c q, Γ.code = some (c, q) → fd.code = .ref c ∧ fd.qualname ++ ".<locals>." = q)
    (hb : SXs G n Γ cb body) (hA : Room A (n + 1)) (hF : A.frames = some frs) (R : Rep G.toGl frs ω σ s.heap) (hbind : BindsTo s fd args binds)
    (hnames : ∀ (i : Nat) x, (binds.map (·.1))[i]? = some x → ∃ kk, Γ.vars[i]? = some (x, kk)) (hnd : (binds.map (·.1)).Nodup) (V : VRs ω s.heap (binds.map (·.2)) l) (h : callF cb (frOf l) σ k x = true) :
    codeAny (model G.prog G.w) A (.call (.ref f) args) (fun r s' => match r with | .ok (.ret v) => OkV G frs [] ω s k v s' | .ok _ => False | .error e => ExV G frs [] ω s x e s') s := by
  obtain ⟨o, ho, hd⟩ := FA.at_
  have hkb : ∀ b o, G.base.get? b = some o → s.heap.get? b = some o := R.base
  have hlim : s.heap.NoLimit := G.nolimit.keeps hkb
  have h' : cb (frOf l) σ (fun _ σ => k .none σ) k x = true := h
  refine codeAny_call_function (by have := hA.2.1; omega) (hkb f o ho) hd FA.co FA.gen hbody (FA.code.keeps hkb) (hbind _ _ _ _ ?_)
  rw [FA.clos]
  refine wpAny_newFunctionEnv_cells hsc.kind (fun y hy => ?_) fun env he s₁ xc => ?_
  · obtain ⟨i, hi⟩ := List.getElem?_of_mem hy
    obtain ⟨kk, hk⟩ := hnames i y.1 (by rw [List.getElem?_map, hi]; rfl)
    have hl := hsc.vars i y.1 kk hk
    cases kk with
    | loc => exact .inl hl
    | cap => exact absurd hk (hcap i _)
    | own =>
      obtain ⟨c, hc⟩ := cellsFrom_mem fd.scope.names (s.heap.objs.size + 1) y.1 (mem_of_lookup hl)
      obtain ⟨d, hd⟩ := lookup_some hc
      exact .inr ⟨hl, by rw [hd]; rfl⟩
  · obtain ⟨X, T, R', F', hX, hfr, hL⟩ := fn_frame R FA hsc hcap hcode hnames hnd V he xc
    refine ⟨G.nolimit.keeps fun b o e => T.rep.base b o e, codeAny_func ?_⟩
    have hF' : (A.deeper env).frames = some (env :: frs) := Around.frames_deeper hF
    refine wpAny_mono (hb (A.deeper env) (env :: frs) env X (frOf l) ω σ s₁ _ k x hA.deeper hF' R' F' h') (fun fl s₂ q => ?_) fun e s₂ q => ?_
    · cases fl with
      | next =>
        obtain ⟨fr₂, ω₂, σ₂, hk, S, F₂⟩ := q
        exact ⟨.none, ω₂, σ₂, hk, T.pop S hfr hL hX, .none⟩
      | ret v =>
        obtain ⟨av, ω₂, σ₂, hk, S, VV⟩ := q
        exact ⟨av, ω₂, σ₂, hk, T.pop S hfr hL hX, VV⟩
      | _ => exact q.elim
    · obtain ⟨i, ω₂, σ₂, hk, S, Fl⟩ := q
      have S₀ := T.pop S hfr hL hX
      refine wpAny_mono (leave_ok (s₀ := s) (Q := fun s'' => ExV G frs [] ω s x e s'') (E := fun _ _ => False) hF' hfr S.rep (Fl.back fun a q => T.step.back q) (fun a q => S₀.step.back q) (fun a o q => ⟨o, R.base a o q⟩) fun Z s₃ hZ S₃ Fl₃ => ?_) (fun _ _ z => z) fun _ _ z => z.elim
      exact ⟨i, ω₂, σ₂, hk, S₀.pop S₃ hfr hL hZ, Fl₃⟩
end
end
end Mine
namespace Mine
section
open PySem PySem.W PyProof.Rows PySem.Calls PySem.Spec

/-- what is known of a callable: n: how many frames lie above; m: how many values it takes -/
noncomputable def FN (G : Gd) (n : Nat) (f : Value) (m : Nat) (c : List AV → Sto → KV → KX → Bool) : Prop :=
  ∀ (A : Around) (frs : List Env) (ω : Wd) (σ : Sto) (s : Shared) (vs : List Value) (l : List AV) (k : KV) (x : KX),
    Room A n → A.frames = some frs → Rep G.toGl frs ω σ s.heap → VRs ω s.heap vs l → l.length = m → c l σ k x = true →
    codeAny (model G.prog G.w) A (.call f ⟨vs, []⟩) (fun r s' => match r with | .ok (.ret v) => OkV G frs [] ω s k v s' | .ok _ => False | .error e => ExV G frs [] ω s x e s') s
theorem FN.call {G : Gd} {n : Nat} {f : Value} {m : Nat} {c : List AV → Sto → KV → KX → Bool} (h : FN G n f m c) {A : Around} {frs : List Env} {ω : Wd} {σ : Sto} {s : Shared} {vs : List Value} {l : List AV} {k : KV} {x : KX}
    (hA : Room A n) (hF : A.frames = some frs) (R : Rep G.toGl frs ω σ s.heap) (V : VRs ω s.heap vs l) (hl : l.length = m) (q : c l σ k x = true) : wpAny (model G.prog G.w) A (call f vs) (OkV G frs [] ω s k) (ExV G frs [] ω s x) s :=
  wpAny_call (codeAny_mono (h A frs ω σ s vs l k x hA hF R V hl q) fun r s' q => by
    cases r with
    | error e => exact q
    | ok fl => cases fl <;> exact q)
theorem FN.mono {G : Gd} {m n p : Nat} {f : Value} {c : List AV → Sto → KV → KX → Bool} (h : FN G m f p c) (hm : m ≤ n) : FN G n f p c :=
  fun A frs ω σ s vs l k x hA => h A frs ω σ s vs l k x (hA.lt hm)
noncomputable def fnOK (Γ : Ct) (ps : List Str) : Bool := (Γ.vars.all fun p => !(p.2 == SK.cap)) && ps.isPrefixOf (Γ.vars.map (·.1)) && decide ps.Nodup
theorem isPrefixOf_get {α : Type} [BEq α] [LawfulBEq α] : ∀ {l r : List α}, l.isPrefixOf r = true → ∀ {i : Nat} {x : α}, l[i]? = some x → r[i]? = some x
  | a :: l, b :: r, h, 0, x, e => by
    simp only [List.isPrefixOf, Bool.and_eq_true, beq_iff_eq] at h
    cases e
    rw [h.1]; rfl
  | a :: l, b :: r, h, i + 1, x, e => by
    simp only [List.isPrefixOf, Bool.and_eq_true, beq_iff_eq] at h
    exact isPrefixOf_get (l := l) (r := r) h.2 (i := i) e
theorem fnOK_of {Γ : Ct} {ps : List Str} (h : fnOK Γ ps = true) : (∀ (i : Nat) x, Γ.vars[i]? ≠ some (x, SK.cap)) ∧ (∀ (i : Nat) x, ps[i]? = some x → ∃ kk, Γ.vars[i]? = some (x, kk)) ∧ ps.Nodup := by
  simp only [fnOK, Bool.and_eq_true, List.all_eq_true, decide_eq_true_eq] at h
  obtain ⟨⟨h1, h2⟩, h3⟩ := h
  refine ⟨fun i x e => ?_, fun i x e => ?_, h3⟩
  · have := h1 _ (List.mem_of_getElem? e)
    exact (nomatch (show false = true from this))
  · have := isPrefixOf_get h2 e
    rw [List.getElem?_map] at this
    obtain ⟨p, hp, rfl⟩ := Option.map_eq_some_iff.mp this
    exact ⟨p.2, hp⟩
theorem VRs.appendL {ω : Wd} {h : Heap} {vs ws : List Value} {l r : List AV} (a : VRs ω h vs l) (b : VRs ω h ws r) : VRs ω h (vs ++ ws) (l ++ r) := a.append b
theorem zip_map {ps : List Str} {vs : List Value} (h : ps.length = vs.length) : (ps.zip vs).map (·.1) = ps ∧ (ps.zip vs).map (·.2) = vs :=
  ⟨List.map_fst_zip (by omega), List.map_snd_zip (by omega)⟩
/-- a function of the module; d: its defaults that are taken -/
theorem FN.of {G : Gd} {n : Nat} {f : Addr} {fd : FuncData} {body : List Stmt} {Γ : Ct} {cb : CX} {ps : List Str} {m : Nat} {d : List Value} {dl : List AV} (FA : FnAt G f fd) (hbody : fd.body = .stmts body) (hsc : scOK Γ fd.scope = true) (hps : fnOK Γ ps = true) (hm : ps.length = m + dl.length) (hd : ∀ ω h, VRs ω h d dl)
    (hcode : ∀ c q, Γ.code = some (c, q) → fd.code = .ref c ∧ fd.qualname ++ ".<locals>." = q) (hbind : ∀ (s : Shared) vs, vs.length = m → (∀ b o, G.base.get? b = some o → s.heap.get? b = some o) → BindsTo s fd ⟨vs, []⟩ (ps.zip (vs ++ d)))
    (hb : SXs G n Γ cb body) : FN G (n + 1) (.ref f) m fun l σ k x => callF cb (frOf (l ++ dl)) σ k x := by
  intro A frs ω σ s vs l k x hA hF R V hl h
  obtain ⟨h1, h2, h3⟩ := fnOK_of hps
  have hlen := V.length
  have hdl := (hd ω s.heap).length
  obtain ⟨z1, z2⟩ := zip_map (ps := ps) (vs := vs ++ d) (by rw [List.length_append]; omega)
  exact call_fn FA hbody (ScOK.of hsc) h1 hcode hb hA hF R (hbind s vs (by omega) R.base) (by rw [z1]; exact h2) (by rw [z1]; exact h3) (by rw [z2]; exact V.append (hd ω s.heap)) h
section
variable {G : Gd} {n m : Nat} {Γ : Ct} {pos np : Pos} {nm : Str} {f : Value} {cb : CX} {e0 e1 e2 e3 e4 : Expr} {c0 c1 c2 c3 c4 : CV}
theorem K3_one {f : AV → AV → AV → Sto → Bool} {l : List AV} {σ : Sto} (h : K3 f l σ = true) : ∃ a b c, l = [a, b, c] ∧ f a b c σ = true := K3_inv h
theorem K4_inv {f : AV → AV → AV → AV → Sto → Bool} {l : List AV} {σ : Sto} (h : K4 f l σ = true) : ∃ a b c d, l = [a, b, c, d] ∧ f a b c d σ = true := by
  match l, h with
  | [a, b, c, d], h => exact ⟨a, b, c, d, rfl, h⟩
theorem K5_inv {f : AV → AV → AV → AV → AV → Sto → Bool} {l : List AV} {σ : Sto} (h : K5 f l σ = true) : ∃ a b c d e, l = [a, b, c, d, e] ∧ f a b c d e σ = true := by
  match l, h with
  | [a, b, c, d, e], h => exact ⟨a, b, c, d, e, rfl, h⟩
theorem K0_inv {f : Sto → Bool} {l : List AV} {σ : Sto} (h : K0 f l σ = true) : l = [] ∧ f σ = true := by
  match l, h with
  | [], h => exact ⟨rfl, h⟩
theorem SE.callN {cs : List CV} {es : List Expr} {c : List AV → Sto → KV → KX → Bool} (hg : GlobV G nm f) (hx : nm ∈ Γ.globs) (hf : KeepF G f) (H : SEs G n Γ cs es) (hF : FN G n f m c) (hm : es.length = m) :
    SE G n Γ (fun fr σ k x => evs cs fr σ (fun l σ => ifB (Nat.beq l.length m) (c l σ k x) false) x) (.Call (.Name nm np) es [] pos) := by
  intro A frs env X fr ω σ s k x hA hFr R F h
  refine callName hg hx hf H hA hFr R F h fun vs s₁ l ω₁ σ₁ hl S V q => ?_
  obtain ⟨q1, q2⟩ := ifB_inv q
  exact wpAny_mono (hF.call (l := l) hA hFr S.rep V (Nat.eq_of_beq_eq_true q1) q2) (fun _ _ z => z.after S) fun _ _ z => z.after S
noncomputable abbrev Star (e : Expr) : Prop := ∀ env rest, starEach (e :: rest) env = (false, eval e env) :: starEach rest env
theorem SE.call0 (hg : GlobV G nm f) (hx : nm ∈ Γ.globs) (hf : KeepF G f) (hF : FN G n f 0 fun l σ k x => callF cb (frOf (l ++ [])) σ k x) : SE G n Γ (vCall0 cb) (.Call (.Name nm np) [] [] pos) := by
  intro A frs env X fr ω σ s k x hA hFr R F h
  refine callName (k := K0 fun σ => callF cb (frOf []) σ k x) hg hx hf .nil hA hFr R F h fun vs s₁ l ω₁ σ₁ hl S V q => ?_
  obtain ⟨rfl, q'⟩ := K0_inv q
  exact wpAny_mono (hF.call (l := []) hA hFr S.rep V rfl q') (fun _ _ z => z.after S) fun _ _ z => z.after S
theorem SE.call1f (hg : GlobV G nm f) (hx : nm ∈ Γ.globs) (hf : KeepF G f) (hF : FN G n f 1 fun l σ k x => callF cb (frOf (l ++ [])) σ k x) (h0 : SE G n Γ c0 e0) (s0 : Star e0) : SE G n Γ (vCall1 cb c0) (.Call (.Name nm np) [e0] [] pos) := by
  intro A frs env X fr ω σ s k x hA hFr R F h
  refine callName (k := K1 fun u0 σ => callF cb (frOf [u0]) σ k x) hg hx hf (.cons h0 s0 .nil) hA hFr R F h fun vs s₁ l ω₁ σ₁ hl S V q => ?_
  obtain ⟨u0, rfl, q'⟩ := K1_inv q
  exact wpAny_mono (hF.call (l := [u0]) hA hFr S.rep V rfl q') (fun _ _ z => z.after S) fun _ _ z => z.after S
theorem SE.callD {d : AV} (hg : GlobV G nm f) (hx : nm ∈ Γ.globs) (hf : KeepF G f) (hF : FN G n f 1 fun l σ k x => callF cb (frOf (l ++ [d])) σ k x) (h0 : SE G n Γ c0 e0) (s0 : Star e0) : SE G n Γ (vCallD cb d c0) (.Call (.Name nm np) [e0] [] pos) := by
  intro A frs env X fr ω σ s k x hA hFr R F h
  refine callName (k := K1 fun u0 σ => callF cb (frOf [u0, d]) σ k x) hg hx hf (.cons h0 s0 .nil) hA hFr R F h fun vs s₁ l ω₁ σ₁ hl S V q => ?_
  obtain ⟨u0, rfl, q'⟩ := K1_inv q
  exact wpAny_mono (hF.call (l := [u0]) hA hFr S.rep V rfl q') (fun _ _ z => z.after S) fun _ _ z => z.after S
theorem SE.call2f (hg : GlobV G nm f) (hx : nm ∈ Γ.globs) (hf : KeepF G f) (hF : FN G n f 2 fun l σ k x => callF cb (frOf (l ++ [])) σ k x) (h0 : SE G n Γ c0 e0) (s0 : Star e0) (h1 : SE G n Γ c1 e1) (s1 : Star e1) : SE G n Γ (vCall2 cb c0 c1) (.Call (.Name nm np) [e0, e1] [] pos) := by
  intro A frs env X fr ω σ s k x hA hFr R F h
  refine callName (k := K2 fun u0 u1 σ => callF cb (frOf [u0, u1]) σ k x) hg hx hf (.cons h0 s0 (.cons h1 s1 .nil)) hA hFr R F h fun vs s₁ l ω₁ σ₁ hl S V q => ?_
  obtain ⟨u0, u1, rfl, q'⟩ := K2_inv q
  exact wpAny_mono (hF.call (l := [u0, u1]) hA hFr S.rep V rfl q') (fun _ _ z => z.after S) fun _ _ z => z.after S
theorem SE.call3f (hg : GlobV G nm f) (hx : nm ∈ Γ.globs) (hf : KeepF G f) (hF : FN G n f 3 fun l σ k x => callF cb (frOf (l ++ [])) σ k x) (h0 : SE G n Γ c0 e0) (s0 : Star e0) (h1 : SE G n Γ c1 e1) (s1 : Star e1) (h2 : SE G n Γ c2 e2) (s2 : Star e2) : SE G n Γ (vCall3 cb c0 c1 c2) (.Call (.Name nm np) [e0, e1, e2] [] pos) := by
  intro A frs env X fr ω σ s k x hA hFr R F h
  refine callName (k := K3 fun u0 u1 u2 σ => callF cb (frOf [u0, u1, u2]) σ k x) hg hx hf (.cons h0 s0 (.cons h1 s1 (.cons h2 s2 .nil))) hA hFr R F h fun vs s₁ l ω₁ σ₁ hl S V q => ?_
  obtain ⟨u0, u1, u2, rfl, q'⟩ := K3_inv q
  exact wpAny_mono (hF.call (l := [u0, u1, u2]) hA hFr S.rep V rfl q') (fun _ _ z => z.after S) fun _ _ z => z.after S
theorem SE.call4f (hg : GlobV G nm f) (hx : nm ∈ Γ.globs) (hf : KeepF G f) (hF : FN G n f 4 fun l σ k x => callF cb (frOf (l ++ [])) σ k x) (h0 : SE G n Γ c0 e0) (s0 : Star e0) (h1 : SE G n Γ c1 e1) (s1 : Star e1) (h2 : SE G n Γ c2 e2) (s2 : Star e2) (h3 : SE G n Γ c3 e3) (s3 : Star e3) :
    SE G n Γ (vCall4 cb c0 c1 c2 c3) (.Call (.Name nm np) [e0, e1, e2, e3] [] pos) := by
  intro A frs env X fr ω σ s k x hA hFr R F h
  refine callName (k := K4 fun u0 u1 u2 u3 σ => callF cb (frOf [u0, u1, u2, u3]) σ k x) hg hx hf (.cons h0 s0 (.cons h1 s1 (.cons h2 s2 (.cons h3 s3 .nil)))) hA hFr R F h fun vs s₁ l ω₁ σ₁ hl S V q => ?_
  obtain ⟨u0, u1, u2, u3, rfl, q'⟩ := K4_inv q
  exact wpAny_mono (hF.call (l := [u0, u1, u2, u3]) hA hFr S.rep V rfl q') (fun _ _ z => z.after S) fun _ _ z => z.after S
end
end
end Mine
namespace Mine
section
open PySem PySem.W PyProof.Rows PySem.Calls PySem.Spec

theorem getL_none {x : Str} (hx : x ∉ attrs) : ∀ {es : List DictEntry}, (∀ e ∈ es, ∃ y t, e.key = .str y t ∧ y ∈ attrs) → getL x es = some none := by
  intro es h
  have h1 : es.find? (·.key.isStr x) = none := by
    rw [List.find?_eq_none]
    intro e he
    obtain ⟨y, t, ek, hy⟩ := h e he
    obtain ⟨q1, q2, q3⟩ := e
    simp only at ek
    subst ek
    simp only [Value.isStr, beq_iff_eq]
    intro q
    exact hx (q ▸ hy)
  have h2 : es.any (·.refKey) = false := by
    rw [List.any_eq_false]
    intro e he
    obtain ⟨y, t, ek, _⟩ := h e he
    obtain ⟨q1, q2, q3⟩ := e
    simp only at ek
    subst ek
    simp [DictEntry.refKey]
  unfold getL
  rw [h1, h2]
  rfl
section
variable {G : Gd} {n m : Nat} {Γ : Ct} {pos np ap : Pos} {nm : Str} {cb : CX} {o e0 e1 e2 : Expr} {co c0 c1 c2 : CV} {c fa : Nat}
/-- a method of the text's own class -/
structure MethAt (G : Gd) (c : Nat) (nm : Str) (f : Addr) : Prop where
  find : findIn G.K (.ref (G.cls c)) nm = some (some (.ref f))
  fn : typeIn G.K (.ref f) = some (.type "function")
  own : nm ∉ attrs
  keep : keepIn G.K (.ref f) = true
/-- a call of such a method -/
theorem methW {A : Around} {frs : List Env} {env : Env} {X : List Addr} {fr : Fra} {ω : Wd} {σ : Sto} {s : Shared} {k : KV} {x : KX} {kk : AV → List AV → Sto → Bool} {cs : List CV} {es : List Expr}
    (M : MethAt G c nm fa) (hb : ∀ env, attributeBase o nm env (eval o env) = eval o env) (hform : ∀ env, methodCallForm (es.length + ([] : List Keyword).length) (backTo pos (starEach es env)) (backToKw pos (keywordEach [] env)) = true) (hp : (ap.endLine == pos.line) = true)
    (ho : SE G n Γ co o) (H : SEs G n Γ cs es) (hA : Room A n) (hF : A.frames = some frs) (R : Rep G.toGl frs ω σ s.heap) (F : FrOK G.toGl frs Γ env X fr ω s.heap)
    (h : co fr σ (fun u σ => instK u σ fun c' _ _ => ifB (Nat.beq c' c) (evs cs fr σ (fun l σ => kk u l σ) x) false) x = true)
    (hQ : ∀ v vs s₁ u l ω₁ σ₁, vs.length = es.length → St G frs [] ω s ω₁ σ₁ s₁ → VR ω₁ s₁.heap v u → VRs ω₁ s₁.heap vs l → kk u l σ₁ = true → wpAny (model G.prog G.w) A (call (.ref fa) (v :: vs)) (OkV G frs [] ω₁ s₁ k) (ExV G frs [] ω₁ s₁ x) s₁) :
    wpAny (model G.prog G.w) A (eval (.Call (.Attribute o nm ap) es [] pos) env) (OkV G frs [] ω s k) (ExV G frs [] ω s x) s := by
  rw [arm_eval_Call, hb env]
  refine wpAny_bind (ho.then hA hF R F h fun v s₁ u ω₁ σ₁ S U h₁ => ?_)
  obtain ⟨i, c', d, fs, rfl, e1, e2, h₂⟩ := instK_inv h₁
  obtain ⟨hc, h₃⟩ := ifB_inv h₂
  have hc' := Nat.eq_of_beq_eq_true hc
  subst hc'
  obtain ⟨z, dx, sl, es', mm, rfl, hz, hdx, hoz, hes, hN, I⟩ := S.rep.inst U e1 e2
  have C := G.clsOK c'
  have hpos : methodCallPos true o env ap pos = pure pos := by unfold methodCallPos; simp [hp]
  refine wpAny_bind (wpAny_standAt ?_)
  unfold methodCall
  rw [hform env]
  refine wpAny_bind (wpAny_holding (method_fn S.rep.kin I C.ga C.gm M.find M.fn (by show (lookIn nm (dictOf es' mm)).map _ = _; rw [lookIn_dict, getL_none M.own hN.2.1]; rfl) ?_))
  refine wpAny_bind (wpAny_of_eq hpos ?_)
  refine wpAny_mono (callW (Q := OkV G frs [] ω₁ s₁ k) (first := [.ref z]) (k := fun l σ => kk (.obj i) l σ) (KeepF.of M.keep) H hA hF S.rep (S.fr R F) h₃ fun vs s₂ l ω₂ σ₂ hl S₂ V q => ?_) (fun _ _ z => z.after S) fun _ _ z => z.after S
  exact wpAny_mono (hQ (.ref z) vs s₂ (.obj i) l ω₂ σ₂ hl (S.then S₂) ((S₂.later S.rep).vr U) V q) (fun _ _ z => z.after S₂) fun _ _ z => z.after S₂
theorem SE.meth1 (M : MethAt G c nm fa) (hb : ∀ env, attributeBase o nm env (eval o env) = eval o env) (hp : (ap.endLine == pos.line) = true) (hF : FN G n (.ref fa) 2 fun l σ k x => callF cb (frOf (l ++ [])) σ k x)
    (ho : SE G n Γ co o) (h0 : SE G n Γ c0 e0) (s0 : Star e0) : SE G n Γ (vMeth1 co c cb c0) (.Call (.Attribute o nm ap) [e0] [] pos) := by
  intro A frs env X fr ω σ s k x hA hFr R F h
  refine methW (kk := fun u => K1 fun u0 σ => callF cb (frOf [u, u0]) σ k x) M hb (fun env => form1 s0 pos env) hp ho (.cons h0 s0 .nil) hA hFr R F h fun v vs s₁ u l ω₁ σ₁ hl S U V q => ?_
  obtain ⟨u0, rfl, q'⟩ := K1_inv q
  exact hF.call (l := [u, u0]) hA hFr S.rep (.cons U V) rfl q'
theorem form3 (s0 : Star e0) (s1 : Star e1) (s2 : Star e2) (pos : Pos) (env : Env) : methodCallForm ([e0, e1, e2].length + ([] : List Keyword).length) (backTo pos (starEach [e0, e1, e2] env)) (backToKw pos (keywordEach [] env)) = true := by
  rw [s0, s1, s2]; rfl
theorem SE.meth3 (M : MethAt G c nm fa) (hb : ∀ env, attributeBase o nm env (eval o env) = eval o env) (hp : (ap.endLine == pos.line) = true) (hF : FN G n (.ref fa) 4 fun l σ k x => callF cb (frOf (l ++ [])) σ k x)
    (ho : SE G n Γ co o) (h0 : SE G n Γ c0 e0) (s0 : Star e0) (h1 : SE G n Γ c1 e1) (s1 : Star e1) (h2 : SE G n Γ c2 e2) (s2 : Star e2) : SE G n Γ (vMeth3 co c cb c0 c1 c2) (.Call (.Attribute o nm ap) [e0, e1, e2] [] pos) := by
  intro A frs env X fr ω σ s k x hA hFr R F h
  refine methW (kk := fun u => K3 fun u0 u1 u2 σ => callF cb (frOf [u, u0, u1, u2]) σ k x) M hb (fun env => form3 s0 s1 s2 pos env) hp ho (.cons h0 s0 (.cons h1 s1 (.cons h2 s2 .nil))) hA hFr R F h fun v vs s₁ u l ω₁ σ₁ hl S U V q => ?_
  obtain ⟨u0, u1, u2, rfl, q'⟩ := K3_inv q
  exact hF.call (l := [u, u0, u1, u2]) hA hFr S.rep (.cons U V) rfl q'
/-- an own object is made -/
structure MakeAt (G : Gd) (c : Nat) (f : Addr) : Prop where
  makes : makesIn G.K (G.cls c) = true
  init : findIn G.K (.ref (G.cls c)) "__init__" = some (some (.ref f))
  fn : typeIn G.K (.ref f) = some (.type "function")
theorem Room.type {A : Around} {n : Nat} {C : Addr} {vs : List Value} (h : Room A (n + 1)) : Room (A.under (.builtin "type.__call__" ⟨.ref C :: vs, []⟩)) n := by
  obtain ⟨a, b, c⟩ := h
  refine ⟨a, ?_, ?_⟩
  · show A.depth + 1 + n < _; omega
  · show A.units + 1 + 4 * n + 200 < _; omega
theorem frames_type {A : Around} {C : Addr} {vs : List Value} : (A.under (.builtin "type.__call__" ⟨.ref C :: vs, []⟩)).frames = A.frames := rfl
theorem makeOk {A : Around} {frs : List Env} {ω : Wd} {σ : Sto} {s : Shared} {vs : List Value} {l : List AV} {k : KV} {x : KX} (M : MakeAt G c fa) (hF : FN G n (.ref fa) (m + 1) fun l σ k x => callF cb (frOf (l ++ [])) σ k x)
    (hA : Room A (n + 1)) (hFr : A.frames = some frs) (R : Rep G.toGl frs ω σ s.heap) (V : VRs ω s.heap vs l) (hl : l.length = m)
    (h : alloc (.ns []) σ (fun d σ => alloc (.inst c d) σ fun i σ => callF cb (frOf (.obj i :: l ++ [])) σ (fun v σ => (@AV.rec (fun _ => Bool) (fun _ => Bool) (k (.obj i) σ) (fun _ => false) (fun _ => false) (fun _ => false) (fun _ => false) (fun _ _ => false) (fun _ _ => false) (fun _ => false) false false (fun _ _ _ _ => false) v)) noX) = true) :
    wpAny (model G.prog G.w) A (call (.ref (G.cls c)) vs) (OkV G frs [] ω s k) (ExV G frs [] ω s x) s := by
  refine wpAny_call ?_
  have hD : (s.heap.push emptyDict).get? s.heap.objs.size = some emptyDict := Heap.get?_push_size _ rfl
  obtain ⟨σ₁, h₁, S₁⟩ := St.allocAt (s := s) (h' := s.heap.push emptyDict) R (fun b o e => Heap.get?_push_of_some _ e) (push_none _) ⟨_, hD⟩ h s.toks fun ω' L => ⟨[], 0, hD, Nat.le_refl _, fun _ q => (nomatch q), fun k x _ av q => (nomatch q)⟩
  have hI : ((s.heap.push emptyDict).push (instObj (G.cls c) s.heap.objs.size)).get? (s.heap.objs.size + 1) = some (instObj (G.cls c) s.heap.objs.size) := by
    have := Heap.get?_push_size (s.heap.push emptyDict) (o := instObj (G.cls c) s.heap.objs.size) rfl
    rwa [Heap.size_push] at this
  obtain ⟨σ₂, h₂, S₂⟩ := St.allocAt (s := { s with heap := s.heap.push emptyDict, toks := s.toks }) (h' := (s.heap.push emptyDict).push (instObj (G.cls c) s.heap.objs.size)) (a₀ := s.heap.objs.size + 1) S₁.rep (fun b o e => Heap.get?_push_of_some _ e)
    (Heap.get?_none_of_le (by rw [Heap.size_push]; exact Nat.le_refl _)) ⟨_, hI⟩ h₁ s.toks fun ω' L => ⟨s.heap.objs.size, #[], L.rho _ _ (by rw [← R.len]; simp), hI⟩
  have S := S₁.then S₂
  have hi : σ₁.n = ω.ρ.length + 1 := by rw [← S₁.rep.len]; simp
  obtain ⟨hh, g, d, t, os⟩ := s
  refine make_core (makes_of R.kin M.makes) (looks_findIn R.kin M.init) (fun self => bind_fn R.kin self M.fn) (.inl rfl) ?_
  refine codeAny_mono (hF (A.under (.builtin "type.__call__" ⟨.ref (G.cls c) :: vs, []⟩)) frs _ σ₂ _ (.ref (hh.objs.size + 1) :: vs) (.obj σ₁.n :: l) _ _ hA.type (frames_type.trans hFr) S₂.rep (.cons (.obj ?_) ((S.later R).vrs V)) (by simp [hl]) h₂) fun r s' q => ?_
  · rw [hi]; simp
  cases r with
  | error e => exact ExV.no q
  | ok fl =>
    cases fl with
    | ret v =>
      obtain ⟨av, ω₃, σ₃, hk, S₃, VV⟩ := q
      obtain ⟨rfl, hk'⟩ := noneK_inv hk
      have hv := VV.none_inv
      refine ⟨hv, .obj σ₁.n, ω₃, σ₃, hk', S.then S₃, .obj ?_⟩
      obtain ⟨rr, er, _⟩ := S₃.step.rho
      rw [er]
      refine nth_append ?_
      rw [hi]; simp
    | _ => exact q.elim
end
end
end Mine
namespace Mine
section
open PySem PySem.W PyProof.Rows PySem.Calls PySem.Spec

section
variable {G : Gd} {frs : List Env} {ω : Wd} {σ : Sto} {s : Shared}
theorem St.putG (R : Rep G.toGl frs ω σ s.heap) {i : Nat} {a : Addr} (ha : ω.ρ[i]? = some a) {h' : Heap} (hs : Heap.SameBut a s.heap h') (hal : ∃ o, h'.get? a = some o) {ao : AO} {kk : Sto → Bool} (h : putO i ao σ kk = true) (t : Nat)
    (hO : Later ω s.heap ω h' → OR G.toGl ω h' a ao) :
    ∃ σ', kk σ' = true ∧ σ'.t.get i = some ao ∧ St G frs [] ω s ω σ' { s with heap := h', toks := t } := by
  obtain ⟨tt, n, ns⟩ := σ
  have h1 : TR.putK ao tt i (fun t => kk ⟨t, n, ns⟩) = true := h
  obtain ⟨t', ht, hg⟩ := TR.putK_eq _ _ _ _ h1
  have ham : a ∈ ω.ρ := List.mem_of_getElem? ha
  have nf : a ∉ ω.fz := (R.sep a ham).1
  have L : Later ω s.heap ω h' := ⟨fun a q => q, fun _ _ q => q, fun _ _ q => q, fun b hb o e => (hs.2 b (fun q => nf (q ▸ hb))).trans e⟩
  have al : ∀ b o, s.heap.get? b = some o → ∃ o', h'.get? b = some o' := fun b o e => by
    by_cases hb : b = a
    · rw [hb]; exact hal
    · exact ⟨o, (hs.2 b hb).trans e⟩
  refine ⟨_, ht, by rw [hg, if_pos rfl], ⟨al, ⟨[], by simp, fun _ q => nomatch q⟩, fun a q => q, fun a q => .inl q, ⟨[], by simp⟩, fun b o e hb _ => .inl ((hs.2 b (fun q => hb (q ▸ ham))).trans e)⟩,
    ⟨fun j o e => ?_, R.len, R.nu, R.nodup, fun b q => by obtain ⟨o, ho⟩ := R.low b q; exact al b o ho, fun b q => by obtain ⟨o, ho⟩ := R.lowz b q; exact al b o ho, R.sep, R.fzF, fun b o e => (hs.2 b (fun q => ?_)).trans (R.base b o e), ?_, R.glob⟩, rfl, rfl, rfl⟩
  · rw [hg] at e
    by_cases hj : j = i
    · subst hj
      rw [if_pos rfl] at e
      cases e
      exact ⟨a, ha, hO L⟩
    · rw [if_neg hj] at e
      obtain ⟨b, eb, ob⟩ := R.objs j o e
      refine ⟨b, eb, ob.later L fun o e => (hs.2 b (fun q => ?_)).trans e⟩
      subst q
      obtain ⟨x, ex⟩ := List.getElem?_eq_some_iff.mp eb
      obtain ⟨y, ey⟩ := List.getElem?_eq_some_iff.mp ha
      exact hj ((List.getElem_inj R.nodup).mp (ex.trans ey.symm))
  · rw [q, (R.sep a ham).2.1] at e; cases e
  · exact funFrames_on R.frames fun b hb o e hd => ⟨o, (hs.2 b (fun q => (R.sep a ham).2.2 (q ▸ hb))).trans e, hd⟩
end
section
variable {G : Gd} {n m : Nat} {Γ : Ct} {pos np ap : Pos} {nm : Str} {cb : CX} {o e0 e1 e2 : Expr} {co c0 c1 c2 : CV} {c fa : Nat}
theorem SE.new0 (hg : GlobV G nm (.ref (G.cls c))) (hx : nm ∈ Γ.globs) (hf : KeepF G (.ref (G.cls c))) (M : MakeAt G c fa) (hF : FN G n (.ref fa) 1 fun l σ k x => callF cb (frOf (l ++ [])) σ k x) :
    SE G (n + 1) Γ (vNew0 c cb) (.Call (.Name nm np) [] [] pos) := by
  intro A frs env X fr ω σ s k x hA hFr R F h
  refine callName (k := K0 fun σ => vNew0 c cb fr σ k x) hg hx hf .nil hA hFr R F h fun vs s₁ l ω₁ σ₁ hl S V q => ?_
  obtain ⟨rfl, q'⟩ := K0_inv q
  exact wpAny_mono (makeOk (m := 0) (l := []) M hF hA hFr S.rep V rfl q') (fun _ _ z => z.after S) fun _ _ z => z.after S
theorem SE.new3 (hg : GlobV G nm (.ref (G.cls c))) (hx : nm ∈ Γ.globs) (hf : KeepF G (.ref (G.cls c))) (M : MakeAt G c fa) (hF : FN G n (.ref fa) 4 fun l σ k x => callF cb (frOf (l ++ [])) σ k x)
    (h0 : SE G (n + 1) Γ c0 e0) (s0 : Star e0) (h1 : SE G (n + 1) Γ c1 e1) (s1 : Star e1) (h2 : SE G (n + 1) Γ c2 e2) (s2 : Star e2) :
    SE G (n + 1) Γ (vNew3 c cb c0 c1 c2) (.Call (.Name nm np) [e0, e1, e2] [] pos) := by
  intro A frs env X fr ω σ s k x hA hFr R F h
  refine callName (k := K3 fun u0 u1 u2 σ => alloc (.ns []) σ fun d σ => alloc (.inst c d) σ fun i σ => callF cb (frOf [.obj i, u0, u1, u2]) σ (fun v σ => (@AV.rec (fun _ => Bool) (fun _ => Bool) (k (.obj i) σ) (fun _ => false) (fun _ => false) (fun _ => false) (fun _ => false) (fun _ _ => false) (fun _ _ => false) (fun _ => false) false false (fun _ _ _ _ => false) v)) noX)
    hg hx hf (.cons h0 s0 (.cons h1 s1 (.cons h2 s2 .nil))) hA hFr R F h fun vs s₁ l ω₁ σ₁ hl S V q => ?_
  obtain ⟨u0, u1, u2, rfl, q'⟩ := K3_inv q
  exact wpAny_mono (makeOk (m := 3) (l := [u0, u1, u2]) M hF hA hFr S.rep V rfl q') (fun _ _ z => z.after S) fun _ _ z => z.after S
/-- the class of what is thrown -/
structure ExcAt (G : Gd) : Prop where
  sub : subIn G.K (.ref G.exc) (.type "BaseException") = some true
  typ : typeIn G.K (.ref G.exc) = some (.type "type")
theorem SX.raise {a : CV} {e : Expr} (X0 : ExcAt G) (ha : SE G n Γ a e) : SX G n Γ (xRaise a) (.Raise (some e) Option.none pos) := by
  intro A frs env X fr ω σ s k r x hA hF R F h
  show wpAny (model G.prog G.w) A (do standAt pos; raiseStmt env (some (do let v ← eval e env; standAt pos; pure v)) Option.none) _ _ s
  refine wpAny_bind (wpAny_standAt ?_)
  unfold raiseStmt
  dsimp only
  refine wpAny_bind (wpAny_bind (wpAny_mono (ha A frs env X fr ω σ s _ x hA hF R F h) (fun v s₁ q => wpAny_bind (wpAny_standAt (wpAny_pure ?_))) fun _ _ z => z.widen))
  obtain ⟨av, ω₁, σ₁, h₁, S, V⟩ := q
  cases av with
  | obj i =>
    obtain ⟨ao, eo, h₂⟩ := getO_inv (k := fun o => _) h₁
    cases ao with
    | exc w =>
      cases w with
      | lst l =>
        cases l with
        | nil => exact (nomatch (show false = true from h₂))
        | cons w r =>
          cases r with
          | cons _ _ => exact (nomatch (show false = true from h₂))
          | nil =>
            cases w with
            | tup l =>
              have h₃ : putO i (.exc (.tup l)) σ₁ (fun σ => x i σ) = true := h₂
              obtain ⟨ad, rfl, ead, ob, dx, es, mm, w, vs, q1, q2, q3, q4, q5, q6, q7, q8, q9, q10⟩ := S.rep.at V eo
              have hn1 := q10 ⟨_, rfl⟩
              obtain ⟨oc, od, odt, osl⟩ := ob
              cases q2
              cases q4
              have kin := S.rep.kin
              have ty : ∀ {M : Model}, Looks M s₁.heap (typeOf (.ref ad)) (.ref G.exc) := (Looks.ld q1).andThen .now
              have hnt : ∀ {Q' : Bool → Shared → Prop} {E}, Q' false s₁ → wpAny (model G.prog G.w) A (isType (.ref ad)) Q' E s₁ := by
                intro Q' E hq
                simp only [isType, loadHead]
                refine wpAny_bind (wpAny_loadPart q1 ?_)
                exact wpAny_pure hq
              refine wpAny_bind (wpAny_pure ?_)
              dsimp only
              refine wpAny_bind (wpAny_holding ?_)
              unfold excFromValue isExcClass
              refine wpAny_bind (wpAny_bind (hnt ?_))
              simp only [Bool.false_eq_true, if_false]
              refine wpAny_pure ?_
              simp only [Bool.false_eq_true, if_false]
              unfold isInstance
              refine wpAny_bind (wpAny_bind (ty.here ((looks_subIn kin X0.sub).here ?_)))
              simp only [if_true]
              refine wpAny_pure ?_
              refine wpAny_bind (hnt ?_)
              simp only [Bool.false_eq_true, if_false]
              unfold raisedInstance
              refine wpAny_bind (wpAny_bind (ty.here (wpAny_bind ((looks_typeIn kin X0.typ).here ?_))))
              rw [if_pos (by rfl)]
              refine wpAny_pure ?_
              unfold setFlight raiseNew
              refine wpAny_bind (wpAny_bind (wpAny_field q1 rfl hn1 ?_))
              rw [if_neg (by decide)]
              refine wpAny_pure (wpAny_bind (wpAny_handled ?_))
              rw [hA.1]
              obtain ⟨σ₂, h₄, hg₂, S₂⟩ := St.putG (s := s₁) S.rep ead (Heap.SameBut.refl ..) ⟨_, q1⟩ h₃ s₁.toks fun L => ⟨_, dx, es, mm, w, vs, q1, rfl, q3, rfl, q5, q6, q7, q8, q9, fun ⟨u, q⟩ => (by cases q)⟩
              have hE : ExV G frs X ω s x (.ref ad) s₁ := by
                exact ExV.widen ⟨i, ω₁, σ₂, h₄, S.then S₂, l, ad, _, vs, hg₂, rfl, ead, q1, rfl, q9, .inl hn1⟩
              first
                | exact wpAny_throw hE
                | exact wpAny_bind (wpAny_pure (wpAny_throw hE))
            | _ => exact (nomatch (show false = true from h₂))
      | _ => exact (nomatch (show false = true from h₂))
    | _ => exact (nomatch (show false = true from h₂))
  | _ => exact (nomatch (show false = true from h₁))
end
end
end Mine
namespace Mine
section
open PySem PySem.W PyProof.Rows PySem.Calls PySem.Spec

theorem turn1 (elt t iter : Expr) (ifs : List Expr) (sc : Scope) (pos : Pos) : ∀ env it acc, compTurn (.ListComp elt [⟨t, iter, ifs, 0⟩] sc pos) 0 it acc env =
    turnC (.ListComp elt [⟨t, iter, ifs, 0⟩] sc pos) 0 t iter ifs (fun env acc => do let _ ← call (.builtin "list.append") [acc, ← eval elt env]) it acc env := fun _ _ _ => rfl
theorem turn20 (elt t iter t' iter' : Expr) (ifs ifs' : List Expr) (sc : Scope) (pos : Pos) : ∀ env it acc, compTurn (.ListComp elt [⟨t, iter, ifs, 0⟩, ⟨t', iter', ifs', 0⟩] sc pos) 0 it acc env =
    turnC (.ListComp elt [⟨t, iter, ifs, 0⟩, ⟨t', iter', ifs', 0⟩] sc pos) 0 t iter ifs (innerC (.ListComp elt [⟨t, iter, ifs, 0⟩, ⟨t', iter', ifs', 0⟩] sc pos) 1 iter') it acc env := by
  intro env it acc
  unfold turnC innerC
  simp only [bind_assoc]
  rfl
theorem turn21 (elt t iter t' iter' : Expr) (ifs ifs' : List Expr) (sc : Scope) (pos : Pos) : ∀ env it acc, compTurn (.ListComp elt [⟨t, iter, ifs, 0⟩, ⟨t', iter', ifs', 0⟩] sc pos) 1 it acc env =
    turnC (.ListComp elt [⟨t, iter, ifs, 0⟩, ⟨t', iter', ifs', 0⟩] sc pos) 1 t' iter' ifs' (fun env acc => do let _ ← call (.builtin "list.append") [acc, ← eval elt env]) it acc env := fun _ _ _ => rfl
noncomputable abbrev NoFold (e : Expr) : Prop := ∀ env x, foldedSetIterable e env x = pure x
section
variable {G : Gd} {n : Nat} {Γ Γ' : Ct} {elt iter t iter' t' : Expr} {ifs ifs' : List Expr} {sc : Scope} {pos : Pos} {cp : Fra → (Fra → Bool) → Bool} {ci ci' : CI} {g g' gy : TG} {ct ct' : CT} {b : CV} {p p' : Bool} {y : Str} {py spos : Pos} {i : Nat}
theorem SE.comp1 (hs : NoFold iter) (hsc : scOK Γ' sc = true) (hfree : freeOK Γ sc = true) (hco : Γ'.code = Option.none) (hcp : CpOK Γ Γ' cp) (hI : SI G n Γ p ci iter) (hg : SG G n Γ' g t) (ht : TgtP t p) (hi : SC G n Γ' ct ifs) (hb : SE G n Γ' b elt) :
    SE G n Γ (vComp cp ci g ct (bElt b)) (.ListComp elt [⟨t, iter, ifs, 0⟩] sc pos) :=
  SE.comp hs hsc hco hfree hcp hI hg ht hi (SB.elt hb) (by decide) (turn1 elt t iter ifs sc pos)
theorem SE.comp2 (hs : NoFold iter) (hsc : scOK Γ' sc = true) (hfree : freeOK Γ sc = true) (hco : Γ'.code = Option.none) (hcp : CpOK Γ Γ' cp) (hI : SI G n Γ p ci iter) (hg : SG G n Γ' g t) (ht : TgtP t p) (hi : SC G n Γ' ct ifs)
    (hs' : NoFold iter') (hI' : SI G n Γ' p' ci' iter') (hg' : SG G n Γ' g' t') (ht' : TgtP t' p') (hi' : SC G n Γ' ct' ifs') (hb : SE G n Γ' b elt) :
    SE G n Γ (vComp cp ci g ct (bGen ci' g' ct' (bElt b))) (.ListComp elt [⟨t, iter, ifs, 0⟩, ⟨t', iter', ifs', 0⟩] sc pos) :=
  SE.comp hs hsc hco hfree hcp hI hg ht hi (SB.gen (d := 1) hs' rfl hI' hg' ht' hi' (SB.elt hb) (turn21 elt t iter t' iter' ifs ifs' sc pos)) (by decide) (turn20 elt t iter t' iter' ifs ifs' sc pos)
theorem SX.asgComp1 (hy : Γ.vars[i]? = some (y, .loc)) (hgy : IsG i gy) (hline : (py.line == pos.line) = true) (hno : (sc.names.any fun x => x.1 == y && (x.2 == .local || x.2 == .cell)) = false)
    (hs : NoFold iter) (hsc : scOK Γ' sc = true) (hfree : freeOK Γ sc = true) (hco : Γ'.code = Option.none) (hcp : CpOK Γ Γ' cp) (hI : SI G n Γ p ci iter) (hg : SG G n Γ' g t) (ht : TgtP t p) (hi : SC G n Γ' ct ifs) (hb : SE G n Γ' b elt) :
    SX G n Γ (xAsg gy (vComp cp ci g ct (bElt b))) (.Assign [.Name y py] (.ListComp elt [⟨t, iter, ifs, 0⟩] sc pos) spos) :=
  SX.asgComp hy hgy hline hno hs hsc hco hfree hcp hI hg ht hi (SB.elt hb) (by decide) (turn1 elt t iter ifs sc pos)
theorem SX.asgComp2 (hy : Γ.vars[i]? = some (y, .loc)) (hgy : IsG i gy) (hline : (py.line == pos.line) = true) (hno : (sc.names.any fun x => x.1 == y && (x.2 == .local || x.2 == .cell)) = false)
    (hs : NoFold iter) (hsc : scOK Γ' sc = true) (hfree : freeOK Γ sc = true) (hco : Γ'.code = Option.none) (hcp : CpOK Γ Γ' cp) (hI : SI G n Γ p ci iter) (hg : SG G n Γ' g t) (ht : TgtP t p) (hi : SC G n Γ' ct ifs)
    (hs' : NoFold iter') (hI' : SI G n Γ' p' ci' iter') (hg' : SG G n Γ' g' t') (ht' : TgtP t' p') (hi' : SC G n Γ' ct' ifs') (hb : SE G n Γ' b elt) :
    SX G n Γ (xAsg gy (vComp cp ci g ct (bGen ci' g' ct' (bElt b)))) (.Assign [.Name y py] (.ListComp elt [⟨t, iter, ifs, 0⟩, ⟨t', iter', ifs', 0⟩] sc pos) spos) :=
  SX.asgComp hy hgy hline hno hs hsc hco hfree hcp hI hg ht hi (SB.gen (d := 1) hs' rfl hI' hg' ht' hi' (SB.elt hb) (turn21 elt t iter t' iter' ifs ifs' sc pos)) (by decide) (turn20 elt t iter t' iter' ifs ifs' sc pos)
end
theorem TgtP.name {x : Str} {p : Pos} : TgtP (.Name x p) false := fun _ _ => rfl
theorem TgtP.tup {l : List Expr} {k : Nat} {p : Pos} : TgtP (.Tuple l k p) true := ⟨_, _, _, rfl⟩
/- which tuples are stored from behind -/
section
variable {Γ : Ct} {x₁ x₂ x₃ : Str} {p₁ p₂ p₃ p₄ p' : Pos} {kd k' : Nat} {v₁ v₂ v₃ : Expr} {i₁ i₂ i₃ : Nat}
theorem swapped2 (hA : Γ.vars[i₁]? = some (x₁, .loc)) (hB : Γ.vars[i₂]? = some (x₂, .loc)) (hline : (p₂.line == p₁.line) = true) (hne : (x₁ == x₂) = false) (hst : ([v₁, v₂].any fun | .Starred .. => true | _ => false) = false)
    (hf : [v₁, v₂].all (foldedForSure 8) = false) (hc : [v₁, v₂].all (constantsAlone 8) = false) :
    ∀ env, EnvOK Γ env → swappedStores [.Tuple [.Name x₁ p₁, .Name x₂ p₂] kd p₃] (.Tuple [v₁, v₂] k' p') env = pure (some [x₁, x₂]) := by
  intro env e
  have hb : env.blockKind = .function := by unfold Env.blockKind; rw [e.kind]; rfl
  have hne' : (x₂ == x₁) = false := beq_eq_false_iff_ne.mpr fun q => by rw [q] at hne; simp at hne
  have q1 : (env.kindOf x₁ == some NameKind.local && p₁.line == p₁.line) = true := by rw [e.loc i₁ x₁ hA]; simp
  have q2 : (env.kindOf x₂ == some NameKind.local && p₂.line == p₁.line) = true := by rw [e.loc i₂ x₂ hB, hline]; rfl
  have hn : (List.filterMap (fun | Expr.Name id pos => if (env.kindOf id == some NameKind.local && pos.line == (Expr.Name x₁ p₁).pos.line) = true then some id else none | _ => none) [Expr.Name x₁ p₁, Expr.Name x₂ p₂]) = [x₁, x₂] := by
    show (List.filterMap (fun | Expr.Name id pos => if (env.kindOf id == some NameKind.local && pos.line == p₁.line) = true then some id else none | _ => none) [Expr.Name x₁ p₁, Expr.Name x₂ p₂]) = [x₁, x₂]
    simp only [List.filterMap_cons, List.filterMap_nil, q1, q2, if_true]
  have hd : ([x₁, x₂] : List Str).eraseDups = [x₁, x₂] := by simp [List.eraseDups_cons, hne']
  unfold swappedStores
  refine (if_neg ?_).trans ((if_neg (Bool.eq_false_iff.mp hst)).trans ((if_neg ?_).trans ((if_neg (Bool.eq_false_iff.mp hf)).trans ((if_neg (Bool.eq_false_iff.mp hc)).trans ?_))))
  · rw [hb]; exact Bool.false_ne_true
  · show ¬ ((List.length (List.filterMap _ [Expr.Name x₁ p₁, Expr.Name x₂ p₂]) != 2 || List.length (List.eraseDups (List.filterMap _ [Expr.Name x₁ p₁, Expr.Name x₂ p₂])) != List.length (List.filterMap _ [Expr.Name x₁ p₁, Expr.Name x₂ p₂])) = true)
    erw [hn, hd]
    exact Bool.false_ne_true
  · exact congrArg (fun l => (pure (some l) : Sem (Option (List Str)))) hn
theorem swapped3 (hB : Γ.vars[i₂]? = some (x₂, .own)) (hst : ([v₁, v₂, v₃].any fun | .Starred .. => true | _ => false) = false) :
    ∀ env, EnvOK Γ env → swappedStores [.Tuple [.Name x₁ p₁, .Name x₂ p₂, .Name x₃ p₃] kd p₄] (.Tuple [v₁, v₂, v₃] k' p') env = pure none := by
  intro env e
  have hb : env.blockKind = .function := by unfold Env.blockKind; rw [e.kind]; rfl
  have q2 : (env.kindOf x₂ == some NameKind.local && p₂.line == p₁.line) = false := by rw [e.own i₂ x₂ hB]; rfl
  have hn : (List.filterMap (fun | Expr.Name id pos => if (env.kindOf id == some NameKind.local && pos.line == (Expr.Name x₁ p₁).pos.line) = true then some id else none | _ => none) [Expr.Name x₁ p₁, Expr.Name x₂ p₂, Expr.Name x₃ p₃]).length ≠ 3 := by
    show (List.filterMap (fun | Expr.Name id pos => if (env.kindOf id == some NameKind.local && pos.line == p₁.line) = true then some id else none | _ => none) [Expr.Name x₁ p₁, Expr.Name x₂ p₂, Expr.Name x₃ p₃]).length ≠ 3
    simp only [List.filterMap_cons, List.filterMap_nil, q2, Bool.false_eq_true, if_false]
    cases (env.kindOf x₁ == some NameKind.local && p₁.line == p₁.line) <;> cases (env.kindOf x₃ == some NameKind.local && p₃.line == p₁.line) <;> simp
  unfold swappedStores
  refine (if_neg ?_).trans ((if_neg (Bool.eq_false_iff.mp hst)).trans ((if_pos ?_)))
  · rw [hb]; exact Bool.false_ne_true
  · exact Bool.or_eq_true_iff.mpr (.inl (bne_iff_ne.mpr hn))
theorem swapped2o (hA : Γ.vars[i₁]? = some (x₁, .own)) (hB : Γ.vars[i₂]? = some (x₂, .own)) (hst : ([v₁, v₂].any fun | .Starred .. => true | _ => false) = false) :
    ∀ env, EnvOK Γ env → swappedStores [.Tuple [.Name x₁ p₁, .Name x₂ p₂] kd p₄] (.Tuple [v₁, v₂] k' p') env = pure none := by
  intro env e
  have hb : env.blockKind = .function := by unfold Env.blockKind; rw [e.kind]; rfl
  have q1 : (env.kindOf x₁ == some NameKind.local && p₁.line == p₁.line) = false := by rw [e.own i₁ x₁ hA]; rfl
  have q2 : (env.kindOf x₂ == some NameKind.local && p₂.line == p₁.line) = false := by rw [e.own i₂ x₂ hB]; rfl
  have hn : (List.filterMap (fun | Expr.Name id pos => if (env.kindOf id == some NameKind.local && pos.line == (Expr.Name x₁ p₁).pos.line) = true then some id else none | _ => none) [Expr.Name x₁ p₁, Expr.Name x₂ p₂]) = [] := by
    show (List.filterMap (fun | Expr.Name id pos => if (env.kindOf id == some NameKind.local && pos.line == p₁.line) = true then some id else none | _ => none) [Expr.Name x₁ p₁, Expr.Name x₂ p₂]) = []
    simp only [List.filterMap_cons, List.filterMap_nil, q1, q2, Bool.false_eq_true, if_false]
  unfold swappedStores
  refine (if_neg ?_).trans ((if_neg (Bool.eq_false_iff.mp hst)).trans ((if_pos ?_)))
  · rw [hb]; exact Bool.false_ne_true
  · show ((List.length (List.filterMap _ [Expr.Name x₁ p₁, Expr.Name x₂ p₂]) != 2 || List.length (List.eraseDups (List.filterMap _ [Expr.Name x₁ p₁, Expr.Name x₂ p₂])) != List.length (List.filterMap _ [Expr.Name x₁ p₁, Expr.Name x₂ p₂])) = true)
    erw [hn]
    rfl
end
end
end Mine
namespace Mine
section
open PySem PySem.W PyProof.Rows PySem.Calls PySem.Spec

theorem sameF_get {f g : Fra} (q : sameF f g = true) (i : Nat) : f.get i = .un ∨ g.get i = f.get i := by
  obtain ⟨a0, a1, a2, a3, a4, a5, a6, a7, a8, a9, a10, a11⟩ := f
  obtain ⟨b0, b1, b2, b3, b4, b5, b6, b7, b8, b9, b10, b11⟩ := g
  obtain ⟨h0, q⟩ := ifB2 (show ifB (sameV a0 b0) _ false = true from q)
  obtain ⟨h1, q⟩ := ifB2 q
  obtain ⟨h2, q⟩ := ifB2 q
  obtain ⟨h3, q⟩ := ifB2 q
  obtain ⟨h4, q⟩ := ifB2 q
  obtain ⟨h5, q⟩ := ifB2 q
  obtain ⟨h6, q⟩ := ifB2 q
  obtain ⟨h7, q⟩ := ifB2 q
  obtain ⟨h8, q⟩ := ifB2 q
  obtain ⟨h9, q⟩ := ifB2 q
  obtain ⟨h10, q⟩ := ifB2 q
  obtain ⟨h11, _⟩ := ifB2 q
  match i with
  | 0 => exact sameV_eq h0
  | 1 => exact sameV_eq h1
  | 2 => exact sameV_eq h2
  | 3 => exact sameV_eq h3
  | 4 => exact sameV_eq h4
  | 5 => exact sameV_eq h5
  | 6 => exact sameV_eq h6
  | 7 => exact sameV_eq h7
  | 8 => exact sameV_eq h8
  | 9 => exact sameV_eq h9
  | 10 => exact sameV_eq h10
  | 11 => exact sameV_eq h11
  | n + 12 => exact .inl rfl
/-- a later state, the objects and letters made meanwhile left out -/
noncomputable def Wd.less (ω ω₁ : Wd) : Wd := ⟨ω.ρ, ω₁.fz, ω.ν⟩
structure Longer (ω ω₁ : Wd) : Prop where
  rho : ∃ l, ω₁.ρ = ω.ρ ++ l
  nu : ∃ l, ω₁.ν = ω.ν ++ l
section
variable {ω ω₁ : Wd} {h h₁ : Heap}
theorem VRs.cons_inv {vs : List Value} {d : AV} {l : List AV} (V : VRs ω h vs (d :: l)) : ∃ v ws, vs = v :: ws ∧ VR ω h v d ∧ VRs ω h ws l := by
  cases V with
  | cons a b => exact ⟨_, _, rfl, a, b⟩
theorem VR.sym_inv {v : Value} {k : Nat} (V : VR ω h v (.sym k)) : ∃ i t, v = .int i t ∧ ω.ν[k]? = some i := by
  cases V with
  | sym t e => exact ⟨_, _, rfl, e⟩
theorem VRs.nil_inv {vs : List Value} (V : VRs ω h vs []) : vs = [] := by
  cases V; rfl
mutual
theorem VR.less (L : Longer ω ω₁) : ∀ (d : AV) {v v₁ : Value}, VR ω h v d → VR ω₁ h₁ v₁ d → VR (ω.less ω₁) h₁ v₁ d
  | .none, _, _, _, b => by rw [b.none_inv]; exact .none
  | .bool x, _, _, _, b => by rw [b.bool_inv]; exact .bool x
  | .int i, _, _, _, b => by obtain ⟨t, rfl⟩ := b.int_inv; exact .int i t
  | .sym k, _, _, a, b => by
    obtain ⟨i, t, _, e⟩ := a.sym_inv
    obtain ⟨i₁, t₁, rfl, e₁⟩ := b.sym_inv
    obtain ⟨l, hl⟩ := L.nu
    rw [hl, nth_append e] at e₁
    cases e₁
    exact .sym t₁ e
  | .str k, _, _, _, b => by obtain ⟨x, t, rfl, e⟩ := b.str_inv; exact .str t e
  | .tup l, _, _, a, b => by
    obtain ⟨_, _, _, _, _, hv⟩ := a.tup_inv
    obtain ⟨_, _, rfl, ha, ht, hv₁⟩ := b.tup_inv
    exact .tup ha ht (VRs.less L l hv hv₁)
  | .lst l, _, _, a, b => by
    obtain ⟨_, _, _, _, _, hv⟩ := a.lst_inv
    obtain ⟨_, _, rfl, ha, ht, hv₁⟩ := b.lst_inv
    exact .lst ha ht (VRs.less L l hv hv₁)
  | .obj i, _, _, a, b => by
    obtain ⟨x, _, e⟩ := a.obj_inv
    obtain ⟨y, rfl, e₁⟩ := b.obj_inv
    obtain ⟨l, hl⟩ := L.rho
    rw [hl, nth_append e] at e₁
    cases e₁
    exact .obj e
  | .any, _, v, _, _ => .any v
theorem VRs.less (L : Longer ω ω₁) : ∀ (l : List AV) {vs vs₁ : List Value}, VRs ω h vs l → VRs ω₁ h₁ vs₁ l → VRs (ω.less ω₁) h₁ vs₁ l
  | [], _, _, _, b => by rw [b.nil_inv]; exact .nil
  | d :: l, _, _, a, b => by
    obtain ⟨_, _, _, V, W⟩ := a.cons_inv
    obtain ⟨_, _, rfl, V₁, W₁⟩ := b.cons_inv
    exact .cons (VR.less L d V V₁) (VRs.less L l W W₁)
end
theorem CelR.less (L : Longer ω ω₁) {v v₁ : Option Value} {sv : SV} (a : CelR ω h v sv) (b : CelR ω₁ h₁ v₁ sv) : CelR (ω.less ω₁) h₁ v₁ sv := by
  cases sv with
  | un => trivial
  | va av =>
    obtain ⟨x, _, V⟩ := a
    obtain ⟨y, e, V₁⟩ := b
    exact ⟨y, e, VR.less L _ V V₁⟩
theorem OR.less {G : Gl} (L : Longer ω ω₁) {a : Addr} {o : AO} (x : OR G ω h a o) (y : OR G ω₁ h₁ a o) : OR G (ω.less ω₁) h₁ a o := by
  cases o with
  | list l =>
    obtain ⟨vs, _, V⟩ := x
    obtain ⟨vs₁, p, V₁⟩ := y
    exact ⟨vs₁, p, VRs.less L _ V V₁⟩
  | inst c d =>
    obtain ⟨da, sl, e, _⟩ := x
    obtain ⟨da₁, sl₁, e₁, ho⟩ := y
    obtain ⟨l, hl⟩ := L.rho
    rw [hl, nth_append e] at e₁
    cases e₁
    exact ⟨da, sl₁, e, ho⟩
  | ns fs =>
    obtain ⟨es, n, _, _, _, h3⟩ := x
    obtain ⟨es₁, n₁, ho, g1, g2, g3⟩ := y
    refine ⟨es₁, n₁, ho, g1, g2, fun k z hz av hav => ?_⟩
    obtain ⟨v, _, V⟩ := h3 k z hz av hav
    obtain ⟨v₁, hv₁, V₁⟩ := g3 k z hz av hav
    exact ⟨v₁, hv₁, VR.less L _ V V₁⟩
  | tab f => exact y
  | pile => exact y
  | exc v =>
    obtain ⟨_, _, _, _, w, _, _, _, _, _, _, _, _, V, _⟩ := x
    obtain ⟨o, dx, es, n, w₁, vs, g1, g2, g3, g4, g5, g6, g7, V₁, g8⟩ := y
    exact ⟨o, dx, es, n, w₁, vs, g1, g2, g3, g4, g5, g6, g7, VR.less L _ V V₁, g8⟩
end
section
variable {G : Gd} {n : Nat} {Γ : Ct} {frs : List Env} {env : Env} {X : List Addr} {fr fr₁ : Fra} {ω ω₁ : Wd} {σ σ₁ : Sto} {s s₁ : Shared}
theorem St.less (R : Rep G.toGl frs ω σ s.heap) (S : St G frs X ω s ω₁ σ₁ s₁) (q : ∀ i o, σ.t.get i = some o → σ₁.t.get i = some o) : Longer ω ω₁ ∧ St G frs X ω s (ω.less ω₁) σ s₁ := by
  obtain ⟨l, hl, hn⟩ := S.step.rho
  obtain ⟨l', hl'⟩ := S.step.nu
  have L : Longer ω ω₁ := ⟨⟨l, hl⟩, ⟨l', hl'⟩⟩
  have mem : ∀ a ∈ ω.ρ, a ∈ ω₁.ρ := fun a ha => by rw [hl]; exact List.mem_append_left _ ha
  refine ⟨L, ⟨S.step.alive, ⟨[], by simp [Wd.less], fun _ q => nomatch q⟩, S.step.fz, S.step.fz', ⟨[], by simp [Wd.less]⟩, S.step.keep⟩,
    ⟨fun i o e => ?_, R.len, R.nu, R.nodup, fun a ha => S.rep.low a (mem a ha), S.rep.lowz, fun a ha => S.rep.sep a (mem a ha), S.rep.fzF, S.rep.base, S.rep.frames, S.rep.glob⟩, S.gens, S.drawn, S.os⟩
  obtain ⟨a, ea, x⟩ := R.objs i o e
  obtain ⟨a₁, ea₁, y⟩ := S.rep.objs i o (q i o e)
  rw [hl, nth_append ea] at ea₁
  cases ea₁
  exact ⟨a, ea, x.less L y⟩
theorem FrOK.less (L : Longer ω ω₁) {h h₁ : Heap} (F : FrOK G.toGl frs Γ env X fr ω h) (F₁ : FrOK G.toGl frs Γ env X fr₁ ω₁ h₁) (q : ∀ i, fr.get i = .un ∨ fr₁.get i = fr.get i) : FrOK G.toGl frs Γ env X fr (ω.less ω₁) h₁ := by
  obtain ⟨m, hns, hl⟩ := F.loc
  obtain ⟨m₁, hns₁, hl₁⟩ := F₁.loc
  obtain ⟨l, hr⟩ := L.rho
  have mem : ∀ a, a ∉ ω₁.ρ → a ∉ ω.ρ := fun a ha q => ha (by rw [hr]; exact List.mem_append_left _ q)
  have cel : ∀ i {v v₁ : Option Value}, CelR ω h v (fr.get i) → CelR ω₁ h₁ v₁ (fr₁.get i) → CelR (ω.less ω₁) h₁ v₁ (fr.get i) := fun i v v₁ a b => by
    rcases q i with e | e
    · rw [e]; trivial
    · rw [e] at b; exact a.less L b
  refine ⟨F.e, ⟨m₁, hns₁, fun i x hx => cel i (hl i x hx) (hl₁ i x hx)⟩, fun i x k hx hk => ?_, F₁.apart, F₁.here, F₁.low, fun a ha => ⟨mem a (F₁.out a ha).1, (F₁.out a ha).2⟩, F₁.frame⟩
  obtain ⟨_, _, _, _, _, _, _, a6⟩ := F.cel i x k hx hk
  obtain ⟨c, v, h1, h2, h3, h4, h5, h6⟩ := F₁.cel i x k hx hk
  exact ⟨c, v, h1, h2, mem c h3, h4, h5, cel i a6 h6⟩
theorem execs_app (env : Env) (l₂ : List Stmt) : ∀ l₁ : List Stmt, execs (l₁ ++ l₂) env = (execs l₁ env >>= fun f => match f with | .next => execs l₂ env | f => pure f)
  | [] => by rw [arm_execs_nil, pure_bind]; rfl
  | st :: l => by
    rw [List.cons_append, execs_cons, execs_cons, bind_assoc]
    congr 1
    funext f
    cases f with
    | next => exact execs_app env l₂ l
    | _ => rw [pure_bind]
/-- a block behind which all ways are one -/
theorem SXs.forget {c₁ c₂ : CX} {l₁ l₂ l : List Stmt} (h₁ : SXs G n Γ c₁ l₁) (h₂ : SXs G n Γ c₂ l₂) (hl : l = l₁ ++ l₂) : SXs G n Γ (xForget c₁ c₂) l := by
  subst hl
  intro A frs env X fr ω σ s k r x hA hF R F h
  obtain ⟨q₁, q₂⟩ := ifB_inv (show ifB (c₁ fr σ (sameK fr σ) r x) (c₂ fr σ k r x) false = true from h)
  rw [execs_app]
  refine wpAny_bind (wpAny_mono (h₁ A frs env X fr ω σ s _ r x hA hF R F q₁) (fun fl s₁ z => ?_) fun _ _ z => z)
  cases fl with
  | next =>
    obtain ⟨fr₁, ω₁, σ₁, q, S, F₁⟩ := z
    obtain ⟨e1, e2⟩ := ifB_inv q
    obtain ⟨L, S'⟩ := S.less R (sameT_get _ _ e2)
    exact wpAny_mono (h₂ A frs env X fr _ σ s₁ k r x hA hF S'.rep (F.less L F₁ (sameF_get e1)) q₂) (fun _ _ z => z.after S') fun _ _ z => z.afterX S'
  | ret v => exact wpAny_pure z
  | _ => exact z.elim
end
end
end Mine
namespace Mine
section
open PySem PySem.W PyProof.Rows PySem.Calls PySem.Spec

/- the text's functions -/
noncomputable def noSt : Stmt := .Pass ⟨0, 0, 0, 0⟩
noncomputable def stJ (i : Nat) : Stmt := (PySem.Challenge.pw_pq0700_01.main.body[i]?).getD noSt
noncomputable def inCls (j : Nat) : Stmt → Stmt
  | .ClassDef (body := b) .. => (b[j]?).getD noSt
  | _ => noSt
noncomputable def fdBody : Stmt → List Stmt
  | .FunctionDef (body := b) .. => b
  | _ => []
noncomputable def fdScope : Stmt → Scope
  | .FunctionDef (scope := b) .. => b
  | _ => { kind := .module, names := [], isGenerator := false, isCoroutine := false, more := [] }
noncomputable def fdParams : Stmt → Arguments
  | .FunctionDef (args := b) .. => b
  | _ => { posonlyargs := [], args := [], vararg := none, kwonlyargs := [], kw_defaults := [], kwarg := none, defaults := [] }
noncomputable abbrev fdOf (st : Stmt) (name qual : Str) (dV kV doc pm : Value) (an : Option Addr) (cdv ct : Value) : FuncData := fnX name qual (fdParams st) (fdBody st) (fdScope st) [] dV kV doc pm an cdv ct
/-- the function of a def -/
structure FnK (G : Gd) (f : Addr) (st : Stmt) : Prop where
  fn : ∃ name qual kV doc pm an cdv ct, FnAt G f (fdOf st name qual .none kV doc pm an cdv ct)
  keep : keepIn G.K (.ref f) = true
/-- the function of a def that makes functions -/
structure FnL (G : Gd) (f : Addr) (st : Stmt) (c : Addr) (q : Str) : Prop where
  fn : ∃ name qual kV doc pm an ct, FnAt G f (fdOf st name qual .none kV doc pm an (.ref c) ct) ∧ qual ++ ".<locals>." = q
  keep : keepIn G.K (.ref f) = true
/-- the function of a def with a text as the default of its last parameter -/
structure FnD (G : Gd) (f : Addr) (st : Stmt) (d : Str) : Prop where
  fn : ∃ name qual T o m t kV doc pm an cdv ct, FnAt G f (fdOf st name qual (.ref T) kV doc pm an cdv ct) ∧ G.base.get? T = some o ∧ o.data = .seq #[.str d t] m
  keep : keepIn G.K (.ref f) = true
/-- the function of a def of two parameters, with a default that is never taken -/
structure FnE (G : Gd) (f : Addr) (st : Stmt) : Prop where
  fn : ∃ name qual T o d m kV doc pm an cdv ct, FnAt G f (fdOf st name qual (.ref T) kV doc pm an cdv ct) ∧ G.base.get? T = some o ∧ o.data = .seq #[d] m
  keep : keepIn G.K (.ref f) = true
/-- how values are bound -/
noncomputable abbrev Binds (st : Stmt) (ps : List Str) (vs : List Value) : Prop := ∀ name qual kV doc pm an cdv ct, bindArgs (fdOf st name qual .none kV doc pm an cdv ct) ⟨vs, []⟩ = pure (ps.zip vs)
theorem FN.k {G : Gd} {n m : Nat} {f : Addr} {st : Stmt} {Γ : Ct} {cb : CX} (ps : List Str) (h : FnK G f st) (hsc : scOK Γ (fdScope st) = true) (hps : fnOK Γ ps = true) (hm : ps.length = m) (hco : Γ.code = none) (hbind : ∀ vs, vs.length = m → Binds st ps vs)
    (hb : SXs G n Γ cb (fdBody st)) : FN G (n + 1) (.ref f) m fun l σ k x => callF cb (frOf (l ++ [])) σ k x := by
  obtain ⟨name, qual, kV, doc, pm, an, cdv, ct, FA⟩ := h.fn
  exact FN.of (ps := ps) (d := []) (dl := []) FA rfl hsc hps (by simp [hm]) (fun _ _ => .nil) (fun c q e => by rw [hco] at e; cases e) (fun s vs hl _ => BindsTo.of_eq (by rw [List.append_nil]; exact hbind vs hl name qual kV doc pm an cdv ct)) hb
theorem FN.l {G : Gd} {n m : Nat} {f c : Addr} {q : Str} {st : Stmt} {Γ : Ct} {cb : CX} (ps : List Str) (h : FnL G f st c q) (hsc : scOK Γ (fdScope st) = true) (hps : fnOK Γ ps = true) (hm : ps.length = m) (hco : Γ.code = some (c, q)) (hbind : ∀ vs, vs.length = m → Binds st ps vs)
    (hb : SXs G n Γ cb (fdBody st)) : FN G (n + 1) (.ref f) m fun l σ k x => callF cb (frOf (l ++ [])) σ k x := by
  obtain ⟨name, qual, kV, doc, pm, an, ct, FA, hq⟩ := h.fn
  exact FN.of (ps := ps) (d := []) (dl := []) FA rfl hsc hps (by simp [hm]) (fun _ _ => .nil) (fun c' q' e => by rw [hco] at e; cases e; exact ⟨rfl, hq⟩) (fun s vs hl _ => BindsTo.of_eq (by rw [List.append_nil]; exact hbind vs hl name qual kV doc pm an (.ref c) ct)) hb
theorem FN.d {G : Gd} {n i : Nat} {f : Addr} {st : Stmt} {d : Str} {Γ : Ct} {cb : CX} (p₀ p₁ : Str) (h : FnD G f st d) (hx : txts[i]? = some d) (hsc : scOK Γ (fdScope st) = true) (hps : fnOK Γ [p₀, p₁] = true) (hco : Γ.code = none)
    (hbind : ∀ name qual T kV doc pm an cdv ct v, ∃ k, bindArgs (fdOf st name qual (.ref T) kV doc pm an cdv ct) ⟨[v], []⟩ = (seqItems? (.ref T) >>= k) ∧ ∀ d, k (some #[d]) = pure [(p₀, v), (p₁, d)])
    (hb : SXs G n Γ cb (fdBody st)) : FN G (n + 1) (.ref f) 1 fun l σ k x => callF cb (frOf (l ++ [.str i])) σ k x := by
  obtain ⟨name, qual, T, o, m, t, kV, doc, pm, an, cdv, ct, FA, ho, hd⟩ := h.fn
  refine FN.of (ps := [p₀, p₁]) (d := [.str d t]) (dl := [.str i]) FA rfl hsc hps rfl (fun _ _ => .cons (.str t hx) .nil) (fun c q e => by rw [hco] at e; cases e) (fun s vs hl hk => ?_) hb
  match vs, hl with
  | [v], _ =>
    obtain ⟨k, e1, e2⟩ := hbind name qual T kV doc pm an cdv ct v
    exact BindsTo.of_defaults (o := o) rfl (hk _ _ ho) hd e1 (e2 _)
theorem FN.e {G : Gd} {n : Nat} {f : Addr} {st : Stmt} {Γ : Ct} {cb : CX} (p₀ p₁ : Str) (h : FnE G f st) (hsc : scOK Γ (fdScope st) = true) (hps : fnOK Γ [p₀, p₁] = true) (hco : Γ.code = none)
    (hbind : ∀ name qual T kV doc pm an cdv ct v w, ∃ k, bindArgs (fdOf st name qual (.ref T) kV doc pm an cdv ct) ⟨[v, w], []⟩ = (seqItems? (.ref T) >>= k) ∧ ∀ d, k (some #[d]) = pure [(p₀, v), (p₁, w)])
    (hb : SXs G n Γ cb (fdBody st)) : FN G (n + 1) (.ref f) 2 fun l σ k x => callF cb (frOf (l ++ [])) σ k x := by
  obtain ⟨name, qual, T, o, d, m, kV, doc, pm, an, cdv, ct, FA, ho, hd⟩ := h.fn
  refine FN.of (ps := [p₀, p₁]) (d := []) (dl := []) FA rfl hsc hps rfl (fun _ _ => .nil) (fun c q e => by rw [hco] at e; cases e) (fun s vs hl hk => ?_) hb
  match vs, hl with
  | [v, w], _ =>
    obtain ⟨k, e1, e2⟩ := hbind name qual T kV doc pm an cdv ct v w
    exact BindsTo.of_defaults (o := o) rfl (hk _ _ ho) hd e1 (e2 _)
theorem ar1 {P : List Value → Prop} (h : ∀ a, P [a]) : ∀ vs : List Value, vs.length = 1 → P vs := by
  intro vs hl
  match vs, hl with
  | [a], _ => exact h a
theorem ar2 {P : List Value → Prop} (h : ∀ a b, P [a, b]) : ∀ vs : List Value, vs.length = 2 → P vs := by
  intro vs hl
  match vs, hl with
  | [a, b], _ => exact h a b
theorem ar3 {P : List Value → Prop} (h : ∀ a b c, P [a, b, c]) : ∀ vs : List Value, vs.length = 3 → P vs := by
  intro vs hl
  match vs, hl with
  | [a, b, c], _ => exact h a b c
theorem ar4 {P : List Value → Prop} (h : ∀ a b c d, P [a, b, c, d]) : ∀ vs : List Value, vs.length = 4 → P vs := by
  intro vs hl
  match vs, hl with
  | [a, b, c, d], _ => exact h a b c d
section
variable {G : Gd} {n : Nat} {Γ : Ct} {pos p₁ p₂ : Pos} {k₁ k₂ : Nat}
theorem SE.pow {i j r : Int} (hn : 0 ≤ j) (hsz : (Builtin.Int.intBits i : Int) * j ≤ 2 ^ 27) (e : i ^ j.toNat = r) : SE G n Γ (vInt r) (.BinOp (.Constant (.int i) k₁ p₁) .Pow (.Constant (.int j) k₂ p₂) pos) := by
  intro A frs env X fr ω σ s k x hA hF R F h
  subst e
  refine wpAny_BinOp (wpAny_Constant_int (wpAny_Constant_int (pow_int hn hsz ⟨_, ω, σ, h, St.toks R _, .int _ _⟩)))
end
end
end Mine
namespace Mine
section
open PySem PySem.W PyProof.Rows PySem.Calls PySem.Spec

set_option genInjectivity false in
set_option genSizeOf false in
set_option genSizeOfSpec false in
/-- what is known of the text -/
structure Uni (G : Gd) where
  a_int_value : Addr
  f_int_value : FnD G a_int_value (stJ 6) "Int64"
  g_int_value : GlobV G "int_value" (.ref a_int_value)
  a_text_value : Addr
  f_text_value : FnK G a_text_value (stJ 7)
  g_text_value : GlobV G "text_value" (.ref a_text_value)
  a_error_kind : Addr
  f_error_kind : FnK G a_error_kind (stJ 8)
  g_error_kind : GlobV G "error_kind" (.ref a_error_kind)
  a_error_value : Addr
  f_error_value : FnK G a_error_value (stJ 9)
  g_error_value : GlobV G "error_value" (.ref a_error_value)
  a_thrown : Addr
  f_thrown : FnK G a_thrown (stJ 10)
  g_thrown : GlobV G "thrown" (.ref a_thrown)
  a_thrown_text : Addr
  f_thrown_text : FnK G a_thrown_text (stJ 11)
  g_thrown_text : GlobV G "thrown_text" (.ref a_thrown_text)
  a_named : Addr
  f_named : FnE G a_named (stJ 13)
  g_named : GlobV G "named" (.ref a_named)
  a_Thing_init : Addr
  f_Thing_init : FnK G a_Thing_init (inCls 0 (stJ 15))
  n_Thing : MakeAt G 0 a_Thing_init
  g_Thing : GlobV G "Thing" (.ref (G.cls 0))
  k_Thing : keepIn G.K (.ref (G.cls 0)) = true
  a_Heap_init : Addr
  f_Heap_init : FnK G a_Heap_init (inCls 0 (stJ 16))
  n_Heap : MakeAt G 1 a_Heap_init
  g_Heap : GlobV G "Heap" (.ref (G.cls 1))
  k_Heap : keepIn G.K (.ref (G.cls 1)) = true
  a_Heap_put : Addr
  f_Heap_put : FnK G a_Heap_put (inCls 1 (stJ 16))
  m_put : MethAt G 1 "put" a_Heap_put
  a_Heap_new_array : Addr
  f_Heap_new_array : FnK G a_Heap_new_array (inCls 3 (stJ 16))
  m_new_array : MethAt G 1 "new_array" a_Heap_new_array
  a_Heap_object : Addr
  f_Heap_object : FnK G a_Heap_object (inCls 5 (stJ 16))
  m_object : MethAt G 1 "object" a_Heap_object
  a_array_kind : Addr
  f_array_kind : FnK G a_array_kind (stJ 17)
  g_array_kind : GlobV G "array_kind" (.ref a_array_kind)
  a_many_of : Addr
  f_many_of : FnK G a_many_of (stJ 20)
  g_many_of : GlobV G "many_of" (.ref a_many_of)
  a_strides_of : Addr
  f_strides_of : FnK G a_strides_of (stJ 21)
  g_strides_of : GlobV G "strides_of" (.ref a_strides_of)
  a_offset_of : Addr
  f_offset_of : FnK G a_offset_of (stJ 22)
  g_offset_of : GlobV G "offset_of" (.ref a_offset_of)
  a_index_of : Addr
  f_index_of : FnK G a_index_of (stJ 23)
  g_index_of : GlobV G "index_of" (.ref a_index_of)
  a_bounds_fault : Addr
  f_bounds_fault : FnK G a_bounds_fault (stJ 24)
  g_bounds_fault : GlobV G "bounds_fault" (.ref a_bounds_fault)
  a_check_sizes : Addr
  f_check_sizes : FnK G a_check_sizes (stJ 25)
  g_check_sizes : GlobV G "check_sizes" (.ref a_check_sizes)
  a_is_array : Addr
  f_is_array : FnK G a_is_array (stJ 26)
  g_is_array : GlobV G "is_array" (.ref a_is_array)
  a_parent_of : Addr
  f_parent_of : FnK G a_parent_of (stJ 27)
  g_parent_of : GlobV G "parent_of" (.ref a_parent_of)
  a_sizes_of : Addr
  f_sizes_of : FnK G a_sizes_of (stJ 28)
  g_sizes_of : GlobV G "sizes_of" (.ref a_sizes_of)
  a_layout_of : Addr
  f_layout_of : FnK G a_layout_of (stJ 29)
  g_layout_of : GlobV G "layout_of" (.ref a_layout_of)
  a_place_in_parent : Addr
  f_place_in_parent : FnK G a_place_in_parent (stJ 30)
  g_place_in_parent : GlobV G "place_in_parent" (.ref a_place_in_parent)
  a_places_of : Addr
  f_places_of : FnK G a_places_of (stJ 31)
  g_places_of : GlobV G "places_of" (.ref a_places_of)
  a_items_of : Addr
  f_items_of : FnK G a_items_of (stJ 32)
  g_items_of : GlobV G "items_of" (.ref a_items_of)
  a_item_at : Addr
  f_item_at : FnK G a_item_at (stJ 33)
  g_item_at : GlobV G "item_at" (.ref a_item_at)
  a_set_item : Addr
  f_set_item : FnK G a_set_item (stJ 34)
  g_set_item : GlobV G "set_item" (.ref a_set_item)
  a_made : Addr
  f_made : FnK G a_made (stJ 35)
  g_made : GlobV G "made" (.ref a_made)
  a_as_columns : Addr
  f_as_columns : FnK G a_as_columns (stJ 40)
  g_as_columns : GlobV G "as_columns" (.ref a_as_columns)
  a_turned : Addr
  f_turned : FnK G a_turned (stJ 36)
  g_turned : GlobV G "turned" (.ref a_turned)
  a_need_row : Addr
  f_need_row : FnK G a_need_row (stJ 37)
  g_need_row : GlobV G "need_row" (.ref a_need_row)
  a_pushed : Addr
  f_pushed : FnK G a_pushed (stJ 38)
  g_pushed : GlobV G "pushed" (.ref a_pushed)
  a_popped : Addr
  f_popped : FnK G a_popped (stJ 39)
  g_popped : GlobV G "popped" (.ref a_popped)
  a_beside : Addr
  f_beside : FnK G a_beside (stJ 41)
  g_beside : GlobV G "beside" (.ref a_beside)
  a_beneath : Addr
  f_beneath : FnK G a_beneath (stJ 42)
  g_beneath : GlobV G "beneath" (.ref a_beneath)
  a_by_rows : Addr
  f_by_rows : FnK G a_by_rows (stJ 43)
  g_by_rows : GlobV G "by_rows" (.ref a_by_rows)
  a__law_begin : Addr
  f__law_begin : FnK G a__law_begin (stJ 46)
  g__law_begin : GlobV G "_law_begin" (.ref a__law_begin)
  a__law_next : Addr
  f__law_next : FnK G a__law_next (stJ 47)
  g__law_next : GlobV G "_law_next" (.ref a__law_next)
  a__law_sizes : Addr
  f__law_sizes : FnK G a__law_sizes (stJ 48)
  g__law_sizes : GlobV G "_law_sizes" (.ref a__law_sizes)
  a__law_all : Addr
  f__law_all : FnK G a__law_all (stJ 49)
  g__law_all : GlobV G "_law_all" (.ref a__law_all)
  a__law_value : Addr
  f__law_value : FnK G a__law_value (stJ 50)
  g__law_value : GlobV G "_law_value" (.ref a__law_value)
  a__law_places_right : Addr
  f__law_places_right : FnK G a__law_places_right (stJ 52)
  g__law_places_right : GlobV G "_law_places_right" (.ref a__law_places_right)
  a__law_beyond : Addr
  f__law_beyond : FnK G a__law_beyond (stJ 53)
  g__law_beyond : GlobV G "_law_beyond" (.ref a__law_beyond)
  a__law_items_right : Addr
  f__law_items_right : FnL G a__law_items_right (stJ 54) (G.lamC 0) "_law_items_right.<locals>."
  g__law_items_right : GlobV G "_law_items_right" (.ref a__law_items_right)
  a__law_rows_of : Addr
  f__law_rows_of : FnK G a__law_rows_of (stJ 55)
  g__law_rows_of : GlobV G "_law_rows_of" (.ref a__law_rows_of)
  a__law_joined_right : Addr
  f__law_joined_right : FnL G a__law_joined_right (stJ 56) (G.lamC 1) "_law_joined_right.<locals>."
  g__law_joined_right : GlobV G "_law_joined_right" (.ref a__law_joined_right)
  a__law_row_right : Addr
  f__law_row_right : FnL G a__law_row_right (stJ 57) (G.lamC 2) "_law_row_right.<locals>."
  g__law_row_right : GlobV G "_law_row_right" (.ref a__law_row_right)
  g_len : GlobV G "len" (.builtin "len")
  g_sum : GlobV G "sum" (.builtin "sum")
  g_tuple : GlobV G "tuple" (.type "tuple")
  g_list : GlobV G "list" (.type "list")
  g_range : GlobV G "range" (.type "range")
  g_zip : GlobV G "zip" (.type "zip")
  g_enumerate : GlobV G "enumerate" (.type "enumerate")
  g_MOST_ITEMS : GlobA G "MOST_ITEMS" (.int 20000)
  g_ITEM : GlobA G "_law_ITEM" (.tup [.str 2, .str 8, .tup []])
  x : ExcAt G
end
end Mine
namespace Mine
section
open PySem PySem.W PyProof.Rows PySem.Calls PySem.Spec

noncomputable abbrev noArgs : Arguments := { posonlyargs := [], args := [], vararg := none, kwonlyargs := [], kw_defaults := [], kwarg := none, defaults := [] }
/-- what the names of a function's functions begin with -/
noncomputable def lamPre (f : Nat) : Str := (["_law_items_right.<locals>.", "_law_joined_right.<locals>.", "_law_row_right.<locals>."] : List Str).getD f ""
/-- what is done by hand -/
structure Sp (G : Gd) (U : Uni G) : Prop where
  next : ∀ {n : Nat} {Γ : Ct} {p m : CV} {ep em : Expr} {np pos : Pos}, 3 ≤ n → ("_law_next" : Str) ∈ Γ.globs → SE G n Γ p ep → Star ep → SE G n Γ m em → Star em → SE G n Γ (vNext p m) (.Call (.Name "_law_next" np) [ep, em] [] pos)
  nextPos : ∀ {n : Nat} {Γ : Ct} {p m : CV} {ep em : Expr} {np pos cp pos' : Pos} {kd : Nat}, 3 ≤ n → ("_law_next" : Str) ∈ Γ.globs → SE G n Γ p ep → Star ep → SE G n Γ m em → Star em →
    ST G n Γ (tNextPos p m) (.Compare (.Call (.Name "_law_next" np) [ep, em] [] pos) [.Gt] [.Constant (.int 0) kd cp] pos')
  exc : ∀ {n : Nat} {Γ : Ct} {c : CV} {e : Expr} {np pos : Pos}, 8 ≤ n → ("Thrown" : Str) ∈ Γ.globs → SE G n Γ c e → Star e → SE G n Γ (vExc c) (.Call (.Name "Thrown" np) [e] [] pos)
  thrown : ∀ {n m f : Nat} {Γ Γ' : Ct} {cp : Fra → (Fra → Bool) → Bool} {c : CV} {b : Expr} {sc : Scope} {np pos lp : Pos}, m + 5 ≤ n → ("_law_thrown" : Str) ∈ Γ.globs → Γ.code = some (G.lamC f, lamPre f) → f < 3 → (Γ'.vars.all fun p => p.2 == SK.cap) = true → (sc.names.all fun p => !(p.2 == .cell)) = true → sc.isGenerator = false → sc.isCoroutine = false → scOK Γ' sc = true → freeOK Γ sc = true → Γ'.code = none → CpOK Γ Γ' cp →
    SE G m Γ' c b → SE G n Γ (vThrown f cp c) (.Call (.Name "_law_thrown" np) [.Lambda noArgs b sc lp] [] pos)
end
end Mine
namespace Mine
section
open PySem PySem.W PyProof.Rows PySem.Calls PySem.Spec

section
variable {G : Gd}
noncomputable def G_int_value : Ct := { vars := [("number", .loc), ("kind", .loc)], globs := [] }
theorem r_int_value (U : Uni G) (Z : Sp G U) : SXs G 0 G_int_value c_int_value (fdBody (stJ 6)) := by
  unfold c_int_value
  exact (SXs.cons (SX.ret (SE.tup (.cons (SE.str rfl) (fun _ _ => rfl) (.cons (SE.name isv1 rfl) (fun _ _ => rfl) (.cons (SE.name isv0 rfl) (fun _ _ => rfl) .nil))))) SXs.nil)
theorem fn_int_value (U : Uni G) (Z : Sp G U) : FN G 1 (.ref U.a_int_value) 1 fun l σ k x => callF c_int_value (frOf (l ++ [.str 8])) σ k x :=
  FN.d "number" "kind" U.f_int_value rfl (by decide +kernel) (by decide +kernel) rfl (fun _ _ _ _ _ _ _ _ _ _ => ⟨_, rfl, fun _ => rfl⟩) (r_int_value U Z)
noncomputable def G_text_value : Ct := { vars := [("text", .loc)], globs := [] }
theorem r_text_value (U : Uni G) (Z : Sp G U) : SXs G 0 G_text_value c_text_value (fdBody (stJ 7)) := by
  unfold c_text_value
  exact (SXs.cons (SX.ret (SE.tup (.cons (SE.str rfl) (fun _ _ => rfl) (.cons (SE.encode (fun _ => rfl) rfl (SE.name isv0 rfl)) (fun _ _ => rfl) .nil)))) SXs.nil)
theorem fn_text_value (U : Uni G) (Z : Sp G U) : FN G 1 (.ref U.a_text_value) 1 fun l σ k x => callF c_text_value (frOf (l ++ [])) σ k x :=
  FN.k ["text"] U.f_text_value (by decide +kernel) (by decide +kernel) rfl rfl (ar1 fun v0 _ _ _ _ _ _ _ _ => rfl) (r_text_value U Z)
noncomputable def G_error_kind : Ct := { vars := [("name", .loc)], globs := [] }
theorem r_error_kind (U : Uni G) (Z : Sp G U) : SXs G 0 G_error_kind c_error_kind (fdBody (stJ 8)) := by
  unfold c_error_kind
  exact (SXs.cons (SX.ret (SE.tup (.cons (SE.str rfl) (fun _ _ => rfl) (.cons (SE.name isv0 rfl) (fun _ _ => rfl) (.cons (SE.tup .nil) (fun _ _ => rfl) .nil))))) SXs.nil)
theorem fn_error_kind (U : Uni G) (Z : Sp G U) : FN G 1 (.ref U.a_error_kind) 1 fun l σ k x => callF c_error_kind (frOf (l ++ [])) σ k x :=
  FN.k ["name"] U.f_error_kind (by decide +kernel) (by decide +kernel) rfl rfl (ar1 fun v0 _ _ _ _ _ _ _ _ => rfl) (r_error_kind U Z)
noncomputable def G_error_value : Ct := { vars := [("name", .loc), ("parts", .loc)], globs := ["error_kind", "tuple"] }
theorem r_error_value (U : Uni G) (Z : Sp G U) : SXs G 1 G_error_value c_error_value (fdBody (stJ 9)) := by
  unfold c_error_value
  exact (SXs.cons (SX.ret (SE.tup (.cons (SE.str rfl) (fun _ _ => rfl) (.cons (SE.call1f U.g_error_kind (.head _) (KeepF.of U.f_error_kind.keep) (FN.mono (fn_error_kind U Z) (by decide)) (SE.name isv0 rfl) (fun _ _ => rfl)) (fun _ _ => rfl) (.cons (SE.mktup U.g_tuple (.tail _ (.head _)) (SE.name isv1 rfl) (fun _ _ => rfl)) (fun _ _ => rfl) .nil))))) SXs.nil)
theorem fn_error_value (U : Uni G) (Z : Sp G U) : FN G 2 (.ref U.a_error_value) 2 fun l σ k x => callF c_error_value (frOf (l ++ [])) σ k x :=
  FN.k ["name", "parts"] U.f_error_value (by decide +kernel) (by decide +kernel) rfl rfl (ar2 fun v0 v1 _ _ _ _ _ _ _ _ => rfl) (r_error_value U Z)
noncomputable def G_thrown : Ct := { vars := [("name", .loc), ("parts", .loc)], globs := ["Thrown", "error_value"] }
theorem r_thrown (U : Uni G) (Z : Sp G U) : SXs G 8 G_thrown c_thrown (fdBody (stJ 10)) := by
  unfold c_thrown
  exact (SXs.cons (SX.ret (Z.exc (by decide) (.head _) (SE.call2f U.g_error_value (.tail _ (.head _)) (KeepF.of U.f_error_value.keep) (FN.mono (fn_error_value U Z) (by decide)) (SE.name isv0 rfl) (fun _ _ => rfl) (SE.name isv1 rfl) (fun _ _ => rfl)) (fun _ _ => rfl))) SXs.nil)
theorem fn_thrown (U : Uni G) (Z : Sp G U) : FN G 9 (.ref U.a_thrown) 2 fun l σ k x => callF c_thrown (frOf (l ++ [])) σ k x :=
  FN.k ["name", "parts"] U.f_thrown (by decide +kernel) (by decide +kernel) rfl rfl (ar2 fun v0 v1 _ _ _ _ _ _ _ _ => rfl) (r_thrown U Z)
noncomputable def G_thrown_text : Ct := { vars := [("name", .loc), ("text", .loc)], globs := ["Thrown", "error_value", "text_value"] }
theorem r_thrown_text (U : Uni G) (Z : Sp G U) : SXs G 8 G_thrown_text c_thrown_text (fdBody (stJ 11)) := by
  unfold c_thrown_text
  exact (SXs.cons (SX.ret (Z.exc (by decide) (.head _) (SE.call2f U.g_error_value (.tail _ (.head _)) (KeepF.of U.f_error_value.keep) (FN.mono (fn_error_value U Z) (by decide)) (SE.name isv0 rfl) (fun _ _ => rfl) (SE.tup (.cons (SE.call1f U.g_text_value (.tail _ (.tail _ (.head _))) (KeepF.of U.f_text_value.keep) (FN.mono (fn_text_value U Z) (by decide)) (SE.name isv1 rfl) (fun _ _ => rfl)) (fun _ _ => rfl) .nil)) (fun _ _ => rfl)) (fun _ _ => rfl))) SXs.nil)
theorem fn_thrown_text (U : Uni G) (Z : Sp G U) : FN G 9 (.ref U.a_thrown_text) 2 fun l σ k x => callF c_thrown_text (frOf (l ++ [])) σ k x :=
  FN.k ["name", "text"] U.f_thrown_text (by decide +kernel) (by decide +kernel) rfl rfl (ar2 fun v0 v1 _ _ _ _ _ _ _ _ => rfl) (r_thrown_text U Z)
noncomputable def G_named : Ct := { vars := [("name", .loc), ("params", .loc)], globs := ["tuple"] }
theorem r_named (U : Uni G) (Z : Sp G U) : SXs G 0 G_named c_named (fdBody (stJ 13)) := by
  unfold c_named
  exact (SXs.cons (SX.ret (SE.tup (.cons (SE.str rfl) (fun _ _ => rfl) (.cons (SE.name isv0 rfl) (fun _ _ => rfl) (.cons (SE.mktup U.g_tuple (.head _) (SE.name isv1 rfl) (fun _ _ => rfl)) (fun _ _ => rfl) .nil))))) SXs.nil)
theorem fn_named (U : Uni G) (Z : Sp G U) : FN G 1 (.ref U.a_named) 2 fun l σ k x => callF c_named (frOf (l ++ [])) σ k x :=
  FN.e "name" "params" U.f_named (by decide +kernel) (by decide +kernel) rfl (fun _ _ _ _ _ _ _ _ _ _ _ => ⟨_, rfl, fun _ => rfl⟩) (r_named U Z)
noncomputable def G_Thing_init : Ct := { vars := [("self", .loc), ("kind", .loc), ("fields", .loc), ("sizes", .loc)], globs := [] }
theorem r_Thing_init (U : Uni G) (Z : Sp G U) : SXs G 0 G_Thing_init c_Thing_init (fdBody (inCls 0 (stJ 15))) := by
  unfold c_Thing_init
  exact (SXs.cons (SX.asgA (SE.name isv1 rfl) (SE.name isv0 rfl) rfl) (SXs.cons (SX.asgA (SE.name isv2 rfl) (SE.name isv0 rfl) rfl) (SXs.cons (SX.asgA (SE.name isv3 rfl) (SE.name isv0 rfl) rfl) SXs.nil)))
theorem fn_Thing_init (U : Uni G) (Z : Sp G U) : FN G 1 (.ref U.a_Thing_init) 4 fun l σ k x => callF c_Thing_init (frOf (l ++ [])) σ k x :=
  FN.k ["self", "kind", "fields", "sizes"] U.f_Thing_init (by decide +kernel) (by decide +kernel) rfl rfl (ar4 fun v0 v1 v2 v3 _ _ _ _ _ _ _ _ => rfl) (r_Thing_init U Z)
noncomputable def G_Heap_init : Ct := { vars := [("self", .loc)], globs := [] }
theorem r_Heap_init (U : Uni G) (Z : Sp G U) : SXs G 0 G_Heap_init c_Heap_init (fdBody (inCls 0 (stJ 16))) := by
  unfold c_Heap_init
  exact (SXs.cons (SX.asgA (SE.lstM .nil) (SE.name isv0 rfl) rfl) SXs.nil)
theorem fn_Heap_init (U : Uni G) (Z : Sp G U) : FN G 1 (.ref U.a_Heap_init) 1 fun l σ k x => callF c_Heap_init (frOf (l ++ [])) σ k x :=
  FN.k ["self"] U.f_Heap_init (by decide +kernel) (by decide +kernel) rfl rfl (ar1 fun v0 _ _ _ _ _ _ _ _ => rfl) (r_Heap_init U Z)
noncomputable def G_Heap_put : Ct := { vars := [("self", .loc), ("thing", .loc)], globs := ["len"] }
theorem r_Heap_put (U : Uni G) (Z : Sp G U) : SXs G 0 G_Heap_put c_Heap_put (fdBody (inCls 1 (stJ 16))) := by
  unfold c_Heap_put
  exact (SXs.cons (SX.expr (SE.append (fun _ => rfl) rfl (SE.att (SE.name isv0 rfl) rfl (fun _ => rfl)) (SE.name isv1 rfl) (fun _ _ => rfl)) (fun _ _ => rfl)) (SXs.cons (SX.ret (SE.bin (SE.len U.g_len (.head _) (SE.att (SE.name isv0 rfl) rfl (fun _ => rfl)) (fun _ _ => rfl)) (SE.int _))) SXs.nil))
theorem fn_Heap_put (U : Uni G) (Z : Sp G U) : FN G 1 (.ref U.a_Heap_put) 2 fun l σ k x => callF c_Heap_put (frOf (l ++ [])) σ k x :=
  FN.k ["self", "thing"] U.f_Heap_put (by decide +kernel) (by decide +kernel) rfl rfl (ar2 fun v0 v1 _ _ _ _ _ _ _ _ => rfl) (r_Heap_put U Z)
noncomputable def G_Heap_new_array : Ct := { vars := [("self", .loc), ("kind", .loc), ("sizes", .loc), ("items", .loc)], globs := ["Thing", "list", "tuple"] }
theorem r_Heap_new_array (U : Uni G) (Z : Sp G U) : SXs G 2 G_Heap_new_array c_Heap_new_array (fdBody (inCls 3 (stJ 16))) := by
  unfold c_Heap_new_array
  exact (SXs.cons (SX.ret (SE.meth1 U.m_put (fun _ => rfl) rfl (FN.mono (fn_Heap_put U Z) (by decide)) (SE.name isv0 rfl) (SE.new3 U.g_Thing (.head _) (KeepF.of U.k_Thing) U.n_Thing (FN.mono (fn_Thing_init U Z) (by decide)) (SE.name isv1 rfl) (fun _ _ => rfl) (SE.mklst U.g_list (.tail _ (.head _)) (SE.name isv3 rfl) (fun _ _ => rfl)) (fun _ _ => rfl) (SE.mktup U.g_tuple (.tail _ (.tail _ (.head _))) (SE.name isv2 rfl) (fun _ _ => rfl)) (fun _ _ => rfl)) (fun _ _ => rfl))) SXs.nil)
theorem fn_Heap_new_array (U : Uni G) (Z : Sp G U) : FN G 3 (.ref U.a_Heap_new_array) 4 fun l σ k x => callF c_Heap_new_array (frOf (l ++ [])) σ k x :=
  FN.k ["self", "kind", "sizes", "items"] U.f_Heap_new_array (by decide +kernel) (by decide +kernel) rfl rfl (ar4 fun v0 v1 v2 v3 _ _ _ _ _ _ _ _ => rfl) (r_Heap_new_array U Z)
noncomputable def G_Heap_object : Ct := { vars := [("self", .loc), ("address", .loc)], globs := ["len", "MachineFault"] }
theorem r_Heap_object (U : Uni G) (Z : Sp G U) : SXs G 0 G_Heap_object c_Heap_object (fdBody (inCls 5 (stJ 16))) := by
  unfold c_Heap_object
  exact (SXs.cons (SX.ite (ST.not (ST.cmp2 (SE.int _) (SE.name isv1 rfl) (SE.len U.g_len (.head _) (SE.att (SE.name isv0 rfl) rfl (fun _ => rfl)) (fun _ _ => rfl)) rfl)) (SXs.cons SX.bad SXs.nil) SXs.nil) (SXs.cons (SX.ret (SE.sub (SE.att (SE.name isv0 rfl) rfl (fun _ => rfl)) (SE.name isv1 rfl) (fun _ _ => rfl))) SXs.nil))
theorem fn_Heap_object (U : Uni G) (Z : Sp G U) : FN G 1 (.ref U.a_Heap_object) 2 fun l σ k x => callF c_Heap_object (frOf (l ++ [])) σ k x :=
  FN.k ["self", "address"] U.f_Heap_object (by decide +kernel) (by decide +kernel) rfl rfl (ar2 fun v0 v1 _ _ _ _ _ _ _ _ => rfl) (r_Heap_object U Z)
noncomputable def G_array_kind : Ct := { vars := [("item", .loc), ("rank", .loc)], globs := ["named"] }
theorem r_array_kind (U : Uni G) (Z : Sp G U) : SXs G 1 G_array_kind c_array_kind (fdBody (stJ 17)) := by
  unfold c_array_kind
  exact (SXs.cons (SX.ret (SE.call2f U.g_named (.head _) (KeepF.of U.f_named.keep) (FN.mono (fn_named U Z) (by decide)) (SE.str rfl) (fun _ _ => rfl) (SE.tup (.cons (SE.name isv0 rfl) (fun _ _ => rfl) (.cons (SE.tup (.cons (SE.str rfl) (fun _ _ => rfl) (.cons (SE.name isv1 rfl) (fun _ _ => rfl) .nil))) (fun _ _ => rfl) .nil))) (fun _ _ => rfl))) SXs.nil)
theorem fn_array_kind (U : Uni G) (Z : Sp G U) : FN G 2 (.ref U.a_array_kind) 2 fun l σ k x => callF c_array_kind (frOf (l ++ [])) σ k x :=
  FN.k ["item", "rank"] U.f_array_kind (by decide +kernel) (by decide +kernel) rfl rfl (ar2 fun v0 v1 _ _ _ _ _ _ _ _ => rfl) (r_array_kind U Z)
noncomputable def G_many_of : Ct := { vars := [("sizes", .loc), ("many", .loc), ("size", .loc)], globs := [] }
theorem r_many_of (U : Uni G) (Z : Sp G U) : SXs G 0 G_many_of c_many_of (fdBody (stJ 20)) := by
  unfold c_many_of
  exact (SXs.cons (SX.asg (SE.int _) (SG.name isg1 rfl (by decide)) (fun _ => rfl) (fun _ _ _ => rfl) (fun _ _ => rfl)) (SXs.cons (SX.for (SI.ex (SE.name isv0 rfl)) (SG.name isg2 rfl (by decide)) (SXs.cons (SX.asg (SE.bin (SE.name isv1 rfl) (SE.name isv2 rfl)) (SG.name isg1 rfl (by decide)) (fun _ => rfl) (fun _ _ _ => rfl) (fun _ _ => rfl)) SXs.nil) TgtP.name (fun _ _ => rfl)) (SXs.cons (SX.ret (SE.name isv1 rfl)) SXs.nil)))
theorem fn_many_of (U : Uni G) (Z : Sp G U) : FN G 1 (.ref U.a_many_of) 1 fun l σ k x => callF c_many_of (frOf (l ++ [])) σ k x :=
  FN.k ["sizes"] U.f_many_of (by decide +kernel) (by decide +kernel) rfl rfl (ar1 fun v0 _ _ _ _ _ _ _ _ => rfl) (r_many_of U Z)
noncomputable def G_strides_of : Ct := { vars := [("sizes", .loc), ("found", .loc), ("far", .loc), ("size", .loc)], globs := ["tuple"] }
theorem r_strides_of (U : Uni G) (Z : Sp G U) : SXs G 0 G_strides_of c_strides_of (fdBody (stJ 21)) := by
  unfold c_strides_of
  exact (SXs.cons (SX.asgS (SE.tup (.cons (SE.lstM .nil) (fun _ _ => rfl) (.cons (SE.int _) (fun _ _ => rfl) .nil))) isg1 rfl isg2 rfl (fun _ _ _ => rfl) (swapped2 (i₁ := 1) (i₂ := 2) rfl rfl rfl (by decide +kernel) rfl rfl rfl)) (SXs.cons (SX.for (SI.ex (SE.name isv0 rfl)) (SG.name isg3 rfl (by decide)) (SXs.cons (SX.expr (SE.append (fun _ => rfl) rfl (SE.name isv1 rfl) (SE.name isv2 rfl) (fun _ _ => rfl)) (fun _ _ => rfl)) (SXs.cons (SX.asg (SE.bin (SE.name isv2 rfl) (SE.name isv3 rfl)) (SG.name isg2 rfl (by decide)) (fun _ => rfl) (fun _ _ _ => rfl) (fun _ _ => rfl)) SXs.nil)) TgtP.name (fun _ _ => rfl)) (SXs.cons (SX.ret (SE.mktup U.g_tuple (.head _) (SE.name isv1 rfl) (fun _ _ => rfl))) SXs.nil)))
theorem fn_strides_of (U : Uni G) (Z : Sp G U) : FN G 1 (.ref U.a_strides_of) 1 fun l σ k x => callF c_strides_of (frOf (l ++ [])) σ k x :=
  FN.k ["sizes"] U.f_strides_of (by decide +kernel) (by decide +kernel) rfl rfl (ar1 fun v0 _ _ _ _ _ _ _ _ => rfl) (r_strides_of U Z)
noncomputable def G_offset_of : Ct := { vars := [("sizes", .loc), ("indices", .loc), ("place", .loc), ("index", .loc), ("size", .loc), ("far", .loc)], globs := ["len", "many_of", "zip", "strides_of"] }
theorem r_offset_of (U : Uni G) (Z : Sp G U) : SXs G 1 G_offset_of c_offset_of (fdBody (stJ 22)) := by
  unfold c_offset_of
  exact (SXs.cons (SX.ite (STs.bool (STs.and (ST.cmp (SE.len U.g_len (.head _) (SE.name isv1 rfl) (fun _ _ => rfl)) (SE.int _) rfl) (STs.oneAnd (ST.cmp (SE.len U.g_len (.head _) (SE.name isv0 rfl) (fun _ _ => rfl)) (SE.int _) rfl)))) (SXs.cons (SX.ret (SE.ite (ST.cmp2 (SE.int _) (SE.sub (SE.name isv1 rfl) (SE.int _) (fun _ _ => rfl)) (SE.call1f U.g_many_of (.tail _ (.head _)) (KeepF.of U.f_many_of.keep) (FN.mono (fn_many_of U Z) (by decide)) (SE.name isv0 rfl) (fun _ _ => rfl)) rfl) (SE.bin (SE.sub (SE.name isv1 rfl) (SE.int _) (fun _ _ => rfl)) (SE.int _)) (SE.neg (SE.int _)))) SXs.nil) SXs.nil) (SXs.cons (SX.ite (ST.cmp (SE.len U.g_len (.head _) (SE.name isv1 rfl) (fun _ _ => rfl)) (SE.len U.g_len (.head _) (SE.name isv0 rfl) (fun _ _ => rfl)) rfl) (SXs.cons (SX.ret (SE.neg (SE.int _))) SXs.nil) SXs.nil) (SXs.cons (SX.asg (SE.int _) (SG.name isg2 rfl (by decide)) (fun _ => rfl) (fun _ _ _ => rfl) (fun _ _ => rfl)) (SXs.cons (SX.for (SI.zip3 U.g_zip (.tail _ (.tail _ (.head _))) (SE.name isv1 rfl) (fun _ _ => rfl) (SE.name isv0 rfl) (fun _ _ => rfl) (SE.call1f U.g_strides_of (.tail _ (.tail _ (.tail _ (.head _)))) (KeepF.of U.f_strides_of.keep) (FN.mono (fn_strides_of U Z) (by decide)) (SE.name isv0 rfl) (fun _ _ => rfl)) (fun _ _ => rfl)) (SG.tup (.cons (SG.name isg3 rfl (by decide)) (fun _ _ => rfl) (.cons (SG.name isg4 rfl (by decide)) (fun _ _ => rfl) (.cons (SG.name isg5 rfl (by decide)) (fun _ _ => rfl) .nil)))) (SXs.cons (SX.ite (ST.not (ST.cmp2 (SE.int _) (SE.name isv3 rfl) (SE.name isv4 rfl) rfl)) (SXs.cons (SX.ret (SE.neg (SE.int _))) SXs.nil) SXs.nil) (SXs.cons (SX.asg (SE.bin (SE.name isv2 rfl) (SE.bin (SE.bin (SE.name isv3 rfl) (SE.int _)) (SE.name isv5 rfl))) (SG.name isg2 rfl (by decide)) (fun _ => rfl) (fun _ _ _ => rfl) (fun _ _ => rfl)) SXs.nil)) TgtP.tup (fun _ _ => rfl)) (SXs.cons (SX.ret (SE.name isv2 rfl)) SXs.nil)))))
theorem fn_offset_of (U : Uni G) (Z : Sp G U) : FN G 2 (.ref U.a_offset_of) 2 fun l σ k x => callF c_offset_of (frOf (l ++ [])) σ k x :=
  FN.k ["sizes", "indices"] U.f_offset_of (by decide +kernel) (by decide +kernel) rfl rfl (ar2 fun v0 v1 _ _ _ _ _ _ _ _ => rfl) (r_offset_of U Z)
noncomputable def G_index_of : Ct := { vars := [("sizes", .loc), ("offset", .loc), ("found", .loc), ("size", .loc)], globs := ["tuple"] }
theorem r_index_of (U : Uni G) (Z : Sp G U) : SXs G 0 G_index_of c_index_of (fdBody (stJ 23)) := by
  unfold c_index_of
  exact (SXs.cons (SX.asg (SE.lstM .nil) (SG.name isg2 rfl (by decide)) (fun _ => rfl) (fun _ _ _ => rfl) (fun _ _ => rfl)) (SXs.cons (SX.for (SI.ex (SE.name isv0 rfl)) (SG.name isg3 rfl (by decide)) (SXs.cons (SX.expr (SE.append (fun _ => rfl) rfl (SE.name isv2 rfl) (SE.bin (SE.bin (SE.name isv1 rfl) (SE.name isv3 rfl)) (SE.int _)) (fun _ _ => rfl)) (fun _ _ => rfl)) (SXs.cons (SX.asg (SE.bin (SE.name isv1 rfl) (SE.name isv3 rfl)) (SG.name isg1 rfl (by decide)) (fun _ => rfl) (fun _ _ _ => rfl) (fun _ _ => rfl)) SXs.nil)) TgtP.name (fun _ _ => rfl)) (SXs.cons (SX.ret (SE.mktup U.g_tuple (.head _) (SE.name isv2 rfl) (fun _ _ => rfl))) SXs.nil)))
theorem fn_index_of (U : Uni G) (Z : Sp G U) : FN G 1 (.ref U.a_index_of) 2 fun l σ k x => callF c_index_of (frOf (l ++ [])) σ k x :=
  FN.k ["sizes", "offset"] U.f_index_of (by decide +kernel) (by decide +kernel) rfl rfl (ar2 fun v0 v1 _ _ _ _ _ _ _ _ => rfl) (r_index_of U Z)
noncomputable def G_bounds_fault : Ct := { vars := [("value", .loc), ("indices", .loc)], globs := ["thrown", "tuple"] }
noncomputable def G1_bounds_fault : Ct := { vars := [("index", .loc)], globs := ["int_value"] }
theorem r_bounds_fault (U : Uni G) (Z : Sp G U) : SXs G 9 G_bounds_fault c_bounds_fault (fdBody (stJ 24)) := by
  unfold c_bounds_fault
  exact (SXs.cons (SX.ret (SE.call2f U.g_thrown (.head _) (KeepF.of U.f_thrown.keep) (FN.mono (fn_thrown U Z) (by decide)) (SE.str rfl) (fun _ _ => rfl) (SE.tup (.cons (SE.name isv0 rfl) (fun _ _ => rfl) (.cons (SE.tup (.cons (SE.str rfl) (fun _ _ => rfl) (.cons (SE.mktup U.g_tuple (.tail _ (.head _)) (SE.comp1 (Γ' := G1_bounds_fault) (fun _ _ => rfl) (by decide +kernel) (by decide +kernel) rfl (fun ⟨a0, a1, a2, a3, a4, a5, a6, a7, a8, a9, a10, a11⟩ k h => ⟨_, h, fun i => match i with | 0 => .inl rfl | 1 => .inl rfl | 2 => .inl rfl | 3 => .inl rfl | 4 => .inl rfl | 5 => .inl rfl | 6 => .inl rfl | 7 => .inl rfl | 8 => .inl rfl | 9 => .inl rfl | 10 => .inl rfl | 11 => .inl rfl | _ + 12 => .inl rfl⟩) (SI.ex (SE.name isv1 rfl)) (SG.name isg0 rfl (by decide)) TgtP.name SC.none (SE.callD U.g_int_value (.head _) (KeepF.of U.f_int_value.keep) (FN.mono (fn_int_value U Z) (by decide)) (SE.name isv0 rfl) (fun _ _ => rfl))) (fun _ _ => rfl)) (fun _ _ => rfl) .nil))) (fun _ _ => rfl) .nil))) (fun _ _ => rfl))) SXs.nil)
theorem fn_bounds_fault (U : Uni G) (Z : Sp G U) : FN G 10 (.ref U.a_bounds_fault) 2 fun l σ k x => callF c_bounds_fault (frOf (l ++ [])) σ k x :=
  FN.k ["value", "indices"] U.f_bounds_fault (by decide +kernel) (by decide +kernel) rfl rfl (ar2 fun v0 v1 _ _ _ _ _ _ _ _ => rfl) (r_bounds_fault U Z)
noncomputable def G_check_sizes : Ct := { vars := [("sizes", .loc)], globs := ["many_of", "MOST_ITEMS", "thrown_text"] }
noncomputable def G2_check_sizes : Ct := { vars := [("size", .loc)], globs := [] }
theorem r_check_sizes (U : Uni G) (Z : Sp G U) : SXs G 9 G_check_sizes c_check_sizes (fdBody (stJ 25)) := by
  unfold c_check_sizes
  exact (SXs.cons (SX.ite (STs.bool (STs.or (ST.cmp (SE.comp1 (Γ' := G2_check_sizes) (fun _ _ => rfl) (by decide +kernel) (by decide +kernel) rfl (fun ⟨a0, a1, a2, a3, a4, a5, a6, a7, a8, a9, a10, a11⟩ k h => ⟨_, h, fun i => match i with | 0 => .inl rfl | 1 => .inl rfl | 2 => .inl rfl | 3 => .inl rfl | 4 => .inl rfl | 5 => .inl rfl | 6 => .inl rfl | 7 => .inl rfl | 8 => .inl rfl | 9 => .inl rfl | 10 => .inl rfl | 11 => .inl rfl | _ + 12 => .inl rfl⟩) (SI.ex (SE.name isv0 rfl)) (SG.name isg0 rfl (by decide)) TgtP.name (SC.one (ST.cmp (SE.name isv0 rfl) (SE.int _) rfl)) (SE.name isv0 rfl)) (SE.lst .nil) rfl) (STs.oneOr (ST.cmp (SE.call1f U.g_many_of (.head _) (KeepF.of U.f_many_of.keep) (FN.mono (fn_many_of U Z) (by decide)) (SE.name isv0 rfl) (fun _ _ => rfl)) (SE.glob U.g_MOST_ITEMS (.tail _ (.head _))) rfl)))) (SXs.cons (SX.raise U.x (SE.call2f U.g_thrown_text (.tail _ (.tail _ (.head _))) (KeepF.of U.f_thrown_text.keep) (FN.mono (fn_thrown_text U Z) (by decide)) (SE.str rfl) (fun _ _ => rfl) (SE.str rfl) (fun _ _ => rfl))) SXs.nil) SXs.nil) SXs.nil)
theorem fn_check_sizes (U : Uni G) (Z : Sp G U) : FN G 10 (.ref U.a_check_sizes) 1 fun l σ k x => callF c_check_sizes (frOf (l ++ [])) σ k x :=
  FN.k ["sizes"] U.f_check_sizes (by decide +kernel) (by decide +kernel) rfl rfl (ar1 fun v0 _ _ _ _ _ _ _ _ => rfl) (r_check_sizes U Z)
noncomputable def G_is_array : Ct := { vars := [("value", .loc)], globs := [] }
theorem r_is_array (U : Uni G) (Z : Sp G U) : SXs G 0 G_is_array c_is_array (fdBody (stJ 26)) := by
  unfold c_is_array
  exact (SXs.cons (SX.ret (SE.cmp (SE.sub (SE.name isv0 rfl) (SE.int _) (fun _ _ => rfl)) (SE.tup (.cons (SE.str rfl) (fun _ _ => rfl) (.cons (SE.str rfl) (fun _ _ => rfl) .nil))) rfl)) SXs.nil)
theorem fn_is_array (U : Uni G) (Z : Sp G U) : FN G 1 (.ref U.a_is_array) 1 fun l σ k x => callF c_is_array (frOf (l ++ [])) σ k x :=
  FN.k ["value"] U.f_is_array (by decide +kernel) (by decide +kernel) rfl rfl (ar1 fun v0 _ _ _ _ _ _ _ _ => rfl) (r_is_array U Z)
noncomputable def G_parent_of : Ct := { vars := [("heap", .loc), ("value", .loc)], globs := ["is_array", "MachineFault"] }
theorem r_parent_of (U : Uni G) (Z : Sp G U) : SXs G 1 G_parent_of c_parent_of (fdBody (stJ 27)) := by
  unfold c_parent_of
  exact (SXs.cons (SX.ite (ST.not (ST.val (SE.call1f U.g_is_array (.head _) (KeepF.of U.f_is_array.keep) (FN.mono (fn_is_array U Z) (by decide)) (SE.name isv1 rfl) (fun _ _ => rfl)) (fun _ _ => rfl))) (SXs.cons SX.bad SXs.nil) SXs.nil) (SXs.cons (SX.ret (SE.meth1 U.m_object (fun _ => rfl) rfl (FN.mono (fn_Heap_object U Z) (by decide)) (SE.name isv0 rfl) (SE.sub (SE.name isv1 rfl) (SE.int _) (fun _ _ => rfl)) (fun _ _ => rfl))) SXs.nil))
theorem fn_parent_of (U : Uni G) (Z : Sp G U) : FN G 2 (.ref U.a_parent_of) 2 fun l σ k x => callF c_parent_of (frOf (l ++ [])) σ k x :=
  FN.k ["heap", "value"] U.f_parent_of (by decide +kernel) (by decide +kernel) rfl rfl (ar2 fun v0 v1 _ _ _ _ _ _ _ _ => rfl) (r_parent_of U Z)
noncomputable def G_sizes_of : Ct := { vars := [("heap", .loc), ("value", .loc)], globs := ["parent_of"] }
theorem r_sizes_of (U : Uni G) (Z : Sp G U) : SXs G 2 G_sizes_of c_sizes_of (fdBody (stJ 28)) := by
  unfold c_sizes_of
  exact (SXs.cons (SX.ret (SE.ite (ST.cmp (SE.sub (SE.name isv1 rfl) (SE.int _) (fun _ _ => rfl)) (SE.str rfl) rfl) (SE.sub (SE.name isv1 rfl) (SE.int _) (fun _ _ => rfl)) (SE.att (SE.call2f U.g_parent_of (.head _) (KeepF.of U.f_parent_of.keep) (FN.mono (fn_parent_of U Z) (by decide)) (SE.name isv0 rfl) (fun _ _ => rfl) (SE.name isv1 rfl) (fun _ _ => rfl)) rfl (fun _ => rfl)))) SXs.nil)
theorem fn_sizes_of (U : Uni G) (Z : Sp G U) : FN G 3 (.ref U.a_sizes_of) 2 fun l σ k x => callF c_sizes_of (frOf (l ++ [])) σ k x :=
  FN.k ["heap", "value"] U.f_sizes_of (by decide +kernel) (by decide +kernel) rfl rfl (ar2 fun v0 v1 _ _ _ _ _ _ _ _ => rfl) (r_sizes_of U Z)
noncomputable def G_layout_of : Ct := { vars := [("heap", .loc), ("value", .loc)], globs := ["strides_of", "sizes_of"] }
theorem r_layout_of (U : Uni G) (Z : Sp G U) : SXs G 3 G_layout_of c_layout_of (fdBody (stJ 29)) := by
  unfold c_layout_of
  exact (SXs.cons (SX.ret (SE.ite (ST.cmp (SE.sub (SE.name isv1 rfl) (SE.int _) (fun _ _ => rfl)) (SE.str rfl) rfl) (SE.tup (.cons (SE.sub (SE.name isv1 rfl) (SE.int _) (fun _ _ => rfl)) (fun _ _ => rfl) (.cons (SE.sub (SE.name isv1 rfl) (SE.int _) (fun _ _ => rfl)) (fun _ _ => rfl) .nil))) (SE.tup (.cons (SE.int _) (fun _ _ => rfl) (.cons (SE.call1f U.g_strides_of (.head _) (KeepF.of U.f_strides_of.keep) (FN.mono (fn_strides_of U Z) (by decide)) (SE.call2f U.g_sizes_of (.tail _ (.head _)) (KeepF.of U.f_sizes_of.keep) (FN.mono (fn_sizes_of U Z) (by decide)) (SE.name isv0 rfl) (fun _ _ => rfl) (SE.name isv1 rfl) (fun _ _ => rfl)) (fun _ _ => rfl)) (fun _ _ => rfl) .nil))))) SXs.nil)
theorem fn_layout_of (U : Uni G) (Z : Sp G U) : FN G 4 (.ref U.a_layout_of) 2 fun l σ k x => callF c_layout_of (frOf (l ++ [])) σ k x :=
  FN.k ["heap", "value"] U.f_layout_of (by decide +kernel) (by decide +kernel) rfl rfl (ar2 fun v0 v1 _ _ _ _ _ _ _ _ => rfl) (r_layout_of U Z)
noncomputable def G_place_in_parent : Ct := { vars := [("heap", .loc), ("value", .loc), ("indices", .loc), ("sizes", .loc), ("offset", .loc), ("place", .loc), ("steps", .loc), ("index", .loc), ("far", .loc)], globs := ["sizes_of", "offset_of", "layout_of", "zip", "index_of"] }
theorem r_place_in_parent (U : Uni G) (Z : Sp G U) : SXs G 4 G_place_in_parent c_place_in_parent (fdBody (stJ 30)) := by
  unfold c_place_in_parent
  exact (SXs.cons (SX.asg (SE.call2f U.g_sizes_of (.head _) (KeepF.of U.f_sizes_of.keep) (FN.mono (fn_sizes_of U Z) (by decide)) (SE.name isv0 rfl) (fun _ _ => rfl) (SE.name isv1 rfl) (fun _ _ => rfl)) (SG.name isg3 rfl (by decide)) (fun _ => rfl) (fun _ _ _ => rfl) (fun _ _ => rfl)) (SXs.cons (SX.asg (SE.call2f U.g_offset_of (.tail _ (.head _)) (KeepF.of U.f_offset_of.keep) (FN.mono (fn_offset_of U Z) (by decide)) (SE.name isv3 rfl) (fun _ _ => rfl) (SE.name isv2 rfl) (fun _ _ => rfl)) (SG.name isg4 rfl (by decide)) (fun _ => rfl) (fun _ _ _ => rfl) (fun _ _ => rfl)) (SXs.cons (SX.ite (ST.cmp (SE.name isv4 rfl) (SE.int _) rfl) (SXs.cons (SX.ret (SE.neg (SE.int _))) SXs.nil) SXs.nil) (SXs.cons (SX.asg (SE.call2f U.g_layout_of (.tail _ (.tail _ (.head _))) (KeepF.of U.f_layout_of.keep) (FN.mono (fn_layout_of U Z) (by decide)) (SE.name isv0 rfl) (fun _ _ => rfl) (SE.name isv1 rfl) (fun _ _ => rfl)) (SG.tup (.cons (SG.name isg5 rfl (by decide)) (fun _ _ => rfl) (.cons (SG.name isg6 rfl (by decide)) (fun _ _ => rfl) .nil))) (fun _ => rfl) (fun _ _ _ => rfl) (fun _ _ => rfl)) (SXs.cons (SX.for (SI.zip2 U.g_zip (.tail _ (.tail _ (.tail _ (.head _)))) (SE.call2f U.g_index_of (.tail _ (.tail _ (.tail _ (.tail _ (.head _))))) (KeepF.of U.f_index_of.keep) (FN.mono (fn_index_of U Z) (by decide)) (SE.name isv3 rfl) (fun _ _ => rfl) (SE.name isv4 rfl) (fun _ _ => rfl)) (fun _ _ => rfl) (SE.name isv6 rfl) (fun _ _ => rfl)) (SG.tup (.cons (SG.name isg7 rfl (by decide)) (fun _ _ => rfl) (.cons (SG.name isg8 rfl (by decide)) (fun _ _ => rfl) .nil))) (SXs.cons (SX.asg (SE.bin (SE.name isv5 rfl) (SE.bin (SE.bin (SE.name isv7 rfl) (SE.int _)) (SE.name isv8 rfl))) (SG.name isg5 rfl (by decide)) (fun _ => rfl) (fun _ _ _ => rfl) (fun _ _ => rfl)) SXs.nil) TgtP.tup (fun _ _ => rfl)) (SXs.cons (SX.ret (SE.name isv5 rfl)) SXs.nil))))))
theorem fn_place_in_parent (U : Uni G) (Z : Sp G U) : FN G 5 (.ref U.a_place_in_parent) 3 fun l σ k x => callF c_place_in_parent (frOf (l ++ [])) σ k x :=
  FN.k ["heap", "value", "indices"] U.f_place_in_parent (by decide +kernel) (by decide +kernel) rfl rfl (ar3 fun v0 v1 v2 _ _ _ _ _ _ _ _ => rfl) (r_place_in_parent U Z)
noncomputable def G_places_of : Ct := { vars := [("heap", .loc), ("value", .loc), ("first", .loc), ("steps", .loc), ("found", .own), ("size", .loc), ("far", .own)], globs := ["layout_of", "zip", "sizes_of", "range"] }
noncomputable def G3_places_of : Ct := { vars := [("at", .loc), ("place", .loc), ("far", .cap), ("found", .cap)], globs := [] }
theorem r_places_of (U : Uni G) (Z : Sp G U) : SXs G 4 G_places_of c_places_of (fdBody (stJ 31)) := by
  unfold c_places_of
  exact (SXs.cons (SX.asg (SE.call2f U.g_layout_of (.head _) (KeepF.of U.f_layout_of.keep) (FN.mono (fn_layout_of U Z) (by decide)) (SE.name isv0 rfl) (fun _ _ => rfl) (SE.name isv1 rfl) (fun _ _ => rfl)) (SG.tup (.cons (SG.name isg2 rfl (by decide)) (fun _ _ => rfl) (.cons (SG.name isg3 rfl (by decide)) (fun _ _ => rfl) .nil))) (fun _ => rfl) (fun _ _ _ => rfl) (fun _ _ => rfl)) (SXs.cons (SX.asg (SE.lst (.cons (SE.name isv2 rfl) (fun _ _ => rfl) .nil)) (SG.name isg4 rfl (by decide)) (fun _ => rfl) (fun _ _ _ => rfl) (fun _ _ => rfl)) (SXs.cons (SX.for (SI.zip2 U.g_zip (.tail _ (.head _)) (SE.call2f U.g_sizes_of (.tail _ (.tail _ (.head _))) (KeepF.of U.f_sizes_of.keep) (FN.mono (fn_sizes_of U Z) (by decide)) (SE.name isv0 rfl) (fun _ _ => rfl) (SE.name isv1 rfl) (fun _ _ => rfl)) (fun _ _ => rfl) (SE.name isv3 rfl) (fun _ _ => rfl)) (SG.tup (.cons (SG.name isg5 rfl (by decide)) (fun _ _ => rfl) (.cons (SG.name isg6 rfl (by decide)) (fun _ _ => rfl) .nil))) (SXs.cons (SX.asg (SE.comp2 (Γ' := G3_places_of) (fun _ _ => rfl) (by decide +kernel) (by decide +kernel) rfl (fun ⟨a0, a1, a2, a3, a4, a5, a6, a7, a8, a9, a10, a11⟩ k h => ⟨_, h, fun i => match i with | 0 => .inl rfl | 1 => .inl rfl | 2 => .inr ⟨_, 6, _, rfl, rfl, (by decide), rfl⟩ | 3 => .inr ⟨_, 4, _, rfl, rfl, (by decide), rfl⟩ | 4 => .inl rfl | 5 => .inl rfl | 6 => .inl rfl | 7 => .inl rfl | 8 => .inl rfl | 9 => .inl rfl | 10 => .inl rfl | 11 => .inl rfl | _ + 12 => .inl rfl⟩) (SI.rng U.g_range (.tail _ (.tail _ (.tail _ (.head _)))) (SE.name isv5 rfl) (fun _ _ => rfl)) (SG.name isg0 rfl (by decide)) TgtP.name SC.none (fun _ _ => rfl) (SI.ex (SE.name isv3 rfl)) (SG.name isg1 rfl (by decide)) TgtP.name SC.none (SE.bin (SE.name isv1 rfl) (SE.bin (SE.name isv2 rfl) (SE.name isv0 rfl)))) (SG.name isg4 rfl (by decide)) (fun _ => rfl) (swaps_cell (kk := .own) (i := 4) rfl) (fun _ _ => rfl)) SXs.nil) TgtP.tup (fun _ _ => rfl)) (SXs.cons (SX.ret (SE.name isv4 rfl)) SXs.nil))))
theorem fn_places_of (U : Uni G) (Z : Sp G U) : FN G 5 (.ref U.a_places_of) 2 fun l σ k x => callF c_places_of (frOf (l ++ [])) σ k x :=
  FN.k ["heap", "value"] U.f_places_of (by decide +kernel) (by decide +kernel) rfl rfl (ar2 fun v0 v1 _ _ _ _ _ _ _ _ => rfl) (r_places_of U Z)
noncomputable def G_items_of : Ct := { vars := [("heap", .loc), ("value", .loc), ("fields", .own)], globs := ["parent_of", "places_of"] }
noncomputable def G4_items_of : Ct := { vars := [("place", .loc), ("fields", .cap)], globs := [] }
theorem r_items_of (U : Uni G) (Z : Sp G U) : SXs G 5 G_items_of c_items_of (fdBody (stJ 32)) := by
  unfold c_items_of
  exact (SXs.cons (SX.asg (SE.att (SE.call2f U.g_parent_of (.head _) (KeepF.of U.f_parent_of.keep) (FN.mono (fn_parent_of U Z) (by decide)) (SE.name isv0 rfl) (fun _ _ => rfl) (SE.name isv1 rfl) (fun _ _ => rfl)) rfl (fun _ => rfl)) (SG.name isg2 rfl (by decide)) (fun _ => rfl) (fun _ _ _ => rfl) (fun _ _ => rfl)) (SXs.cons (SX.ret (SE.comp1 (Γ' := G4_items_of) (fun _ _ => rfl) (by decide +kernel) (by decide +kernel) rfl (fun ⟨a0, a1, a2, a3, a4, a5, a6, a7, a8, a9, a10, a11⟩ k h => ⟨_, h, fun i => match i with | 0 => .inl rfl | 1 => .inr ⟨_, 2, _, rfl, rfl, (by decide), rfl⟩ | 2 => .inl rfl | 3 => .inl rfl | 4 => .inl rfl | 5 => .inl rfl | 6 => .inl rfl | 7 => .inl rfl | 8 => .inl rfl | 9 => .inl rfl | 10 => .inl rfl | 11 => .inl rfl | _ + 12 => .inl rfl⟩) (SI.ex (SE.call2f U.g_places_of (.tail _ (.head _)) (KeepF.of U.f_places_of.keep) (FN.mono (fn_places_of U Z) (by decide)) (SE.name isv0 rfl) (fun _ _ => rfl) (SE.name isv1 rfl) (fun _ _ => rfl))) (SG.name isg0 rfl (by decide)) TgtP.name SC.none (SE.sub (SE.name isv1 rfl) (SE.name isv0 rfl) (fun _ _ => rfl)))) SXs.nil))
theorem fn_items_of (U : Uni G) (Z : Sp G U) : FN G 6 (.ref U.a_items_of) 2 fun l σ k x => callF c_items_of (frOf (l ++ [])) σ k x :=
  FN.k ["heap", "value"] U.f_items_of (by decide +kernel) (by decide +kernel) rfl rfl (ar2 fun v0 v1 _ _ _ _ _ _ _ _ => rfl) (r_items_of U Z)
noncomputable def G_item_at : Ct := { vars := [("heap", .loc), ("value", .loc), ("indices", .loc), ("place", .loc), ("found", .loc)], globs := ["place_in_parent", "bounds_fault", "parent_of", "thrown_text"] }
theorem r_item_at (U : Uni G) (Z : Sp G U) : SXs G 10 G_item_at c_item_at (fdBody (stJ 33)) := by
  unfold c_item_at
  exact (SXs.cons (SX.asg (SE.call3f U.g_place_in_parent (.head _) (KeepF.of U.f_place_in_parent.keep) (FN.mono (fn_place_in_parent U Z) (by decide)) (SE.name isv0 rfl) (fun _ _ => rfl) (SE.name isv1 rfl) (fun _ _ => rfl) (SE.name isv2 rfl) (fun _ _ => rfl)) (SG.name isg3 rfl (by decide)) (fun _ => rfl) (fun _ _ _ => rfl) (fun _ _ => rfl)) (SXs.cons (SX.ite (ST.cmp (SE.name isv3 rfl) (SE.int _) rfl) (SXs.cons (SX.raise U.x (SE.call2f U.g_bounds_fault (.tail _ (.head _)) (KeepF.of U.f_bounds_fault.keep) (FN.mono (fn_bounds_fault U Z) (by decide)) (SE.name isv1 rfl) (fun _ _ => rfl) (SE.name isv2 rfl) (fun _ _ => rfl))) SXs.nil) SXs.nil) (SXs.cons (SX.asg (SE.sub (SE.att (SE.call2f U.g_parent_of (.tail _ (.tail _ (.head _))) (KeepF.of U.f_parent_of.keep) (FN.mono (fn_parent_of U Z) (by decide)) (SE.name isv0 rfl) (fun _ _ => rfl) (SE.name isv1 rfl) (fun _ _ => rfl)) rfl (fun _ => rfl)) (SE.name isv3 rfl) (fun _ _ => rfl)) (SG.name isg4 rfl (by decide)) (fun _ => rfl) (fun _ _ _ => rfl) (fun _ _ => rfl)) (SXs.cons (SX.ite (ST.cmp (SE.name isv4 rfl) SE.none rfl) (SXs.cons (SX.raise U.x (SE.call2f U.g_thrown_text (.tail _ (.tail _ (.tail _ (.head _)))) (KeepF.of U.f_thrown_text.keep) (FN.mono (fn_thrown_text U Z) (by decide)) (SE.str rfl) (fun _ _ => rfl) (SE.str rfl) (fun _ _ => rfl))) SXs.nil) SXs.nil) (SXs.cons (SX.ret (SE.name isv4 rfl)) SXs.nil)))))
theorem fn_item_at (U : Uni G) (Z : Sp G U) : FN G 11 (.ref U.a_item_at) 3 fun l σ k x => callF c_item_at (frOf (l ++ [])) σ k x :=
  FN.k ["heap", "value", "indices"] U.f_item_at (by decide +kernel) (by decide +kernel) rfl rfl (ar3 fun v0 v1 v2 _ _ _ _ _ _ _ _ => rfl) (r_item_at U Z)
noncomputable def G_set_item : Ct := { vars := [("heap", .loc), ("value", .loc), ("indices", .loc), ("item", .loc), ("place", .loc)], globs := ["place_in_parent", "bounds_fault", "parent_of"] }
theorem r_set_item (U : Uni G) (Z : Sp G U) : SXs G 10 G_set_item c_set_item (fdBody (stJ 34)) := by
  unfold c_set_item
  exact (SXs.cons (SX.asg (SE.call3f U.g_place_in_parent (.head _) (KeepF.of U.f_place_in_parent.keep) (FN.mono (fn_place_in_parent U Z) (by decide)) (SE.name isv0 rfl) (fun _ _ => rfl) (SE.name isv1 rfl) (fun _ _ => rfl) (SE.name isv2 rfl) (fun _ _ => rfl)) (SG.name isg4 rfl (by decide)) (fun _ => rfl) (fun _ _ _ => rfl) (fun _ _ => rfl)) (SXs.cons (SX.ite (ST.cmp (SE.name isv4 rfl) (SE.int _) rfl) (SXs.cons (SX.raise U.x (SE.call2f U.g_bounds_fault (.tail _ (.head _)) (KeepF.of U.f_bounds_fault.keep) (FN.mono (fn_bounds_fault U Z) (by decide)) (SE.name isv1 rfl) (fun _ _ => rfl) (SE.name isv2 rfl) (fun _ _ => rfl))) SXs.nil) SXs.nil) (SXs.cons (SX.asgI (SE.name isv3 rfl) (SE.att (SE.call2f U.g_parent_of (.tail _ (.tail _ (.head _))) (KeepF.of U.f_parent_of.keep) (FN.mono (fn_parent_of U Z) (by decide)) (SE.name isv0 rfl) (fun _ _ => rfl) (SE.name isv1 rfl) (fun _ _ => rfl)) rfl (fun _ => rfl)) (SE.name isv4 rfl)) SXs.nil)))
theorem fn_set_item (U : Uni G) (Z : Sp G U) : FN G 11 (.ref U.a_set_item) 4 fun l σ k x => callF c_set_item (frOf (l ++ [])) σ k x :=
  FN.k ["heap", "value", "indices", "item"] U.f_set_item (by decide +kernel) (by decide +kernel) rfl rfl (ar4 fun v0 v1 v2 v3 _ _ _ _ _ _ _ _ => rfl) (r_set_item U Z)
noncomputable def G_made : Ct := { vars := [("heap", .loc), ("item_kind", .loc), ("sizes", .loc), ("items", .loc)], globs := ["check_sizes", "many_of", "len", "thrown_text", "array_kind"] }
theorem r_made (U : Uni G) (Z : Sp G U) : SXs G 10 G_made c_made (fdBody (stJ 35)) := by
  unfold c_made
  exact (SXs.cons (SX.expr (SE.call1f U.g_check_sizes (.head _) (KeepF.of U.f_check_sizes.keep) (FN.mono (fn_check_sizes U Z) (by decide)) (SE.name isv2 rfl) (fun _ _ => rfl)) (fun _ _ => rfl)) (SXs.cons (SX.ite (ST.cmp (SE.call1f U.g_many_of (.tail _ (.head _)) (KeepF.of U.f_many_of.keep) (FN.mono (fn_many_of U Z) (by decide)) (SE.name isv2 rfl) (fun _ _ => rfl)) (SE.len U.g_len (.tail _ (.tail _ (.head _))) (SE.name isv3 rfl) (fun _ _ => rfl)) rfl) (SXs.cons (SX.raise U.x (SE.call2f U.g_thrown_text (.tail _ (.tail _ (.tail _ (.head _)))) (KeepF.of U.f_thrown_text.keep) (FN.mono (fn_thrown_text U Z) (by decide)) (SE.str rfl) (fun _ _ => rfl) (SE.str rfl) (fun _ _ => rfl))) SXs.nil) SXs.nil) (SXs.cons (SX.ret (SE.tup (.cons (SE.str rfl) (fun _ _ => rfl) (.cons (SE.meth3 U.m_new_array (fun _ => rfl) rfl (FN.mono (fn_Heap_new_array U Z) (by decide)) (SE.name isv0 rfl) (SE.call2f U.g_array_kind (.tail _ (.tail _ (.tail _ (.tail _ (.head _))))) (KeepF.of U.f_array_kind.keep) (FN.mono (fn_array_kind U Z) (by decide)) (SE.name isv1 rfl) (fun _ _ => rfl) (SE.len U.g_len (.tail _ (.tail _ (.head _))) (SE.name isv2 rfl) (fun _ _ => rfl)) (fun _ _ => rfl)) (fun _ _ => rfl) (SE.name isv2 rfl) (fun _ _ => rfl) (SE.name isv3 rfl) (fun _ _ => rfl)) (fun _ _ => rfl) .nil)))) SXs.nil)))
theorem fn_made (U : Uni G) (Z : Sp G U) : FN G 11 (.ref U.a_made) 4 fun l σ k x => callF c_made (frOf (l ++ [])) σ k x :=
  FN.k ["heap", "item_kind", "sizes", "items"] U.f_made (by decide +kernel) (by decide +kernel) rfl rfl (ar4 fun v0 v1 v2 v3 _ _ _ _ _ _ _ _ => rfl) (r_made U Z)
noncomputable def G_as_columns : Ct := { vars := [("sizes", .loc)], globs := ["len", "thrown_text"] }
theorem r_as_columns (U : Uni G) (Z : Sp G U) : SXs G 9 G_as_columns c_as_columns (fdBody (stJ 40)) := by
  unfold c_as_columns
  exact (SXs.cons (SX.ite (ST.cmp (SE.len U.g_len (.head _) (SE.name isv0 rfl) (fun _ _ => rfl)) (SE.tup (.cons (SE.int _) (fun _ _ => rfl) (.cons (SE.int _) (fun _ _ => rfl) .nil))) rfl) (SXs.cons (SX.raise U.x (SE.call2f U.g_thrown_text (.tail _ (.head _)) (KeepF.of U.f_thrown_text.keep) (FN.mono (fn_thrown_text U Z) (by decide)) (SE.str rfl) (fun _ _ => rfl) (SE.str rfl) (fun _ _ => rfl))) SXs.nil) SXs.nil) (SXs.cons (SX.ret (SE.ite (ST.cmp (SE.len U.g_len (.head _) (SE.name isv0 rfl) (fun _ _ => rfl)) (SE.int _) rfl) (SE.tup (.cons (SE.sub (SE.name isv0 rfl) (SE.int _) (fun _ _ => rfl)) (fun _ _ => rfl) (.cons (SE.int _) (fun _ _ => rfl) .nil))) (SE.name isv0 rfl))) SXs.nil))
theorem fn_as_columns (U : Uni G) (Z : Sp G U) : FN G 10 (.ref U.a_as_columns) 1 fun l σ k x => callF c_as_columns (frOf (l ++ [])) σ k x :=
  FN.k ["sizes"] U.f_as_columns (by decide +kernel) (by decide +kernel) rfl rfl (ar1 fun v0 _ _ _ _ _ _ _ _ => rfl) (r_as_columns U Z)
noncomputable def G_turned : Ct := { vars := [("heap", .loc), ("value", .loc), ("item_kind", .loc), ("high", .own), ("wide", .own), ("items", .own), ("found", .loc)], globs := ["as_columns", "sizes_of", "items_of", "range", "made"] }
noncomputable def G5_turned : Ct := { vars := [("row", .loc), ("column", .loc), ("high", .cap), ("items", .cap), ("wide", .cap)], globs := ["range"] }
theorem r_turned (U : Uni G) (Z : Sp G U) : SXs G 11 G_turned c_turned (fdBody (stJ 36)) := by
  unfold c_turned
  exact (SXs.cons (SX.asg (SE.call1f U.g_as_columns (.head _) (KeepF.of U.f_as_columns.keep) (FN.mono (fn_as_columns U Z) (by decide)) (SE.call2f U.g_sizes_of (.tail _ (.head _)) (KeepF.of U.f_sizes_of.keep) (FN.mono (fn_sizes_of U Z) (by decide)) (SE.name isv0 rfl) (fun _ _ => rfl) (SE.name isv1 rfl) (fun _ _ => rfl)) (fun _ _ => rfl)) (SG.tup (.cons (SG.name isg3 rfl (by decide)) (fun _ _ => rfl) (.cons (SG.name isg4 rfl (by decide)) (fun _ _ => rfl) .nil))) (fun _ => rfl) (fun _ _ _ => rfl) (fun _ _ => rfl)) (SXs.cons (SX.asg (SE.call2f U.g_items_of (.tail _ (.tail _ (.head _))) (KeepF.of U.f_items_of.keep) (FN.mono (fn_items_of U Z) (by decide)) (SE.name isv0 rfl) (fun _ _ => rfl) (SE.name isv1 rfl) (fun _ _ => rfl)) (SG.name isg5 rfl (by decide)) (fun _ => rfl) (fun _ _ _ => rfl) (fun _ _ => rfl)) (SXs.cons (SX.asgComp2 rfl isg6 rfl (by decide +kernel) (Γ' := G5_turned) (fun _ _ => rfl) (by decide +kernel) (by decide +kernel) rfl (fun ⟨a0, a1, a2, a3, a4, a5, a6, a7, a8, a9, a10, a11⟩ k h => ⟨_, h, fun i => match i with | 0 => .inl rfl | 1 => .inl rfl | 2 => .inr ⟨_, 3, _, rfl, rfl, (by decide), rfl⟩ | 3 => .inr ⟨_, 5, _, rfl, rfl, (by decide), rfl⟩ | 4 => .inr ⟨_, 4, _, rfl, rfl, (by decide), rfl⟩ | 5 => .inl rfl | 6 => .inl rfl | 7 => .inl rfl | 8 => .inl rfl | 9 => .inl rfl | 10 => .inl rfl | 11 => .inl rfl | _ + 12 => .inl rfl⟩) (SI.rng U.g_range (.tail _ (.tail _ (.tail _ (.head _)))) (SE.name isv3 rfl) (fun _ _ => rfl)) (SG.name isg0 rfl (by decide)) TgtP.name SC.none (fun _ _ => rfl) (SI.rng U.g_range (.head _) (SE.name isv4 rfl) (fun _ _ => rfl)) (SG.name isg1 rfl (by decide)) TgtP.name SC.none (SE.sub (SE.name isv3 rfl) (SE.bin (SE.name isv0 rfl) (SE.bin (SE.name isv2 rfl) (SE.name isv1 rfl))) (fun _ _ => rfl))) (SXs.cons (SX.ret (SE.call4f U.g_made (.tail _ (.tail _ (.tail _ (.tail _ (.head _))))) (KeepF.of U.f_made.keep) (FN.mono (fn_made U Z) (by decide)) (SE.name isv0 rfl) (fun _ _ => rfl) (SE.name isv2 rfl) (fun _ _ => rfl) (SE.tup (.cons (SE.name isv4 rfl) (fun _ _ => rfl) (.cons (SE.name isv3 rfl) (fun _ _ => rfl) .nil))) (fun _ _ => rfl) (SE.name isv6 rfl) (fun _ _ => rfl))) SXs.nil))))
theorem fn_turned (U : Uni G) (Z : Sp G U) : FN G 12 (.ref U.a_turned) 3 fun l σ k x => callF c_turned (frOf (l ++ [])) σ k x :=
  FN.k ["heap", "value", "item_kind"] U.f_turned (by decide +kernel) (by decide +kernel) rfl rfl (ar3 fun v0 v1 v2 _ _ _ _ _ _ _ _ => rfl) (r_turned U Z)
noncomputable def G_need_row : Ct := { vars := [("heap", .loc), ("value", .loc)], globs := ["len", "parent_of", "thrown_text"] }
theorem r_need_row (U : Uni G) (Z : Sp G U) : SXs G 9 G_need_row c_need_row (fdBody (stJ 37)) := by
  unfold c_need_row
  exact (SXs.cons (SX.ite (STs.bool (STs.or (ST.cmp (SE.sub (SE.name isv1 rfl) (SE.int _) (fun _ _ => rfl)) (SE.str rfl) rfl) (STs.oneOr (ST.cmp (SE.len U.g_len (.head _) (SE.att (SE.call2f U.g_parent_of (.tail _ (.head _)) (KeepF.of U.f_parent_of.keep) (FN.mono (fn_parent_of U Z) (by decide)) (SE.name isv0 rfl) (fun _ _ => rfl) (SE.name isv1 rfl) (fun _ _ => rfl)) rfl (fun _ => rfl)) (fun _ _ => rfl)) (SE.int _) rfl)))) (SXs.cons (SX.raise U.x (SE.call2f U.g_thrown_text (.tail _ (.tail _ (.head _))) (KeepF.of U.f_thrown_text.keep) (FN.mono (fn_thrown_text U Z) (by decide)) (SE.str rfl) (fun _ _ => rfl) (SE.str rfl) (fun _ _ => rfl))) SXs.nil) SXs.nil) (SXs.cons (SX.ret (SE.call2f U.g_parent_of (.tail _ (.head _)) (KeepF.of U.f_parent_of.keep) (FN.mono (fn_parent_of U Z) (by decide)) (SE.name isv0 rfl) (fun _ _ => rfl) (SE.name isv1 rfl) (fun _ _ => rfl))) SXs.nil))
theorem fn_need_row (U : Uni G) (Z : Sp G U) : FN G 10 (.ref U.a_need_row) 2 fun l σ k x => callF c_need_row (frOf (l ++ [])) σ k x :=
  FN.k ["heap", "value"] U.f_need_row (by decide +kernel) (by decide +kernel) rfl rfl (ar2 fun v0 v1 _ _ _ _ _ _ _ _ => rfl) (r_need_row U Z)
noncomputable def G_pushed : Ct := { vars := [("heap", .loc), ("value", .loc), ("item", .loc), ("thing", .loc)], globs := ["need_row", "check_sizes", "len"] }
theorem r_pushed (U : Uni G) (Z : Sp G U) : SXs G 10 G_pushed c_pushed (fdBody (stJ 38)) := by
  unfold c_pushed
  exact (SXs.cons (SX.asg (SE.call2f U.g_need_row (.head _) (KeepF.of U.f_need_row.keep) (FN.mono (fn_need_row U Z) (by decide)) (SE.name isv0 rfl) (fun _ _ => rfl) (SE.name isv1 rfl) (fun _ _ => rfl)) (SG.name isg3 rfl (by decide)) (fun _ => rfl) (fun _ _ _ => rfl) (fun _ _ => rfl)) (SXs.cons (SX.expr (SE.call1f U.g_check_sizes (.tail _ (.head _)) (KeepF.of U.f_check_sizes.keep) (FN.mono (fn_check_sizes U Z) (by decide)) (SE.tup (.cons (SE.bin (SE.len U.g_len (.tail _ (.tail _ (.head _))) (SE.att (SE.name isv3 rfl) rfl (fun _ => rfl)) (fun _ _ => rfl)) (SE.int _)) (fun _ _ => rfl) .nil)) (fun _ _ => rfl)) (fun _ _ => rfl)) (SXs.cons (SX.expr (SE.append (fun _ => rfl) rfl (SE.att (SE.name isv3 rfl) rfl (fun _ => rfl)) (SE.name isv2 rfl) (fun _ _ => rfl)) (fun _ _ => rfl)) (SXs.cons (SX.asgA (SE.tup (.cons (SE.len U.g_len (.tail _ (.tail _ (.head _))) (SE.att (SE.name isv3 rfl) rfl (fun _ => rfl)) (fun _ _ => rfl)) (fun _ _ => rfl) .nil)) (SE.name isv3 rfl) rfl) (SXs.cons (SX.ret (SE.name isv1 rfl)) SXs.nil)))))
theorem fn_pushed (U : Uni G) (Z : Sp G U) : FN G 11 (.ref U.a_pushed) 3 fun l σ k x => callF c_pushed (frOf (l ++ [])) σ k x :=
  FN.k ["heap", "value", "item"] U.f_pushed (by decide +kernel) (by decide +kernel) rfl rfl (ar3 fun v0 v1 v2 _ _ _ _ _ _ _ _ => rfl) (r_pushed U Z)
noncomputable def G_popped : Ct := { vars := [("heap", .loc), ("value", .loc), ("thing", .loc), ("found", .loc)], globs := ["need_row", "thrown_text", "len"] }
theorem r_popped (U : Uni G) (Z : Sp G U) : SXs G 10 G_popped c_popped (fdBody (stJ 39)) := by
  unfold c_popped
  exact (SXs.cons (SX.asg (SE.call2f U.g_need_row (.head _) (KeepF.of U.f_need_row.keep) (FN.mono (fn_need_row U Z) (by decide)) (SE.name isv0 rfl) (fun _ _ => rfl) (SE.name isv1 rfl) (fun _ _ => rfl)) (SG.name isg2 rfl (by decide)) (fun _ => rfl) (fun _ _ _ => rfl) (fun _ _ => rfl)) (SXs.cons (SX.ite (ST.cmp (SE.att (SE.name isv2 rfl) rfl (fun _ => rfl)) (SE.lst .nil) rfl) (SXs.cons (SX.raise U.x (SE.call2f U.g_thrown_text (.tail _ (.head _)) (KeepF.of U.f_thrown_text.keep) (FN.mono (fn_thrown_text U Z) (by decide)) (SE.str rfl) (fun _ _ => rfl) (SE.str rfl) (fun _ _ => rfl))) SXs.nil) SXs.nil) (SXs.cons (SX.asg (SE.pop (fun _ => rfl) rfl (SE.att (SE.name isv2 rfl) rfl (fun _ => rfl))) (SG.name isg3 rfl (by decide)) (fun _ => rfl) (fun _ _ _ => rfl) (fun _ _ => rfl)) (SXs.cons (SX.asgA (SE.tup (.cons (SE.len U.g_len (.tail _ (.tail _ (.head _))) (SE.att (SE.name isv2 rfl) rfl (fun _ => rfl)) (fun _ _ => rfl)) (fun _ _ => rfl) .nil)) (SE.name isv2 rfl) rfl) (SXs.cons (SX.ite (ST.cmp (SE.name isv3 rfl) SE.none rfl) (SXs.cons (SX.raise U.x (SE.call2f U.g_thrown_text (.tail _ (.head _)) (KeepF.of U.f_thrown_text.keep) (FN.mono (fn_thrown_text U Z) (by decide)) (SE.str rfl) (fun _ _ => rfl) (SE.str rfl) (fun _ _ => rfl))) SXs.nil) SXs.nil) (SXs.cons (SX.ret (SE.name isv3 rfl)) SXs.nil))))))
theorem fn_popped (U : Uni G) (Z : Sp G U) : FN G 11 (.ref U.a_popped) 2 fun l σ k x => callF c_popped (frOf (l ++ [])) σ k x :=
  FN.k ["heap", "value"] U.f_popped (by decide +kernel) (by decide +kernel) rfl rfl (ar2 fun v0 v1 _ _ _ _ _ _ _ _ => rfl) (r_popped U Z)
noncomputable def G_beside : Ct := { vars := [("heap", .own), ("values", .loc), ("item_kind", .loc), ("rows", .own), ("items", .loc)], globs := ["thrown_text", "made", "sum"] }
noncomputable def G6_beside : Ct := { vars := [("row", .loc)], globs := [] }
noncomputable def G7_beside : Ct := { vars := [("value", .loc), ("item", .loc), ("heap", .cap)], globs := ["items_of"] }
noncomputable def G8_beside : Ct := { vars := [("row", .loc), ("rows", .cap)], globs := [] }
noncomputable def G9_beside : Ct := { vars := [("value", .loc), ("heap", .cap)], globs := ["as_columns", "sizes_of"] }
theorem r_beside (U : Uni G) (Z : Sp G U) : SXs G 11 G_beside c_beside (fdBody (stJ 41)) := by
  unfold c_beside
  exact (SXs.cons (SX.asg (SE.comp1 (Γ' := G9_beside) (fun _ _ => rfl) (by decide +kernel) (by decide +kernel) rfl (fun ⟨a0, a1, a2, a3, a4, a5, a6, a7, a8, a9, a10, a11⟩ k h => ⟨_, h, fun i => match i with | 0 => .inl rfl | 1 => .inr ⟨_, 0, _, rfl, rfl, (by decide), rfl⟩ | 2 => .inl rfl | 3 => .inl rfl | 4 => .inl rfl | 5 => .inl rfl | 6 => .inl rfl | 7 => .inl rfl | 8 => .inl rfl | 9 => .inl rfl | 10 => .inl rfl | 11 => .inl rfl | _ + 12 => .inl rfl⟩) (SI.ex (SE.name isv1 rfl)) (SG.name isg0 rfl (by decide)) TgtP.name SC.none (SE.call1f U.g_as_columns (.head _) (KeepF.of U.f_as_columns.keep) (FN.mono (fn_as_columns U Z) (by decide)) (SE.call2f U.g_sizes_of (.tail _ (.head _)) (KeepF.of U.f_sizes_of.keep) (FN.mono (fn_sizes_of U Z) (by decide)) (SE.name isv1 rfl) (fun _ _ => rfl) (SE.name isv0 rfl) (fun _ _ => rfl)) (fun _ _ => rfl))) (SG.name isg3 rfl (by decide)) (fun _ => rfl) (swaps_cell (kk := .own) (i := 3) rfl) (fun _ _ => rfl)) (SXs.cons (SX.ite (ST.cmp (SE.comp1 (Γ' := G8_beside) (fun _ _ => rfl) (by decide +kernel) (by decide +kernel) rfl (fun ⟨a0, a1, a2, a3, a4, a5, a6, a7, a8, a9, a10, a11⟩ k h => ⟨_, h, fun i => match i with | 0 => .inl rfl | 1 => .inr ⟨_, 3, _, rfl, rfl, (by decide), rfl⟩ | 2 => .inl rfl | 3 => .inl rfl | 4 => .inl rfl | 5 => .inl rfl | 6 => .inl rfl | 7 => .inl rfl | 8 => .inl rfl | 9 => .inl rfl | 10 => .inl rfl | 11 => .inl rfl | _ + 12 => .inl rfl⟩) (SI.ex (SE.name isv3 rfl)) (SG.name isg0 rfl (by decide)) TgtP.name (SC.one (ST.cmp (SE.sub (SE.name isv0 rfl) (SE.int _) (fun _ _ => rfl)) (SE.sub (SE.sub (SE.name isv1 rfl) (SE.int _) (fun _ _ => rfl)) (SE.int _) (fun _ _ => rfl)) rfl)) (SE.name isv0 rfl)) (SE.lst .nil) rfl) (SXs.cons (SX.raise U.x (SE.call2f U.g_thrown_text (.head _) (KeepF.of U.f_thrown_text.keep) (FN.mono (fn_thrown_text U Z) (by decide)) (SE.str rfl) (fun _ _ => rfl) (SE.str rfl) (fun _ _ => rfl))) SXs.nil) SXs.nil) (SXs.cons (SX.asgComp2 rfl isg4 rfl (by decide +kernel) (Γ' := G7_beside) (fun _ _ => rfl) (by decide +kernel) (by decide +kernel) rfl (fun ⟨a0, a1, a2, a3, a4, a5, a6, a7, a8, a9, a10, a11⟩ k h => ⟨_, h, fun i => match i with | 0 => .inl rfl | 1 => .inl rfl | 2 => .inr ⟨_, 0, _, rfl, rfl, (by decide), rfl⟩ | 3 => .inl rfl | 4 => .inl rfl | 5 => .inl rfl | 6 => .inl rfl | 7 => .inl rfl | 8 => .inl rfl | 9 => .inl rfl | 10 => .inl rfl | 11 => .inl rfl | _ + 12 => .inl rfl⟩) (SI.ex (SE.name isv1 rfl)) (SG.name isg0 rfl (by decide)) TgtP.name SC.none (fun _ _ => rfl) (SI.ex (SE.call2f U.g_items_of (.head _) (KeepF.of U.f_items_of.keep) (FN.mono (fn_items_of U Z) (by decide)) (SE.name isv2 rfl) (fun _ _ => rfl) (SE.name isv0 rfl) (fun _ _ => rfl))) (SG.name isg1 rfl (by decide)) TgtP.name SC.none (SE.name isv1 rfl)) (SXs.cons (SX.ret (SE.call4f U.g_made (.tail _ (.head _)) (KeepF.of U.f_made.keep) (FN.mono (fn_made U Z) (by decide)) (SE.name isv0 rfl) (fun _ _ => rfl) (SE.name isv2 rfl) (fun _ _ => rfl) (SE.tup (.cons (SE.ite (ST.cmp (SE.name isv3 rfl) (SE.lst .nil) rfl) (SE.sub (SE.sub (SE.name isv3 rfl) (SE.int _) (fun _ _ => rfl)) (SE.int _) (fun _ _ => rfl)) (SE.int _)) (fun _ _ => rfl) (.cons (SE.sum U.g_sum (.tail _ (.tail _ (.head _))) (SE.comp1 (Γ' := G6_beside) (fun _ _ => rfl) (by decide +kernel) (by decide +kernel) rfl (fun ⟨a0, a1, a2, a3, a4, a5, a6, a7, a8, a9, a10, a11⟩ k h => ⟨_, h, fun i => match i with | 0 => .inl rfl | 1 => .inl rfl | 2 => .inl rfl | 3 => .inl rfl | 4 => .inl rfl | 5 => .inl rfl | 6 => .inl rfl | 7 => .inl rfl | 8 => .inl rfl | 9 => .inl rfl | 10 => .inl rfl | 11 => .inl rfl | _ + 12 => .inl rfl⟩) (SI.ex (SE.name isv3 rfl)) (SG.name isg0 rfl (by decide)) TgtP.name SC.none (SE.sub (SE.name isv0 rfl) (SE.int _) (fun _ _ => rfl))) (fun _ _ => rfl)) (fun _ _ => rfl) .nil))) (fun _ _ => rfl) (SE.name isv4 rfl) (fun _ _ => rfl))) SXs.nil))))
theorem fn_beside (U : Uni G) (Z : Sp G U) : FN G 12 (.ref U.a_beside) 3 fun l σ k x => callF c_beside (frOf (l ++ [])) σ k x :=
  FN.k ["heap", "values", "item_kind"] U.f_beside (by decide +kernel) (by decide +kernel) rfl rfl (ar3 fun v0 v1 v2 _ _ _ _ _ _ _ _ => rfl) (r_beside U Z)
noncomputable def G_beneath : Ct := { vars := [("heap", .own), ("values", .loc), ("item_kind", .loc), ("items", .loc), ("rows", .own), ("row", .loc), ("lots", .loc), ("column", .loc), ("lot", .loc)], globs := ["made", "len", "thrown_text", "range", "zip", "sum"] }
noncomputable def G10_beneath : Ct := { vars := [("row", .loc)], globs := [] }
noncomputable def G11_beneath : Ct := { vars := [("value", .loc), ("heap", .cap)], globs := ["items_of"] }
noncomputable def G12_beneath : Ct := { vars := [("row", .loc), ("rows", .cap)], globs := [] }
noncomputable def G13_beneath : Ct := { vars := [("value", .loc), ("heap", .cap)], globs := ["as_columns", "sizes_of"] }
noncomputable def G14_beneath : Ct := { vars := [("value", .loc), ("heap", .cap)], globs := ["len", "sizes_of"] }
noncomputable def G15_beneath : Ct := { vars := [("value", .loc), ("item", .loc), ("heap", .cap)], globs := ["items_of"] }
theorem r_beneath (U : Uni G) (Z : Sp G U) : SXs G 11 G_beneath c_beneath (fdBody (stJ 42)) := by
  unfold c_beneath
  exact (SXs.cons (SX.ite (ST.cmp (SE.comp1 (Γ' := G14_beneath) (fun _ _ => rfl) (by decide +kernel) (by decide +kernel) rfl (fun ⟨a0, a1, a2, a3, a4, a5, a6, a7, a8, a9, a10, a11⟩ k h => ⟨_, h, fun i => match i with | 0 => .inl rfl | 1 => .inr ⟨_, 0, _, rfl, rfl, (by decide), rfl⟩ | 2 => .inl rfl | 3 => .inl rfl | 4 => .inl rfl | 5 => .inl rfl | 6 => .inl rfl | 7 => .inl rfl | 8 => .inl rfl | 9 => .inl rfl | 10 => .inl rfl | 11 => .inl rfl | _ + 12 => .inl rfl⟩) (SI.ex (SE.name isv1 rfl)) (SG.name isg0 rfl (by decide)) TgtP.name (SC.one (ST.cmp (SE.len U.g_len (.head _) (SE.call2f U.g_sizes_of (.tail _ (.head _)) (KeepF.of U.f_sizes_of.keep) (FN.mono (fn_sizes_of U Z) (by decide)) (SE.name isv1 rfl) (fun _ _ => rfl) (SE.name isv0 rfl) (fun _ _ => rfl)) (fun _ _ => rfl)) (SE.int _) rfl)) (SE.name isv0 rfl)) (SE.lst .nil) rfl) (SXs.cons (SX.asgComp2 rfl isg3 rfl (by decide +kernel) (Γ' := G15_beneath) (fun _ _ => rfl) (by decide +kernel) (by decide +kernel) rfl (fun ⟨a0, a1, a2, a3, a4, a5, a6, a7, a8, a9, a10, a11⟩ k h => ⟨_, h, fun i => match i with | 0 => .inl rfl | 1 => .inl rfl | 2 => .inr ⟨_, 0, _, rfl, rfl, (by decide), rfl⟩ | 3 => .inl rfl | 4 => .inl rfl | 5 => .inl rfl | 6 => .inl rfl | 7 => .inl rfl | 8 => .inl rfl | 9 => .inl rfl | 10 => .inl rfl | 11 => .inl rfl | _ + 12 => .inl rfl⟩) (SI.ex (SE.name isv1 rfl)) (SG.name isg0 rfl (by decide)) TgtP.name SC.none (fun _ _ => rfl) (SI.ex (SE.call2f U.g_items_of (.head _) (KeepF.of U.f_items_of.keep) (FN.mono (fn_items_of U Z) (by decide)) (SE.name isv2 rfl) (fun _ _ => rfl) (SE.name isv0 rfl) (fun _ _ => rfl))) (SG.name isg1 rfl (by decide)) TgtP.name SC.none (SE.name isv1 rfl)) (SXs.cons (SX.ret (SE.call4f U.g_made (.head _) (KeepF.of U.f_made.keep) (FN.mono (fn_made U Z) (by decide)) (SE.name isv0 rfl) (fun _ _ => rfl) (SE.name isv2 rfl) (fun _ _ => rfl) (SE.tup (.cons (SE.len U.g_len (.tail _ (.head _)) (SE.name isv3 rfl) (fun _ _ => rfl)) (fun _ _ => rfl) .nil)) (fun _ _ => rfl) (SE.name isv3 rfl) (fun _ _ => rfl))) SXs.nil)) SXs.nil) (SXs.cons (SX.asg (SE.comp1 (Γ' := G13_beneath) (fun _ _ => rfl) (by decide +kernel) (by decide +kernel) rfl (fun ⟨a0, a1, a2, a3, a4, a5, a6, a7, a8, a9, a10, a11⟩ k h => ⟨_, h, fun i => match i with | 0 => .inl rfl | 1 => .inr ⟨_, 0, _, rfl, rfl, (by decide), rfl⟩ | 2 => .inl rfl | 3 => .inl rfl | 4 => .inl rfl | 5 => .inl rfl | 6 => .inl rfl | 7 => .inl rfl | 8 => .inl rfl | 9 => .inl rfl | 10 => .inl rfl | 11 => .inl rfl | _ + 12 => .inl rfl⟩) (SI.ex (SE.name isv1 rfl)) (SG.name isg0 rfl (by decide)) TgtP.name SC.none (SE.call1f U.g_as_columns (.head _) (KeepF.of U.f_as_columns.keep) (FN.mono (fn_as_columns U Z) (by decide)) (SE.call2f U.g_sizes_of (.tail _ (.head _)) (KeepF.of U.f_sizes_of.keep) (FN.mono (fn_sizes_of U Z) (by decide)) (SE.name isv1 rfl) (fun _ _ => rfl) (SE.name isv0 rfl) (fun _ _ => rfl)) (fun _ _ => rfl))) (SG.name isg4 rfl (by decide)) (fun _ => rfl) (swaps_cell (kk := .own) (i := 4) rfl) (fun _ _ => rfl)) (SXs.cons (SX.ite (ST.cmp (SE.comp1 (Γ' := G12_beneath) (fun _ _ => rfl) (by decide +kernel) (by decide +kernel) rfl (fun ⟨a0, a1, a2, a3, a4, a5, a6, a7, a8, a9, a10, a11⟩ k h => ⟨_, h, fun i => match i with | 0 => .inl rfl | 1 => .inr ⟨_, 4, _, rfl, rfl, (by decide), rfl⟩ | 2 => .inl rfl | 3 => .inl rfl | 4 => .inl rfl | 5 => .inl rfl | 6 => .inl rfl | 7 => .inl rfl | 8 => .inl rfl | 9 => .inl rfl | 10 => .inl rfl | 11 => .inl rfl | _ + 12 => .inl rfl⟩) (SI.ex (SE.name isv4 rfl)) (SG.name isg0 rfl (by decide)) TgtP.name (SC.one (ST.cmp (SE.sub (SE.name isv0 rfl) (SE.int _) (fun _ _ => rfl)) (SE.sub (SE.sub (SE.name isv1 rfl) (SE.int _) (fun _ _ => rfl)) (SE.int _) (fun _ _ => rfl)) rfl)) (SE.name isv0 rfl)) (SE.lst .nil) rfl) (SXs.cons (SX.raise U.x (SE.call2f U.g_thrown_text (.tail _ (.tail _ (.head _))) (KeepF.of U.f_thrown_text.keep) (FN.mono (fn_thrown_text U Z) (by decide)) (SE.str rfl) (fun _ _ => rfl) (SE.str rfl) (fun _ _ => rfl))) SXs.nil) SXs.nil) (SXs.cons (SX.asgS (SE.tup (.cons (SE.comp1 (Γ' := G11_beneath) (fun _ _ => rfl) (by decide +kernel) (by decide +kernel) rfl (fun ⟨a0, a1, a2, a3, a4, a5, a6, a7, a8, a9, a10, a11⟩ k h => ⟨_, h, fun i => match i with | 0 => .inl rfl | 1 => .inr ⟨_, 0, _, rfl, rfl, (by decide), rfl⟩ | 2 => .inl rfl | 3 => .inl rfl | 4 => .inl rfl | 5 => .inl rfl | 6 => .inl rfl | 7 => .inl rfl | 8 => .inl rfl | 9 => .inl rfl | 10 => .inl rfl | 11 => .inl rfl | _ + 12 => .inl rfl⟩) (SI.ex (SE.name isv1 rfl)) (SG.name isg0 rfl (by decide)) TgtP.name SC.none (SE.call2f U.g_items_of (.head _) (KeepF.of U.f_items_of.keep) (FN.mono (fn_items_of U Z) (by decide)) (SE.name isv1 rfl) (fun _ _ => rfl) (SE.name isv0 rfl) (fun _ _ => rfl))) (fun _ _ => rfl) (.cons (SE.lstM .nil) (fun _ _ => rfl) .nil))) isg6 rfl isg3 rfl (fun _ _ _ => rfl) (swapped2 (i₁ := 6) (i₂ := 3) rfl rfl rfl (by decide +kernel) rfl rfl rfl)) (SXs.cons (SX.for (SI.rng U.g_range (.tail _ (.tail _ (.tail _ (.head _)))) (SE.sub (SE.sub (SE.name isv4 rfl) (SE.int _) (fun _ _ => rfl)) (SE.int _) (fun _ _ => rfl)) (fun _ _ => rfl)) (SG.name isg7 rfl (by decide)) (SXs.cons (SX.for (SI.zip2 U.g_zip (.tail _ (.tail _ (.tail _ (.tail _ (.head _))))) (SE.name isv6 rfl) (fun _ _ => rfl) (SE.name isv4 rfl) (fun _ _ => rfl)) (SG.tup (.cons (SG.name isg8 rfl (by decide)) (fun _ _ => rfl) (.cons (SG.name isg5 rfl (by decide)) (fun _ _ => rfl) .nil))) (SXs.cons (SX.expr (SE.extend (fun _ => rfl) rfl (SE.name isv3 rfl) (SE.slcR (SE.name isv8 rfl) (SE.bin (SE.name isv7 rfl) (SE.sub (SE.name isv5 rfl) (SE.int _) (fun _ _ => rfl))) (SE.bin (SE.bin (SE.name isv7 rfl) (SE.int _)) (SE.sub (SE.name isv5 rfl) (SE.int _) (fun _ _ => rfl)))) (fun _ _ => rfl)) (fun _ _ => rfl)) SXs.nil) TgtP.tup (fun _ _ => rfl)) SXs.nil) TgtP.name (fun _ _ => rfl)) (SXs.cons (SX.ret (SE.call4f U.g_made (.head _) (KeepF.of U.f_made.keep) (FN.mono (fn_made U Z) (by decide)) (SE.name isv0 rfl) (fun _ _ => rfl) (SE.name isv2 rfl) (fun _ _ => rfl) (SE.tup (.cons (SE.sum U.g_sum (.tail _ (.tail _ (.tail _ (.tail _ (.tail _ (.head _)))))) (SE.comp1 (Γ' := G10_beneath) (fun _ _ => rfl) (by decide +kernel) (by decide +kernel) rfl (fun ⟨a0, a1, a2, a3, a4, a5, a6, a7, a8, a9, a10, a11⟩ k h => ⟨_, h, fun i => match i with | 0 => .inl rfl | 1 => .inl rfl | 2 => .inl rfl | 3 => .inl rfl | 4 => .inl rfl | 5 => .inl rfl | 6 => .inl rfl | 7 => .inl rfl | 8 => .inl rfl | 9 => .inl rfl | 10 => .inl rfl | 11 => .inl rfl | _ + 12 => .inl rfl⟩) (SI.ex (SE.name isv4 rfl)) (SG.name isg0 rfl (by decide)) TgtP.name SC.none (SE.sub (SE.name isv0 rfl) (SE.int _) (fun _ _ => rfl))) (fun _ _ => rfl)) (fun _ _ => rfl) (.cons (SE.sub (SE.sub (SE.name isv4 rfl) (SE.int _) (fun _ _ => rfl)) (SE.int _) (fun _ _ => rfl)) (fun _ _ => rfl) .nil))) (fun _ _ => rfl) (SE.name isv3 rfl) (fun _ _ => rfl))) SXs.nil))))))
theorem fn_beneath (U : Uni G) (Z : Sp G U) : FN G 12 (.ref U.a_beneath) 3 fun l σ k x => callF c_beneath (frOf (l ++ [])) σ k x :=
  FN.k ["heap", "values", "item_kind"] U.f_beneath (by decide +kernel) (by decide +kernel) rfl rfl (ar3 fun v0 v1 v2 _ _ _ _ _ _ _ _ => rfl) (r_beneath U Z)
noncomputable def G_by_rows : Ct := { vars := [("heap", .loc), ("many", .own), ("items", .own), ("item_kind", .loc), ("high", .own), ("wide", .own), ("found", .loc)], globs := ["sum", "len", "thrown_text", "range", "made"] }
noncomputable def G16_by_rows : Ct := { vars := [("column", .loc), ("row", .loc), ("high", .cap), ("items", .cap), ("wide", .cap)], globs := ["range"] }
noncomputable def G17_by_rows : Ct := { vars := [("one", .loc), ("many", .cap)], globs := [] }
theorem r_by_rows (U : Uni G) (Z : Sp G U) : SXs G 11 G_by_rows c_by_rows (fdBody (stJ 43)) := by
  unfold c_by_rows
  exact (SXs.cons (SX.ite (STs.bool (STs.or (ST.cmp (SE.name isv1 rfl) (SE.tup .nil) rfl) (STs.or (ST.cmp (SE.comp1 (Γ' := G17_by_rows) (fun _ _ => rfl) (by decide +kernel) (by decide +kernel) rfl (fun ⟨a0, a1, a2, a3, a4, a5, a6, a7, a8, a9, a10, a11⟩ k h => ⟨_, h, fun i => match i with | 0 => .inl rfl | 1 => .inr ⟨_, 1, _, rfl, rfl, (by decide), rfl⟩ | 2 => .inl rfl | 3 => .inl rfl | 4 => .inl rfl | 5 => .inl rfl | 6 => .inl rfl | 7 => .inl rfl | 8 => .inl rfl | 9 => .inl rfl | 10 => .inl rfl | 11 => .inl rfl | _ + 12 => .inl rfl⟩) (SI.ex (SE.name isv1 rfl)) (SG.name isg0 rfl (by decide)) TgtP.name (SC.one (ST.cmp (SE.name isv0 rfl) (SE.sub (SE.name isv1 rfl) (SE.int _) (fun _ _ => rfl)) rfl)) (SE.name isv0 rfl)) (SE.lst .nil) rfl) (STs.oneOr (ST.cmp (SE.sum U.g_sum (.head _) (SE.name isv1 rfl) (fun _ _ => rfl)) (SE.len U.g_len (.tail _ (.head _)) (SE.name isv2 rfl) (fun _ _ => rfl)) rfl))))) (SXs.cons (SX.raise U.x (SE.call2f U.g_thrown_text (.tail _ (.tail _ (.head _))) (KeepF.of U.f_thrown_text.keep) (FN.mono (fn_thrown_text U Z) (by decide)) (SE.str rfl) (fun _ _ => rfl) (SE.str rfl) (fun _ _ => rfl))) SXs.nil) SXs.nil) (SXs.cons (SX.asg (SE.tup (.cons (SE.len U.g_len (.tail _ (.head _)) (SE.name isv1 rfl) (fun _ _ => rfl)) (fun _ _ => rfl) (.cons (SE.sub (SE.name isv1 rfl) (SE.int _) (fun _ _ => rfl)) (fun _ _ => rfl) .nil))) (SG.tup (.cons (SG.name isg4 rfl (by decide)) (fun _ _ => rfl) (.cons (SG.name isg5 rfl (by decide)) (fun _ _ => rfl) .nil))) (fun _ => rfl) (fun _ _ _ => rfl) (swapped2o (i₁ := 4) (i₂ := 5) rfl rfl rfl)) (SXs.cons (SX.asgComp2 rfl isg6 rfl (by decide +kernel) (Γ' := G16_by_rows) (fun _ _ => rfl) (by decide +kernel) (by decide +kernel) rfl (fun ⟨a0, a1, a2, a3, a4, a5, a6, a7, a8, a9, a10, a11⟩ k h => ⟨_, h, fun i => match i with | 0 => .inl rfl | 1 => .inl rfl | 2 => .inr ⟨_, 4, _, rfl, rfl, (by decide), rfl⟩ | 3 => .inr ⟨_, 2, _, rfl, rfl, (by decide), rfl⟩ | 4 => .inr ⟨_, 5, _, rfl, rfl, (by decide), rfl⟩ | 5 => .inl rfl | 6 => .inl rfl | 7 => .inl rfl | 8 => .inl rfl | 9 => .inl rfl | 10 => .inl rfl | 11 => .inl rfl | _ + 12 => .inl rfl⟩) (SI.rng U.g_range (.tail _ (.tail _ (.tail _ (.head _)))) (SE.name isv5 rfl) (fun _ _ => rfl)) (SG.name isg0 rfl (by decide)) TgtP.name SC.none (fun _ _ => rfl) (SI.rng U.g_range (.head _) (SE.name isv2 rfl) (fun _ _ => rfl)) (SG.name isg1 rfl (by decide)) TgtP.name SC.none (SE.sub (SE.name isv3 rfl) (SE.bin (SE.bin (SE.name isv1 rfl) (SE.name isv4 rfl)) (SE.name isv0 rfl)) (fun _ _ => rfl))) (SXs.cons (SX.ret (SE.call4f U.g_made (.tail _ (.tail _ (.tail _ (.tail _ (.head _))))) (KeepF.of U.f_made.keep) (FN.mono (fn_made U Z) (by decide)) (SE.name isv0 rfl) (fun _ _ => rfl) (SE.name isv3 rfl) (fun _ _ => rfl) (SE.tup (.cons (SE.name isv4 rfl) (fun _ _ => rfl) (.cons (SE.name isv5 rfl) (fun _ _ => rfl) .nil))) (fun _ _ => rfl) (SE.name isv6 rfl) (fun _ _ => rfl))) SXs.nil))))
theorem fn_by_rows (U : Uni G) (Z : Sp G U) : FN G 12 (.ref U.a_by_rows) 4 fun l σ k x => callF c_by_rows (frOf (l ++ [])) σ k x :=
  FN.k ["heap", "many", "items", "item_kind"] U.f_by_rows (by decide +kernel) (by decide +kernel) rfl rfl (ar4 fun v0 v1 v2 v3 _ _ _ _ _ _ _ _ => rfl) (r_by_rows U Z)
noncomputable def G__law_begin : Ct := { vars := [("script", .loc), ("first", .loc), ("size", .loc)], globs := ["len"] }
theorem r__law_begin (U : Uni G) : SXs G 0 G__law_begin c__law_begin (fdBody (stJ 46)) := by
  unfold c__law_begin
  exact (SXs.cons (SX.asg (SE.ite (ST.cmp (SE.len U.g_len (.head _) (SE.name isv0 rfl) (fun _ _ => rfl)) (SE.int _) rfl) (SE.sub (SE.name isv0 rfl) (SE.int _) (fun _ _ => rfl)) (SE.int _)) (SG.name isg1 rfl (by decide)) (fun _ => rfl) (fun _ _ _ => rfl) (fun _ _ => rfl)) (SXs.cons (SX.asg (SE.ite (ST.cmp (SE.name isv1 rfl) (SE.int _) rfl) (SE.name isv1 rfl) (SE.bin (SE.int _) (SE.name isv1 rfl))) (SG.name isg2 rfl (by decide)) (fun _ => rfl) (fun _ _ _ => rfl) (fun _ _ => rfl)) (SXs.cons (SX.ret (SE.lstM (.cons (SE.ite (ST.cmp (SE.name isv2 rfl) (SE.pow (by decide) (by decide +kernel) (by decide +kernel)) rfl) (SE.bin (SE.name isv2 rfl) (SE.pow (by decide) (by decide +kernel) (by decide +kernel))) (SE.int _)) (fun _ _ => rfl) (.cons (SE.bin (SE.bin (SE.bin (SE.bin (SE.name isv2 rfl) (SE.int _)) (SE.int _)) (SE.int _)) (SE.int _)) (fun _ _ => rfl) .nil)))) SXs.nil)))
theorem fn__law_begin (U : Uni G) : FN G 1 (.ref U.a__law_begin) 1 fun l σ k x => callF c__law_begin (frOf (l ++ [])) σ k x :=
  FN.k ["script"] U.f__law_begin (by decide +kernel) (by decide +kernel) rfl rfl (ar1 fun v0 _ _ _ _ _ _ _ _ => rfl) (r__law_begin U)
noncomputable def G__law_next : Ct := { vars := [("pile", .loc), ("many", .loc), ("told", .loc)], globs := [] }
theorem r__law_next (U : Uni G) : SXs G 0 G__law_next c__law_next (fdBody (stJ 47)) := by
  unfold c__law_next
  exact (SXs.cons (SX.ite (ST.cmp (SE.sub (SE.name isv0 rfl) (SE.int _) (fun _ _ => rfl)) (SE.int _) rfl) (SXs.cons (SX.asg (SE.bin (SE.sub (SE.name isv0 rfl) (SE.int _) (fun _ _ => rfl)) (SE.name isv1 rfl)) (SG.name isg2 rfl (by decide)) (fun _ => rfl) (fun _ _ _ => rfl) (fun _ _ => rfl)) (SXs.cons (SX.asgI (SE.bin (SE.sub (SE.name isv0 rfl) (SE.int _) (fun _ _ => rfl)) (SE.name isv1 rfl)) (SE.name isv0 rfl) (SE.int _)) (SXs.cons (SX.ret (SE.name isv2 rfl)) SXs.nil))) SXs.nil) (SXs.cons (SX.asgI (SE.bin (SE.bin (SE.sub (SE.name isv0 rfl) (SE.int _) (fun _ _ => rfl)) (SE.int _)) (SE.int _)) (SE.name isv0 rfl) (SE.int _)) (SXs.cons (SX.ret (SE.bin (SE.bin (SE.sub (SE.name isv0 rfl) (SE.int _) (fun _ _ => rfl)) (SE.int _)) (SE.name isv1 rfl))) SXs.nil)))
theorem fn__law_next (U : Uni G) : FN G 1 (.ref U.a__law_next) 2 fun l σ k x => callF c__law_next (frOf (l ++ [])) σ k x :=
  FN.k ["pile", "many"] U.f__law_next (by decide +kernel) (by decide +kernel) rfl rfl (ar2 fun v0 v1 _ _ _ _ _ _ _ _ => rfl) (r__law_next U)
noncomputable def G__law_sizes : Ct := { vars := [("pile", .own), ("ranks", .loc)], globs := ["tuple", "range"] }
noncomputable def G18__law_sizes : Ct := { vars := [("rank", .loc), ("pile", .cap)], globs := ["_law_next"] }
theorem r__law_sizes (U : Uni G) (Z : Sp G U) : SXs G 3 G__law_sizes c__law_sizes (fdBody (stJ 48)) := by
  unfold c__law_sizes
  exact (SXs.cons (SX.ret (SE.mktup U.g_tuple (.head _) (SE.comp1 (Γ' := G18__law_sizes) (fun _ _ => rfl) (by decide +kernel) (by decide +kernel) rfl (fun ⟨a0, a1, a2, a3, a4, a5, a6, a7, a8, a9, a10, a11⟩ k h => ⟨_, h, fun i => match i with | 0 => .inl rfl | 1 => .inr ⟨_, 0, _, rfl, rfl, (by decide), rfl⟩ | 2 => .inl rfl | 3 => .inl rfl | 4 => .inl rfl | 5 => .inl rfl | 6 => .inl rfl | 7 => .inl rfl | 8 => .inl rfl | 9 => .inl rfl | 10 => .inl rfl | 11 => .inl rfl | _ + 12 => .inl rfl⟩) (SI.rng U.g_range (.tail _ (.head _)) (SE.name isv1 rfl) (fun _ _ => rfl)) (SG.name isg0 rfl (by decide)) TgtP.name SC.none (SE.sub (SE.lst (.cons (SE.int _) (fun _ _ => rfl) (.cons (SE.int _) (fun _ _ => rfl) (.cons (SE.int _) (fun _ _ => rfl) (.cons (SE.int _) (fun _ _ => rfl) .nil))))) (Z.next (by decide) (.head _) (SE.name isv1 rfl) (fun _ _ => rfl) (SE.int _) (fun _ _ => rfl)) (fun _ _ => rfl))) (fun _ _ => rfl))) SXs.nil)
theorem fn__law_sizes (U : Uni G) (Z : Sp G U) : FN G 4 (.ref U.a__law_sizes) 2 fun l σ k x => callF c__law_sizes (frOf (l ++ [])) σ k x :=
  FN.k ["pile", "ranks"] U.f__law_sizes (by decide +kernel) (by decide +kernel) rfl rfl (ar2 fun v0 v1 _ _ _ _ _ _ _ _ => rfl) (r__law_sizes U Z)
noncomputable def G__law_all : Ct := { vars := [("sizes", .loc), ("found", .own), ("size", .loc)], globs := ["range"] }
noncomputable def G19__law_all : Ct := { vars := [("index", .loc), ("ahead", .loc), ("found", .cap)], globs := [] }
theorem r__law_all (U : Uni G) (Z : Sp G U) : SXs G 0 G__law_all c__law_all (fdBody (stJ 49)) := by
  unfold c__law_all
  exact (SXs.cons (SX.asg (SE.lst (.cons (SE.tup .nil) (fun _ _ => rfl) .nil)) (SG.name isg1 rfl (by decide)) (fun _ => rfl) (fun _ _ _ => rfl) (fun _ _ => rfl)) (SXs.cons (SX.for (SI.ex (SE.name isv0 rfl)) (SG.name isg2 rfl (by decide)) (SXs.cons (SX.asg (SE.comp2 (Γ' := G19__law_all) (fun _ _ => rfl) (by decide +kernel) (by decide +kernel) rfl (fun ⟨a0, a1, a2, a3, a4, a5, a6, a7, a8, a9, a10, a11⟩ k h => ⟨_, h, fun i => match i with | 0 => .inl rfl | 1 => .inl rfl | 2 => .inr ⟨_, 1, _, rfl, rfl, (by decide), rfl⟩ | 3 => .inl rfl | 4 => .inl rfl | 5 => .inl rfl | 6 => .inl rfl | 7 => .inl rfl | 8 => .inl rfl | 9 => .inl rfl | 10 => .inl rfl | 11 => .inl rfl | _ + 12 => .inl rfl⟩) (SI.rng2 U.g_range (.head _) (SE.int _) (fun _ _ => rfl) (SE.bin (SE.name isv2 rfl) (SE.int _)) (fun _ _ => rfl)) (SG.name isg0 rfl (by decide)) TgtP.name SC.none (fun _ _ => rfl) (SI.ex (SE.name isv2 rfl)) (SG.name isg1 rfl (by decide)) TgtP.name SC.none (SE.bin (SE.name isv1 rfl) (SE.tup (.cons (SE.name isv0 rfl) (fun _ _ => rfl) .nil)))) (SG.name isg1 rfl (by decide)) (fun _ => rfl) (swaps_cell (kk := .own) (i := 1) rfl) (fun _ _ => rfl)) SXs.nil) TgtP.name (fun _ _ => rfl)) (SXs.cons (SX.ret (SE.name isv1 rfl)) SXs.nil)))
theorem fn__law_all (U : Uni G) (Z : Sp G U) : FN G 1 (.ref U.a__law_all) 1 fun l σ k x => callF c__law_all (frOf (l ++ [])) σ k x :=
  FN.k ["sizes"] U.f__law_all (by decide +kernel) (by decide +kernel) rfl rfl (ar1 fun v0 _ _ _ _ _ _ _ _ => rfl) (r__law_all U Z)
noncomputable def G__law_value : Ct := { vars := [("number", .loc)], globs := [] }
theorem r__law_value (U : Uni G) (Z : Sp G U) : SXs G 0 G__law_value c__law_value (fdBody (stJ 50)) := by
  unfold c__law_value
  exact (SXs.cons (SX.ret (SE.tup (.cons (SE.str rfl) (fun _ _ => rfl) (.cons (SE.str rfl) (fun _ _ => rfl) (.cons (SE.name isv0 rfl) (fun _ _ => rfl) .nil))))) SXs.nil)
theorem fn__law_value (U : Uni G) (Z : Sp G U) : FN G 1 (.ref U.a__law_value) 1 fun l σ k x => callF c__law_value (frOf (l ++ [])) σ k x :=
  FN.k ["number"] U.f__law_value (by decide +kernel) (by decide +kernel) rfl rfl (ar1 fun v0 _ _ _ _ _ _ _ _ => rfl) (r__law_value U Z)
noncomputable def G__law_places_right : Ct := { vars := [("sizes", .own), ("rows", .loc), ("row", .loc), ("rank", .loc), ("far", .loc), ("behind", .loc), ("alone", .loc)], globs := ["_law_all", "list", "range", "len", "enumerate", "strides_of"] }
noncomputable def G20__law_places_right : Ct := { vars := [("at", .loc), ("sizes", .cap)], globs := ["offset_of"] }
noncomputable def G21__law_places_right : Ct := { vars := [("place", .loc), ("sizes", .cap)], globs := ["index_of"] }
noncomputable def G22__law_places_right : Ct := { vars := [("row", .loc), ("sizes", .cap)], globs := ["offset_of"] }
theorem r__law_places_right (U : Uni G) (Z : Sp G U) : SXs G 2 G__law_places_right c__law_places_right (fdBody (stJ 52)) := by
  unfold c__law_places_right
  exact (SXs.cons (SX.asg (SE.call1f U.g__law_all (.head _) (KeepF.of U.f__law_all.keep) (FN.mono (fn__law_all U Z) (by decide)) (SE.name isv0 rfl) (fun _ _ => rfl)) (SG.name isg1 rfl (by decide)) (fun _ => rfl) (fun _ _ _ => rfl) (fun _ _ => rfl)) (SXs.cons (SX.ite (ST.cmp (SE.comp1 (Γ' := G22__law_places_right) (fun _ _ => rfl) (by decide +kernel) (by decide +kernel) rfl (fun ⟨a0, a1, a2, a3, a4, a5, a6, a7, a8, a9, a10, a11⟩ k h => ⟨_, h, fun i => match i with | 0 => .inl rfl | 1 => .inr ⟨_, 0, _, rfl, rfl, (by decide), rfl⟩ | 2 => .inl rfl | 3 => .inl rfl | 4 => .inl rfl | 5 => .inl rfl | 6 => .inl rfl | 7 => .inl rfl | 8 => .inl rfl | 9 => .inl rfl | 10 => .inl rfl | 11 => .inl rfl | _ + 12 => .inl rfl⟩) (SI.ex (SE.name isv1 rfl)) (SG.name isg0 rfl (by decide)) TgtP.name SC.none (SE.call2f U.g_offset_of (.head _) (KeepF.of U.f_offset_of.keep) (FN.mono (fn_offset_of U Z) (by decide)) (SE.name isv1 rfl) (fun _ _ => rfl) (SE.name isv0 rfl) (fun _ _ => rfl))) (SE.lrng U.g_list (.tail _ (.head _)) U.g_range (.tail _ (.tail _ (.head _))) (SE.len U.g_len (.tail _ (.tail _ (.tail _ (.head _)))) (SE.name isv1 rfl) (fun _ _ => rfl)) (fun _ _ => rfl)) rfl) (SXs.cons (SX.ret (SE.bool _)) SXs.nil) SXs.nil) (SXs.cons (SX.ite (ST.cmp (SE.comp1 (Γ' := G21__law_places_right) (fun _ _ => rfl) (by decide +kernel) (by decide +kernel) rfl (fun ⟨a0, a1, a2, a3, a4, a5, a6, a7, a8, a9, a10, a11⟩ k h => ⟨_, h, fun i => match i with | 0 => .inl rfl | 1 => .inr ⟨_, 0, _, rfl, rfl, (by decide), rfl⟩ | 2 => .inl rfl | 3 => .inl rfl | 4 => .inl rfl | 5 => .inl rfl | 6 => .inl rfl | 7 => .inl rfl | 8 => .inl rfl | 9 => .inl rfl | 10 => .inl rfl | 11 => .inl rfl | _ + 12 => .inl rfl⟩) (SI.rng U.g_range (.tail _ (.tail _ (.head _))) (SE.len U.g_len (.tail _ (.tail _ (.tail _ (.head _)))) (SE.name isv1 rfl) (fun _ _ => rfl)) (fun _ _ => rfl)) (SG.name isg0 rfl (by decide)) TgtP.name SC.none (SE.call2f U.g_index_of (.head _) (KeepF.of U.f_index_of.keep) (FN.mono (fn_index_of U Z) (by decide)) (SE.name isv1 rfl) (fun _ _ => rfl) (SE.name isv0 rfl) (fun _ _ => rfl))) (SE.name isv1 rfl) rfl) (SXs.cons (SX.ret (SE.bool _)) SXs.nil) SXs.nil) (SXs.cons (SX.for (SI.enm U.g_enumerate (.tail _ (.tail _ (.tail _ (.tail _ (.head _))))) (SE.call1f U.g_strides_of (.tail _ (.tail _ (.tail _ (.tail _ (.tail _ (.head _)))))) (KeepF.of U.f_strides_of.keep) (FN.mono (fn_strides_of U Z) (by decide)) (SE.name isv0 rfl) (fun _ _ => rfl)) (fun _ _ => rfl)) (SG.tup (.cons (SG.name isg3 rfl (by decide)) (fun _ _ => rfl) (.cons (SG.name isg4 rfl (by decide)) (fun _ _ => rfl) .nil))) (SXs.cons (SX.for (SI.ex (SE.name isv1 rfl)) (SG.name isg2 rfl (by decide)) (SXs.cons (SX.asg (SE.bin (SE.bin (SE.slcT (SE.name isv2 rfl) (SE.name isv3 rfl)) (SE.tup (.cons (SE.bin (SE.sub (SE.name isv2 rfl) (SE.name isv3 rfl) (fun _ _ => rfl)) (SE.int _)) (fun _ _ => rfl) .nil))) (SE.slcF (SE.name isv2 rfl) (SE.bin (SE.name isv3 rfl) (SE.int _)))) (SG.name isg5 rfl (by decide)) (fun _ => rfl) (fun _ _ _ => rfl) (fun _ _ => rfl)) (SXs.cons (SX.ite (STs.bool (STs.and (ST.cmp (SE.sub (SE.name isv2 rfl) (SE.name isv3 rfl) (fun _ _ => rfl)) (SE.sub (SE.name isv0 rfl) (SE.name isv3 rfl) (fun _ _ => rfl)) rfl) (STs.oneAnd (ST.cmp (SE.bin (SE.index (fun _ => rfl) rfl (SE.name isv1 rfl) (SE.name isv5 rfl) (fun _ _ => rfl)) (SE.index (fun _ => rfl) rfl (SE.name isv1 rfl) (SE.name isv2 rfl) (fun _ _ => rfl))) (SE.name isv4 rfl) rfl)))) (SXs.cons (SX.ret (SE.bool _)) SXs.nil) SXs.nil) SXs.nil)) TgtP.name (fun _ _ => rfl)) SXs.nil) TgtP.tup (fun _ _ => rfl)) (SXs.cons (SX.asgComp1 rfl isg6 rfl (by decide +kernel) (Γ' := G20__law_places_right) (fun _ _ => rfl) (by decide +kernel) (by decide +kernel) rfl (fun ⟨a0, a1, a2, a3, a4, a5, a6, a7, a8, a9, a10, a11⟩ k h => ⟨_, h, fun i => match i with | 0 => .inl rfl | 1 => .inr ⟨_, 0, _, rfl, rfl, (by decide), rfl⟩ | 2 => .inl rfl | 3 => .inl rfl | 4 => .inl rfl | 5 => .inl rfl | 6 => .inl rfl | 7 => .inl rfl | 8 => .inl rfl | 9 => .inl rfl | 10 => .inl rfl | 11 => .inl rfl | _ + 12 => .inl rfl⟩) (SI.rng U.g_range (.tail _ (.tail _ (.head _))) (SE.bin (SE.len U.g_len (.tail _ (.tail _ (.tail _ (.head _)))) (SE.name isv1 rfl) (fun _ _ => rfl)) (SE.int _)) (fun _ _ => rfl)) (SG.name isg0 rfl (by decide)) TgtP.name SC.none (SE.call2f U.g_offset_of (.head _) (KeepF.of U.f_offset_of.keep) (FN.mono (fn_offset_of U Z) (by decide)) (SE.name isv1 rfl) (fun _ _ => rfl) (SE.tup (.cons (SE.name isv0 rfl) (fun _ _ => rfl) .nil)) (fun _ _ => rfl))) (SXs.cons (SX.ret (SE.or (SE.cmp (SE.len U.g_len (.tail _ (.tail _ (.tail _ (.head _)))) (SE.name isv0 rfl) (fun _ _ => rfl)) (SE.int _) rfl) (SE.cmp (SE.name isv6 rfl) (SE.bin (SE.bin (SE.lst (.cons (SE.neg (SE.int _)) (fun _ _ => rfl) .nil)) (SE.lrng U.g_list (.tail _ (.head _)) U.g_range (.tail _ (.tail _ (.head _))) (SE.len U.g_len (.tail _ (.tail _ (.tail _ (.head _)))) (SE.name isv1 rfl) (fun _ _ => rfl)) (fun _ _ => rfl))) (SE.lst (.cons (SE.neg (SE.int _)) (fun _ _ => rfl) .nil))) rfl))) SXs.nil))))))
theorem fn__law_places_right (U : Uni G) (Z : Sp G U) : FN G 3 (.ref U.a__law_places_right) 1 fun l σ k x => callF c__law_places_right (frOf (l ++ [])) σ k x :=
  FN.k ["sizes"] U.f__law_places_right (by decide +kernel) (by decide +kernel) rfl rfl (ar1 fun v0 _ _ _ _ _ _ _ _ => rfl) (r__law_places_right U Z)
noncomputable def G__law_beyond : Ct := { vars := [("pile", .loc), ("sizes", .loc), ("row", .loc), ("rank", .loc)], globs := ["len", "_law_next"] }
theorem r__law_beyond (U : Uni G) (Z : Sp G U) : SXs G 3 G__law_beyond c__law_beyond (fdBody (stJ 53)) := by
  unfold c__law_beyond
  exact (SXs.cons (SX.asg (SE.mulM (SE.lst (.cons (SE.int _) (fun _ _ => rfl) .nil)) (SE.len U.g_len (.head _) (SE.name isv1 rfl) (fun _ _ => rfl))) (SG.name isg2 rfl (by decide)) (fun _ => rfl) (fun _ _ _ => rfl) (fun _ _ => rfl)) (SXs.cons (SX.asg (Z.next (by decide) (.tail _ (.head _)) (SE.name isv0 rfl) (fun _ _ => rfl) (SE.len U.g_len (.head _) (SE.name isv1 rfl) (fun _ _ => rfl)) (fun _ _ => rfl)) (SG.name isg3 rfl (by decide)) (fun _ => rfl) (fun _ _ _ => rfl) (fun _ _ => rfl)) (SXs.cons (SX.asgI (SE.sub (SE.lst (.cons (SE.int _) (fun _ _ => rfl) (.cons (SE.bin (SE.sub (SE.name isv1 rfl) (SE.name isv3 rfl) (fun _ _ => rfl)) (SE.int _)) (fun _ _ => rfl) (.cons (SE.neg (SE.int _)) (fun _ _ => rfl) .nil)))) (Z.next (by decide) (.tail _ (.head _)) (SE.name isv0 rfl) (fun _ _ => rfl) (SE.int _) (fun _ _ => rfl)) (fun _ _ => rfl)) (SE.name isv2 rfl) (SE.name isv3 rfl)) (SXs.cons (SX.ret (SE.name isv2 rfl)) SXs.nil))))
theorem fn__law_beyond (U : Uni G) (Z : Sp G U) : FN G 4 (.ref U.a__law_beyond) 2 fun l σ k x => callF c__law_beyond (frOf (l ++ [])) σ k x :=
  FN.k ["pile", "sizes"] U.f__law_beyond (by decide +kernel) (by decide +kernel) rfl rfl (ar2 fun v0 v1 _ _ _ _ _ _ _ _ => rfl) (r__law_beyond U Z)
noncomputable def G__law_items_right (c : Addr) : Ct := { vars := [("pile", .loc), ("heap", .own), ("sizes", .loc), ("rows", .loc), ("place", .loc), ("row", .loc), ("due", .loc), ("at", .own), ("array", .own), ("beyond", .own)], globs := ["_law_all", "made", "_law_ITEM", "range", "len", "enumerate", "item_at", "_law_value", "_law_beyond", "tuple", "offset_of", "_law_thrown", "items_of", "_law_next", "set_item"], code := some (c, "_law_items_right.<locals>.") }
noncomputable def G23__law_items_right : Ct := { vars := [("array", .cap), ("beyond", .cap), ("heap", .cap)], globs := ["set_item", "_law_value"] }
noncomputable def G24__law_items_right : Ct := { vars := [("array", .cap), ("beyond", .cap), ("heap", .cap)], globs := ["item_at"] }
noncomputable def G25__law_items_right : Ct := { vars := [("index", .loc)], globs := ["_law_value"] }
noncomputable def G26__law_items_right : Ct := { vars := [("place", .loc), ("at", .cap)], globs := ["_law_value"] }
noncomputable def G27__law_items_right : Ct := { vars := [("place", .loc)], globs := ["_law_value"] }
theorem r__law_items_right (U : Uni G) (Z : Sp G U) : SXs G 16 (G__law_items_right (G.lamC 0)) c__law_items_right (fdBody (stJ 54)) := by
  unfold c__law_items_right
  exact (SXs.cons (SX.asg (SE.call1f U.g__law_all (.head _) (KeepF.of U.f__law_all.keep) (FN.mono (fn__law_all U Z) (by decide)) (SE.name isv2 rfl) (fun _ _ => rfl)) (SG.name isg3 rfl (by decide)) (fun _ => rfl) (fun _ _ _ => rfl) (fun _ _ => rfl)) (SXs.cons (SX.asg (SE.call4f U.g_made (.tail _ (.head _)) (KeepF.of U.f_made.keep) (FN.mono (fn_made U Z) (by decide)) (SE.name isv1 rfl) (fun _ _ => rfl) (SE.glob U.g_ITEM (.tail _ (.tail _ (.head _)))) (fun _ _ => rfl) (SE.name isv2 rfl) (fun _ _ => rfl) (SE.comp1 (Γ' := G27__law_items_right) (fun _ _ => rfl) (by decide +kernel) (by kernel_rfl) rfl (fun ⟨a0, a1, a2, a3, a4, a5, a6, a7, a8, a9, a10, a11⟩ k h => ⟨_, h, fun i => match i with | 0 => .inl rfl | 1 => .inl rfl | 2 => .inl rfl | 3 => .inl rfl | 4 => .inl rfl | 5 => .inl rfl | 6 => .inl rfl | 7 => .inl rfl | 8 => .inl rfl | 9 => .inl rfl | 10 => .inl rfl | 11 => .inl rfl | _ + 12 => .inl rfl⟩) (SI.rng U.g_range (.tail _ (.tail _ (.tail _ (.head _)))) (SE.len U.g_len (.tail _ (.tail _ (.tail _ (.tail _ (.head _))))) (SE.name isv3 rfl) (fun _ _ => rfl)) (fun _ _ => rfl)) (SG.name isg0 rfl (by decide)) TgtP.name SC.none (SE.call1f U.g__law_value (.head _) (KeepF.of U.f__law_value.keep) (FN.mono (fn__law_value U Z) (by decide)) (SE.name isv0 rfl) (fun _ _ => rfl))) (fun _ _ => rfl)) (SG.name isg8 rfl (by decide)) (fun _ => rfl) (fun _ _ _ => rfl) (fun _ _ => rfl)) (SXs.cons (SX.for (SI.enm U.g_enumerate (.tail _ (.tail _ (.tail _ (.tail _ (.tail _ (.head _)))))) (SE.name isv3 rfl) (fun _ _ => rfl)) (SG.tup (.cons (SG.name isg4 rfl (by decide)) (fun _ _ => rfl) (.cons (SG.name isg5 rfl (by decide)) (fun _ _ => rfl) .nil))) (SXs.cons (SX.ite (STs.bool (STs.or (ST.cmp (SE.call3f U.g_item_at (.tail _ (.tail _ (.tail _ (.tail _ (.tail _ (.tail _ (.head _))))))) (KeepF.of U.f_item_at.keep) (FN.mono (fn_item_at U Z) (by decide)) (SE.name isv1 rfl) (fun _ _ => rfl) (SE.name isv8 rfl) (fun _ _ => rfl) (SE.name isv5 rfl) (fun _ _ => rfl)) (SE.call1f U.g__law_value (.tail _ (.tail _ (.tail _ (.tail _ (.tail _ (.tail _ (.tail _ (.head _)))))))) (KeepF.of U.f__law_value.keep) (FN.mono (fn__law_value U Z) (by decide)) (SE.name isv4 rfl) (fun _ _ => rfl)) rfl) (STs.oneOr (ST.cmp (SE.call3f U.g_item_at (.tail _ (.tail _ (.tail _ (.tail _ (.tail _ (.tail _ (.head _))))))) (KeepF.of U.f_item_at.keep) (FN.mono (fn_item_at U Z) (by decide)) (SE.name isv1 rfl) (fun _ _ => rfl) (SE.name isv8 rfl) (fun _ _ => rfl) (SE.tup (.cons (SE.bin (SE.name isv4 rfl) (SE.int _)) (fun _ _ => rfl) .nil)) (fun _ _ => rfl)) (SE.call1f U.g__law_value (.tail _ (.tail _ (.tail _ (.tail _ (.tail _ (.tail _ (.tail _ (.head _)))))))) (KeepF.of U.f__law_value.keep) (FN.mono (fn__law_value U Z) (by decide)) (SE.name isv4 rfl) (fun _ _ => rfl)) rfl)))) (SXs.cons (SX.ret (SE.bool _)) SXs.nil) SXs.nil) SXs.nil) TgtP.tup (fun _ _ => rfl)) (SXs.forget (l₁ := ((fdBody (stJ 54)).drop 3).take 4) (l₂ := (fdBody (stJ 54)).drop 7) (SXs.cons (SX.asg (SE.call2f U.g__law_beyond (.tail _ (.tail _ (.tail _ (.tail _ (.tail _ (.tail _ (.tail _ (.tail _ (.head _))))))))) (KeepF.of U.f__law_beyond.keep) (FN.mono (fn__law_beyond U Z) (by decide)) (SE.name isv0 rfl) (fun _ _ => rfl) (SE.name isv2 rfl) (fun _ _ => rfl)) (SG.name isg9 rfl (by decide)) (fun _ => rfl) (fun _ _ _ => rfl) (fun _ _ => rfl)) (SXs.cons (SX.asg (SE.tup (.cons (SE.str rfl) (fun _ _ => rfl) (.cons (SE.tup (.cons (SE.name isv8 rfl) (fun _ _ => rfl) (.cons (SE.tup (.cons (SE.str rfl) (fun _ _ => rfl) (.cons (SE.mktup U.g_tuple (.tail _ (.tail _ (.tail _ (.tail _ (.tail _ (.tail _ (.tail _ (.tail _ (.tail _ (.head _)))))))))) (SE.comp1 (Γ' := G25__law_items_right) (fun _ _ => rfl) (by decide +kernel) (by kernel_rfl) rfl (fun ⟨a0, a1, a2, a3, a4, a5, a6, a7, a8, a9, a10, a11⟩ k h => ⟨_, h, fun i => match i with | 0 => .inl rfl | 1 => .inl rfl | 2 => .inl rfl | 3 => .inl rfl | 4 => .inl rfl | 5 => .inl rfl | 6 => .inl rfl | 7 => .inl rfl | 8 => .inl rfl | 9 => .inl rfl | 10 => .inl rfl | 11 => .inl rfl | _ + 12 => .inl rfl⟩) (SI.ex (SE.name isv9 rfl)) (SG.name isg0 rfl (by decide)) TgtP.name SC.none (SE.call1f U.g__law_value (.head _) (KeepF.of U.f__law_value.keep) (FN.mono (fn__law_value U Z) (by decide)) (SE.name isv0 rfl) (fun _ _ => rfl))) (fun _ _ => rfl)) (fun _ _ => rfl) .nil))) (fun _ _ => rfl) .nil))) (fun _ _ => rfl) .nil))) (SG.name isg6 rfl (by decide)) (fun _ => rfl) (fun _ _ _ => rfl) (fun _ _ => rfl)) (SXs.cons (SX.ite (STs.bool (STs.or (ST.cmp (SE.call2f U.g_offset_of (.tail _ (.tail _ (.tail _ (.tail _ (.tail _ (.tail _ (.tail _ (.tail _ (.tail _ (.tail _ (.head _))))))))))) (KeepF.of U.f_offset_of.keep) (FN.mono (fn_offset_of U Z) (by decide)) (SE.name isv2 rfl) (fun _ _ => rfl) (SE.name isv9 rfl) (fun _ _ => rfl)) (SE.neg (SE.int _)) rfl) (STs.oneOr (ST.cmp (Z.thrown (m := 11) (Γ' := G24__law_items_right) (by decide) (.tail _ (.tail _ (.tail _ (.tail _ (.tail _ (.tail _ (.tail _ (.tail _ (.tail _ (.tail _ (.tail _ (.head _)))))))))))) rfl (by decide) (by decide +kernel) (by decide +kernel) rfl rfl (by decide +kernel) (by kernel_rfl) rfl (fun ⟨a0, a1, a2, a3, a4, a5, a6, a7, a8, a9, a10, a11⟩ k h => ⟨_, h, fun i => match i with | 0 => .inr ⟨_, 8, _, rfl, rfl, (by decide), rfl⟩ | 1 => .inr ⟨_, 9, _, rfl, rfl, (by decide), rfl⟩ | 2 => .inr ⟨_, 1, _, rfl, rfl, (by decide), rfl⟩ | 3 => .inl rfl | 4 => .inl rfl | 5 => .inl rfl | 6 => .inl rfl | 7 => .inl rfl | 8 => .inl rfl | 9 => .inl rfl | 10 => .inl rfl | 11 => .inl rfl | _ + 12 => .inl rfl⟩) (SE.call3f U.g_item_at (.head _) (KeepF.of U.f_item_at.keep) (FN.mono (fn_item_at U Z) (by decide)) (SE.name isv2 rfl) (fun _ _ => rfl) (SE.name isv0 rfl) (fun _ _ => rfl) (SE.name isv1 rfl) (fun _ _ => rfl))) (SE.name isv6 rfl) rfl)))) (SXs.cons (SX.ret (SE.bool _)) SXs.nil) SXs.nil) (SXs.cons (SX.ite (ST.cmp (Z.thrown (m := 11) (Γ' := G23__law_items_right) (by decide) (.tail _ (.tail _ (.tail _ (.tail _ (.tail _ (.tail _ (.tail _ (.tail _ (.tail _ (.tail _ (.tail _ (.head _)))))))))))) rfl (by decide) (by decide +kernel) (by decide +kernel) rfl rfl (by decide +kernel) (by kernel_rfl) rfl (fun ⟨a0, a1, a2, a3, a4, a5, a6, a7, a8, a9, a10, a11⟩ k h => ⟨_, h, fun i => match i with | 0 => .inr ⟨_, 8, _, rfl, rfl, (by decide), rfl⟩ | 1 => .inr ⟨_, 9, _, rfl, rfl, (by decide), rfl⟩ | 2 => .inr ⟨_, 1, _, rfl, rfl, (by decide), rfl⟩ | 3 => .inl rfl | 4 => .inl rfl | 5 => .inl rfl | 6 => .inl rfl | 7 => .inl rfl | 8 => .inl rfl | 9 => .inl rfl | 10 => .inl rfl | 11 => .inl rfl | _ + 12 => .inl rfl⟩) (SE.call4f U.g_set_item (.head _) (KeepF.of U.f_set_item.keep) (FN.mono (fn_set_item U Z) (by decide)) (SE.name isv2 rfl) (fun _ _ => rfl) (SE.name isv0 rfl) (fun _ _ => rfl) (SE.name isv1 rfl) (fun _ _ => rfl) (SE.call1f U.g__law_value (.tail _ (.head _)) (KeepF.of U.f__law_value.keep) (FN.mono (fn__law_value U Z) (by decide)) (SE.int _) (fun _ _ => rfl)) (fun _ _ => rfl))) (SE.name isv6 rfl) rfl) (SXs.cons (SX.ret (SE.bool _)) SXs.nil) SXs.nil) SXs.nil)))) (SXs.cons (SX.ite (ST.cmp (SE.name isv3 rfl) (SE.lst .nil) rfl) (SXs.cons (SX.ret (SE.cmp (SE.call2f U.g_items_of (.tail _ (.tail _ (.tail _ (.tail _ (.tail _ (.tail _ (.tail _ (.tail _ (.tail _ (.tail _ (.tail _ (.tail _ (.head _))))))))))))) (KeepF.of U.f_items_of.keep) (FN.mono (fn_items_of U Z) (by decide)) (SE.name isv1 rfl) (fun _ _ => rfl) (SE.name isv8 rfl) (fun _ _ => rfl)) (SE.lst .nil) rfl)) SXs.nil) SXs.nil) (SXs.cons (SX.asg (Z.next (by decide) (.tail _ (.tail _ (.tail _ (.tail _ (.tail _ (.tail _ (.tail _ (.tail _ (.tail _ (.tail _ (.tail _ (.tail _ (.tail _ (.head _)))))))))))))) (SE.name isv0 rfl) (fun _ _ => rfl) (SE.len U.g_len (.tail _ (.tail _ (.tail _ (.tail _ (.head _))))) (SE.name isv3 rfl) (fun _ _ => rfl)) (fun _ _ => rfl)) (SG.name isg7 rfl (by decide)) (fun _ => rfl) (fun _ _ _ => rfl) (fun _ _ => rfl)) (SXs.cons (SX.expr (SE.call4f U.g_set_item (.tail _ (.tail _ (.tail _ (.tail _ (.tail _ (.tail _ (.tail _ (.tail _ (.tail _ (.tail _ (.tail _ (.tail _ (.tail _ (.tail _ (.head _))))))))))))))) (KeepF.of U.f_set_item.keep) (FN.mono (fn_set_item U Z) (by decide)) (SE.name isv1 rfl) (fun _ _ => rfl) (SE.name isv8 rfl) (fun _ _ => rfl) (SE.sub (SE.name isv3 rfl) (SE.name isv7 rfl) (fun _ _ => rfl)) (fun _ _ => rfl) (SE.call1f U.g__law_value (.tail _ (.tail _ (.tail _ (.tail _ (.tail _ (.tail _ (.tail _ (.head _)))))))) (KeepF.of U.f__law_value.keep) (FN.mono (fn__law_value U Z) (by decide)) (SE.neg (SE.int _)) (fun _ _ => rfl)) (fun _ _ => rfl)) (fun _ _ => rfl)) (SXs.cons (SX.ret (SE.cmp (SE.call2f U.g_items_of (.tail _ (.tail _ (.tail _ (.tail _ (.tail _ (.tail _ (.tail _ (.tail _ (.tail _ (.tail _ (.tail _ (.tail _ (.head _))))))))))))) (KeepF.of U.f_items_of.keep) (FN.mono (fn_items_of U Z) (by decide)) (SE.name isv1 rfl) (fun _ _ => rfl) (SE.name isv8 rfl) (fun _ _ => rfl)) (SE.comp1 (Γ' := G26__law_items_right) (fun _ _ => rfl) (by decide +kernel) (by kernel_rfl) rfl (fun ⟨a0, a1, a2, a3, a4, a5, a6, a7, a8, a9, a10, a11⟩ k h => ⟨_, h, fun i => match i with | 0 => .inl rfl | 1 => .inr ⟨_, 7, _, rfl, rfl, (by decide), rfl⟩ | 2 => .inl rfl | 3 => .inl rfl | 4 => .inl rfl | 5 => .inl rfl | 6 => .inl rfl | 7 => .inl rfl | 8 => .inl rfl | 9 => .inl rfl | 10 => .inl rfl | 11 => .inl rfl | _ + 12 => .inl rfl⟩) (SI.rng U.g_range (.tail _ (.tail _ (.tail _ (.head _)))) (SE.len U.g_len (.tail _ (.tail _ (.tail _ (.tail _ (.head _))))) (SE.name isv3 rfl) (fun _ _ => rfl)) (fun _ _ => rfl)) (SG.name isg0 rfl (by decide)) TgtP.name SC.none (SE.call1f U.g__law_value (.head _) (KeepF.of U.f__law_value.keep) (FN.mono (fn__law_value U Z) (by decide)) (SE.ite (ST.cmp (SE.name isv0 rfl) (SE.name isv1 rfl) rfl) (SE.neg (SE.int _)) (SE.name isv0 rfl)) (fun _ _ => rfl))) rfl)) SXs.nil)))) rfl))))
theorem fn__law_items_right (U : Uni G) (Z : Sp G U) : FN G 17 (.ref U.a__law_items_right) 3 fun l σ k x => callF c__law_items_right (frOf (l ++ [])) σ k x :=
  FN.l ["pile", "heap", "sizes"] U.f__law_items_right (by kernel_rfl) (by kernel_rfl) rfl rfl (ar3 fun v0 v1 v2 _ _ _ _ _ _ _ _ => rfl) (r__law_items_right U Z)
noncomputable def G__law_rows_of : Ct := { vars := [("heap", .own), ("array", .own), ("high", .loc), ("wide", .own)], globs := ["sizes_of", "range"] }
noncomputable def G28__law_rows_of : Ct := { vars := [("y", .own), ("array", .cap), ("heap", .cap), ("wide", .cap)], globs := ["range"] }
noncomputable def G29__law_rows_of : Ct := { vars := [("x", .loc), ("array", .cap), ("heap", .cap), ("y", .cap)], globs := ["item_at"] }
theorem r__law_rows_of (U : Uni G) (Z : Sp G U) : SXs G 11 G__law_rows_of c__law_rows_of (fdBody (stJ 55)) := by
  unfold c__law_rows_of
  exact (SXs.cons (SX.asg (SE.call2f U.g_sizes_of (.head _) (KeepF.of U.f_sizes_of.keep) (FN.mono (fn_sizes_of U Z) (by decide)) (SE.name isv0 rfl) (fun _ _ => rfl) (SE.name isv1 rfl) (fun _ _ => rfl)) (SG.tup (.cons (SG.name isg2 rfl (by decide)) (fun _ _ => rfl) (.cons (SG.name isg3 rfl (by decide)) (fun _ _ => rfl) .nil))) (fun _ => rfl) (fun _ _ _ => rfl) (fun _ _ => rfl)) (SXs.cons (SX.ret (SE.comp1 (Γ' := G28__law_rows_of) (fun _ _ => rfl) (by decide +kernel) (by decide +kernel) rfl (fun ⟨a0, a1, a2, a3, a4, a5, a6, a7, a8, a9, a10, a11⟩ k h => ⟨_, h, fun i => match i with | 0 => .inl rfl | 1 => .inr ⟨_, 1, _, rfl, rfl, (by decide), rfl⟩ | 2 => .inr ⟨_, 0, _, rfl, rfl, (by decide), rfl⟩ | 3 => .inr ⟨_, 3, _, rfl, rfl, (by decide), rfl⟩ | 4 => .inl rfl | 5 => .inl rfl | 6 => .inl rfl | 7 => .inl rfl | 8 => .inl rfl | 9 => .inl rfl | 10 => .inl rfl | 11 => .inl rfl | _ + 12 => .inl rfl⟩) (SI.rng2 U.g_range (.tail _ (.head _)) (SE.int _) (fun _ _ => rfl) (SE.bin (SE.name isv2 rfl) (SE.int _)) (fun _ _ => rfl)) (SG.name isg0 rfl (by decide)) TgtP.name SC.none (SE.comp1 (Γ' := G29__law_rows_of) (fun _ _ => rfl) (by decide +kernel) (by decide +kernel) rfl (fun ⟨a0, a1, a2, a3, a4, a5, a6, a7, a8, a9, a10, a11⟩ k h => ⟨_, h, fun i => match i with | 0 => .inl rfl | 1 => .inr ⟨_, 1, _, rfl, rfl, (by decide), rfl⟩ | 2 => .inr ⟨_, 2, _, rfl, rfl, (by decide), rfl⟩ | 3 => .inr ⟨_, 0, _, rfl, rfl, (by decide), rfl⟩ | 4 => .inl rfl | 5 => .inl rfl | 6 => .inl rfl | 7 => .inl rfl | 8 => .inl rfl | 9 => .inl rfl | 10 => .inl rfl | 11 => .inl rfl | _ + 12 => .inl rfl⟩) (SI.rng2 U.g_range (.head _) (SE.int _) (fun _ _ => rfl) (SE.bin (SE.name isv3 rfl) (SE.int _)) (fun _ _ => rfl)) (SG.name isg0 rfl (by decide)) TgtP.name SC.none (SE.sub (SE.call3f U.g_item_at (.head _) (KeepF.of U.f_item_at.keep) (FN.mono (fn_item_at U Z) (by decide)) (SE.name isv2 rfl) (fun _ _ => rfl) (SE.name isv1 rfl) (fun _ _ => rfl) (SE.tup (.cons (SE.name isv3 rfl) (fun _ _ => rfl) (.cons (SE.name isv0 rfl) (fun _ _ => rfl) .nil))) (fun _ _ => rfl)) (SE.int _) (fun _ _ => rfl))))) SXs.nil))
theorem fn__law_rows_of (U : Uni G) (Z : Sp G U) : FN G 12 (.ref U.a__law_rows_of) 2 fun l σ k x => callF c__law_rows_of (frOf (l ++ [])) σ k x :=
  FN.k ["heap", "array"] U.f__law_rows_of (by decide +kernel) (by decide +kernel) rfl rfl (ar2 fun v0 v1 _ _ _ _ _ _ _ _ => rfl) (r__law_rows_of U Z)
noncomputable def G__law_joined_right (c : Addr) : Ct := { vars := [("pile", .loc), ("heap", .own), ("high", .loc), ("wide", .own), ("more", .loc), ("one", .own), ("column", .loc), ("under", .loc), ("lower", .loc), ("array", .own), ("taller", .own)], globs := ["_law_next", "range", "by_rows", "_law_ITEM", "_law_rows_of", "made", "beside", "enumerate", "beneath", "items_of", "turned", "_law_value", "_law_thrown"], code := some (c, "_law_joined_right.<locals>.") }
noncomputable def G30__law_joined_right : Ct := { vars := [("array", .cap), ("heap", .cap), ("taller", .cap)], globs := ["beside", "_law_ITEM"] }
noncomputable def G31__law_joined_right : Ct := { vars := [("x", .own), ("one", .cap)], globs := [] }
noncomputable def G32__law_joined_right : Ct := { vars := [("row", .loc), ("x", .cap)], globs := [] }
noncomputable def G33__law_joined_right : Ct := { vars := [("y", .own), ("wide", .cap)], globs := ["range"] }
noncomputable def G34__law_joined_right : Ct := { vars := [("x", .loc), ("wide", .cap), ("y", .cap)], globs := [] }
noncomputable def G35__law_joined_right : Ct := { vars := [("y", .loc), ("row", .loc)], globs := [] }
noncomputable def G36__law_joined_right : Ct := { vars := [("at", .loc)], globs := ["_law_value"] }
noncomputable def G37__law_joined_right : Ct := { vars := [("y", .loc)], globs := ["_law_value"] }
noncomputable def G38__law_joined_right : Ct := { vars := [("row", .loc), ("number", .loc)], globs := ["_law_value"] }
noncomputable def G39__law_joined_right : Ct := { vars := [("y", .own), ("wide", .cap)], globs := ["range"] }
noncomputable def G40__law_joined_right : Ct := { vars := [("x", .loc), ("y", .cap)], globs := [] }
theorem r__law_joined_right (U : Uni G) (Z : Sp G U) : SXs G 17 (G__law_joined_right (G.lamC 1)) c__law_joined_right (fdBody (stJ 56)) := by
  unfold c__law_joined_right
  exact (SXs.cons (SX.asg (SE.tup (.cons (SE.bin (SE.int _) (Z.next (by decide) (.head _) (SE.name isv0 rfl) (fun _ _ => rfl) (SE.int _) (fun _ _ => rfl))) (fun _ _ => rfl) (.cons (SE.bin (SE.int _) (Z.next (by decide) (.head _) (SE.name isv0 rfl) (fun _ _ => rfl) (SE.int _) (fun _ _ => rfl))) (fun _ _ => rfl) (.cons (SE.bin (SE.int _) (Z.next (by decide) (.head _) (SE.name isv0 rfl) (fun _ _ => rfl) (SE.int _) (fun _ _ => rfl))) (fun _ _ => rfl) .nil)))) (SG.tup (.cons (SG.name isg2 rfl (by decide)) (fun _ _ => rfl) (.cons (SG.name isg3 rfl (by decide)) (fun _ _ => rfl) (.cons (SG.name isg4 rfl (by decide)) (fun _ _ => rfl) .nil)))) (fun _ => rfl) (fun _ _ _ => rfl) (swapped3 (i₂ := 3) rfl rfl)) (SXs.cons (SX.asg (SE.comp1 (Γ' := G39__law_joined_right) (fun _ _ => rfl) (by decide +kernel) (by kernel_rfl) rfl (fun ⟨a0, a1, a2, a3, a4, a5, a6, a7, a8, a9, a10, a11⟩ k h => ⟨_, h, fun i => match i with | 0 => .inl rfl | 1 => .inr ⟨_, 3, _, rfl, rfl, (by decide), rfl⟩ | 2 => .inl rfl | 3 => .inl rfl | 4 => .inl rfl | 5 => .inl rfl | 6 => .inl rfl | 7 => .inl rfl | 8 => .inl rfl | 9 => .inl rfl | 10 => .inl rfl | 11 => .inl rfl | _ + 12 => .inl rfl⟩) (SI.rng U.g_range (.tail _ (.head _)) (SE.name isv2 rfl) (fun _ _ => rfl)) (SG.name isg0 rfl (by decide)) TgtP.name SC.none (SE.comp1 (Γ' := G40__law_joined_right) (fun _ _ => rfl) (by decide +kernel) (by decide +kernel) rfl (fun ⟨a0, a1, a2, a3, a4, a5, a6, a7, a8, a9, a10, a11⟩ k h => ⟨_, h, fun i => match i with | 0 => .inl rfl | 1 => .inr ⟨_, 0, _, rfl, rfl, (by decide), rfl⟩ | 2 => .inl rfl | 3 => .inl rfl | 4 => .inl rfl | 5 => .inl rfl | 6 => .inl rfl | 7 => .inl rfl | 8 => .inl rfl | 9 => .inl rfl | 10 => .inl rfl | 11 => .inl rfl | _ + 12 => .inl rfl⟩) (SI.rng U.g_range (.head _) (SE.name isv1 rfl) (fun _ _ => rfl)) (SG.name isg0 rfl (by decide)) TgtP.name SC.none (SE.bin (SE.bin (SE.int _) (SE.name isv1 rfl)) (SE.name isv0 rfl)))) (SG.name isg5 rfl (by decide)) (fun _ => rfl) (swaps_cell (kk := .own) (i := 5) rfl) (fun _ _ => rfl)) (SXs.cons (SX.asg (SE.call4f U.g_by_rows (.tail _ (.tail _ (.head _))) (KeepF.of U.f_by_rows.keep) (FN.mono (fn_by_rows U Z) (by decide)) (SE.name isv1 rfl) (fun _ _ => rfl) (SE.bin (SE.tup (.cons (SE.name isv3 rfl) (fun _ _ => rfl) .nil)) (SE.name isv2 rfl)) (fun _ _ => rfl) (SE.comp2 (Γ' := G38__law_joined_right) (fun _ _ => rfl) (by decide +kernel) (by kernel_rfl) rfl (fun ⟨a0, a1, a2, a3, a4, a5, a6, a7, a8, a9, a10, a11⟩ k h => ⟨_, h, fun i => match i with | 0 => .inl rfl | 1 => .inl rfl | 2 => .inl rfl | 3 => .inl rfl | 4 => .inl rfl | 5 => .inl rfl | 6 => .inl rfl | 7 => .inl rfl | 8 => .inl rfl | 9 => .inl rfl | 10 => .inl rfl | 11 => .inl rfl | _ + 12 => .inl rfl⟩) (SI.ex (SE.name isv5 rfl)) (SG.name isg0 rfl (by decide)) TgtP.name SC.none (fun _ _ => rfl) (SI.ex (SE.name isv0 rfl)) (SG.name isg1 rfl (by decide)) TgtP.name SC.none (SE.call1f U.g__law_value (.head _) (KeepF.of U.f__law_value.keep) (FN.mono (fn__law_value U Z) (by decide)) (SE.name isv1 rfl) (fun _ _ => rfl))) (fun _ _ => rfl) (SE.glob U.g_ITEM (.tail _ (.tail _ (.tail _ (.head _))))) (fun _ _ => rfl)) (SG.name isg9 rfl (by decide)) (fun _ => rfl) (fun _ _ _ => rfl) (fun _ _ => rfl)) (SXs.cons (SX.ite (ST.cmp (SE.call2f U.g__law_rows_of (.tail _ (.tail _ (.tail _ (.tail _ (.head _))))) (KeepF.of U.f__law_rows_of.keep) (FN.mono (fn__law_rows_of U Z) (by decide)) (SE.name isv1 rfl) (fun _ _ => rfl) (SE.name isv9 rfl) (fun _ _ => rfl)) (SE.name isv5 rfl) rfl) (SXs.cons (SX.ret (SE.bool _)) SXs.nil) SXs.nil) (SXs.cons (SX.asg (SE.call4f U.g_made (.tail _ (.tail _ (.tail _ (.tail _ (.tail _ (.head _)))))) (KeepF.of U.f_made.keep) (FN.mono (fn_made U Z) (by decide)) (SE.name isv1 rfl) (fun _ _ => rfl) (SE.glob U.g_ITEM (.tail _ (.tail _ (.tail _ (.head _))))) (fun _ _ => rfl) (SE.tup (.cons (SE.name isv2 rfl) (fun _ _ => rfl) .nil)) (fun _ _ => rfl) (SE.comp1 (Γ' := G37__law_joined_right) (fun _ _ => rfl) (by decide +kernel) (by kernel_rfl) rfl (fun ⟨a0, a1, a2, a3, a4, a5, a6, a7, a8, a9, a10, a11⟩ k h => ⟨_, h, fun i => match i with | 0 => .inl rfl | 1 => .inl rfl | 2 => .inl rfl | 3 => .inl rfl | 4 => .inl rfl | 5 => .inl rfl | 6 => .inl rfl | 7 => .inl rfl | 8 => .inl rfl | 9 => .inl rfl | 10 => .inl rfl | 11 => .inl rfl | _ + 12 => .inl rfl⟩) (SI.rng U.g_range (.tail _ (.head _)) (SE.name isv2 rfl) (fun _ _ => rfl)) (SG.name isg0 rfl (by decide)) TgtP.name SC.none (SE.call1f U.g__law_value (.head _) (KeepF.of U.f__law_value.keep) (FN.mono (fn__law_value U Z) (by decide)) (SE.bin (SE.int _) (SE.name isv0 rfl)) (fun _ _ => rfl))) (fun _ _ => rfl)) (SG.name isg6 rfl (by decide)) (fun _ => rfl) (fun _ _ _ => rfl) (fun _ _ => rfl)) (SXs.cons (SX.asg (SE.call4f U.g_by_rows (.tail _ (.tail _ (.head _))) (KeepF.of U.f_by_rows.keep) (FN.mono (fn_by_rows U Z) (by decide)) (SE.name isv1 rfl) (fun _ _ => rfl) (SE.bin (SE.tup (.cons (SE.name isv3 rfl) (fun _ _ => rfl) .nil)) (SE.name isv4 rfl)) (fun _ _ => rfl) (SE.comp1 (Γ' := G36__law_joined_right) (fun _ _ => rfl) (by decide +kernel) (by kernel_rfl) rfl (fun ⟨a0, a1, a2, a3, a4, a5, a6, a7, a8, a9, a10, a11⟩ k h => ⟨_, h, fun i => match i with | 0 => .inl rfl | 1 => .inl rfl | 2 => .inl rfl | 3 => .inl rfl | 4 => .inl rfl | 5 => .inl rfl | 6 => .inl rfl | 7 => .inl rfl | 8 => .inl rfl | 9 => .inl rfl | 10 => .inl rfl | 11 => .inl rfl | _ + 12 => .inl rfl⟩) (SI.rng U.g_range (.tail _ (.head _)) (SE.bin (SE.name isv4 rfl) (SE.name isv3 rfl)) (fun _ _ => rfl)) (SG.name isg0 rfl (by decide)) TgtP.name SC.none (SE.call1f U.g__law_value (.head _) (KeepF.of U.f__law_value.keep) (FN.mono (fn__law_value U Z) (by decide)) (SE.bin (SE.int _) (SE.name isv0 rfl)) (fun _ _ => rfl))) (fun _ _ => rfl) (SE.glob U.g_ITEM (.tail _ (.tail _ (.tail _ (.head _))))) (fun _ _ => rfl)) (SG.name isg7 rfl (by decide)) (fun _ => rfl) (fun _ _ _ => rfl) (fun _ _ => rfl)) (SXs.cons (SX.ite (ST.cmp (SE.call2f U.g__law_rows_of (.tail _ (.tail _ (.tail _ (.tail _ (.head _))))) (KeepF.of U.f__law_rows_of.keep) (FN.mono (fn__law_rows_of U Z) (by decide)) (SE.name isv1 rfl) (fun _ _ => rfl) (SE.call3f U.g_beside (.tail _ (.tail _ (.tail _ (.tail _ (.tail _ (.tail _ (.head _))))))) (KeepF.of U.f_beside.keep) (FN.mono (fn_beside U Z) (by decide)) (SE.name isv1 rfl) (fun _ _ => rfl) (SE.lst (.cons (SE.name isv9 rfl) (fun _ _ => rfl) (.cons (SE.name isv6 rfl) (fun _ _ => rfl) .nil))) (fun _ _ => rfl) (SE.glob U.g_ITEM (.tail _ (.tail _ (.tail _ (.head _))))) (fun _ _ => rfl)) (fun _ _ => rfl)) (SE.comp1 (Γ' := G35__law_joined_right) (fun _ _ => rfl) (by decide +kernel) (by kernel_rfl) rfl (fun ⟨a0, a1, a2, a3, a4, a5, a6, a7, a8, a9, a10, a11⟩ k h => ⟨_, h, fun i => match i with | 0 => .inl rfl | 1 => .inl rfl | 2 => .inl rfl | 3 => .inl rfl | 4 => .inl rfl | 5 => .inl rfl | 6 => .inl rfl | 7 => .inl rfl | 8 => .inl rfl | 9 => .inl rfl | 10 => .inl rfl | 11 => .inl rfl | _ + 12 => .inl rfl⟩) (SI.enm U.g_enumerate (.tail _ (.tail _ (.tail _ (.tail _ (.tail _ (.tail _ (.tail _ (.head _)))))))) (SE.name isv5 rfl) (fun _ _ => rfl)) (SG.tup (.cons (SG.name isg0 rfl (by decide)) (fun _ _ => rfl) (.cons (SG.name isg1 rfl (by decide)) (fun _ _ => rfl) .nil))) TgtP.tup SC.none (SE.bin (SE.name isv1 rfl) (SE.lst (.cons (SE.bin (SE.int _) (SE.name isv0 rfl)) (fun _ _ => rfl) .nil)))) rfl) (SXs.cons (SX.ret (SE.bool _)) SXs.nil) SXs.nil) (SXs.cons (SX.asgComp1 rfl isg8 rfl (by decide +kernel) (Γ' := G33__law_joined_right) (fun _ _ => rfl) (by decide +kernel) (by kernel_rfl) rfl (fun ⟨a0, a1, a2, a3, a4, a5, a6, a7, a8, a9, a10, a11⟩ k h => ⟨_, h, fun i => match i with | 0 => .inl rfl | 1 => .inr ⟨_, 3, _, rfl, rfl, (by decide), rfl⟩ | 2 => .inl rfl | 3 => .inl rfl | 4 => .inl rfl | 5 => .inl rfl | 6 => .inl rfl | 7 => .inl rfl | 8 => .inl rfl | 9 => .inl rfl | 10 => .inl rfl | 11 => .inl rfl | _ + 12 => .inl rfl⟩) (SI.rng U.g_range (.tail _ (.head _)) (SE.name isv4 rfl) (fun _ _ => rfl)) (SG.name isg0 rfl (by decide)) TgtP.name SC.none (SE.comp1 (Γ' := G34__law_joined_right) (fun _ _ => rfl) (by decide +kernel) (by decide +kernel) rfl (fun ⟨a0, a1, a2, a3, a4, a5, a6, a7, a8, a9, a10, a11⟩ k h => ⟨_, h, fun i => match i with | 0 => .inl rfl | 1 => .inr ⟨_, 1, _, rfl, rfl, (by decide), rfl⟩ | 2 => .inr ⟨_, 0, _, rfl, rfl, (by decide), rfl⟩ | 3 => .inl rfl | 4 => .inl rfl | 5 => .inl rfl | 6 => .inl rfl | 7 => .inl rfl | 8 => .inl rfl | 9 => .inl rfl | 10 => .inl rfl | 11 => .inl rfl | _ + 12 => .inl rfl⟩) (SI.rng U.g_range (.head _) (SE.name isv1 rfl) (fun _ _ => rfl)) (SG.name isg0 rfl (by decide)) TgtP.name SC.none (SE.bin (SE.bin (SE.int _) (SE.bin (SE.name isv2 rfl) (SE.name isv1 rfl))) (SE.name isv0 rfl)))) (SXs.cons (SX.ite (ST.cmp (SE.call2f U.g__law_rows_of (.tail _ (.tail _ (.tail _ (.tail _ (.head _))))) (KeepF.of U.f__law_rows_of.keep) (FN.mono (fn__law_rows_of U Z) (by decide)) (SE.name isv1 rfl) (fun _ _ => rfl) (SE.call3f U.g_beneath (.tail _ (.tail _ (.tail _ (.tail _ (.tail _ (.tail _ (.tail _ (.tail _ (.head _))))))))) (KeepF.of U.f_beneath.keep) (FN.mono (fn_beneath U Z) (by decide)) (SE.name isv1 rfl) (fun _ _ => rfl) (SE.lst (.cons (SE.name isv9 rfl) (fun _ _ => rfl) (.cons (SE.name isv7 rfl) (fun _ _ => rfl) .nil))) (fun _ _ => rfl) (SE.glob U.g_ITEM (.tail _ (.tail _ (.tail _ (.head _))))) (fun _ _ => rfl)) (fun _ _ => rfl)) (SE.bin (SE.name isv5 rfl) (SE.name isv8 rfl)) rfl) (SXs.cons (SX.ret (SE.bool _)) SXs.nil) SXs.nil) (SXs.cons (SX.ite (ST.cmp (SE.call2f U.g_items_of (.tail _ (.tail _ (.tail _ (.tail _ (.tail _ (.tail _ (.tail _ (.tail _ (.tail _ (.head _)))))))))) (KeepF.of U.f_items_of.keep) (FN.mono (fn_items_of U Z) (by decide)) (SE.name isv1 rfl) (fun _ _ => rfl) (SE.call3f U.g_beneath (.tail _ (.tail _ (.tail _ (.tail _ (.tail _ (.tail _ (.tail _ (.tail _ (.head _))))))))) (KeepF.of U.f_beneath.keep) (FN.mono (fn_beneath U Z) (by decide)) (SE.name isv1 rfl) (fun _ _ => rfl) (SE.lst (.cons (SE.name isv6 rfl) (fun _ _ => rfl) (.cons (SE.name isv6 rfl) (fun _ _ => rfl) .nil))) (fun _ _ => rfl) (SE.glob U.g_ITEM (.tail _ (.tail _ (.tail _ (.head _))))) (fun _ _ => rfl)) (fun _ _ => rfl)) (SE.bin (SE.call2f U.g_items_of (.tail _ (.tail _ (.tail _ (.tail _ (.tail _ (.tail _ (.tail _ (.tail _ (.tail _ (.head _)))))))))) (KeepF.of U.f_items_of.keep) (FN.mono (fn_items_of U Z) (by decide)) (SE.name isv1 rfl) (fun _ _ => rfl) (SE.name isv6 rfl) (fun _ _ => rfl)) (SE.int _)) rfl) (SXs.cons (SX.ret (SE.bool _)) SXs.nil) SXs.nil) (SXs.cons (SX.ite (ST.cmp (SE.call2f U.g__law_rows_of (.tail _ (.tail _ (.tail _ (.tail _ (.head _))))) (KeepF.of U.f__law_rows_of.keep) (FN.mono (fn__law_rows_of U Z) (by decide)) (SE.name isv1 rfl) (fun _ _ => rfl) (SE.call3f U.g_turned (.tail _ (.tail _ (.tail _ (.tail _ (.tail _ (.tail _ (.tail _ (.tail _ (.tail _ (.tail _ (.head _))))))))))) (KeepF.of U.f_turned.keep) (FN.mono (fn_turned U Z) (by decide)) (SE.name isv1 rfl) (fun _ _ => rfl) (SE.name isv9 rfl) (fun _ _ => rfl) (SE.glob U.g_ITEM (.tail _ (.tail _ (.tail _ (.head _))))) (fun _ _ => rfl)) (fun _ _ => rfl)) (SE.comp1 (Γ' := G31__law_joined_right) (fun _ _ => rfl) (by decide +kernel) (by kernel_rfl) rfl (fun ⟨a0, a1, a2, a3, a4, a5, a6, a7, a8, a9, a10, a11⟩ k h => ⟨_, h, fun i => match i with | 0 => .inl rfl | 1 => .inr ⟨_, 5, _, rfl, rfl, (by decide), rfl⟩ | 2 => .inl rfl | 3 => .inl rfl | 4 => .inl rfl | 5 => .inl rfl | 6 => .inl rfl | 7 => .inl rfl | 8 => .inl rfl | 9 => .inl rfl | 10 => .inl rfl | 11 => .inl rfl | _ + 12 => .inl rfl⟩) (SI.rng U.g_range (.tail _ (.head _)) (SE.name isv3 rfl) (fun _ _ => rfl)) (SG.name isg0 rfl (by decide)) TgtP.name SC.none (SE.comp1 (Γ' := G32__law_joined_right) (fun _ _ => rfl) (by decide +kernel) (by decide +kernel) rfl (fun ⟨a0, a1, a2, a3, a4, a5, a6, a7, a8, a9, a10, a11⟩ k h => ⟨_, h, fun i => match i with | 0 => .inl rfl | 1 => .inr ⟨_, 0, _, rfl, rfl, (by decide), rfl⟩ | 2 => .inl rfl | 3 => .inl rfl | 4 => .inl rfl | 5 => .inl rfl | 6 => .inl rfl | 7 => .inl rfl | 8 => .inl rfl | 9 => .inl rfl | 10 => .inl rfl | 11 => .inl rfl | _ + 12 => .inl rfl⟩) (SI.ex (SE.name isv1 rfl)) (SG.name isg0 rfl (by decide)) TgtP.name SC.none (SE.sub (SE.name isv0 rfl) (SE.name isv1 rfl) (fun _ _ => rfl)))) rfl) (SXs.cons (SX.ret (SE.bool _)) SXs.nil) SXs.nil) (SXs.cons (SX.asg (SE.call4f U.g_made (.tail _ (.tail _ (.tail _ (.tail _ (.tail _ (.head _)))))) (KeepF.of U.f_made.keep) (FN.mono (fn_made U Z) (by decide)) (SE.name isv1 rfl) (fun _ _ => rfl) (SE.glob U.g_ITEM (.tail _ (.tail _ (.tail _ (.head _))))) (fun _ _ => rfl) (SE.tup (.cons (SE.bin (SE.name isv2 rfl) (SE.int _)) (fun _ _ => rfl) .nil)) (fun _ _ => rfl) (SE.bin (SE.lst (.cons (SE.call1f U.g__law_value (.tail _ (.tail _ (.tail _ (.tail _ (.tail _ (.tail _ (.tail _ (.tail _ (.tail _ (.tail _ (.tail _ (.head _)))))))))))) (KeepF.of U.f__law_value.keep) (FN.mono (fn__law_value U Z) (by decide)) (SE.int _) (fun _ _ => rfl)) (fun _ _ => rfl) .nil)) (SE.bin (SE.name isv2 rfl) (SE.int _))) (fun _ _ => rfl)) (SG.name isg10 rfl (by decide)) (fun _ => rfl) (fun _ _ _ => rfl) (fun _ _ => rfl)) (SXs.cons (SX.ret (SE.cmp (SE.sub (Z.thrown (m := 12) (Γ' := G30__law_joined_right) (by decide) (.tail _ (.tail _ (.tail _ (.tail _ (.tail _ (.tail _ (.tail _ (.tail _ (.tail _ (.tail _ (.tail _ (.tail _ (.head _))))))))))))) rfl (by decide) (by decide +kernel) (by decide +kernel) rfl rfl (by decide +kernel) (by kernel_rfl) rfl (fun ⟨a0, a1, a2, a3, a4, a5, a6, a7, a8, a9, a10, a11⟩ k h => ⟨_, h, fun i => match i with | 0 => .inr ⟨_, 9, _, rfl, rfl, (by decide), rfl⟩ | 1 => .inr ⟨_, 1, _, rfl, rfl, (by decide), rfl⟩ | 2 => .inr ⟨_, 10, _, rfl, rfl, (by decide), rfl⟩ | 3 => .inl rfl | 4 => .inl rfl | 5 => .inl rfl | 6 => .inl rfl | 7 => .inl rfl | 8 => .inl rfl | 9 => .inl rfl | 10 => .inl rfl | 11 => .inl rfl | _ + 12 => .inl rfl⟩) (SE.call3f U.g_beside (.head _) (KeepF.of U.f_beside.keep) (FN.mono (fn_beside U Z) (by decide)) (SE.name isv1 rfl) (fun _ _ => rfl) (SE.lst (.cons (SE.name isv0 rfl) (fun _ _ => rfl) (.cons (SE.name isv2 rfl) (fun _ _ => rfl) .nil))) (fun _ _ => rfl) (SE.glob U.g_ITEM (.tail _ (.head _))) (fun _ _ => rfl))) (SE.int _) (fun _ _ => rfl)) (SE.str rfl) rfl)) SXs.nil)))))))))))))
theorem fn__law_joined_right (U : Uni G) (Z : Sp G U) : FN G 18 (.ref U.a__law_joined_right) 2 fun l σ k x => callF c__law_joined_right (frOf (l ++ [])) σ k x :=
  FN.l ["pile", "heap"] U.f__law_joined_right (by kernel_rfl) (by kernel_rfl) rfl rfl (ar2 fun v0 v1 _ _ _ _ _ _ _ _ => rfl) (r__law_joined_right U Z)
noncomputable def G__law_row_right (c : Addr) : Ct := { vars := [("pile", .loc), ("heap", .own), ("held", .loc), ("turn", .loc), ("number", .loc), ("row", .own)], globs := ["made", "_law_ITEM", "_law_value", "range", "_law_next", "pushed", "popped", "_law_thrown", "items_of", "sizes_of", "len"], code := some (c, "_law_row_right.<locals>.") }
noncomputable def G41__law_row_right : Ct := { vars := [("one", .loc)], globs := ["_law_value"] }
noncomputable def G42__law_row_right : Ct := { vars := [("heap", .cap), ("row", .cap)], globs := ["popped"] }
theorem r__law_row_right (U : Uni G) (Z : Sp G U) : SXs G 16 (G__law_row_right (G.lamC 2)) c__law_row_right (fdBody (stJ 57)) := by
  unfold c__law_row_right
  exact (SXs.cons (SX.asg (SE.call4f U.g_made (.head _) (KeepF.of U.f_made.keep) (FN.mono (fn_made U Z) (by decide)) (SE.name isv1 rfl) (fun _ _ => rfl) (SE.glob U.g_ITEM (.tail _ (.head _))) (fun _ _ => rfl) (SE.tup (.cons (SE.int _) (fun _ _ => rfl) .nil)) (fun _ _ => rfl) (SE.lst (.cons (SE.call1f U.g__law_value (.tail _ (.tail _ (.head _))) (KeepF.of U.f__law_value.keep) (FN.mono (fn__law_value U Z) (by decide)) (SE.int _) (fun _ _ => rfl)) (fun _ _ => rfl) .nil)) (fun _ _ => rfl)) (SG.name isg5 rfl (by decide)) (fun _ => rfl) (fun _ _ _ => rfl) (fun _ _ => rfl)) (SXs.cons (SX.asg (SE.lstM (.cons (SE.int _) (fun _ _ => rfl) .nil)) (SG.name isg2 rfl (by decide)) (fun _ => rfl) (fun _ _ _ => rfl) (fun _ _ => rfl)) (SXs.cons (SX.for (SI.rng U.g_range (.tail _ (.tail _ (.tail _ (.head _)))) (Z.next (by decide) (.tail _ (.tail _ (.tail _ (.tail _ (.head _))))) (SE.name isv0 rfl) (fun _ _ => rfl) (SE.int _) (fun _ _ => rfl)) (fun _ _ => rfl)) (SG.name isg3 rfl (by decide)) (SXs.cons (SX.asg (Z.next (by decide) (.tail _ (.tail _ (.tail _ (.tail _ (.head _))))) (SE.name isv0 rfl) (fun _ _ => rfl) (SE.int _) (fun _ _ => rfl)) (SG.name isg4 rfl (by decide)) (fun _ => rfl) (fun _ _ _ => rfl) (fun _ _ => rfl)) (SXs.cons (SX.ite (Z.nextPos (by decide) (.tail _ (.tail _ (.tail _ (.tail _ (.head _))))) (SE.name isv0 rfl) (fun _ _ => rfl) (SE.int _) (fun _ _ => rfl)) (SXs.cons (SX.expr (SE.append (fun _ => rfl) rfl (SE.name isv2 rfl) (SE.name isv4 rfl) (fun _ _ => rfl)) (fun _ _ => rfl)) (SXs.cons (SX.ite (ST.cmp (SE.call3f U.g_pushed (.tail _ (.tail _ (.tail _ (.tail _ (.tail _ (.head _)))))) (KeepF.of U.f_pushed.keep) (FN.mono (fn_pushed U Z) (by decide)) (SE.name isv1 rfl) (fun _ _ => rfl) (SE.name isv5 rfl) (fun _ _ => rfl) (SE.call1f U.g__law_value (.tail _ (.tail _ (.head _))) (KeepF.of U.f__law_value.keep) (FN.mono (fn__law_value U Z) (by decide)) (SE.name isv4 rfl) (fun _ _ => rfl)) (fun _ _ => rfl)) (SE.name isv5 rfl) rfl) (SXs.cons (SX.ret (SE.bool _)) SXs.nil) SXs.nil) SXs.nil)) (SXs.cons (SX.ite (ST.cmp (SE.name isv2 rfl) (SE.lst .nil) rfl) (SXs.cons (SX.ite (ST.cmp (SE.call2f U.g_popped (.tail _ (.tail _ (.tail _ (.tail _ (.tail _ (.tail _ (.head _))))))) (KeepF.of U.f_popped.keep) (FN.mono (fn_popped U Z) (by decide)) (SE.name isv1 rfl) (fun _ _ => rfl) (SE.name isv5 rfl) (fun _ _ => rfl)) (SE.call1f U.g__law_value (.tail _ (.tail _ (.head _))) (KeepF.of U.f__law_value.keep) (FN.mono (fn__law_value U Z) (by decide)) (SE.pop (fun _ => rfl) rfl (SE.name isv2 rfl)) (fun _ _ => rfl)) rfl) (SXs.cons (SX.ret (SE.bool _)) SXs.nil) SXs.nil) SXs.nil) (SXs.cons (SX.ite (ST.cmp (Z.thrown (m := 11) (Γ' := G42__law_row_right) (by decide) (.tail _ (.tail _ (.tail _ (.tail _ (.tail _ (.tail _ (.tail _ (.head _)))))))) rfl (by decide) (by decide +kernel) (by decide +kernel) rfl rfl (by decide +kernel) (by kernel_rfl) rfl (fun ⟨a0, a1, a2, a3, a4, a5, a6, a7, a8, a9, a10, a11⟩ k h => ⟨_, h, fun i => match i with | 0 => .inr ⟨_, 1, _, rfl, rfl, (by decide), rfl⟩ | 1 => .inr ⟨_, 5, _, rfl, rfl, (by decide), rfl⟩ | 2 => .inl rfl | 3 => .inl rfl | 4 => .inl rfl | 5 => .inl rfl | 6 => .inl rfl | 7 => .inl rfl | 8 => .inl rfl | 9 => .inl rfl | 10 => .inl rfl | 11 => .inl rfl | _ + 12 => .inl rfl⟩) (SE.call2f U.g_popped (.head _) (KeepF.of U.f_popped.keep) (FN.mono (fn_popped U Z) (by decide)) (SE.name isv0 rfl) (fun _ _ => rfl) (SE.name isv1 rfl) (fun _ _ => rfl))) SE.none rfl) (SXs.cons (SX.ret (SE.bool _)) SXs.nil) SXs.nil) SXs.nil)) SXs.nil)) (SXs.cons (SX.ite (STs.bool (STs.or (ST.cmp (SE.call2f U.g_items_of (.tail _ (.tail _ (.tail _ (.tail _ (.tail _ (.tail _ (.tail _ (.tail _ (.head _))))))))) (KeepF.of U.f_items_of.keep) (FN.mono (fn_items_of U Z) (by decide)) (SE.name isv1 rfl) (fun _ _ => rfl) (SE.name isv5 rfl) (fun _ _ => rfl)) (SE.comp1 (Γ' := G41__law_row_right) (fun _ _ => rfl) (by decide +kernel) (by kernel_rfl) rfl (fun ⟨a0, a1, a2, a3, a4, a5, a6, a7, a8, a9, a10, a11⟩ k h => ⟨_, h, fun i => match i with | 0 => .inl rfl | 1 => .inl rfl | 2 => .inl rfl | 3 => .inl rfl | 4 => .inl rfl | 5 => .inl rfl | 6 => .inl rfl | 7 => .inl rfl | 8 => .inl rfl | 9 => .inl rfl | 10 => .inl rfl | 11 => .inl rfl | _ + 12 => .inl rfl⟩) (SI.ex (SE.name isv2 rfl)) (SG.name isg0 rfl (by decide)) TgtP.name SC.none (SE.call1f U.g__law_value (.head _) (KeepF.of U.f__law_value.keep) (FN.mono (fn__law_value U Z) (by decide)) (SE.name isv0 rfl) (fun _ _ => rfl))) rfl) (STs.oneOr (ST.cmp (SE.call2f U.g_sizes_of (.tail _ (.tail _ (.tail _ (.tail _ (.tail _ (.tail _ (.tail _ (.tail _ (.tail _ (.head _)))))))))) (KeepF.of U.f_sizes_of.keep) (FN.mono (fn_sizes_of U Z) (by decide)) (SE.name isv1 rfl) (fun _ _ => rfl) (SE.name isv5 rfl) (fun _ _ => rfl)) (SE.tup (.cons (SE.len U.g_len (.tail _ (.tail _ (.tail _ (.tail _ (.tail _ (.tail _ (.tail _ (.tail _ (.tail _ (.tail _ (.head _))))))))))) (SE.name isv2 rfl) (fun _ _ => rfl)) (fun _ _ => rfl) .nil)) rfl)))) (SXs.cons (SX.ret (SE.bool _)) SXs.nil) SXs.nil) SXs.nil))) TgtP.name (fun _ _ => rfl)) (SXs.cons (SX.ret (SE.bool _)) SXs.nil))))
theorem fn__law_row_right (U : Uni G) (Z : Sp G U) : FN G 17 (.ref U.a__law_row_right) 2 fun l σ k x => callF c__law_row_right (frOf (l ++ [])) σ k x :=
  FN.l ["pile", "heap"] U.f__law_row_right (by kernel_rfl) (by kernel_rfl) rfl rfl (ar2 fun v0 v1 _ _ _ _ _ _ _ _ => rfl) (r__law_row_right U Z)
end
end
end Mine
namespace Mine
section
open PySem PySem.W PyProof.Rows PySem.Calls PySem.Spec

theorem TR.put_intro (o : AO) (t : TR) : ∀ {i : Nat} {v : AO}, t.get i = some v → ∃ t', (∀ j, t'.get j = if j = i then some o else t.get j) ∧ ∀ k, t.putK o i k = k t' := by
  induction t with
  | lf => intro i v h; rw [TR.get_lf] at h; cases h
  | nd w l r ihl ihr =>
    intro i v h
    cases i with
    | zero =>
      refine ⟨.nd o l r, fun j => ?_, fun k => rfl⟩
      cases j with
      | zero => rfl
      | succ m => simp [TR.get]
    | succ m =>
      have h' : (if m % 2 = 0 then l.get (m / 2) else r.get (m / 2)) = some v := h
      cases hm : m % 2 with
      | zero =>
        rw [hm, if_pos rfl] at h'
        obtain ⟨l', e, q⟩ := ihl h'
        refine ⟨.nd w l' r, fun j => ?_, fun k => ?_⟩
        · cases j with
          | zero => rfl
          | succ p =>
            show (if p % 2 = 0 then l'.get (p / 2) else r.get (p / 2)) = if p + 1 = m + 1 then some o else if p % 2 = 0 then l.get (p / 2) else r.get (p / 2)
            by_cases hp : p % 2 = 0
            · rw [if_pos hp, if_pos hp, e]
              by_cases z : p = m
              · rw [if_pos (by rw [z]), if_pos (by rw [z])]
              · rw [if_neg (by omega), if_neg (by omega)]
            · rw [if_neg hp, if_neg hp, if_neg (by omega)]
        · show @Nat.rec (fun _ => Bool) (l.putK o (m / 2) fun l' => k (.nd w l' r)) (fun _ _ => r.putK o (m / 2) fun r' => k (.nd w l r')) (m % 2) = _
          rw [hm]
          exact q _
      | succ z =>
        rw [hm, if_neg (by omega)] at h'
        obtain ⟨r', e, q⟩ := ihr h'
        refine ⟨.nd w l r', fun j => ?_, fun k => ?_⟩
        · cases j with
          | zero => rfl
          | succ p =>
            show (if p % 2 = 0 then l.get (p / 2) else r'.get (p / 2)) = if p + 1 = m + 1 then some o else if p % 2 = 0 then l.get (p / 2) else r.get (p / 2)
            by_cases hp : p % 2 = 0
            · rw [if_pos hp, if_pos hp, if_neg (by omega)]
            · rw [if_neg hp, if_neg hp, e]
              by_cases y : p = m
              · rw [if_pos (by rw [y]), if_pos (by rw [y])]
              · rw [if_neg (by omega), if_neg (by omega)]
        · show @Nat.rec (fun _ => Bool) (l.putK o (m / 2) fun l' => k (.nd w l' r)) (fun _ _ => r.putK o (m / 2) fun r' => k (.nd w l r')) (m % 2) = _
          rw [hm]
          exact q _
theorem putO_intro (o : AO) {σ : Sto} {i : Nat} {v : AO} (h : σ.t.get i = some v) : ∃ σ', σ'.n = σ.n ∧ σ'.ns = σ.ns ∧ (∀ j, σ'.t.get j = if j = i then some o else σ.t.get j) ∧ ∀ k, putO i o σ k = k σ' := by
  obtain ⟨t, n, ns⟩ := σ
  obtain ⟨t', e, q⟩ := TR.put_intro o t h
  exact ⟨⟨t', n, ns⟩, rfl, rfl, e, fun k => q _⟩
theorem getO_intro {σ : Sto} {i : Nat} {v : AO} (h : σ.t.get i = some v) (k : AO → Bool) : getO i σ k = k v := by
  obtain ⟨t, n, ns⟩ := σ
  show TR.getK t i k = _
  rw [TR.getK_eq]
  show (match t.get i with | some v => k v | none => false) = _
  rw [show t.get i = some v from h]
theorem Rep.swap {G : Gd} {frs : List Env} {ω : Wd} {σ σ' : Sto} {h : Heap} {i : Nat} {ao : AO} (R : Rep G.toGl frs ω σ h) (hn : σ'.n = σ.n) (hns : σ'.ns = σ.ns) (hg : ∀ j, σ'.t.get j = if j = i then some ao else σ.t.get j) (hO : ∃ a, ω.ρ[i]? = some a ∧ OR G.toGl ω h a ao) : Rep G.toGl frs ω σ' h := by
  refine ⟨fun j o e => ?_, by rw [hn]; exact R.len, by rw [hns]; exact R.nu, R.nodup, R.low, R.lowz, R.sep, R.fzF, R.base, R.frames, R.glob⟩
  rw [hg] at e
  by_cases hj : j = i
  · subst hj
    rw [if_pos rfl] at e
    cases e
    exact hO
  · rw [if_neg hj] at e
    exact R.objs j o e
theorem small_of {i : Int} (h0 : 0 ≤ i) (h1 : i < 4611686018427387000) : small i = true := by
  cases i with
  | ofNat n =>
    have h : ((n : Nat) : Int) < 4611686018427387000 := h1
    exact blt_iff.mpr (by omega)
  | negSucc n => omega
theorem ifB_t {b x y : Bool} (hb : b = true) (hx : x = true) : ifB b x y = true := by subst hb; exact hx
theorem ifB_f {b x y : Bool} (hb : b = false) (hx : y = true) : ifB b x y = true := by subst hb; exact hx
theorem ltB_t {i j : Int} (h : i < j) : Z.ltB i j = true := (Z.ltB_iff _ _).mpr h
theorem ltB_f {i j : Int} (h : ¬ i < j) : Z.ltB i j = false := by
  cases e : Z.ltB i j with
  | false => rfl
  | true => exact absurd ((Z.ltB_iff _ _).mp e) h
theorem opMod_t {i j : Int} {σ : Sto} {k : KV} (hj : 0 < j) (h : k (.int (Int.fmod i j)) σ = true) : opMod (.int i) (.int j) σ k = true := by
  show ifB (Z.ltB 0 j) (fI (Int.fmod i j) fun r => k (.int r) σ) false = true
  refine ifB_t (ltB_t hj) ?_
  rw [fI_eq]
  exact h
theorem opDiv_t {i j : Int} {σ : Sto} {k : KV} (hj : 0 < j) (hj' : j < 4611686018427387000) (h : k (.int (Int.fdiv i j)) σ = true) : opDiv (.int i) (.int j) σ k = true := by
  show ifB (small j) (ifB (Z.ltB 0 j) (fI (Int.fdiv i j) fun r => k (.int r) σ) false) false = true
  refine ifB_t (small_of (Int.le_of_lt hj) hj') (ifB_t (ltB_t hj) ?_)
  rw [fI_eq]
  exact h
theorem nth1_t {u v : AV} {l : List AV} {k : AV → Bool} (h : k v = true) : nthK (u :: v :: l) 1 k = true := h
theorem vInt_t {i : Int} {fr : Fra} {σ : Sto} {k : KV} {x : KX} (h : k (.int i) σ = true) : vInt i fr σ k x = true := h
theorem opMod_b {i j : Int} {σ : Sto} {k : KV} (hj : 0 < j) (h : k (.int (Int.fmod i j)) σ = true) : binop .fmod (.int i) (.int j) σ k = true := opMod_t hj h
theorem opDiv_b {i j : Int} {σ : Sto} {k : KV} (hj : 0 < j) (hj' : j < 4611686018427387000) (h : k (.int (Int.fdiv i j)) σ = true) : binop .fdiv (.int i) (.int j) σ k = true := opDiv_t hj hj' h
/-- a draw, on a pile whose numbers are known -/
theorem next_eval {σ : Sto} {i : Nat} {x y : Int} {m : Nat} {k : KV} (hp : σ.t.get i = some (.list [.int x, .int y])) (hx : 0 ≤ x) (hy : 0 ≤ y) (hy' : y < 2147483647) (hm : 0 < m) (hm' : m < 4096)
    (hk : ∀ (d : Nat) (x' y' : Int) σ', d < m → 0 ≤ x' → x' ≤ x → 0 ≤ y' → y' < 2147483647 → σ'.n = σ.n → σ'.ns = σ.ns → (∀ j, σ'.t.get j = if j = i then some (.list [.int x', .int y']) else σ.t.get j) → k (.int (.ofNat d)) σ' = true) :
    callF c__law_next (frOf [.obj i, .int (.ofNat m)]) σ k noX = true := by
  have gO := getO_intro hp
  have hmm : (0 : Int) < ((m : Nat) : Int) := by omega
  show getO i σ _ = true
  rw [gO]
  show ifB (Z.ltB 0 x) _ _ = true
  have nat : ∀ z : Int, ∃ d : Nat, Int.fmod z ((m : Nat) : Int) = .ofNat d ∧ d < m := fun z => by
    have e := Int.fmod_eq_emod_of_nonneg z (Int.le_of_lt hmm)
    have h1 := Int.emod_nonneg z (show ((m : Nat) : Int) ≠ 0 by omega)
    have h2 := Int.emod_lt_of_pos z hmm
    refine ⟨(z % ((m : Nat) : Int)).toNat, ?_, by omega⟩
    rw [e]
    exact (Int.toNat_of_nonneg h1).symm
  by_cases hx0 : 0 < x
  · refine ifB_t (ltB_t hx0) ?_
    show getO i σ _ = true
    rw [gO]
    show ifB (Z.ltB 0 ((m : Nat) : Int)) (fI (Int.fmod x ((m : Nat) : Int)) _) false = true
    refine ifB_t (ltB_t hmm) ?_
    rw [fI_eq]
    show getO i σ _ = true
    rw [gO]
    show ifB (small ((m : Nat) : Int)) (ifB (Z.ltB 0 ((m : Nat) : Int)) (fI (Int.fdiv x ((m : Nat) : Int)) _) false) false = true
    refine ifB_t (small_of (by omega) (by omega)) (ifB_t (ltB_t hmm) ?_)
    rw [fI_eq]
    show getO i σ _ = true
    rw [gO]
    show putO i (.list [.int (Int.fdiv x ((m : Nat) : Int)), .int y]) σ _ = true
    obtain ⟨σ', h1, h2, h3, q⟩ := putO_intro (.list [.int (Int.fdiv x ((m : Nat) : Int)), .int y]) hp
    rw [q]
    show k (.int (Int.fmod x ((m : Nat) : Int))) σ' = true
    obtain ⟨d, e, hd⟩ := nat x
    rw [e]
    have e2 : Int.fdiv x ((m : Nat) : Int) = x / ((m : Nat) : Int) := Int.fdiv_eq_ediv_of_nonneg x (Int.le_of_lt hmm)
    exact hk d _ y σ' hd (by rw [e2]; exact Int.ediv_nonneg hx (Int.le_of_lt hmm)) (by rw [e2]; exact Int.ediv_le_self _ hx) hy hy' h1 h2 h3
  · refine ifB_f (ltB_f hx0) ?_
    show getO i σ _ = true
    rw [gO]
    show ifB (small y) (ifB (small 48271) (fI (Int.mul y 48271) _) false) false = true
    refine ifB_t (small_of hy (by omega)) (ifB_t rfl ?_)
    rw [fI_eq]
    refine vInt_t ?_
    refine opMod_b (by decide) ?_
    show getO i σ _ = true
    rw [gO]
    have b1 : Int.fmod (Int.mul y 48271) 2147483647 = (y * 48271) % 2147483647 := Int.fmod_eq_emod_of_nonneg _ (by decide)
    have b2 := Int.emod_nonneg (y * 48271) (show (2147483647 : Int) ≠ 0 by decide)
    have b3 := Int.emod_lt_of_pos (y * 48271) (show (0 : Int) < 2147483647 by decide)
    generalize Int.fmod (Int.mul y 48271) 2147483647 = y' at b1 ⊢
    show putO i (.list [.int x, .int y']) σ _ = true
    obtain ⟨σ', h1, h2, h3, q⟩ := putO_intro (.list [.int x, .int y']) hp
    rw [q]
    have gO' := getO_intro (σ := σ') (i := i) (v := .list [.int x, .int y']) (by rw [h3, if_pos rfl])
    show getO i σ' _ = true
    rw [gO']
    refine nth1_t ?_
    refine vInt_t ?_
    refine opDiv_b (by decide) (by decide) ?_
    show ifB (Z.ltB 0 ((m : Nat) : Int)) (fI (Int.fmod (Int.fdiv y' 16) ((m : Nat) : Int)) _) false = true
    refine ifB_t (ltB_t hmm) ?_
    rw [fI_eq]
    show k (.int (Int.fmod (Int.fdiv y' 16) ((m : Nat) : Int))) σ' = true
    obtain ⟨d, e, hd⟩ := nat (Int.fdiv y' 16)
    rw [e]
    exact hk d x y' σ' hd hx (Int.le_refl _) (by omega) (by omega) h1 h2 h3
/-- a draw -/
theorem next_ok {G : Gd} (U : Uni G) {A : Around} {frs : List Env} {ω : Wd} {σ : Sto} {s : Shared} {vp vm : Value} {i m : Nat} (hA : Room A 1) (hF : A.frames = some frs) (R : Rep G.toGl frs ω σ s.heap) (Vp : VR ω s.heap vp (.obj i)) (hp : σ.t.get i = some .pile) (Vm : VR ω s.heap vm (.int (.ofNat m))) (hm : 0 < m) (hm' : m < 4096) :
    wpAny (model G.prog G.w) A (call (.ref U.a__law_next) [vp, vm]) (fun v s' => ∃ (d : Nat) (t : Tok) (ω' : Wd), v = .int ((d : Nat) : Int) t ∧ d < m ∧ St G frs [] ω s ω' σ s') (fun _ _ => False) s := by
  obtain ⟨a, ea, x, y, t, u, p, hx, hy, hx', hy'⟩ := R.objs i _ hp
  obtain ⟨σ₁, h1, h2, h3, _⟩ := putO_intro (.list [.int x, .int y]) hp
  have R₁ : Rep G.toGl frs ω σ₁ s.heap := R.swap h1 h2 h3 ⟨a, ea, [.int x t, .int y u], p, .cons (.int x t) (.cons (.int y u) .nil)⟩
  let P : AV → Sto → Prop := fun av σ' => ∃ (d : Nat) (x' y' : Int), av = .int (.ofNat d) ∧ d < m ∧ 0 ≤ x' ∧ x' ≤ x ∧ 0 ≤ y' ∧ y' < 2147483647 ∧ σ'.n = σ₁.n ∧ σ'.ns = σ₁.ns ∧ ∀ j, σ'.t.get j = if j = i then some (.list [.int x', .int y']) else σ₁.t.get j
  let k : KV := fun av σ' => @decide (P av σ') (Classical.propDecidable _)
  have q : callF c__law_next (frOf [.obj i, .int (.ofNat m)]) σ₁ k noX = true := next_eval (by rw [h3, if_pos rfl]) hx hy hy' hm hm' fun d x' y' σ' a1 a2 a3 a4 a5 a6 a7 a8 => by
    have : P (.int (.ofNat d)) σ' := ⟨d, x', y', rfl, a1, a2, a3, a4, a5, a6, a7, a8⟩
    exact @decide_eq_true _ (Classical.propDecidable _) this
  refine wpAny_mono ((fn__law_next U).call (l := [.obj i, .int (.ofNat m)]) hA hF R₁ (.cons Vp (.cons Vm .nil)) rfl q) (fun v s' z => ?_) fun _ _ z => z.no
  obtain ⟨av, ω', σ', hk, S, V⟩ := z
  have hP : P av σ' := @of_decide_eq_true _ (Classical.propDecidable _) hk
  obtain ⟨d, x', y', rfl, a1, a2, a3, a4, a5, a6, a7, a8⟩ := hP
  obtain ⟨w, rfl⟩ := V.int_inv
  have R' : Rep G.toGl frs ω' σ s'.heap := by
    obtain ⟨b, eb, vs, pb, vb⟩ := S.rep.objs i (.list [.int x', .int y']) (by rw [a8, if_pos rfl])
    obtain ⟨v1, v2, rfl, V1, V2⟩ := vb.two_inv
    obtain ⟨w1, rfl⟩ := V1.int_inv
    obtain ⟨w2, rfl⟩ := V2.int_inv
    refine S.rep.swap (ao := .pile) (i := i) (by rw [a6, h1]) (by rw [a7, h2]) (fun j => ?_) ⟨b, eb, x', y', w1, w2, pb, a2, a4, by omega, a5⟩
    by_cases hj : j = i
    · subst hj; rw [if_pos rfl, hp]
    · rw [if_neg hj, a8, if_neg hj, h3, if_neg hj]
  exact ⟨d, w, ω', rfl, a1, S.step, R', S.gens, S.drawn, S.os⟩
end
end Mine
namespace Mine
section
open PySem PySem.W PyProof.Rows PySem.Calls PySem.Spec

theorem allN_inv : ∀ {n : Nat} {p : Nat → Bool}, allN n p = true → ∀ d, d < n → p d = true
  | 0, _, _, d, hd => absurd hd (Nat.not_lt_zero _)
  | n + 1, p, h, d, hd => by
    obtain ⟨h1, h2⟩ := ifB_inv (show ifB (p n) (allN n p) false = true from h)
    by_cases e : d = n
    · rw [e]; exact h1
    · exact allN_inv h2 d (by omega)
theorem pileK_inv {u : AV} {σ : Sto} {k : Bool} (h : pileK u σ k = true) : ∃ i, u = .obj i ∧ σ.t.get i = some .pile ∧ k = true := by
  cases u with
  | obj i =>
    obtain ⟨o, e, q⟩ := getO_inv (k := fun o => _) h
    cases o with
    | pile => exact ⟨i, rfl, e, q⟩
    | _ => exact (nomatch (show false = true from q))
  | _ => exact (nomatch (show false = true from h))
section
variable {G : Gd} {frs : List Env} {X : List Addr} {ω ω' : Wd} {σ σ' : Sto} {s s' : Shared}
/-- a letter for a number -/
theorem St.letter (S : St G frs X ω s ω' σ' s') (d : Int) : St G frs X ω s { ω' with ν := ω'.ν ++ [d] } { σ' with ns := σ'.ns + 1 } s' := by
  have R := S.rep
  have L : Later ω' s'.heap { ω' with ν := ω'.ν ++ [d] } s'.heap := ⟨fun _ q => q, fun _ _ q => q, fun _ _ q => nth_append q, fun _ _ _ e => e⟩
  obtain ⟨n, en⟩ := S.step.nu
  exact ⟨⟨S.step.alive, S.step.rho, S.step.fz, S.step.fz', ⟨n ++ [d], by rw [en, List.append_assoc]⟩, S.step.keep⟩,
    ⟨fun i o e => by obtain ⟨a, ea, oa⟩ := R.objs i o e; exact ⟨a, ea, oa.later L fun _ e => e⟩, R.len, by simp [R.nu], R.nodup, R.low, R.lowz, R.sep, R.fzF, R.base, R.frames, R.glob⟩, S.gens, S.drawn, S.os⟩
end
section
variable {G : Gd}
theorem sp_next (U : Uni G) {n : Nat} {Γ : Ct} {p m : CV} {ep em : Expr} {np pos : Pos} (hn : 3 ≤ n) (hx : ("_law_next" : Str) ∈ Γ.globs) (hp : SE G n Γ p ep) (sp : Star ep) (hm : SE G n Γ m em) (sm : Star em) :
    SE G n Γ (vNext p m) (.Call (.Name "_law_next" np) [ep, em] [] pos) := by
  intro A frs env X fr ω σ s k x hA hFr R F h
  refine callName (k := K2 fun u v σ => natK v fun n => pileK u σ (ifB (Nat.blt n 64) (ifB (Nat.blt 0 n) (allN n fun d => fN d fun d => k (.int (.ofNat d)) σ) false)
    (ifB (Nat.blt n 4096) (@Sto.rec (fun _ => Bool) (fun t m j => fN j fun j => k (.sym j) ⟨t, m, Nat.succ j⟩) σ) false))) U.g__law_next hx (KeepF.of U.f__law_next.keep) (.cons hp sp (.cons hm sm .nil)) hA hFr R F h fun vs s₁ l ω₁ σ₁ hl S V q => ?_
  obtain ⟨u, v, rfl, q1⟩ := K2_inv q
  obtain ⟨vu, vv, rfl, Vu, Vv⟩ := V.two_inv
  obtain ⟨m, rfl, q2⟩ := natK_inv q1
  obtain ⟨i, rfl, hp, q3⟩ := pileK_inv q2
  rw [ifB_eq] at q3
  by_cases h64 : m < 64
  · rw [if_pos (blt_iff.mpr h64)] at q3
    obtain ⟨h0, q4⟩ := blt_inv q3
    refine wpAny_mono (next_ok U (hA.lt (by omega)) hFr S.rep Vu hp Vv h0 (by omega)) (fun v s₂ z => ?_) fun _ _ z => z.elim
    obtain ⟨d, t, ω₂, rfl, hd, S₂⟩ := z
    have hk := allN_inv q4 d hd
    rw [fN_eq] at hk
    exact ⟨_, ω₂, σ₁, hk, S.then S₂, .int _ t⟩
  · rw [if_neg (fun q => h64 (blt_iff.mp q))] at q3
    obtain ⟨h4, q4⟩ := blt_inv q3
    refine wpAny_mono (next_ok U (hA.lt (by omega)) hFr S.rep Vu hp Vv (by omega) h4) (fun v s₂ z => ?_) fun _ _ z => z.elim
    obtain ⟨d, t, ω₂, rfl, hd, S₂⟩ := z
    have S₃ := (S.then S₂).letter ((d : Nat) : Int)
    have hnu := S₂.rep.nu
    obtain ⟨tt, mm, jj⟩ := σ₁
    have hk : (fN jj fun j => k (.sym j) ⟨tt, mm, Nat.succ j⟩) = true := q4
    rw [fN_eq] at hk
    refine ⟨.sym jj, _, _, hk, S₃, .sym t ?_⟩
    have hnu' : ω₂.ν.length = jj := hnu
    show (ω₂.ν ++ [((d : Nat) : Int)])[jj]? = _
    rw [← hnu']
    simp
theorem sp_nextPos (U : Uni G) {n : Nat} {Γ : Ct} {p m : CV} {ep em : Expr} {np pos cp pos' : Pos} {kd : Nat} (hn : 3 ≤ n) (hx : ("_law_next" : Str) ∈ Γ.globs) (hp : SE G n Γ p ep) (sp : Star ep) (hm : SE G n Γ m em) (sm : Star em) :
    ST G n Γ (tNextPos p m) (.Compare (.Call (.Name "_law_next" np) [ep, em] [] pos) [.Gt] [.Constant (.int 0) kd cp] pos') := by
  intro A frs env X fr ω σ s k x hA hFr R F h
  refine wpAny_isTrue_Compare1 (callName (k := K2 fun u v σ => natK v fun n => pileK u σ (ifB (Nat.blt 0 n) (ifB (Nat.blt n 4096) (ifB (k false σ) (k true σ) false) false) false)) U.g__law_next hx (KeepF.of U.f__law_next.keep) (.cons hp sp (.cons hm sm .nil)) hA hFr R F h fun vs s₁ l ω₁ σ₁ hl S V q => ?_) rfl
  obtain ⟨u, v, rfl, q1⟩ := K2_inv q
  obtain ⟨vu, vv, rfl, Vu, Vv⟩ := V.two_inv
  obtain ⟨m, rfl, q2⟩ := natK_inv q1
  obtain ⟨i, rfl, hp, q3⟩ := pileK_inv q2
  obtain ⟨h0, q4⟩ := blt_inv q3
  obtain ⟨h4, q5⟩ := blt_inv q4
  obtain ⟨k1, k2⟩ := ifB_inv q5
  refine wpAny_mono (next_ok U (hA.lt (by omega)) hFr S.rep Vu hp Vv h0 h4) (fun v s₂ z => ?_) fun _ _ z => z.elim
  obtain ⟨d, t, ω₂, rfl, hd, S₂⟩ := z
  refine wpAny_Constant_int (gt_int (wpAny_truthy_bool ?_))
  refine ⟨ω₂, σ₁, ?_, (S.then S₂).then (St.toks S₂.rep _)⟩
  cases decide ((0 : Int) < ((d : Nat) : Int)) with
  | true => exact k2
  | false => exact k1
end
end
end Mine
namespace Mine
section
open PySem PySem.W PyProof.Rows PySem.Calls PySem.Spec

section
variable {G : Gd} {frs : List Env} {ω : Wd} {σ : Sto} {s₀ s : Shared} {env : Env} {i : Nat} {v : Value}
/-- an exception comes to its handler -/
theorem note_ok {A : Around} {E : Value → Shared → Prop} {L : Addr} {Q : Shared → Prop} (hF : A.frames = some (env :: frs)) (hf : env.frame = some L) (R : Rep G.toGl (env :: frs) ω σ s.heap) (hfl : Flies ω σ i v s₀ s) (hs₀ : ∀ a, s.heap.get? a = none → s₀.heap.get? a = none)
    (hb₀ : ∀ a o, G.base.get? a = some o → ∃ o', s₀.heap.get? a = some o')
    (h : ∀ Z s', (∀ a ∈ Z, s₀.heap.get? a = none) → St G (env :: frs) Z ω s ω σ s' → Flies ω σ i v s₀ s' → Q s') : wpAny (model G.prog G.w) A (noteFrame v env) (fun _ s' => wpAny (model G.prog G.w) A (setFlight v none) (fun _ s'' => Q s'') E s') E s := by
  obtain ⟨av, a, o, vs, h1, rfl, h3, h4, h5, h6, h7⟩ := hfl
  obtain ⟨c, d, dt, sl⟩ := o
  cases h5
  rcases h7 with q | ⟨T, oT, ts, q1, q2, q3, q4, q5, q6, q7, q8⟩
  · refine note_first hF R.frames hf h4 q fun h' T x => ?_
    obtain ⟨S, Fl⟩ := x.ok (s₀ := s₀) R h1 h3 h4 h6 (fun _ z => nomatch z) hs₀ s.toks
    exact h [] _ (fun _ z => nomatch z) S Fl
  · have nF : T ∉ fr_ (env :: frs) := fun q => by
      obtain ⟨_, o, ho, hnf⟩ := R.frames.mem q
      rw [q6] at ho; cases ho; exact hnf ts q7
    have nB : G.base.get? T = none := by
      cases e : G.base.get? T with
      | none => rfl
      | some o => obtain ⟨o', ho'⟩ := hb₀ T o e; rw [q3] at ho'; cases ho'
    refine note_next hF R.frames hf h4 q1 q2 q6 q7 q8 fun h' T' x => ?_
    obtain ⟨S, Fl⟩ := x.ok (s₀ := s₀) R h1 h3 h4 h6 (fun b hb => by rw [List.mem_singleton.mp hb]; exact ⟨q3, q4, q5, nB, nF⟩) hs₀ s.toks
    exact h [T] _ (fun b hb => by rw [List.mem_singleton.mp hb]; exact q3) S Fl
/-- its flight is over -/
theorem land_ok {A : Around} {E : Value → Shared → Prop} {Q : Shared → Prop} (R : Rep G.toGl frs ω σ s.heap) (hfl : Flies ω σ i v s₀ s) (hb₀ : ∀ a o, G.base.get? a = some o → ∃ o', s₀.heap.get? a = some o')
    (h : ∀ Z s', (∀ a ∈ Z, s₀.heap.get? a = none) → St G frs Z ω s ω σ s' → Q s') : wpAny (model G.prog G.w) A (setFlight v none) (fun _ s'' => Q s'') E s := by
  obtain ⟨av, a, o, vs, h1, rfl, h3, h4, h5, h6, h7⟩ := hfl
  unfold setFlight
  rcases h7 with q | ⟨T, oT, ts, q1, q2, q3, q4, q5, q6, q7, q8⟩
  · refine wpAny_bind (wpAny_field h4 h5 q ?_)
    rw [if_neg (by decide)]
    exact wpAny_pure (h [] s (fun _ z => nomatch z) (St.refl R))
  · refine wpAny_bind (wpAny_field h4 h5 q1 ?_)
    rw [if_pos (show (Value.ref T != Value.none) = true from by simp)]
    have nF : T ∉ fr_ frs := fun q => by
      obtain ⟨_, o, ho, hnf⟩ := R.frames.mem q
      rw [q6] at ho; cases ho; exact hnf ts q7
    have nB : G.base.get? T = none := by
      cases e : G.base.get? T with
      | none => rfl
      | some o => obtain ⟨o', ho'⟩ := hb₀ T o e; rw [q3] at ho'; cases ho'
    refine wpAny_setField q6 q7 (Array.getElem?_eq_some_iff.mp q8).1 (h [T] _ (fun b hb => by rw [List.mem_singleton.mp hb]; exact q3) ?_)
    have lT : Loose G.toGl frs [] ω s.heap T := ⟨q4, q5, nB, nF, fun z => (nomatch z), ⟨_, q6⟩⟩
    have hd₂ := Obj.data_mapFields q7 (·.setIfInBounds 3 ((none : Option Addr).elim Value.none fun f => rawInt f))
    exact St.looseAll (s := s) (X := []) R (fun y hy => by rw [List.mem_singleton.mp hy]; exact lT) (fun b o hb e => (Heap.get?_update_other _ _ (fun q => hb (by rw [q]; exact .head _))).trans e)
      (fun y hy => by rw [List.mem_singleton.mp hy]; exact ⟨_, Heap.get?_update_self _ q6 (Obj.isFreed_of_fields hd₂)⟩) s.toks
/-- a place of the store is written anew, and new things are made -/
theorem St.turnNew (R : Rep G.toGl frs ω σ s.heap) {a : Addr} {ao : AO} (ha : ω.ρ[i]? = some a) (hi : σ.t.get i = some ao) {h' : Heap} (hk : ∀ b o, b ≠ a → s.heap.get? b = some o → h'.get? b = some o) (hal : ∃ o, h'.get? a = some o) (new : List Addr)
    (hn : ∀ b ∈ new, s.heap.get? b = none ∧ ∃ o, h'.get? b = some o) (t : Nat) (hO : Later ω s.heap { ω with fz := new ++ ω.fz } h' → OR G.toGl { ω with fz := new ++ ω.fz } h' a ao) : St G frs [] ω s { ω with fz := new ++ ω.fz } σ { s with heap := h', toks := t } := by
  have ham : a ∈ ω.ρ := List.mem_of_getElem? ha
  have nf : a ∉ ω.fz := (R.sep a ham).1
  have L : Later ω s.heap { ω with fz := new ++ ω.fz } h' := ⟨fun a q => List.mem_append_right _ q, fun _ _ q => q, fun _ _ q => q, fun b hb o e => hk b o (fun q => nf (q ▸ hb)) e⟩
  have al : ∀ b o, s.heap.get? b = some o → ∃ o', h'.get? b = some o' := fun b o e => by
    by_cases hb : b = a
    · rw [hb]; exact hal
    · exact ⟨o, hk b o hb e⟩
  refine ⟨⟨al, ⟨[], by simp, fun _ q => nomatch q⟩, L.fz, fun b hb => ?_, ⟨[], by simp⟩, fun b o e hb _ => .inl (hk b o (fun q => hb (q ▸ ham)) e)⟩,
    ⟨fun j o e => ?_, R.len, R.nu, R.nodup, fun b q => by obtain ⟨o, ho⟩ := R.low b q; exact al b o ho, fun b q => ?_, fun b q => ?_, fun b q => ?_, fun b o e => hk b o (fun q => ?_) (R.base b o e), ?_, fun b q => List.mem_append_right _ (R.glob b q)⟩, rfl, rfl, rfl⟩
  · rcases List.mem_append.mp hb with q | q
    · exact .inr (hn b q).1
    · exact .inl q
  · obtain ⟨b, eb, ob⟩ := R.objs j o e
    by_cases hj : j = i
    · subst hj
      rw [hi] at e
      cases e
      exact ⟨a, ha, hO L⟩
    · refine ⟨b, eb, ob.later L fun o e => hk b o (fun q => ?_) e⟩
      subst q
      obtain ⟨x, ex⟩ := List.getElem?_eq_some_iff.mp eb
      obtain ⟨y, ey⟩ := List.getElem?_eq_some_iff.mp ha
      exact hj ((List.getElem_inj R.nodup).mp (ex.trans ey.symm))
  · rcases List.mem_append.mp q with q | q
    · exact (hn b q).2
    · obtain ⟨o, ho⟩ := R.lowz b q; exact al b o ho
  · refine ⟨fun z => ?_, (R.sep b q).2⟩
    rcases List.mem_append.mp z with z | z
    · exact live_ne (R.low b q) (hn b z).1 rfl
    · exact (R.sep b q).1 z
  · rcases List.mem_append.mp q with q | q
    · exact fun z => live_ne (R.frLow b z) (hn b q).1 rfl
    · exact R.fzF b q
  · rw [q, (R.sep a ham).2.1] at e; cases e
  · exact funFrames_on R.frames fun b hb o e hd => ⟨o, hk b o (fun q => (R.sep a ham).2.2 (q ▸ hb)) e, hd⟩
end
theorem codeAmong_app {p : Pos} {cv line col c : Value} {i j : Int} {t u : Tok} : ∀ {l : List Value}, TriplesOk l → codeAmong p (l ++ [.int i t, .int j u, c]) = some cv → codeAmong p l = some cv ∨ cv = c
  | [], _, h => by
    right
    simp only [List.nil_append, codeAmong] at h
    split at h
    · cases h; rfl
    · cases h
  | .int a b :: .int d e :: x :: r, ht, h => by
    simp only [List.cons_append, codeAmong] at h ⊢
    split at h
    · rename_i q; rw [if_pos q]; exact .inl h
    · rename_i q; rw [if_neg q]; exact codeAmong_app (line := line) (col := col) (l := r) ht h
theorem triples_app {i j : Int} {t u : Tok} {c : Value} : ∀ {l : List Value}, TriplesOk l → TriplesOk (l ++ [.int i t, .int j u, c])
  | [], _ => trivial
  | .int a b :: .int d e :: x :: r, ht => triples_app (l := r) ht
end
end Mine
namespace Mine
section
open PySem PySem.W PyProof.Rows PySem.Calls PySem.Spec

theorem lam_q : ∀ {f : Nat}, f < 3 → lamPre f ++ ("<lambda>" : Str) = lamQ f
  | 0, _ => by decide +kernel
  | 1, _ => by decide +kernel
  | 2, _ => by decide +kernel
  | n + 3, h => absurd h (by omega)
section
variable {G : Gd} {frs : List Env} {ω : Wd} {σ : Sto} {s : Shared} {env : Env} {Γ Γ' : Ct}
/-- the function of a lambda is made -/
theorem lam_made (bm : ∃ bm ob, G.mg "__builtins__" = some (.ref bm) ∧ bm ≠ builtinsNs ∧ bm ≠ mainGlobals ∧ G.base.get? bm = some ob ∧ ob.cls = .type "module" ∧ ob.dict = some builtinsNs ∧ ob.data = .plain)
    {A : Around} {X : List Addr} {fr : Fra} {f : Nat} {b : Expr} {sc : Scope} {lp : Pos} {clos : List (Str × Addr)} (hco : Γ.code = some (G.lamC f, lamPre f)) (hf : f < 3) (hT : σ.t.get f = some (.tab f)) (R : Rep G.toGl frs ω σ s.heap) (F : FrOK G.toGl frs Γ env X fr ω s.heap)
    (hcl : closureFor sc env = pure clos) :
    wpAny (model G.prog G.w) A (eval (.Lambda noArgs b sc lp) env) (fun v s₁ => ∃ fa cv ctv pm ω₁, v = .ref fa ∧ s₁.heap.get? fa = some { cls := .type "function", data := .func (kla_fn "<lambda>" (lamQ f) noArgs b sc clos pm cv ctv) } ∧ s₁.heap.CodeRec cv (lamQ f) ∧
      s.heap.get? fa = none ∧ St G frs [] ω s ω₁ σ s₁) (fun _ _ => False) s := by
  obtain ⟨P, eP, ps, hP, htr, hps, hCd⟩ := R.objs f _ hT
  obtain ⟨hc1, hc2⟩ := F.e.code _ _ hco
  obtain ⟨bma, ob, b1, b2, b3, b4, b5, b6, b7⟩ := bm
  have hPρ : P ∈ ω.ρ := List.mem_of_getElem? eP
  have hPb := (R.sep P hPρ).2.1
  have hkb : ∀ a o, G.base.get? a = some o → s.heap.get? a = some o := R.base
  have hgP : mainGlobals ≠ P := fun q => by
    obtain ⟨o, _, _, ho, _⟩ := G.hg
    rw [q, hPb] at ho; cases ho
  have hbP : bma ≠ P := fun q => by rw [q, hPb] at b4; cases b4
  have hC := hCd.keeps hkb
  refine kla_eval rfl ?_
  rw [hc2, lam_q hf]
  cases hca : codeAmong lp ps.toList with
  | some cv =>
    obtain ⟨c, rfl, hcf, hrec⟩ := hps lp cv hca
    refine kla_makeFunctionHit (mg := G.mg) hcl F.e.glob (G.hg.keeps hkb) hc1 hC hP htr hca ⟨bma, ob, b1, b2, b3, hbP, hkb _ _ b4, b5, b6, b7⟩ fun ctv h' tk hk hsz => ?_
    have T₁ : St G frs [] ω s ω σ { s with heap := h', toks := tk } := St.keep0 (s := s) R hk tk
    have T₂ : St G frs [] ω { s with heap := h', toks := tk } ω σ { s with heap := h'.push { cls := .type "function", data := .func (kla_fn "<lambda>" (lamQ f) noArgs b sc clos ((G.mg "__name__").getD .none) (.ref c) ctv) }, toks := tk } :=
      St.keep0 (s := { s with heap := h', toks := tk }) T₁.rep (fun b o e => Heap.get?_push_of_some _ e) tk
    exact ⟨_, .ref c, ctv, _, ω, rfl, Heap.get?_push_size _ rfl, (hrec.keeps hk).push _, T₁.step.back (push_none _), T₁.then T₂⟩
  | none =>
    refine kla_makeFunction (mg := G.mg) hcl F.e.glob (G.hg.keeps hkb) hc1 hC hP htr hca hgP ⟨bma, ob, b1, b2, b3, hbP, hkb _ _ b4, b5, b6, b7⟩ fun c' ctv h' tk hx hge hlt hrec htb => ?_
    obtain ⟨c₂, oc, vs, t, e2, hoc, hd, hv⟩ := id hrec
    cases e2
    have hk : ∀ b o, b ≠ P → s.heap.get? b = some o → h'.get? b = some o := fun b o hb e => hx b o hb e
    have hcn : s.heap.get? c' = none := Heap.get?_none_of_le hge
    have T₁ : St G frs [] ω s { ω with fz := [c'] ++ ω.fz } σ { s with heap := h', toks := tk } := St.turnNew (s := s) R eP hT hk ⟨_, htb⟩ [c'] (fun b hb => by rw [List.mem_singleton.mp hb]; exact ⟨hcn, _, hoc⟩) tk fun L => by
      refine ⟨_, htb, ?_, fun pos cv e => ?_, hCd⟩
      · simp only [Array.toList_append]
        exact triples_app htr
      · simp only [Array.toList_append] at e
        rcases codeAmong_app (line := .none) (col := .none) htr e with e | rfl
        · obtain ⟨c, rfl, hcf, c3, oc3, vs3, t3, z1, z2, z3⟩ := hps pos cv e
          cases z1
          exact ⟨c, rfl, List.mem_append_right _ hcf, c, oc3, vs3, t3, rfl, L.keep _ hcf _ z2, z3⟩
        · exact ⟨c', rfl, .head _, hrec⟩
    have T₂ : St G frs [] { ω with fz := [c'] ++ ω.fz } { s with heap := h', toks := tk } { ω with fz := [c'] ++ ω.fz } σ { s with heap := h'.push (kla_obj "<lambda>" (lamQ f) noArgs b sc clos ((G.mg "__name__").getD .none) c' ctv), toks := tk } :=
      St.keep0 (s := { s with heap := h', toks := tk }) T₁.rep (fun b o e => Heap.get?_push_of_some _ e) tk
    exact ⟨_, .ref c', ctv, _, _, rfl, Heap.get?_push_size _ rfl, hrec.push _, T₁.step.back (push_none _), T₁.then T₂⟩
/-- it is called -/
theorem lam_call {n : Nat} {A : Around} {fa : Addr} {b : Expr} {sc : Scope} {clos : List (Str × Addr)} {pm cv ctv : Value} {q : Str} {c : CV} {fr' : Fra} {k : KV} {x : KX} (hA : Room A (n + 1)) (hF : A.frames = some frs) (R : Rep G.toGl frs ω σ s.heap)
    (hfa : s.heap.get? fa = some { cls := .type "function", data := .func (kla_fn "<lambda>" q noArgs b sc clos pm cv ctv) }) (hcr : s.heap.CodeRec cv q) (hsc : ScOK Γ' sc) (hco : Γ'.code = none) (hcap : ∀ (i : Nat) x k, Γ'.vars[i]? = some (x, k) → k = .cap) (hnc : ∀ y ∈ sc.names, y.2 ≠ .cell)
    (hgen : sc.isGenerator = false) (hcor : sc.isCoroutine = false) (hcel : ∀ (i : Nat) x k, Γ'.vars[i]? = some (x, k) → ∃ c v, clos.lookup x = some c ∧ s.heap.IsCell c v ∧ c ∉ ω.ρ ∧ CelR ω s.heap v (fr'.get i)) (hap : ∀ x y c, clos.lookup x = some c → clos.lookup y = some c → x = y)
    (hb : SE G n Γ' c b) (h : c fr' σ k x = true) : wpAny (model G.prog G.w) A (call (.ref fa) []) (OkV G frs [] ω s k) (ExV G frs [] ω s x) s := by
  have hkb : ∀ b o, G.base.get? b = some o → s.heap.get? b = some o := R.base
  have hlim : s.heap.NoLimit := G.nolimit.keeps hkb
  refine wpAny_call ?_
  refine kla_callFunE (by have := hA.2.1; omega) hfa rfl hcor hgen rfl hcr ?_
  rw [show bindArgs (kla_fn "<lambda>" q noArgs b sc clos pm cv ctv) ⟨[], []⟩ = pure [] from rfl]
  refine wpAny_pure (wpAny_newFunctionEnv hnc (fun _ z => nomatch z) (fun h₁ hns hsb => ⟨hlim.fresh _ hsb, ?_⟩) hsc.kind)
  have hk₁ : ∀ b o, s.heap.get? b = some o → h₁.get? b = some o := fun b o e => hsb.extBut b o (Nat.ne_of_lt (Heap.lt_size e)) (Heap.get?_push_of_some _ e)
  have hnew := push_none s.heap
  have T : St G frs [] ω s ω σ { s with heap := h₁, toks := s.toks + 0 } := St.keep0 (s := s) R hk₁ _
  have L := T.later R
  have newL : s.heap.objs.size ∉ ω.ρ ∧ s.heap.objs.size ∉ ω.fz ∧ G.base.get? s.heap.objs.size = none := ⟨fun q => live_ne (R.low _ q) hnew rfl, fun q => live_ne (R.lowz _ q) hnew rfl, by
    cases e : G.base.get? s.heap.objs.size with
    | none => rfl
    | some o => have := R.base _ o e; rw [hnew] at this; cases this⟩
  have R' : Rep G.toGl (newEnv sc s.heap.objs.size mainGlobals clos (q ++ ".<locals>.") (some fa) cv none builtinsNs :: frs) ω σ h₁ := T.rep.push hsc.kind rfl hns newL.2.2 newL.1 newL.2.1
  have F' : FrOK G.toGl (newEnv sc s.heap.objs.size mainGlobals clos (q ++ ".<locals>.") (some fa) cv none builtinsNs :: frs) Γ' (newEnv sc s.heap.objs.size mainGlobals clos (q ++ ".<locals>.") (some fa) cv none builtinsNs) [s.heap.objs.size] fr' ω h₁ := by
    refine ⟨⟨hsc.kind, rfl, rfl, fun i x hx => (by cases hcap i x _ hx), fun i x hx => (by cases hcap i x _ hx), fun i x hx => .inl (hsc.vars i x _ hx), fun y hy => hsc.globs y hy, hsc.names, fun c q e => (by rw [hco] at e; cases e), hsc.dbg⟩, ⟨_, hns, fun i x hx => (by cases hcap i x _ hx)⟩, fun i x k hx hk => ?_, hap, .head _, fun a ha => ?_, fun a ha => ?_, ⟨_, rfl, _, rfl, rfl⟩⟩
    · obtain ⟨c, v, h1, h2, h3, h4⟩ := hcel i x k hx
      obtain ⟨o, ho, hd⟩ := h2
      refine ⟨c, v, h1, ⟨o, hk₁ _ _ ho, hd⟩, h3, fun q => ?_, fun q => (by rw [hcap i x k hx] at q; cases q), h4.later L⟩
      have q' : c = s.heap.objs.size := q
      rw [q', hnew] at ho; cases ho
    · rw [List.mem_singleton.mp ha]; obtain ⟨o, _, _, ho, _⟩ := hns; exact ⟨o, ho⟩
    · rw [List.mem_singleton.mp ha]; exact newL
  refine kla_codeExpr ?_
  refine wpAny_mono (hb (A.deeper (newEnv sc s.heap.objs.size mainGlobals clos (q ++ ".<locals>.") (some fa) cv none builtinsNs)) (newEnv sc s.heap.objs.size mainGlobals clos (q ++ ".<locals>.") (some fa) cv none builtinsNs :: frs) _ [s.heap.objs.size] fr' ω σ { s with heap := h₁, toks := s.toks + 0 } k x hA.deeper (Around.frames_deeper hF) R' F' h) (fun v s₂ z => ?_) fun e s₂ z => ?_
  · obtain ⟨av, ω₂, σ₂, hk, S, V⟩ := z
    exact ⟨av, ω₂, σ₂, hk, T.pop S rfl hnew (fun _ z => nomatch z), V⟩
  · obtain ⟨i, ω₂, σ₂, hk, S, Fl⟩ := z
    have S₀ := T.pop S rfl hnew (fun _ z => nomatch z)
    refine wpAny_mono (leave_ok (s₀ := s) (Q := fun s'' => ExV G frs [] ω s x e s'') (E := fun _ _ => False) (Around.frames_deeper hF) rfl S.rep (Fl.back fun a q => T.step.back q) (fun a q => S₀.step.back q) (fun a o q => ⟨o, R.base a o q⟩) fun Z s₃ hZ S₃ Fl₃ => ?_) (fun _ _ z => z) fun _ _ z => z.elim
    exact ⟨i, ω₂, σ₂, hk, S₀.pop S₃ rfl hnew hZ, Fl₃⟩
end
end
end Mine
namespace Mine
section
open PySem PySem.W PyProof.Rows PySem.Calls PySem.Spec

/-- what the class of what is thrown answers -/
structure ExcW (G : Gd) : Prop where
  ga : findIn G.K (.ref G.exc) "__getattribute__" = some (some (.builtin "BaseException.__getattribute__"))
  gm : findIn G.K (.ref G.exc) "__getattr__" = some none
  hd : hasDictIn G.K G.exc = true
  val : findIn G.K (.ref G.exc) "value" = some none
section
variable {prog : Program} {w : World} {A : Around} {E : Value → Shared → Prop} {s : Shared} {K : Frag} {x C : Addr} {ox : Obj} {od : Option Obj} {name : Str} {expr : Bool} {Q : Value → Shared → Prop}
theorem get_exc {v : Value} (X : K.In s.heap) (I : W.InstAt s.heap x ox C od) (hga : findIn K (.ref C) "__getattribute__" = some (some (.builtin "BaseException.__getattribute__"))) (hgm : findIn K (.ref C) "__getattr__" = some none)
    (hbase : subIn K (.ref C) (.type "BaseException") = some true) (hf : findObj K C od name = some (.value v)) (hh : handedIn v = true) (h : Q v { s with toks := s.toks + 1 }) : wpAny (model prog w) A (getAttr (.ref x) name expr) Q E s := by
  have L0 : Looks (model prog w) s.heap (typeOf (.ref x)) (.ref C) := I.type
  have L1 := looks_findIn (M := model prog w) X hga
  have L2 := looks_findIn (M := model prog w) X hgm
  have L3 := looks_find (M := model prog w) X I hf
  have L4 : Looks (model prog w) s.heap (isInstance (.ref x) (.type "BaseException")) true := L0.andThen (looks_subIn X hbase)
  have SL := PySem.F.attr_Exception.ga
  have hx2 : (Value.builtin "BaseException.__getattribute__" == Value.builtin "object.__getattribute__") = false := by decide +kernel
  obtain ⟨hh', g, d, t, os⟩ := s
  unfold getAttr getAttrBy
  refine wpAny_bind (wpAny_mkText (wpAny_holding (wpAny_bind (L0.at (wpAny_bind (L1.at ?_))))))
  dsimp only
  rw [hx2, Bool.and_false]
  simp only [Bool.false_eq_true, if_false]
  unfold getAttrByItsOwn
  refine wpAny_bind ?_
  show wpAny _ _ (typeLookup (.ref C) "__getattr__") _ _ _
  refine L2.at ?_
  refine wpAny_bind (wpAny_attempt (wpAny_holding ?_))
  unfold callGetattribute
  have hx0 : (expr && onTheHeap (Value.builtin "BaseException.__getattribute__")) = false := by cases expr <;> rfl
  rw [hx0]
  simp only [Bool.false_eq_true, if_false]
  unfold boundAndCalled
  rw [SL.bind (.ref x)]
  refine wpAny_bind (wpAny_pure ?_)
  refine wpAny_call (codeAny_call_builtin SL.plain PySem.F.entry_bexc_ga (check_slot (i := "BaseException.__getattribute__") (owner := "BaseException") (n := "__getattribute__") (by decide +kernel) (by decide +kernel) L4 (PySem.F.args_bexc_ga (.ref x) (.str name t)) ?_))
  refine wpAny_bind (wpAny_pure (wpAny_bind (wpAny_pure (wpAny_bind (L0.at (wpAny_bind (L3.at ?_)))))))
  refine wpAny_pure ?_
  show wpAny _ _ (handedOut v) _ _ _
  rw [handedOut_of hh]; exact wpAny_pure h
end
end
end Mine
namespace Mine
section
open PySem PySem.W PyProof.Rows PySem.Calls PySem.Spec

section
variable {G : Gd} {frs : List Env} {ω : Wd} {σ : Sto} {s : Shared} {Γ : Ct} {f : Addr} {fd : FuncData}
/-- a call of a function, its body at will -/
theorem call_raw {n : Nat} {body : List Stmt} {A : Around} {l : List AV} {binds : List (Str × Value)} {args : Args} {k : KV} {x : KX} (FA : FnAt G f fd) (hbody : fd.body = .stmts body) (hsc : ScOK Γ fd.scope) (hcap : ∀ (i : Nat) x, Γ.vars[i]? ≠ some (x, SK.cap)) (hcode : ∀ c q, Γ.code = some (c, q) → fd.code = .ref c ∧ fd.qualname ++ ".<locals>." = q)
    (hA : Room A (n + 1)) (hF : A.frames = some frs) (R : Rep G.toGl frs ω σ s.heap) (hbind : BindsTo s fd args binds)
    (hnames : ∀ (i : Nat) x, (binds.map (·.1))[i]? = some x → ∃ kk, Γ.vars[i]? = some (x, kk)) (hnd : (binds.map (·.1)).Nodup) (V : VRs ω s.heap (binds.map (·.2)) l)
    (hb : ∀ env X s₁, St G frs [] ω s ω σ s₁ → Rep G.toGl (env :: frs) ω σ s₁.heap → FrOK G.toGl (env :: frs) Γ env X (frOf l) ω s₁.heap → (∀ a ∈ X, s.heap.get? a = none) → Room (A.deeper env) n → (A.deeper env).frames = some (env :: frs) →
      s₁.heap.Ns env.locals (bindL env.kindOf binds fun _ => none) → (∀ b o, s.heap.get? b = some o → s₁.heap.get? b = some o) → env.frame = some env.locals →
      wpAny (model G.prog G.w) (A.deeper env) (execs body env) (EndX G (env :: frs) Γ env X ω s₁ (fun _ σ => k .none σ) k) (ExV G (env :: frs) X ω s₁ x) s₁) :
    codeAny (model G.prog G.w) A (.call (.ref f) args) (fun r s' => match r with | .ok (.ret v) => OkV G frs [] ω s k v s' | .ok _ => False | .error e => ExV G frs [] ω s x e s') s := by
  obtain ⟨o, ho, hd⟩ := FA.at_
  have hkb : ∀ b o, G.base.get? b = some o → s.heap.get? b = some o := R.base
  have hlim : s.heap.NoLimit := G.nolimit.keeps hkb
  refine codeAny_call_function (by have := hA.2.1; omega) (hkb f o ho) hd FA.co FA.gen hbody (FA.code.keeps hkb) (hbind _ _ _ _ ?_)
  rw [FA.clos]
  refine wpAny_newFunctionEnv_cells hsc.kind (fun y hy => ?_) fun env he s₁ xc => ?_
  · obtain ⟨i, hi⟩ := List.getElem?_of_mem hy
    obtain ⟨kk, hk⟩ := hnames i y.1 (by rw [List.getElem?_map, hi]; rfl)
    have hl := hsc.vars i y.1 kk hk
    cases kk with
    | loc => exact .inl hl
    | cap => exact absurd hk (hcap i _)
    | own =>
      obtain ⟨c, hc⟩ := cellsFrom_mem fd.scope.names (s.heap.objs.size + 1) y.1 (mem_of_lookup hl)
      obtain ⟨d, hd⟩ := lookup_some hc
      exact .inr ⟨hl, by rw [hd]; rfl⟩
  · obtain ⟨X, T, R', F', hX, hfr, hL⟩ := fn_frame R FA hsc hcap hcode hnames hnd V he xc
    refine ⟨G.nolimit.keeps fun b o e => T.rep.base b o e, codeAny_func ?_⟩
    have hF' : (A.deeper env).frames = some (env :: frs) := Around.frames_deeper hF
    refine wpAny_mono (hb env X s₁ T R' F' hX hA.deeper hF' xc.toInCall.ns xc.toInCall.keep (by rw [he]; rfl)) (fun fl s₂ q => ?_) fun e s₂ q => ?_
    · cases fl with
      | next =>
        obtain ⟨fr₂, ω₂, σ₂, hk, S, F₂⟩ := q
        exact ⟨.none, ω₂, σ₂, hk, T.pop S hfr hL hX, .none⟩
      | ret v =>
        obtain ⟨av, ω₂, σ₂, hk, S, VV⟩ := q
        exact ⟨av, ω₂, σ₂, hk, T.pop S hfr hL hX, VV⟩
      | _ => exact q.elim
    · obtain ⟨i, ω₂, σ₂, hk, S, Fl⟩ := q
      have S₀ := T.pop S hfr hL hX
      refine wpAny_mono (leave_ok (s₀ := s) (Q := fun s'' => ExV G frs [] ω s x e s'') (E := fun _ _ => False) hF' hfr S.rep (Fl.back fun a q => T.step.back q) (fun a q => S₀.step.back q) (fun a o q => ⟨o, R.base a o q⟩) fun Z s₃ hZ S₃ Fl₃ => ?_) (fun _ _ z => z) fun _ _ z => z.elim
      exact ⟨i, ω₂, σ₂, hk, S₀.pop S₃ hfr hL hZ, Fl₃⟩
end
section
variable {prog : Program} {w : World} {A : Around} {E : Value → Shared → Prop} {s : Shared} {env : Env} {Q : Value → Shared → Prop}
/-- an item of a tuple by a written index -/
theorem sub_const {value : Expr} {m kd : Nat} {cp pos : Pos} (hm : m < 4096) (h : wpAny (model prog w) A (eval value env) (fun v s₁ => ∃ t vs z, v = .ref t ∧ s₁.heap.IsTuple t (List.toArray vs) ∧ vs[m]? = some z ∧ Q z { s₁ with toks := s₁.toks + 1 }) E s) :
    wpAny (model prog w) A (eval (.Subscript value (.Constant (.int (.ofNat m)) kd cp) pos) env) Q E s := by
  refine Subscript_ (wpAny_mono h (fun v s₁ z => ?_) fun _ _ z => z)
  obtain ⟨t, vs, z, rfl, ht, hz, hq⟩ := z
  refine wpAny_Constant_int ?_
  have hlt : m < vs.length := (List.getElem?_eq_some_iff.mp hz).1
  exact tail_any ht.typeIs slot_tuple_getitem.lookup (getItem_tuple ht (idx_fits hm).1 (idx_fits hm).2 (by rw [List.size_toArray]; exact seqIndex_nat hlt) (by rw [List.getElem?_toArray]; exact hz) hq) rfl
end
end
end Mine
namespace Mine
section
open PySem PySem.W PyProof.Rows PySem.Calls PySem.Spec

/-- what the handler makes of what was thrown -/
noncomputable def thrownX (k : KV) : KX := (fun i σ => getO i σ fun o => (@AO.rec (fun _ => Bool) (fun _ => false) (fun _ _ => false) (fun _ => false) (fun _ => false) false (fun v => (@AV.rec (fun _ => Bool) (fun _ => Bool) false (fun _ => false) (fun _ => false) (fun _ => false) (fun _ => false) (fun l _ => @List.rec AV (fun _ => Bool) false (fun _ l _ => @List.rec AV (fun _ => Bool) false (fun v l _ => @List.rec AV (fun _ => Bool) false (fun y l _ => @List.rec AV (fun _ => Bool) ((@AV.rec (fun _ => Bool) (fun _ => Bool) false (fun _ => false) (fun _ => false) (fun _ => false) (fun _ => false) (fun l _ => @List.rec AV (fun _ => Bool) false (fun _ l _ => @List.rec AV (fun _ => Bool) false (fun a _ _ => k (.tup [a, y]) σ) l) l) (fun _ _ => false) (fun _ => false) false false (fun _ _ _ _ => false) v)) (fun _ _ _ => false) l) l) l) l) (fun _ _ => false) (fun _ => false) false false (fun _ _ _ _ => false) v)) o))
theorem vThrown_inv {tab : Nat} {cp : Fra → (Fra → Bool) → Bool} {body : CV} {fr : Fra} {σ : Sto} {k : KV} {x : KX} (h : vThrown tab cp body fr σ k x = true) :
    σ.t.get tab = some (.tab tab) ∧ cp fr (fun fr => body fr σ (fun _ σ => k .none σ) (thrownX k)) = true := by
  obtain ⟨o, e, q⟩ := getO_inv (k := fun o => _) h
  cases o with
  | tab f =>
    obtain ⟨q1, q2⟩ := ifB_inv (b := Nat.beq f tab) (x := cp fr (fun fr => body fr σ (fun _ σ => k .none σ) (thrownX k))) q
    have := Nat.eq_of_beq_eq_true q1
    subst this
    exact ⟨e, q2⟩
  | _ => exact (nomatch (show false = true from q))
theorem thrownX_inv {k : KV} {i : Nat} {σ : Sto} (h : thrownX k i σ = true) : ∃ p a r q y, σ.t.get i = some (.exc (.tup [q, .tup (p :: a :: r), y])) ∧ k (.tup [a, y]) σ = true := by
  obtain ⟨o, e, h₁⟩ := getO_inv (k := fun o => _) h
  cases o with
  | exc v =>
    cases v with
    | tup l =>
      cases l with
      | nil => exact (nomatch (show false = true from h₁))
      | cons q l =>
        cases l with
        | nil => exact (nomatch (show false = true from h₁))
        | cons v l =>
          cases l with
          | nil => exact (nomatch (show false = true from h₁))
          | cons y l =>
            cases l with
            | cons _ _ => exact (nomatch (show false = true from h₁))
            | nil =>
              cases v with
              | tup l =>
                cases l with
                | nil => exact (nomatch (show false = true from h₁))
                | cons p l =>
                  cases l with
                  | nil => exact (nomatch (show false = true from h₁))
                  | cons a r => exact ⟨p, a, r, q, y, e, h₁⟩
              | _ => exact (nomatch (show false = true from h₁))
    | _ => exact (nomatch (show false = true from h₁))
  | _ => exact (nomatch (show false = true from h₁))

/-- the class of what is thrown, as an object -/
noncomputable def ExcObj (G : Gd) : Prop := ∃ nm q N bs bm hdct sn sub ab col dd k0 k1 k2 k3 k5, G.base.get? G.exc = some (excClassObj nm q G.exc N bs bm hdct sn sub ab col dd k0 k1 k2 k3 k5 "Exception.__new__") ∧ bm.contains (.type "BaseException") = true
section
variable {G : Gd} {frs : List Env} {ω ω' : Wd} {σ σ' : Sto} {s s' : Shared} {env : Env} {Γ : Ct}
/-- a frame's own names stand -/
theorem ns_step {Z : List Addr} {m : Str → Option Value} (hN : s.heap.Ns env.locals m) (R : Rep G.toGl (env :: frs) ω σ s.heap) (hf : env.frame = some env.locals) (S : St G (env :: frs) Z ω s ω' σ' s') (hZ : env.locals ∉ Z) : s'.heap.Ns env.locals m := by
  have hm : env.locals ∈ fr_ (env :: frs) := by show env.locals ∈ List.filterMap (fun x => x.frame) (env :: frs); rw [List.filterMap_cons, hf]; exact .head _
  have hr : env.locals ∉ ω.ρ := fun q => (R.sep _ q).2.2 hm
  exact ns_up hN fun o ho => S.step.upto ho hr hZ
theorem locals_out (R : Rep G.toGl (env :: frs) ω σ s.heap) (hf : env.frame = some env.locals) : env.locals ∉ ω.ρ ∧ env.locals ∉ ω.fz ∧ G.base.get? env.locals = none := by
  have hm : env.locals ∈ fr_ (env :: frs) := by show env.locals ∈ List.filterMap (fun x => x.frame) (env :: frs); rw [List.filterMap_cons, hf]; exact .head _
  exact ⟨fun q => (R.sep _ q).2.2 hm, fun q => R.fzF _ q hm, (R.frames.mem hm).1⟩
theorem globE {A : Around} {E : Value → Shared → Prop} {Q : Value → Shared → Prop} {x : Str} {v : Value} {pos : Pos} (hg : GlobV G x v) (hx : x ∈ Γ.globs) (R : Rep G.toGl frs ω σ s.heap) (e : EnvOK Γ env) (h : Q v s) : wpAny (model G.prog G.w) A (eval (.Name x pos) env) Q E s := by
  have hk : ∀ b o, G.base.get? b = some o → s.heap.get? b = some o := R.base
  refine Name_function_global e.kind (e.globs x hx) ?_ hg.1
  rcases hg.2 with q | ⟨q, hn, hb⟩
  · exact loadGlobal_global (by rw [e.glob]; exact G.hg.keeps hk) q h
  · exact loadGlobal_builtin (by rw [e.glob]; exact G.hg.keeps hk) q (by rw [e.blt]; exact G.hb.keeps hk) ((G.bi x hn).trans hb) h
/-- what an exception's record of the store says, its value a tuple whose second item is one -/
theorem exc_read {q pp a y : AV} {r : List AV} {i : Nat} {aa : Addr} {h : Heap} (R : Rep G.toGl frs ω σ h) (hex : σ.t.get i = some (.exc (.tup [q, .tup (pp :: a :: r), y]))) (hia : ω.ρ[i]? = some aa) :
    ∃ dx es nn sl vs t₁ z1 z3 t₂ w1 w2 ws, h.get? aa = some ⟨.ref G.exc, some dx, .fields vs, sl⟩ ∧ h.get? dx = some (dictOf es nn) ∧ getL "value" es = some (some (.ref t₁)) ∧ h.IsTuple t₁ (List.toArray [z1, .ref t₂, z3]) ∧ h.IsTuple t₂ (List.toArray (w1 :: w2 :: ws)) ∧ VR ω h w2 a ∧ VR ω h z3 y := by
  obtain ⟨ab, hab, oE', dx', es', nn', w', vs', j1, j2, j3, j4, j5, j6, j7, j8, j9, j10⟩ := R.objs i _ hex
  rw [hia] at hab
  cases hab
  obtain ⟨t₁, vs₁, rfl, hf₁, ht₁, hv₁⟩ := VR.tup_inv (l := [q, .tup (pp :: a :: r), y]) j8
  cases hv₁ with
  | cons V1 hv₂ => cases hv₂ with
    | cons V2 hv₃ => cases hv₃ with
      | cons V3 hv₄ =>
        cases hv₄
        obtain ⟨t₂, vs₂, rfl, hf₂, ht₂, hw₁⟩ := V2.tup_inv
        cases hw₁ with
        | cons W1 hw₂ => cases hw₂ with
          | cons W2 hw₃ =>
            obtain ⟨oc, od, odt, osl⟩ := oE'
            cases j2
            cases j3
            cases j4
            exact ⟨_, _, _, _, _, t₁, _, _, t₂, _, _, _, j1, j6, j7, ht₁, ht₂, W2, V3⟩
/-- an exception of the store fits its own class -/
theorem exc_fits (hobj : ExcObj G) (R : Rep G.toGl frs ω σ s.heap) {aa : Addr} {o : Obj} (g1 : s.heap.get? aa = some o) (g2 : o.cls = .ref G.exc) {A : Around} {E : Value → Shared → Prop} {Q : Bool → Shared → Prop} (hq : Q true s) : wpAny (model G.prog G.w) A (excMatches (.ref aa) (.ref G.exc)) Q E s := by
  obtain ⟨nm, qq, NN, bs, bmm, hdct, sn, sub, ab, col, dd, k0, k1, k2, k3, k5, hCb, hbm⟩ := hobj
  have hC := R.base _ _ hCb
  obtain ⟨h₃, gg₃, d₃, t₃, os₃⟩ := s
  exact wpAny_excMatches_sub_self hC g1 g2 hbm hq
theorem flies_at {i : Nat} {l : List AV} {e : Value} {s₀ : Shared} (R : Rep G.toGl frs ω σ s.heap) (Fl : Flies ω σ i e s₀ s) (hex : σ.t.get i = some (.exc (.tup l))) : ∃ aa o, e = .ref aa ∧ ω.ρ[i]? = some aa ∧ s.heap.get? aa = some o ∧ o.cls = .ref G.exc := by
  obtain ⟨l', a', o', vs', f1, f2, f3, _⟩ := Fl
  obtain ⟨b, hb, o, _, _, _, _, _, ho, hc, _⟩ := R.objs i _ hex
  rw [f3] at hb
  cases hb
  exact ⟨a', o, f2, f3, ho, hc⟩
theorem thrown_body (X0 : ExcAt G) (W : ExcW G) (hobj : ExcObj G) (hgT : GlobV G "Thrown" (.ref G.exc)) (hv0 : Γ.vars[0]? = some (("call" : Str), SK.loc)) (hv1 : Γ.vars[1]? = some (("error" : Str), SK.loc)) (hgl : ("Thrown" : Str) ∈ Γ.globs)
    {A : Around} {X : List Addr} {fr : Fra} {fa : Addr} {fo : Obj} {fdd : FuncData} {m : Str → Option Value} {k : KV} {p1 p2 p3 p4 p5 p6 p7 p8 p9 p10 p11 p12 p13 p14 p15 p16 p17 p18 q1 q2 : Pos} {kd kd1 kd2 kd3 kd4 : Nat} (hh : A.handled = none) (hF : A.frames = some (env :: frs)) (hf : env.frame = some env.locals)
    (R : Rep G.toGl (env :: frs) ω σ s.heap) (F : FrOK G.toGl (env :: frs) Γ env X fr ω s.heap) (hN : s.heap.Ns env.locals m) (hm : m "call" = some (.ref fa)) (hfo : s.heap.get? fa = some fo) (hfd : fo.data = .func fdd)
    (hcall : wpAny (model G.prog G.w) A (call (.ref fa) []) (OkV G (env :: frs) [] ω s (fun _ σ => k .none σ)) (ExV G (env :: frs) [] ω s (thrownX k)) s) :
    wpAny (model G.prog G.w) A (execs [.Try [.Expr (.Call (.Name "call" p1) [] [] p2) p3] [.ExceptHandler (some (.Name "Thrown" p4)) (some "error")
      [.Return (some (.Tuple [.Subscript (.Subscript (.Attribute (.Name "error" p5) "value" p6) (.Constant (.int 1) kd1 p7) p8) (.Constant (.int 1) kd2 p9) p10, .Subscript (.Attribute (.Name "error" p11) "value" p12) (.Constant (.int 2) kd3 p13) p14] kd p15)) p16] p17] [] [] p18,
      .Return (some (.Constant .none kd4 q1)) q2] env) (EndX G (env :: frs) Γ env X ω s (fun _ σ => k .none σ) k) (fun _ _ => False) s := by
  have hnX : ∀ {Q : Prop} {v : Value} {s' : Shared}, ExV G (env :: frs) [] ω s noX v s' → Q := fun z => z.no
  have hloc : env.locals ∈ X := F.here
  have kE := F.e.loc 1 _ hv1
  have kC := F.e.loc 0 _ hv0
  have hcls : (env.scope.kind == .class || (env.scope.kind == .module && env.locals != env.globals)) = false := by rw [F.e.kind]; rfl
  have hkb : ∀ a o, G.base.get? a = some o → ∃ o', s.heap.get? a = some o' := fun a o q => ⟨o, R.base a o q⟩
  -- nothing is thrown
  have plain : ∀ {v : Value} {s' : Shared}, OkV G (env :: frs) [] ω s (fun _ σ => k .none σ) v s' → wpAny (model G.prog G.w) A (execs [.Return (some (.Constant .none kd4 q1)) q2] env) (EndX G (env :: frs) Γ env X ω s (fun _ σ => k .none σ) k) (fun _ _ => False) s' := fun {v s'} z => by
    obtain ⟨av, ω₁, σ₁, hk, S, V⟩ := z
    refine wpAny_execs_cons (wpAny_Return_some (wpAny_Constant_none ?_))
    exact ⟨.none, ω₁, σ₁, hk, S.widen, .none⟩
  refine wpAny_execs_cons (wpAny_Try_except ?_)
  have hc2 : wpAny (model G.prog G.w) A (eval (.Call (.Name "call" p1) [] [] p2) env) (OkV G (env :: frs) [] ω s (fun _ σ => k .none σ)) (ExV G (env :: frs) [] ω s (thrownX k)) s := by
    refine wpAny_Call_NameR (wpAny_Name (wpAny_loadName_local F.e.kind kC hN hm ?_) rfl)
    refine callWith_of (P := fun h => h.get? fa = some fo) (first := []) rfl (fun h hp => ⟨.frame, .inl rfl, ?_⟩) (evalArgs_nil3 ⟨hfo, hcall⟩)
    obtain ⟨oc, od, odt, osl⟩ := fo
    cases hfd
    exact (Looks.ld (part := none) hp).andThen .now
  refine wpAny_execs_cons (wpAny_Expr_any (wpAny_mono hc2 (fun v s₁ z => ?_) fun e s₁ z => ?_) (by unfold interactive; rw [F.e.kind]; rfl) rfl)
  · exact wpAny_execs_nil (wpAny_execs_nil (plain z))
  obtain ⟨i, ω₂, σ₂, hx, S₂, Fl⟩ := z
  obtain ⟨pp, a, r, q, y, hex, hk⟩ := thrownX_inv hx
  have hsb : ∀ a, s₁.heap.get? a = none → s.heap.get? a = none := fun a q => S₂.step.back q
  refine note_ok (s₀ := s) hF hf S₂.rep Fl hsb hkb fun Z₃ s₃ hZ₃ S₃ Fl₃ => ?_
  have lz : ∀ {Z : List Addr}, (∀ a ∈ Z, s.heap.get? a = none) → env.locals ∉ Z := fun hZ q => live_ne (F.low _ hloc) (hZ _ q) rfl
  have N₂ := ns_step hN R hf S₂ (fun z => nomatch z)
  have N₃ := ns_step N₂ S₂.rep hf S₃ (lz hZ₃)
  have S₀₃ : St G (env :: frs) X ω s ω₂ σ₂ s₃ := (S₂.widen (X := X)).trans S₃ fun a ha => .inr (hZ₃ a ha)
  obtain ⟨aa, oE, rfl, hia, g1, g2⟩ := flies_at S₃.rep Fl₃ hex
  -- the class fits
  refine wpAny_handleBy_cons (codeAny_handlers_test (globE hgT hgl S₃.rep F.e ?_)) (by intro q; cases q)
  refine exc_fits hobj S₃.rep g1 g2 (codeAny_handlers_suite_as ?_)
  refine land_ok (s₀ := s) S₃.rep Fl₃ hkb fun Z₄ s₄ hZ₄ S₄ => ?_
  have N₄ := ns_step N₃ S₃.rep hf S₄ (lz hZ₄)
  have S₀₄ : St G (env :: frs) X ω s ω₂ σ₂ s₄ := S₀₃.trans S₄ fun a ha => .inr (hZ₄ a ha)
  refine wpAny_storeName_local kE N₄ (fun h₅ hn₅ hs₅ => ?_) hcls
  have T₅ : St G (env :: frs) X ω₂ s₄ ω₂ σ₂ { s₄ with heap := h₅, toks := s₄.toks + 1 } := St.own (s := s₄) S₄.rep hloc (locals_out S₄.rep hf) hs₅ (Ns.alive hn₅) _
  have S₀₅ := S₀₄.andX T₅
  obtain ⟨dx', es', nn', sl', vs', t₁, z1, z3, t₂, w1, w2, ws, j1, j6, j7, ht₁, ht₂, W2, V3⟩ := exc_read T₅.rep hex hia
  have att : ∀ {A : Around} {E : Value → Shared → Prop} {Q : Value → Shared → Prop} {p p' : Pos} (tk : Nat), Q (.ref t₁) { s₄ with heap := h₅, toks := tk + 1 } →
      wpAny (model G.prog G.w) A (eval (.Attribute (.Name "error" p) "value" p') env) Q E { s₄ with heap := h₅, toks := tk } := fun {A E Q p p'} tk hq =>
    Attribute_any_ (wpAny_Name (wpAny_loadName_local (s := { s₄ with heap := h₅, toks := tk }) F.e.kind kE hn₅ (if_pos rfl)
      (get_exc (s := { s₄ with heap := h₅, toks := tk }) (T₅.rep.kin) (I := ⟨j1, rfl, rfl, j6⟩) W.ga W.gm X0.sub (findObj_own W.hd W.val rfl (show lookIn "value" (dictOf es' nn') = some (some (.ref t₁)) from j7)) rfl hq)) rfl) rfl
  refine wpAny_execs_cons (wpAny_Return_some (wpAny_Tuple (spliced_cons (sub_const (m := 1) (by decide) (sub_const (m := 1) (by decide) (att _ ⟨t₁, _, _, rfl, ht₁, rfl, t₂, _, _, rfl, ht₂, rfl, ?_⟩))))))
  refine spliced_cons (sub_const (m := 2) (by decide) (att _ ⟨t₁, _, _, rfl, ht₁, rfl, wpAny_pure ⟨sizeLine_ge (by simp), ?_⟩⟩))
  obtain ⟨av, ω₆, σ₆, hk₆, S₆, V₆⟩ := okTup (s := { s₄ with heap := h₅, toks := s₄.toks + 1 }) (k := k) T₅.rep (.cons W2 (.cons V3 .nil)) hk (s₄.toks + 1 + 1 + 1 + 1 + 1 + 1 + 1 + 1)
  have S₀₆ := S₀₅.andX S₆.widen
  refine wpAny_nameGoes kE (hn₅.push _) hcls (fun h₇ m₇ hn₇ hs₇ => ?_)
  have hXz : ∀ a ∈ X, a ∉ ω₆.fz := fun a ha q => (S₀₆.step.fz' a q).elim (F.out a ha).2.1 fun z => live_ne (F.low a ha) z rfl
  have S₇ := fun t => St.own (X := X) S₆.rep hloc (locals_out S₆.rep hf) hs₇ (Ns.alive hn₇) t
  exact ⟨av, ω₆, σ₆, hk₆, S₀₆.andX (S₇ _), ((S₇ 0).step.later S₆.rep hXz).vr V₆⟩
end
end
end Mine
namespace Mine
section
open PySem PySem.W PyProof.Rows PySem.Calls PySem.Spec

set_option genInjectivity false in
set_option genSizeOf false in
set_option genSizeOfSpec false in
/-- what else is known of the text -/
structure Uni2 (G : Gd) where
  aT : Addr
  fT : FnK G aT (stJ 51)
  gT : GlobV G "_law_thrown" (.ref aT)
  gX : GlobV G "Thrown" (.ref G.exc)
  kX : keepIn G.K (.ref G.exc) = true
  bm : ∃ bm ob, G.mg "__builtins__" = some (.ref bm) ∧ bm ≠ builtinsNs ∧ bm ≠ mainGlobals ∧ G.base.get? bm = some ob ∧ ob.cls = .type "module" ∧ ob.dict = some builtinsNs ∧ ob.data = .plain
  w : ExcW G
  o : ExcObj G
noncomputable def Gt : Ct := { vars := [("call", .loc), ("error", .loc)], globs := ["Thrown"] }
theorem body51 : ∃ (p1 p2 p3 p4 p5 p6 p7 p8 p9 p10 p11 p12 p13 p14 p15 p16 p17 p18 q1 q2 : Pos) (kd kd1 kd2 kd3 kd4 : Nat), fdBody (stJ 51) = [.Try [.Expr (.Call (.Name "call" p1) [] [] p2) p3] [.ExceptHandler (some (.Name "Thrown" p4)) (some "error")
      [.Return (some (.Tuple [.Subscript (.Subscript (.Attribute (.Name "error" p5) "value" p6) (.Constant (.int 1) kd1 p7) p8) (.Constant (.int 1) kd2 p9) p10, .Subscript (.Attribute (.Name "error" p11) "value" p12) (.Constant (.int 2) kd3 p13) p14] kd p15)) p16] p17] [] [] p18,
      .Return (some (.Constant .none kd4 q1)) q2] :=
  ⟨_, _, _, _, _, _, _, _, _, _, _, _, _, _, _, _, _, _, _, _, _, _, _, _, _, rfl⟩
theorem scope51 : scOK Gt (fdScope (stJ 51)) = true := by decide +kernel
theorem sp_thrown {G : Gd} (U : Uni G) (U2 : Uni2 G) {n m f : Nat} {Γ Γ' : Ct} {cp : Fra → (Fra → Bool) → Bool} {c : CV} {b : Expr} {sc : Scope} {np pos lp : Pos} (hn : m + 5 ≤ n) (hx : ("_law_thrown" : Str) ∈ Γ.globs) (hco : Γ.code = some (G.lamC f, lamPre f)) (hf : f < 3)
    (hcap : (Γ'.vars.all fun p => p.2 == SK.cap) = true) (hnc : (sc.names.all fun p => !(p.2 == .cell)) = true) (hgen : sc.isGenerator = false) (hcor : sc.isCoroutine = false) (hsc : scOK Γ' sc = true) (hfree : freeOK Γ sc = true) (hco' : Γ'.code = none) (hcp : CpOK Γ Γ' cp)
    (hb : SE G m Γ' c b) : SE G n Γ (vThrown f cp c) (.Call (.Name "_law_thrown" np) [.Lambda noArgs b sc lp] [] pos) := by
  intro A frs env X fr ω σ s k x hA hF R F h
  obtain ⟨hT, hcp'⟩ := vThrown_inv h
  obtain ⟨fr', hbody, hslots⟩ := hcp fr _ hcp'
  have SC' := ScOK.of hsc
  have capOf : ∀ (i : Nat) x k, Γ'.vars[i]? = some (x, k) → k = .cap := fun i y kk hy => by
    have := List.all_eq_true.mp hcap _ (List.mem_of_getElem? hy)
    cases kk with
    | cap => rfl
    | loc => exact absurd (show false = true from this) Bool.false_ne_true
    | own => exact absurd (show false = true from this) Bool.false_ne_true
  have noCell : ∀ y ∈ sc.names, y.2 ≠ .cell := fun y hy q => by
    have := List.all_eq_true.mp hnc y hy
    rw [q] at this
    exact absurd (show false = true from this) Bool.false_ne_true
  obtain ⟨clos, hclos, hcl1, hcl2⟩ := closure_of (env := env) (sc := sc) fun y hy hyf => by
    obtain ⟨j, kk, hj, hk⟩ := freeOK_of hfree y hy hyf
    obtain ⟨c, v, q1, _⟩ := F.cel j y.1 kk hj hk
    exact ⟨c, q1⟩
  refine wpAny_Call_NameR (globName U2.gT hx R F ?_)
  refine callWith_of (P := fun h => G.K.In h) (first := []) rfl (KeepF.of U2.fT.keep) ?_
  refine evalArgs_plain (spliced_cons (wpAny_mono (lam_made U2.bm hco hf hT R F hclos) (fun v s₁ z => ?_) fun _ _ z => z.elim))
  obtain ⟨fa, cv, ctv, pm, ω₁, rfl, hfa, hcr, hfn, S₁⟩ := z
  refine wpAny_pure ⟨S₁.rep.kin, ?_⟩
  have F₁ := S₁.fr R F
  obtain ⟨name, qual, kV, doc, pm', an, cdv, ct, FA⟩ := U2.fT.fn
  obtain ⟨p1, p2, p3, p4, p5, p6, p7, p8, p9, p10, p11, p12, p13, p14, p15, p16, p17, p18, q1, q2, kd, kd1, kd2, kd3, kd4, e51⟩ := body51
  refine wpAny_call (codeAny_mono (call_raw (n := m + 1) (Γ := Gt) (l := [.any]) (binds := [("call", .ref fa)]) (k := k) (x := x) FA (congrArg FuncBody.stmts e51) (ScOK.of scope51) (fun i y e => ?_) (fun c q e => (by cases e)) (hA.lt (by omega)) hF S₁.rep (BindsTo.of_eq rfl) (fun i y e => ?_) (by simp) (.cons (.any _) .nil) ?_) fun r s' q => ?_)
  · match i, e with
    | 0, e => cases e
    | 1, e => cases e
    | i + 2, e => cases e
  · match i, e with
    | 0, e => cases e; exact ⟨_, rfl⟩
    | i + 1, e => cases e
  · intro env' X' s₂ T R' F' hX hA' hF' hN hkeep hfr
    have hm : bindL env'.kindOf [(("call" : Str), Value.ref fa)] (fun _ => none) "call" = some (.ref fa) := bindL_get (by simp) (.head _) (F'.e.loc 0 _ rfl)
    have L := T.later S₁.rep
    refine wpAny_mono (thrown_body (Γ := Gt) (k := k) (fdd := kla_fn "<lambda>" (lamQ f) noArgs b sc clos pm cv ctv) U.x U2.w U2.o U2.gX rfl rfl (.head _) hA'.1 hF' hfr R' F' hN hm (hkeep _ _ hfa) rfl ?_) (fun _ _ z => z) fun _ _ z => z.elim
    refine wpAny_mono (lam_call (n := m) (Γ' := Γ') (c := c) (fr' := fr') hA' hF' R' (hkeep _ _ hfa) (hcr.keeps hkeep) SC' hco' capOf noCell hgen hcor (fun i y kk hy => ?_) (fun y z c hy hz => F.apart y z c (hcl1 y c (mem_of_lookup hy)).2 (hcl1 z c (mem_of_lookup hz)).2) hb hbody) (fun _ _ z => z) fun _ _ z => z
    cases capOf i y kk hy
    have hm := mem_of_lookup (SC'.vars i y _ hy)
    obtain ⟨j, k', hj, hk'⟩ := freeOK_of hfree (y, .free) hm rfl
    obtain ⟨c₁, v₁, q1, q2, q3, q4, q5, q6⟩ := F₁.cel j y k' hj hk'
    obtain ⟨c₂, hc₂⟩ := hcl2 y hm
    obtain ⟨d, hd⟩ := lookup_some hc₂
    have hdc := (hcl1 y d (mem_of_lookup hd)).2
    rw [q1] at hdc
    cases hdc
    obtain ⟨oo, ho, ho'⟩ := q2
    refine ⟨_, v₁, hd, ⟨oo, hkeep _ _ ho, ho'⟩, q3, ?_⟩
    rcases hslots i with q | ⟨y', j', k'', z1, z2, z3, z4⟩
    · rw [q]; trivial
    · rw [hy] at z1
      cases z1
      rw [z4, nodup_vars F.e.names z2 hj]
      exact q6.later L
  · cases r with
    | error e => exact ExV.after S₁ q
    | ok fl =>
      cases fl with
      | ret v => exact OkV.after S₁ q
      | _ => exact q.elim
end
end Mine
namespace Mine
section
open PySem PySem.W PyProof.Rows PySem.Calls PySem.Spec

section
variable {prog : Program} {w : World} {A : Around} {E : Value → Shared → Prop} {R : Result → Shared → Prop} {h : Heap} {g : Array GenState} {d : Drawn} {t : Nat} {os : OsState}
variable {nm q : Str} {C N : Addr} {bs bm bm0 : List Value} {hdct : Bool} {sn : List Str} {sub : List Value} {ab : Bool} {col : Option Bool} {dd : Option Addr} {k0 k1 k2 k3 k5 : Option Value} {B newId initId : String}
/-- the mro of a class below another one of the text's own -/
structure MroX (C : Addr) (bm : List Value) : Prop where
  hasB : (Value.ref C :: bm).contains (.type "Exception") = true
  noAttr : (Value.ref C :: bm).contains (.type "AttributeError") = false
  noName : (Value.ref C :: bm).contains (.type "NameError") = false
  hasBase : (Value.ref C :: bm).contains (.type "BaseException") = true
theorem xn_check {M : Model} (hm : MroX C bm) {rest : List Value} {Q : Unit → Shared → Prop} (hC : h.get? C = some (excClassObj nm q C N bs bm hdct sn sub ab col dd k0 k1 k2 k3 k5 "Exception.__new__"))
    (hq : Q () ⟨h, g, d, t, os⟩) : wpAny M A (checkBuiltinCall "Exception.__new__" ⟨.ref C :: rest, []⟩) Q E ⟨h, g, d, t, os⟩ := by
  have F := PySem.F.excBase_Exception
  have hcont := hm.hasB
  have hstar := F.noStar
  simp only [checkBuiltinCall, F.newKind, F.newSplit, F.newRow]
  repeat (first | refine wpAny_loadPart_at hC ?_ | (refine wpAny_isSubtype_exc hC ?_; rw [hcont]) | refine wpAny_staticBase_exc hC ?_ | refine wpAny_madeBy_exc hC ?_ | simp only [bne_self_eq_false, Bool.false_eq_true, if_false] | wp_step)
  exact hq
theorem xn_new (hm : MroX C bm) {rest : List Value} (hC : h.get? C = some (excClassObj nm q C N bs bm hdct sn sub ab col dd k0 k1 k2 k3 k5 "Exception.__new__"))
    (hq : R (.ok (.ret (.ref (h.objs.size + 1)))) ⟨(h.push { cls := .type "tuple", data := .seq rest.toArray }).push
      { cls := .ref C, data := .fields #[.ref h.objs.size, .none, .none, .none, .bool false, .none] }, g, d, t, os⟩) (hrest : rest.length ≤ sizeLine := by size_fits) :
    codeAny (model prog w) A (.builtin "Exception.__new__" ⟨.ref C :: rest, []⟩) R ⟨h, g, d, t, os⟩ := by
  have F := PySem.F.excBase_Exception
  have hends := F.ends
  have hcB := hm.hasB
  have hcA := hm.noAttr
  have hcN := hm.noName
  refine codeAny_builtinAt F.entry ?_
  unfold Builtin.«BaseException.__new__»
  refine PySem.wpAt_bind ?_
  show PySem.wpAt _ _ _ (stack >>= _) _ _ _
  refine PySem.wpAt_bind (PySem.wpAt_stack fun p below => PySem.wpAt_of_wpAny ?_)
  wp_walk
  refine PySem.wpAt_of_wpAny ?_
  rw [F.owner]
  repeat (first | with_reducible refine wpAny_madeHere_exc F.canon hC ?_ | with_reducible refine wpAny_loadPart_at hC ?_ | (with_reducible refine wpAny_isSubtype_exc hC ?_; first | rw [hcB] | rw [hcA] | rw [hcN]) | wp_step)
  show R _ _
  rw [Heap.size_push]
  exact hq
theorem xn_lookup {M : Model} {name : Str} {mN : Str → Option Value} {v : Value} {Q : Option Value → Shared → Prop}
    (hC : h.get? C = some (excClassObj nm q C N bs bm hdct sn sub ab col dd k0 k1 k2 k3 k5 newId)) (hn : h.Ns N mN) (hi : mN name = some v)
    (hq : Q (some v) ⟨h, g, d, t, os⟩) : wpAny M A (typeLookup (.ref C) name) Q E ⟨h, g, d, t, os⟩ := by
  rw [typeLookup_eq]
  refine wpAny_bind (wpAny_mroOf_exc hC ?_)
  rw [lookupAlong_cons]
  refine wpAny_bind (wpAny_classOwn_exc hC hn ?_)
  rw [hi]
  exact wpAny_pure hq
theorem xn_type (hm : MroX C bm) {mN : Str → Option Value} {rest : List Value} {fI : Addr} {oI : Obj} {Q : Fin → Shared → Prop}
    (hC : h.get? C = some (excClassObj nm q C N bs bm hdct sn sub ab col dd k0 k1 k2 k3 k5 "Exception.__new__")) (hn : h.Ns N mN) (hi : mN "__init__" = some (.ref fI))
    (hfI : h.get? fI = some oI) (hfc : oI.cls = .type "function")
    (hq : ∀ h' e, Heap.MadeExcOf h h' e (.ref C) rest →
      wpAny (model prog w) A (call (.ref fI) (.ref e :: rest)) (fun r s' => r = .none ∧ Q (.done (.ret (.ref e))) s') E ⟨h', g, d, t, os⟩) (hrest : rest.length ≤ sizeLine := by size_fits) :
    wpAny (model prog w) A (Builtin.«type.__call__» ⟨.ref C :: rest, []⟩) Q E ⟨h, g, d, t, os⟩ := by
  have F := PySem.F.excBase_Exception
  -- the arguments' tuple and the exception are laid at the heap's end
  let tup : Obj := { cls := .type "tuple", data := .seq rest.toArray }
  let exc : Obj := { cls := .ref C, data := .fields #[.ref h.objs.size, .none, .none, .none, .bool false, .none] }
  have up : ∀ b o, h.get? b = some o → ((h.push tup).push exc).get? b = some o := fun b o q => Heap.get?_push_of_some _ (Heap.get?_push_of_some _ q)
  have its : ((h.push tup).push exc).get? (h.objs.size + 1) = some exc := Heap.get?_push_at (by rw [Heap.size_push]) rfl
  have made : Heap.MadeExcOf h ((h.push tup).push exc) (h.objs.size + 1) (.ref C) rest :=
    ⟨up, Heap.get?_none_of_le (Nat.le_succ _), h.objs.size, its, Heap.get?_none_of_le (Nat.le_refl _), Heap.get?_push_of_some _ (Heap.get?_push_at rfl rfl)⟩
  have own : (Value.ref C :: bm).contains (.ref C) = true := by rw [List.contains_cons, beq_self_eq_true]; rfl
  repeat (first | with_reducible refine wpAny_madeBy_exc hC ?_ | with_reducible refine wpAny_loadPart_at hC ?_ | wp_step)
  refine codeAny_call_builtin_code (Code.quiet_builtin _ F.quiet) (xn_check hm hC (xn_new hm hC (hrest := hrest) ?_))
  show wpAny (model prog w) A _ _ E ⟨(h.push tup).push exc, g, d, t, os⟩
  unfold isInstance
  repeat (first | (with_reducible refine wpAny_isSubtype_exc (up _ _ hC) ?_; rw [own]) | with_reducible refine wpAny_loadPart_at its ?_ | wp_step)
  refine xn_lookup (up _ _ hC) (hn.keeps up) hi (wpAny_holding (wpAny_bind ?_))
  unfold bindSpecial
  refine wpAny_bind (wpAny_typeOf (T := "function") ⟨oI, up _ _ hfI, hfc⟩ ?_)
  simp only [beq_self_eq_true, if_true]
  refine wpAny_pure (wpAny_bind (wpAny_mono (hq _ _ made) (fun r s' z => ?_) fun _ _ z => z))
  rw [z.1]
  wp_walk
  exact z.2
theorem xn_call (hm : MroX C bm) {mN : Str → Option Value} {rest : List Value} {fI : Addr} {oI : Obj} {Q : Value → Shared → Prop}
    (hC : h.get? C = some (excClassObj nm q C N bs bm hdct sn sub ab col dd k0 k1 k2 k3 k5 "Exception.__new__")) (hn : h.Ns N mN) (hi : mN "__init__" = some (.ref fI))
    (hfI : h.get? fI = some oI) (hfc : oI.cls = .type "function")
    (hq : ∀ h' e, Heap.MadeExcOf h h' e (.ref C) rest →
      wpAny (model prog w) (A.under (.builtin "type.__call__" ⟨.ref C :: rest, []⟩)) (call (.ref fI) (.ref e :: rest)) (fun r s' => r = .none ∧ Q (.ref e) s') E ⟨h', g, d, t, os⟩) (hrest : rest.length ≤ sizeLine := by size_fits) :
    wpAny (model prog w) A (call (.ref C) rest) Q E ⟨h, g, d, t, os⟩ := by
  have f1 := tc_lookup
  have f2 := tc_bind (.ref C)
  have hT : (⟨h, g, d, t, os⟩ : Shared).TypeIs (.ref C) "type" := ⟨_, hC, rfl⟩
  refine wpAny_call (codeAny_of_tree ?_)
  show wpAny _ _ (callAny (.ref C) _) _ _ _
  repeat (any_goals (first | assumption | with_reducible refine wpAny_loadPart_at hC ?_ | wp_step))
  refine ⟨rfl, ?_⟩
  refine codeAny_call_builtin_at (Code.quiet_builtin _ (by decide +kernel)) entry_typeCall (wpAny_check_type_call_sub hC (xn_type (hrest := hrest) hm hC hn hi hfI hfc fun h' e hm => ?_))
  exact hq h' e hm
end
end
end Mine
namespace Mine
section
open PySem PySem.W PyProof.Rows PySem.Calls PySem.Spec Builtin Builtin.ObjectAttr

section
variable {prog : Program} {w : World} {A : Around} {E : Value → Shared → Prop} {s : Shared}
/-- a name of a dict is stored -/
theorem sid_ok {dx : Addr} {es : List DictEntry} {m : Nat} {name : Str} {v : Value} {tk : Tok} {Q : PySem.Fin → Shared → Prop} (hes : s.heap.get? dx = some (dictOf es m)) (hk : ∀ e ∈ es, ∃ x t, e.key = .str x t) (hl : es.length < 64)
    (hQ : ∀ h' m', h'.get? dx = some (dictOf (putL name (PyData.keyHash w.params name) (.str name s.toks) v es) m') → Heap.SameBut dx s.heap h' → Q (.done (.ret .none)) { s with heap := h', toks := s.toks + 1 }) :
    wpAny (model prog w) A (storeInDict dx (.str name tk) name v) Q E s := by
  unfold storeInDict
  refine wpAny_bind (wpAny_pure (wpAny_bind ?_))
  unfold nsSet
  refine wpAny_bind (wpAny_bind (wpAny_askSetting (wpAny_pure (wpAny_bind (wpAny_mkText (wpAny_bind (wpAny_loadPart hes ?_)))))))
  have cc : (!es.toArray.any (·.key.isStr name) && es.toArray.any (·.refKey)) = false := by
    rw [← Array.any_toList, ← Array.any_toList]
    show (!es.any (·.key.isStr name) && es.any (·.refKey)) = false
    have : es.any (·.refKey) = false := by
      rw [List.any_eq_false]
      intro e he
      obtain ⟨y, t, ek⟩ := hk e he
      obtain ⟨q1, q2, q3⟩ := e
      simp only at ek
      subst ek
      simp [DictEntry.refKey]
    rw [this, Bool.and_false]
  have q : (dictOf es m).data = .dict es.toArray m := rfl
  rw [q]
  dsimp only
  rw [aRefKeyMayBeTheName_at, cc]
  refine wpAny_updatePart hes ?_
  have e' : Obj.putName name (PyData.keyHash w.params name) (.str name s.toks) v (dictOf es m) = dictOf (putL name (PyData.keyHash w.params name) (.str name s.toks) v es) (putN name es m) := putName_dict ..
  have D' : (s.heap.update dx (Obj.putName name (PyData.keyHash w.params name) (.str name s.toks) v)).get? dx = some (dictOf (putL name (PyData.keyHash w.params name) (.str name s.toks) v es) (putN name es m)) := by
    rw [← e']
    exact Heap.get?_update_self _ hes (by rw [e']; rfl)
  refine wpAny_bind (wpAny_lookBehind D' (pastItsLine_dict (by rw [List.size_toArray, sizeLine_eq]; have := (putL_len name (PyData.keyHash w.params name) (.str name s.toks) v es).1; omega)) ?_)
  exact wpAny_pure (hQ _ _ D' (Heap.SameBut.update ..))
/-- what a class of exceptions with a dict answers to stores -/
structure ExcK (K : Frag) (C : Addr) : Prop where
  mro : ∃ cd R, clsIn K C = some cd ∧ cd.mro = [.ref C, .ref R, .type "Exception", .type "BaseException", .type "object"] ∧ cd.hasDict = true
  taker : ∀ x ∈ (["message", "spot", "value"] : List Str), takerIn K C x = some none
  sa : findIn K (.ref C) "__setattr__" = some (some (.builtin "object.__setattr__"))
theorem refuse_exc (self : Value) : refuseLoop self "__setattr__" [.type "Exception", .type "BaseException", .type "object"] = pure () := by kernel_rfl
section
variable {K : Frag} {C e : Addr} {vs : Array Value} {sl : Array (Option Value)} {name : Str} {v : Value} {tk : Tok} {R : Result → Shared → Prop}
theorem exc_osa {od : Option Addr} (X : K.In s.heap) (XK : ExcK K C) (hx : s.heap.get? e = some ⟨.ref C, od, .fields vs, sl⟩) (hname : name ∈ (["message", "spot", "value"] : List Str))
    (h : ∀ b, wpAny (model prog w) A.in1 (storeInOwnDict (.ref e) (.ref C) (.str name tk) name v b) (fun fin s' => match fin with | .done f => R (.ok f) s' | .again c' => c'.quiet = true ∧ codeAny (model prog w) A c' R s') (fun e s' => R (.error e) s') s) :
    codeAny (model prog w) A (.call (.builtin "object.__setattr__") ⟨[.ref e, .str name tk, v], []⟩) R s := by
  have SF := PySem.F.store_object
  obtain ⟨cd, Rr, hc, hmro, hd⟩ := XK.mro
  have ty : Looks (model prog w) s.heap (typeOf (.ref e)) (.ref C) := (Looks.ld hx).andThen .now
  have ne : cd.mro.isEmpty = false := by rw [hmro]; rfl
  have sub : Looks (model prog w) s.heap (isInstance (.ref e) (.type "object")) true := ty.andThen (looks_mroIn X (by unfold mroIn; rw [hc, Option.bind_some, if_neg (by rw [ne]; decide), hmro]; rfl))
  refine codeAny_call_builtin SF.slot.plain SF.entry (@check_slot (model prog w) _ _ s "object.__setattr__" "object" "__setattr__" (.ref e) [.str name tk, v] [] _ SF.kind SF.split sub (SF.args (.ref e) (.str name tk) v) ?_)
  obtain ⟨attr, ha, hr⟩ := Option.bind_eq_some_iff.mp (XK.taker name hname)
  have hm : Looks (model prog w) s.heap (mroOf (.ref C)) cd.mro := (looks_clsIn X hc).andThen .now
  have L3 : Looks (model prog w) s.heap (storeTaker? attr) none := by
    cases attr with
    | none => exact .now
    | some a =>
      obtain ⟨b, hb, hbr⟩ := Option.map_eq_some_iff.mp hr
      refine (looks_takesIn X hb).andThen ?_
      cases b with
      | false => exact .now
      | true => cases hbr
  rw [osa_eq, refuse_eq]
  refine wpAny_bind (wpAny_bind (ty.here (wpAny_bind (hm.here ?_))))
  rw [hmro, refuseLoop_ref, refuseLoop_ref, refuse_exc]
  refine wpAny_pure (wpAny_bind (ty.here (wpAny_bind ((looks_findIn X ha).here (wpAny_bind (L3.here ?_))))))
  exact h _
theorem own_some {dx : Addr} {es : List DictEntry} {m : Nat} {b : Bool} {Q : PySem.Fin → Shared → Prop} (X : K.In s.heap) (XK : ExcK K C) (hx : s.heap.get? e = some ⟨.ref C, some dx, .fields vs, sl⟩) (hes : s.heap.get? dx = some (dictOf es m)) (hk : ∀ e ∈ es, ∃ x t, e.key = .str x t) (hl : es.length < 64)
    (hQ : ∀ h' m', h'.get? dx = some (dictOf (putL name (PyData.keyHash w.params name) (.str name s.toks) v es) m') → Heap.SameBut dx s.heap h' → Q (.done (.ret .none)) { s with heap := h', toks := s.toks + 1 }) :
    wpAny (model prog w) A (storeInOwnDict (.ref e) (.ref C) (.str name tk) name v b) Q E s := by
  obtain ⟨cd, Rr, hc, hmro, hd⟩ := XK.mro
  refine wpAny_bind (wpAny_pure (wpAny_bind (wpAny_bind (wpAny_loadPart hx (wpAny_bind ((looks_clsIn X hc).here ?_))))))
  rw [hd]
  refine wpAny_pure (a := some dx) ?_
  exact sid_ok hes hk hl hQ
theorem own_none {b : Bool} {Q : PySem.Fin → Shared → Prop} (X : K.In s.heap) (XK : ExcK K C) (hx : s.heap.get? e = some ⟨.ref C, none, .fields vs, sl⟩)
    (hQ : ∀ h' m', h'.get? s.heap.objs.size = some (dictOf (putL name (PyData.keyHash w.params name) (.str name s.toks) v []) m') → h'.get? e = some ⟨.ref C, some s.heap.objs.size, .fields vs, sl⟩ → (∀ b o, b ≠ e → s.heap.get? b = some o → h'.get? b = some o) → Q (.done (.ret .none)) { s with heap := h', toks := s.toks + 1 }) :
    wpAny (model prog w) A (storeInOwnDict (.ref e) (.ref C) (.str name tk) name v b) Q E s := by
  obtain ⟨cd, Rr, hc, hmro, hd⟩ := XK.mro
  refine wpAny_bind (wpAny_pure (wpAny_bind (wpAny_bind (wpAny_loadPart hx (wpAny_bind ((looks_clsIn X hc).here ?_))))))
  rw [hd]
  have hne : e ≠ s.heap.objs.size := Nat.ne_of_lt (Heap.lt_size hx)
  have hx₁ := Heap.get?_push_of_some emptyDict hx
  have hD₁ : (s.heap.push emptyDict).get? s.heap.objs.size = some emptyDict := Heap.get?_push_size _ rfl
  refine wpAny_bind (wpAny_alloc (wpAny_bind (wpAny_update hx₁ (wpAny_pure ?_))))
  have hx₂ : ((s.heap.push emptyDict).update e fun o => { o with dict := some s.heap.objs.size }).get? e = some ⟨.ref C, some s.heap.objs.size, .fields vs, sl⟩ := Heap.get?_update_self _ hx₁ rfl
  have hD₂ : ((s.heap.push emptyDict).update e fun o => { o with dict := some s.heap.objs.size }).get? s.heap.objs.size = some (dictOf [] 0) := (Heap.get?_update_other _ _ hne).trans hD₁
  refine sid_ok (s := { s with heap := (s.heap.push emptyDict).update e fun o => { o with dict := some s.heap.objs.size } }) hD₂ (fun _ z => nomatch z) (by simp) fun h' m' h1 h2 => hQ h' m' h1 ((h2.2 e hne).trans hx₂) fun b o hb hbo => ?_
  have hbn : b ≠ s.heap.objs.size := Nat.ne_of_lt (Heap.lt_size hbo)
  exact (h2.2 b hbn).trans ((Heap.get?_update_other _ _ (Ne.symm hb)).trans (Heap.get?_push_of_some _ hbo))
end
end
end
end Mine
namespace Mine
section
open PySem PySem.W PyProof.Rows PySem.Calls PySem.Spec Builtin Builtin.ObjectAttr

/-- what stood stands -/
noncomputable def Kept (h h' : Heap) : Prop := ∀ b o, h.get? b = some o → h'.get? b = some o
/-- an exception in the making: what its dict holds -/
noncomputable def XD (h₀ h : Heap) (C e : Addr) (od : Option Addr) (L : List (Str × Value)) : Prop :=
  h₀.get? e = none ∧ ∃ vs sl, h.get? e = some ⟨.ref C, od, .fields vs, sl⟩ ∧ 1 < vs.size ∧ vs[1]? = some .none ∧
    match od with
    | none => L = []
    | some dx => h₀.get? dx = none ∧ dx ≠ e ∧ ∃ es m, h.get? dx = some (dictOf es m) ∧ (∀ en ∈ es, ∃ x t, en.key = .str x t) ∧ es.length ≤ L.length ∧ ∀ x v, L.lookup x = some v → getL x es = some (some v)
section
variable {prog : Program} {w : World} {A : Around} {E : Value → Shared → Prop} {s : Shared} {K : Frag} {C e : Addr} {h₀ : Heap}
theorem XD.mono {h h' : Heap} {od : Option Addr} {L : List (Str × Value)} (x : XD h₀ h C e od L) (k : Kept h h') : XD h₀ h' C e od L := by
  obtain ⟨n, vs, sl, h1, h2, h3, h4⟩ := x
  refine ⟨n, vs, sl, k _ _ h1, h2, h3, ?_⟩
  cases od with
  | none => exact h4
  | some dx =>
    obtain ⟨q1, q2, es, m, q3, q4⟩ := h4
    exact ⟨q1, q2, es, m, k _ _ q3, q4⟩
theorem Kept.trans {a b c : Heap} (x : Kept a b) (y : Kept b c) : Kept a c := fun q o e => y q o (x q o e)
/-- an attribute of it is stored -/
theorem xset {od : Option Addr} {L : List (Str × Value)} {name : Str} {v : Value} {Q : Unit → Shared → Prop} (X : K.In h₀) (hk₀ : Kept h₀ s.heap) (XK : ExcK K C) (x : XD h₀ s.heap C e od L) (hname : name ∈ (["message", "spot", "value"] : List Str)) (hl : L.length < 60)
    (hQ : ∀ s' od', s'.gens = s.gens → s'.drawn = s.drawn → s'.os = s.os → Kept h₀ s'.heap → XD h₀ s'.heap C e od' ((name, v) :: L) → (∀ b o, b ≠ e → some b ≠ od → s.heap.get? b = some o → s'.heap.get? b = some o ∧ some b ≠ od') → Q () s') :
    wpAny (model prog w) A (setAttr (.ref e) name v) Q E s := by
  obtain ⟨n, vs, sl, h1, h2, h3, h4⟩ := x
  have XIn : K.In s.heap := fun b o q => hk₀ b o (X b o q)
  have look : ∀ (es : List DictEntry) (hsh : Int) (t : Tok), (∀ en ∈ es, ∃ x t, en.key = .str x t) → (∀ x v, L.lookup x = some v → getL x es = some (some v)) → ∀ x u, List.lookup x ((name, v) :: L) = some u → getL x (putL name hsh (.str name t) v es) = some (some u) := fun es hsh t hk hlk x u hu => by
    rw [getL_put _ _ _ _ hk]
    rw [List.lookup_cons] at hu
    by_cases hx : x = name
    · subst hx
      simp at hu
      rw [if_pos rfl, hu]
    · have : (x == name) = false := beq_eq_false_iff_ne.mpr hx
      rw [this] at hu
      rw [if_neg hx]
      exact hlk x u hu
  cases od with
  | none =>
    refine set_plain (ox := ⟨.ref C, none, .fields vs, sl⟩) (od := none) XIn ⟨h1, rfl, rfl, trivial⟩ XK.sa (exc_osa (s := { s with toks := s.toks + 1 }) XIn XK h1 hname fun b => own_none (s := { s with toks := s.toks + 1 }) XIn XK h1 fun h' m' q1 q2 q3 => ?_)
    have hne : ∀ b o, h₀.get? b = some o → b ≠ e := fun b o q z => by rw [z, n] at q; cases q
    have hnew : h₀.get? s.heap.objs.size = none := by
      cases z : h₀.get? s.heap.objs.size with
      | none => rfl
      | some o => have := hk₀ _ _ z; rw [push_none] at this; cases this
    refine hQ _ (some s.heap.objs.size) rfl rfl rfl (fun b o q => q3 b o (hne b o q) (hk₀ b o q)) ⟨n, vs, sl, q2, h2, h3, hnew, fun q => ?_, _, m', q1, putL_keys (P := fun _ => True) (es := []) _ _ _ _ (fun _ z => (by cases z)) trivial |> fun z en he => (z en he).imp fun x q => q.imp fun t q => q.1, ?_, ?_⟩ fun b o hb _ q => ⟨q3 b o hb q, fun z => ?_⟩
    · rw [← q, push_none] at h1; cases h1
    · have := (putL_len name (PyData.keyHash w.params name) (.str name (s.toks + 1)) v []).1
      simp only [List.length_cons] at this ⊢
      simp only [List.length_nil] at this
      exact Nat.le_trans this (by omega)
    · have hL : L = [] := h4
      subst hL
      exact look [] _ _ (fun _ z => (by cases z)) (fun x v z => by simp at z)
    · cases z; rw [push_none] at q; cases q
  | some dx =>
    obtain ⟨d1, d2, es, m, d3, d4, d5, d6⟩ := h4
    refine set_plain (ox := ⟨.ref C, some dx, .fields vs, sl⟩) (od := some (dictOf es m)) XIn ⟨h1, rfl, rfl, d3⟩ XK.sa (exc_osa (s := { s with toks := s.toks + 1 }) XIn XK h1 hname fun b => own_some (s := { s with toks := s.toks + 1 }) XIn XK h1 d3 d4 (by omega) fun h' m' q1 q2 => ?_)
    have hne : ∀ b o, h₀.get? b = some o → b ≠ dx := fun b o q z => by rw [z, d1] at q; cases q
    refine hQ _ (some dx) rfl rfl rfl (fun b o q => (q2.2 b (hne b o q)).trans (hk₀ b o q)) ⟨n, vs, sl, (q2.2 e (Ne.symm d2)).trans h1, h2, h3, d1, d2, _, m', q1, putL_keys (P := fun _ => True) _ _ _ _ (fun en he => (d4 en he).imp fun x q => q.imp fun t q => ⟨q, trivial⟩) trivial |> fun z en he => (z en he).imp fun x q => q.imp fun t q => q.1, ?_, look es _ _ d4 d6⟩ fun b o hb hbd q => ⟨(q2.2 b fun z => hbd (by rw [z])).trans q, hbd⟩
    · have := (putL_len name (PyData.keyHash w.params name) (.str name (s.toks + 1)) v es).1
      simp only [List.length_cons]
      omega
end
end
end Mine
namespace Mine
section
open PySem PySem.W PyProof.Rows PySem.Calls PySem.Spec Builtin Builtin.ObjectAttr

/-- the rest of a state -/
noncomputable def Same3 (s s' : Shared) : Prop := s'.gens = s.gens ∧ s'.drawn = s.drawn ∧ s'.os = s.os
section
variable {A : Around} {E : Value → Shared → Prop} {h : Heap} {g : Array GenState} {d : Drawn} {t : Nat} {os : OsState} {nm q : Str} {C N : Addr} {bs bm : List Value} {hdct : Bool} {sn : List Str} {sub : List Value} {ab : Bool} {col : Option Bool} {dd : Option Addr} {k0 k1 k2 k3 k5 : Option Value} {newId : String}
theorem xn_checkInit (hm : MroX C bm) {M : Model} {e : Addr} {oe : Obj} {rest : List Value} {Q : Unit → Shared → Prop}
    (hC : h.get? C = some (excClassObj nm q C N bs bm hdct sn sub ab col dd k0 k1 k2 k3 k5 newId)) (he : h.get? e = some oe) (hcls : oe.cls = .ref C) (hq : Q () ⟨h, g, d, t, os⟩) :
    wpAny M A (checkBuiltinCall "Exception.__init__" ⟨.ref e :: rest, []⟩) Q E ⟨h, g, d, t, os⟩ := by
  have F := PySem.F.excBase_Exception
  have hcB := hm.hasB
  have hshort := F.noStar
  simp only [checkBuiltinCall, F.initKind, F.initSplit, F.initRow]
  repeat (first | (with_reducible refine wpAny_loadPart_at he ?_; rw [hcls]) | with_reducible refine wpAny_loadPart_at hC ?_ | (with_reducible refine wpAny_isSubtype_exc hC ?_; rw [hcB]) | wp_step)
  refine wpAny_onRaise ?_
  rw [show ∀ (a b : String) (n : Nat), Bind.check ⟨.positional, "*", "Exception", .self, [⟨"args", .varPos, false⟩]⟩ a b n (List.map (fun x => x.fst) ({ pos := Value.ref e :: rest } : Args).kw) = pure () from
    fun a b n => check_star_args _ _ _ _ _ _]
  exact wpAny_pure hq
end
section
variable {prog : Program} {w : World} {A : Around} {E : Value → Shared → Prop} {s : Shared} {K : Frag} {C e : Addr} {h₀ : Heap} {env : Env} {m : Str → Option Value}
/-- self.name = y -/
theorem asg_self {od : Option Addr} {L : List (Str × Value)} {name y : Str} {v : Value} {p1 p2 p3 p4 : Pos} {Q : Flow → Shared → Prop} (X : K.In h₀) (hk₀ : Kept h₀ s.heap) (XK : ExcK K C) (x : XD h₀ s.heap C e od L) (hname : name ∈ (["message", "spot", "value"] : List Str)) (hl : L.length < 60)
    (hk : env.scope.kind = .function) (hself : env.kindOf "self" = some .local) (hy : env.kindOf y = some .local) (hyd : (y == ("__debug__" : Str)) = false) (hN : s.heap.Ns env.locals m) (hms : m "self" = some (.ref e)) (hmy : m y = some v) (hLe : env.locals ≠ e) (hLd : some env.locals ≠ od)
    (hQ : ∀ s' od', Same3 s s' → Kept h₀ s'.heap → XD h₀ s'.heap C e od' ((name, v) :: L) → s'.heap.Ns env.locals m → (∀ b o, b ≠ e → some b ≠ od → s.heap.get? b = some o → s'.heap.get? b = some o ∧ some b ≠ od') → Q .next s') :
    wpAny (model prog w) A (exec (.Assign [.Attribute (.Name "self" p1) name p2] (.Name y p3) p4) env) Q E s := by
  refine wpAny_Assign_stores (wpAny_Name (wpAny_loadName_local hk hy hN hmy ?_) hyd) (swaps_att ..) rfl
  show wpAny _ _ (assign (.Attribute (.Name "self" p1) name p2) env v) _ _ _
  rw [assign_att]
  refine wpAny_bind (wpAny_holding (wpAny_Name (wpAny_loadName_local hk hself hN hms ?_) rfl))
  refine wpAny_bind (wpAny_standAt (wpAny_bind (wpAny_holding (xset X hk₀ XK x hname hl fun s' od' g1 g2 g3 k' x' hkp => ?_))))
  refine wpAny_release (hQ s' od' ⟨g1, g2, g3⟩ k' x' ?_ hkp)
  obtain ⟨o, es, ep, ho, r⟩ := hN
  exact ⟨o, es, ep, (hkp _ _ hLe hLd ho).1, r⟩
/-- Exception.__init__(self, message) -/
theorem base_init {nm q : Str} {N : Addr} {bs bm : List Value} {hdct : Bool} {sn : List Str} {sub : List Value} {ab : Bool} {col : Option Bool} {dd : Option Addr} {k0 k1 k2 k3 k5 : Option Value} {newId : String} {od : Option Addr} {L : List (Str × Value)} {msg : Value} {Q : Value → Shared → Prop}
    (hk₀ : Kept h₀ s.heap) (hm : MroX C bm) (hC : h₀.get? C = some (excClassObj nm q C N bs bm hdct sn sub ab col dd k0 k1 k2 k3 k5 newId)) (x : XD h₀ s.heap C e od L)
    (hQ : ∀ s', Same3 s s' → Kept h₀ s'.heap → XD h₀ s'.heap C e od L → (∀ b o, b ≠ e → s.heap.get? b = some o → s'.heap.get? b = some o) → Q .none s') :
    wpAny (model prog w) A (call (.builtin "Exception.__init__") [.ref e, msg]) Q E s := by
  have F := PySem.F.excBase_Exception
  obtain ⟨n, vs, sl, h1, h2, h3, h4⟩ := x
  obtain ⟨a0, ha0⟩ : ∃ a0, vs[0]? = some a0 := ⟨vs[0], Array.getElem?_eq_getElem (by omega)⟩
  obtain ⟨hh, g, d, t, os⟩ := s
  refine wpAny_call (codeAny_call_builtin F.init.plain F.initEntry (xn_checkInit hm (hk₀ _ _ hC) h1 rfl ?_))
  unfold Builtin.«BaseException.__init__»
  show wpAny _ _ (newTuple [msg] >>= _) _ _ _
  refine wpAny_bind (wpAny_newTuple ?_)
  refine wpAny_bind ?_
  have h1' : hh.get? e = some ⟨.ref C, od, .fields vs, sl⟩ := h1
  have he₁ := Heap.get?_push_of_some { cls := .type "tuple", data := .seq [msg].toArray } h1'
  have hd := Obj.data_mapFields (o := ⟨.ref C, od, .fields vs, sl⟩) rfl (·.setIfInBounds 0 (Value.ref hh.objs.size))
  have he₂ : ((hh.push { cls := .type "tuple", data := .seq [msg].toArray }).update e (Obj.mapFields (·.setIfInBounds 0 (Value.ref hh.objs.size)))).get? e = some ⟨.ref C, od, .fields (vs.setIfInBounds 0 (.ref hh.objs.size)), sl⟩ := Heap.get?_update_self _ he₁ rfl
  have kp : ∀ b o, b ≠ e → hh.get? b = some o → ((hh.push { cls := .type "tuple", data := .seq [msg].toArray }).update e (Obj.mapFields (·.setIfInBounds 0 (Value.ref hh.objs.size)))).get? b = some o := fun b o hb hbo =>
    (Heap.get?_update_other _ _ (Ne.symm hb)).trans (Heap.get?_push_of_some _ hbo)
  have hne : ∀ b o, h₀.get? b = some o → b ≠ e := fun b o q z => by rw [z, n] at q; cases q
  have fin : Q .none { heap := (hh.push { cls := .type "tuple", data := .seq [msg].toArray }).update e (Obj.mapFields (·.setIfInBounds 0 (Value.ref hh.objs.size))), gens := g, drawn := d, toks := t, os := os } := by
    refine hQ _ ⟨rfl, rfl, rfl⟩ (fun b o q => kp b o (hne b o q) (hk₀ b o q)) ⟨n, _, sl, he₂, by simpa using h2, by rw [Array.getElem?_setIfInBounds_ne (by decide)]; exact h3, ?_⟩ kp
    cases od with
    | none => exact h4
    | some dx =>
      obtain ⟨q1, q2, es, m, q3, q4⟩ := h4
      exact ⟨q1, q2, es, m, kp _ _ q2 q3, q4⟩
  show wpAny _ _ (field (.ref e) 0 >>= _) _ _ _
  refine wpAny_bind (wpAny_field he₁ rfl ha0 ?_)
  refine wpAny_bind (wpAny_setField he₁ rfl (by omega) ?_)
  cases a0 with
  | ref q => exact wpAny_bind (wpAny_holding (wpAny_point (wpAny_pure (wpAny_pure fin))))
  | _ => exact wpAny_pure (wpAny_pure fin)
end
end
end Mine
namespace Mine
section
open PySem PySem.W PyProof.Rows PySem.Calls PySem.Spec Builtin Builtin.ObjectAttr

section
variable {prog : Program} {w : World} {A : Around} {E : Value → Shared → Prop} {s : Shared} {K : Frag} {C e : Addr} {h₀ : Heap} {env : Env} {m : Str → Option Value}
theorem method_typeX {T : String} {name : Str} {v : Value} {pl : Sem Bool} {Q : Value × List Value → Shared → Prop} (X : K.In s.heap) (ht : typeOf (.type T) = pure (.type "type")) (hs : Manifest.isStub T = false)
    (e : findCls K (.type T) (.type "type") name = some (.val v)) (hh : handedIn v = true) (h : Q (v, []) { s with toks := s.toks + 1 }) : wpAny (model prog w) A (getMethod (.type T) name pl) Q E s := by
  have ty : Looks (model prog w) s.heap (typeOf (.type T)) (.type "type") := .of_pure ht
  have plain : Looks (model prog w) s.heap (opaqueClassAbove (.type T)) none := .of_pure (by simp only [opaqueClassAbove, hs]; rfl)
  have slot : findIn K (.type "type") "__getattribute__" = _ := type_tga
  have out : ∀ {Q : Value → Shared → Prop} {s' : Shared}, Q v s' → wpAny (model prog w) A (handedOut v) Q E s' := fun q => by rw [handedOut_of hh]; exact wpAny_pure q
  unfold getMethod specialOf
  refine wpAny_bind (wpAny_bind (ty.here ((looks_findIn X slot).here ?_)))
  simp only [if_pos canon_tga]
  exact wpAny_bind (wpAny_mono (cls_open (Q := fun v => Q (v, [])) X plain ty slot (looks_hook X (r := none) rfl) (show subIn K _ _ = _ from rfl) e (wpAny_pure (out h))) (fun _ _ z => wpAny_pure z) fun _ _ z => z)
/-- o.name(a, b) where o is a class that gives a function by that name -/
theorem clsCall2 {o : Expr} {name : Str} {a b : Expr} {va vb f : Value} {ap pos : Pos} {ov : Value} {Q : Value → Shared → Prop} (hb : attributeBase o name env (eval o env) = eval o env) (hp : (ap.endLine == pos.line) = true) (hsa : Star a) (hsb : Star b) (hX : K.In s.heap) (hf : ∀ h, K.In h → ∃ k, (k = Keeper.frame ∨ k = Keeper.machine ∨ k = Keeper.boundFrame) ∧ Looks (model prog w) h (keeperOf f) k)
    (ho : ∀ {Q : Value → Shared → Prop}, Q ov s → wpAny (model prog w) A (eval o env) Q E s)
    (hm : ∀ {Q : Value × List Value → Shared → Prop} {pl : Sem Bool}, Q (f, []) { s with toks := s.toks + 1 } → wpAny (model prog w) A (getMethod ov name pl) Q E s)
    (ha : ∀ {Q : Value → Shared → Prop} (tk : Nat), (∀ t, Q va { s with toks := t }) → wpAny (model prog w) A (eval a env) Q E { s with toks := tk })
    (hbv : ∀ {Q : Value → Shared → Prop} (tk : Nat), (∀ v t, vb = v ∨ (∃ x u u', vb = .str x u ∧ v = .str x u') → Q v { s with toks := t }) → wpAny (model prog w) A (eval b env) Q E { s with toks := tk })
    (hc : ∀ v t, wpAny (model prog w) A (call f [va, v]) Q E { s with toks := t }) : wpAny (model prog w) A (eval (.Call (.Attribute o name ap) [a, b] [] pos) env) Q E s := by
  rw [arm_eval_Call, hb]
  refine wpAny_bind (ho ?_)
  have hpos : methodCallPos true o env ap pos = pure pos := by unfold methodCallPos; simp [hp]
  have hform : methodCallForm ([a, b].length + ([] : List Keyword).length) (backTo pos (starEach [a, b] env)) (backToKw pos (keywordEach [] env)) = true := by rw [hsa, hsb]; rfl
  refine wpAny_bind (wpAny_standAt ?_)
  unfold methodCall
  rw [hform]
  refine wpAny_bind (wpAny_holding (hm ?_))
  refine wpAny_bind (wpAny_of_eq hpos ?_)
  refine callWith_of (P := fun h => K.In h) (first := []) (by rw [hsa, hsb]; rfl) hf ?_
  rw [hsa, hsb]
  refine evalArgs_plain (spliced_cons (ha _ fun t => spliced_cons (hbv _ fun v t' _ => wpAny_pure ⟨hX, hc v t'⟩)))
end
end
end Mine
namespace Mine
section
open PySem PySem.W PyProof.Rows PySem.Calls PySem.Spec Builtin Builtin.ObjectAttr

set_option genInjectivity false in
set_option genSizeOf false in
set_option genSizeOfSpec false in
/-- what the making of an exception asks of the text -/
structure ExcM (G : Gd) where
  R : Addr
  fT : Addr
  fR : Addr
  exK : ExcK G.K G.exc
  mro : ∃ nm q N bs hdct sn sub ab col dd k0 k1 k2 k3 k5 mN, G.base.get? G.exc = some (excClassObj nm q G.exc N bs [.ref R, .type "Exception", .type "BaseException", .type "object"] hdct sn sub ab col dd k0 k1 k2 k3 k5 "Exception.__new__") ∧ G.base.Ns N mN ∧ mN "__init__" = some (.ref fT)
  gE : GlobV G "Exception" (.type "Exception")
  gR : GlobV G "RowsError" (.ref R)
  cE : findCls G.K (.type "Exception") (.type "type") "__init__" = some (.val (.builtin "Exception.__init__"))
  cR : findCls G.K (.ref R) (.type "type") "__init__" = some (.val (.ref fR))
  rR : readsIn G.K R (.type "type") = true
  sR : specialIn G.K (.ref R) "__getattribute__" = some (some (.builtin "type.__getattribute__"))
  keepR : keepIn G.K (.ref fR) = true
  fnT : FnK G fT (inCls 0 (stJ 4))
  tyT : typeIn G.K (.ref fT) = some (.type "function")
  fnR : ∃ name qual T o m kV doc pm an cdv ct, FnAt G fR (fdOf (inCls 0 (stJ 2)) name qual (.ref T) kV doc pm an cdv ct) ∧ G.base.get? T = some o ∧ o.data = .seq #[.none] m
theorem mroX (C R : Addr) : MroX C [.ref R, .type "Exception", .type "BaseException", .type "object"] := ⟨rfl, rfl, rfl, rfl⟩
section
variable {G : Gd} {A : Around} {E : Value → Shared → Prop} {s : Shared} {e : Addr} {h₀ : Heap} {env : Env} {m : Str → Option Value}
theorem globK {Q : Value → Shared → Prop} {x : Str} {v : Value} {pos : Pos} (hg : GlobV G x v) (hk : Kept G.base s.heap) (h1 : env.scope.kind = .function) (h2 : env.globals = mainGlobals) (h3 : env.builtins = builtinsNs) (hx : env.kindOf x = some .globalImplicit) (h : Q v s) : wpAny (model G.prog G.w) A (eval (.Name x pos) env) Q E s := by
  refine Name_function_global h1 hx ?_ hg.1
  rcases hg.2 with q | ⟨q, hn, hb⟩
  · exact loadGlobal_global (by rw [h2]; exact G.hg.keeps hk) q h
  · exact loadGlobal_builtin (by rw [h2]; exact G.hg.keeps hk) q (by rw [h3]; exact G.hb.keeps hk) ((G.bi x hn).trans hb) h
theorem rows_body (M : ExcM G) {od : Option Addr} {vm : Value} {p1 p2 p3 p4 p5 p6 q1 q2 q3 q4 r1 r2 r3 r4 : Pos} {Q : Flow → Shared → Prop} (kb : Kept G.base h₀) (hk₀ : Kept h₀ s.heap) (x : XD h₀ s.heap G.exc e od [])
    (hk : env.scope.kind = .function) (h2 : env.globals = mainGlobals) (h3 : env.builtins = builtinsNs) (k1 : env.kindOf "self" = some .local) (k2 : env.kindOf "message" = some .local) (k3 : env.kindOf "spot" = some .local) (k4 : env.kindOf "Exception" = some .globalImplicit)
    (hN : s.heap.Ns env.locals m) (m1 : m "self" = some (.ref e)) (m2 : m "message" = some vm) (m3 : m "spot" = some .none) (hLe : env.locals ≠ e) (hLd : some env.locals ≠ od) (hp : (p2.endLine == p5.line) = true)
    (hQ : ∀ s' od' L, L.length ≤ 2 → Same3 s s' → Kept h₀ s'.heap → XD h₀ s'.heap G.exc e od' L → (∀ b o, b ≠ e → some b ≠ od → s.heap.get? b = some o → s'.heap.get? b = some o ∧ some b ≠ od') → Q .next s') :
    wpAny (model G.prog G.w) A (execs [.Expr (.Call (.Attribute (.Name "Exception" p1) "__init__" p2) [.Name "self" p3, .Name "message" p4] [] p5) p6, .Assign [.Attribute (.Name "self" q1) "message" q2] (.Name "message" q3) q4, .Assign [.Attribute (.Name "self" r1) "spot" r2] (.Name "spot" r3) r4] env) Q E s := by
  obtain ⟨nm, q, N, bs, hdct, sn, sub, ab, col, dd, k0, k1', k2', k3', k5, mN, hC, hNs, hi⟩ := M.mro
  have XIn : G.K.In h₀ := fun b o q => kb b o (G.kin b o q)
  have Xs : G.K.In s.heap := fun b o q => hk₀ b o (XIn b o q)
  have kbs : Kept G.base s.heap := kb.trans hk₀
  have hint : interactive env = false := by unfold interactive; rw [hk]; rfl
  refine wpAny_execs_cons (wpAny_Expr_any (clsCall2 (K := G.K) (va := .ref e) (vb := vm) (f := .builtin "Exception.__init__") (ov := .type "Exception") rfl hp (fun _ _ => rfl) (fun _ _ => rfl) Xs (KeepF.builtin "Exception.__init__")
    (fun hq => globK M.gE kbs hk h2 h3 k4 hq) (fun hq => method_typeX Xs (by kernel_rfl) (by decide +kernel) M.cE rfl hq) (fun tk hq => wpAny_Name (wpAny_loadName_local hk k1 hN m1 (hq _)) rfl) (fun tk hq => wpAny_Name (wpAny_loadName_local hk k2 hN m2 (hq _ _ (.inl rfl))) rfl)
    fun v t => base_init (s := { s with toks := t }) hk₀ (mroX _ _) (kb _ _ hC) x fun s₁ e₁ kk₁ x₁ hk₁ => ?_) hint rfl)
  have N₁ : s₁.heap.Ns env.locals m := by obtain ⟨o, es, ep, ho, r⟩ := hN; exact ⟨o, es, ep, hk₁ _ _ hLe ho, r⟩
  refine wpAny_execs_cons (asg_self XIn kk₁ M.exK x₁ (.head _) (by simp) hk k1 k2 rfl N₁ m1 m2 hLe hLd fun s₂ od₂ e₂ kk₂ x₂ N₂ hk₂ => ?_)
  have hL₂ : some env.locals ≠ od₂ := by obtain ⟨o, es, ep, ho, r⟩ := N₁; exact (hk₂ _ _ hLe hLd ho).2
  refine wpAny_execs_cons (asg_self XIn kk₂ M.exK x₂ (.tail _ (.head _)) (by simp) hk k1 k3 rfl N₂ m1 m3 hLe hL₂ fun s₃ od₃ e₃ kk₃ x₃ N₃ hk₃ => wpAny_execs_nil ?_)
  refine hQ s₃ od₃ _ (Nat.le_refl _) ⟨e₃.1.trans (e₂.1.trans e₁.1), e₃.2.1.trans (e₂.2.1.trans e₁.2.1), e₃.2.2.trans (e₂.2.2.trans e₁.2.2)⟩ kk₃ x₃ fun b o hb hbd hbo => ?_
  obtain ⟨z1, z2⟩ := hk₂ b o hb hbd (hk₁ b o hb hbo)
  exact hk₃ b o hb z2 z1
end
end
end Mine
namespace Mine
section
open PySem PySem.W PyProof.Rows PySem.Calls PySem.Spec Builtin Builtin.ObjectAttr

theorem bodyR : ∃ p1 p2 p3 p4 p5 p6 q1 q2 q3 q4 r1 r2 r3 r4 : Pos, fdBody (inCls 0 (stJ 2)) = [.Expr (.Call (.Attribute (.Name "Exception" p1) "__init__" p2) [.Name "self" p3, .Name "message" p4] [] p5) p6, .Assign [.Attribute (.Name "self" q1) "message" q2] (.Name "message" q3) q4, .Assign [.Attribute (.Name "self" r1) "spot" r2] (.Name "spot" r3) r4] ∧ (p2.endLine == p5.line) = true :=
  ⟨_, _, _, _, _, _, _, _, _, _, _, _, _, _, rfl, rfl⟩
theorem cellR : ∀ x ∈ (fdScope (inCls 0 (stJ 2))).names, x.2 ≠ .cell := by decide +kernel
theorem kindR : (fdScope (inCls 0 (stJ 2))).kind = .function ∧ (fdScope (inCls 0 (stJ 2))).names.lookup ("self" : Str) = some .local ∧ (fdScope (inCls 0 (stJ 2))).names.lookup ("message" : Str) = some .local ∧ (fdScope (inCls 0 (stJ 2))).names.lookup ("spot" : Str) = some .local ∧
  (fdScope (inCls 0 (stJ 2))).names.lookup ("Exception" : Str) = some .globalImplicit := by decide +kernel
section
variable {G : Gd} {A : Around} {E : Value → Shared → Prop} {s : Shared} {e : Addr} {h₀ : Heap}
theorem XD.ne {h : Heap} {C : Addr} {od : Option Addr} {L : List (Str × Value)} (x : XD h₀ h C e od L) : h.objs.size ≠ e ∧ some h.objs.size ≠ od := by
  obtain ⟨n, vs, sl, h1, h2, h3, h4⟩ := x
  refine ⟨Ne.symm (Nat.ne_of_lt (Heap.lt_size h1)), fun q => ?_⟩
  subst q
  obtain ⟨_, _, es, m, q3, _⟩ := h4
  rw [push_none] at q3; cases q3
theorem rows_call (M : ExcM G) {od : Option Addr} {msg : Value} {Q : Value → Shared → Prop} (hroom : A.depth < recursionLimit) (kb : Kept G.base h₀) (hk₀ : Kept h₀ s.heap) (x : XD h₀ s.heap G.exc e od [])
    (hQ : ∀ s' od' L, L.length ≤ 2 → Same3 s s' → Kept h₀ s'.heap → XD h₀ s'.heap G.exc e od' L → (∀ b o, b ≠ e → some b ≠ od → s.heap.get? b = some o → s'.heap.get? b = some o ∧ some b ≠ od') → Q .none s') :
    wpAny (model G.prog G.w) A (call (.ref M.fR) [.ref e, msg]) Q E s := by
  obtain ⟨name, qual, T, oT, mT, kV, doc, pm, an, cdv, ct, FA, hoT, hdT⟩ := M.fnR
  obtain ⟨p1, p2, p3, p4, p5, p6, q1, q2, q3, q4, r1, r2, r3, r4, eB, hp⟩ := bodyR
  obtain ⟨kf, k1, k2, k3, k4⟩ := kindR
  obtain ⟨fo, hfo, hfd⟩ := FA.at_
  have kbs : Kept G.base s.heap := kb.trans hk₀
  obtain ⟨ne1, ne2⟩ := x.ne
  refine wpAny_call (codeAny_call_def (binds := [("self", .ref e), ("message", msg), ("spot", .none)]) hroom (kbs _ _ hfo) hfd (G.nolimit.keeps kbs) (FA.code.keeps kbs) (congrArg FuncBody.stmts eB) (BindsTo.of_defaults (o := oT) rfl (kbs _ _ hoT) hdT rfl rfl) cellR (fun y hy => ?_) (fun h₁ hns hk₁ => ?_) FA.co FA.gen kf)
  · simp only [List.mem_cons, List.not_mem_nil, or_false] at hy
    rcases hy with rfl | rfl | rfl
    · exact k1
    · exact k2
    · exact k3
  · refine wpAny_mono (rows_body (m := fun x => [(("self" : Str), Value.ref e), ("message", msg), ("spot", .none)].reverse.lookup x) (E := fun _ _ => False) M kb (hk₀.trans hk₁) (x.mono hk₁) kf rfl rfl k1 k2 k3 k4 hns rfl rfl rfl ne1 ne2 hp (Q := fun fl s' => fl = .next ∧ Q .none s') fun s' od' L hL e' kk x' hkp => ⟨rfl, hQ s' od' L hL e' kk x' fun b o hb hbd hbo => hkp b o hb hbd (hk₁ b o hbo)⟩) (fun fl s' q => ?_) fun _ _ z => z.elim
    obtain ⟨rfl, q⟩ := q
    exact q
end
end
end Mine
namespace Mine
section
open PySem PySem.W PyProof.Rows PySem.Calls PySem.Spec Builtin Builtin.ObjectAttr

section
variable {G : Gd} {frs : List Env} {ω : Wd} {σ : Sto} {s : Shared}
/-- a new object of the store, and new things that nobody is to change -/
theorem St.allocNew (R : Rep G.toGl frs ω σ s.heap) {h' : Heap} {a₀ : Addr} (hk : ∀ b o, s.heap.get? b = some o → h'.get? b = some o) (ha : s.heap.get? a₀ = none) (hal : ∃ o, h'.get? a₀ = some o) (new : List Addr)
    (hn : ∀ b ∈ new, s.heap.get? b = none ∧ b ≠ a₀ ∧ ∃ o, h'.get? b = some o) {ao : AO} {kk : Nat → Sto → Bool} (h : Mine.alloc ao σ kk = true) (t : Nat)
    (hO : ∀ ω' , Later ω s.heap ω' h' → (∀ b ∈ new, b ∈ ω'.fz) → OR G.toGl ω' h' a₀ ao) :
    ∃ σ', kk σ.n σ' = true ∧ St G frs [] ω s { ω with ρ := ω.ρ ++ [a₀], fz := new ++ ω.fz } σ' { s with heap := h', toks := t } := by
  obtain ⟨tt, n, ns⟩ := σ
  have h1 : TR.putK ao tt n (fun t => fN n fun i => kk i ⟨t, Nat.succ i, ns⟩) = true := h
  obtain ⟨t', ht, hg⟩ := TR.putK_eq _ _ _ _ h1
  rw [fN_eq] at ht
  have hlen : ω.ρ.length = n := R.len
  have L : Later ω s.heap { ω with ρ := ω.ρ ++ [a₀], fz := new ++ ω.fz } h' := ⟨fun a q => List.mem_append_right _ q, fun _ _ q => nth_append q, fun _ _ q => q, fun a _ o e => hk a o e⟩
  refine ⟨_, ht, ⟨fun a o' e => ⟨o', hk a o' e⟩, ⟨[a₀], rfl, fun a q => by rw [List.mem_singleton.mp q]; exact ha⟩, L.fz, fun a q => ?_, ⟨[], by simp⟩, fun a o' e _ _ => .inl (hk a o' e)⟩,
    ⟨fun i o' e => ?_, by simp [hlen], R.nu, ?_, fun a q => ?_, fun a q => ?_, fun a q => ?_, fun a q => ?_, fun a o' e => hk a o' (R.base a o' e), ?_, fun a q => List.mem_append_right _ (R.glob a q)⟩, rfl, rfl, rfl⟩
  · rcases List.mem_append.mp q with q | q
    · exact .inr (hn a q).1
    · exact .inl q
  · rw [hg] at e
    by_cases hi : i = n
    · subst hi
      rw [if_pos rfl] at e
      cases e
      refine ⟨_, ?_, hO _ L fun b hb => List.mem_append_left _ hb⟩
      rw [← hlen]
      simp
    · rw [if_neg hi] at e
      obtain ⟨a, ea, oa⟩ := R.objs i o' e
      exact ⟨a, nth_append ea, oa.later L fun o e => hk _ o e⟩
  · refine List.nodup_append.mpr ⟨R.nodup, by simp, fun a hm b hb e => ?_⟩
    rw [List.mem_singleton.mp hb] at e
    exact live_ne (R.low a hm) ha e
  · rcases List.mem_append.mp q with q | q
    · obtain ⟨o', ho'⟩ := R.low a q
      exact ⟨o', hk _ _ ho'⟩
    · rw [List.mem_singleton.mp q]; exact hal
  · rcases List.mem_append.mp q with q | q
    · exact (hn a q).2.2
    · obtain ⟨o', ho'⟩ := R.lowz a q
      exact ⟨o', hk _ _ ho'⟩
  · rcases List.mem_append.mp q with q | q
    · refine ⟨fun z => ?_, (R.sep a q).2⟩
      rcases List.mem_append.mp z with z | z
      · exact live_ne (R.low a q) (hn a z).1 rfl
      · exact (R.sep a q).1 z
    · rw [List.mem_singleton.mp q]
      refine ⟨fun z => ?_, ?_, fun z => live_ne (R.frLow _ z) ha rfl⟩
      · rcases List.mem_append.mp z with z | z
        · exact (hn _ z).2.1 rfl
        · exact live_ne (R.lowz _ z) ha rfl
      · cases e : G.base.get? a₀ with
        | none => rfl
        | some o' => have := R.base _ _ e; rw [ha] at this; cases this
  · rcases List.mem_append.mp q with q | q
    · exact fun z => live_ne (R.frLow a z) (hn a q).1 rfl
    · exact R.fzF a q
  · exact R.frames.of_keeps fun b o e _ => ⟨o, hk _ _ e, rfl⟩
end
end
end Mine
namespace Mine
section
open PySem PySem.W PyProof.Rows PySem.Calls PySem.Spec Builtin Builtin.ObjectAttr

theorem bodyT : ∃ (p1 p2 p3 p4 p5 p6 q1 q2 q3 q4 : Pos) (kd : Nat) (x : Str), fdBody (inCls 0 (stJ 4)) = [.Expr (.Call (.Attribute (.Name "RowsError" p1) "__init__" p2) [.Name "self" p3, .Constant (.str x) kd p4] [] p5) p6, .Assign [.Attribute (.Name "self" q1) "value" q2] (.Name "value" q3) q4] ∧ (p2.endLine == p5.line) = true :=
  ⟨_, _, _, _, _, _, _, _, _, _, _, _, rfl, rfl⟩
theorem cellT : ∀ x ∈ (fdScope (inCls 0 (stJ 4))).names, x.2 ≠ .cell := by decide +kernel
theorem kindT : (fdScope (inCls 0 (stJ 4))).kind = .function ∧ (fdScope (inCls 0 (stJ 4))).names.lookup ("self" : Str) = some .local ∧ (fdScope (inCls 0 (stJ 4))).names.lookup ("value" : Str) = some .local ∧
  (fdScope (inCls 0 (stJ 4))).names.lookup ("RowsError" : Str) = some .globalImplicit := by decide +kernel
section
variable {G : Gd} {A : Around} {E : Value → Shared → Prop} {s : Shared} {e : Addr} {h₀ : Heap} {env : Env} {m : Str → Option Value}
theorem thrownI_body (M : ExcM G) {od : Option Addr} {vm : Value} {p1 p2 p3 p4 p5 p6 q1 q2 q3 q4 : Pos} {kd : Nat} {txt : Str} {Q : Flow → Shared → Prop} (hroom : A.depth < recursionLimit) (kb : Kept G.base h₀) (hk₀ : Kept h₀ s.heap) (x : XD h₀ s.heap G.exc e od [])
    (hk : env.scope.kind = .function) (h2 : env.globals = mainGlobals) (h3 : env.builtins = builtinsNs) (k1 : env.kindOf "self" = some .local) (k2 : env.kindOf "value" = some .local) (k4 : env.kindOf "RowsError" = some .globalImplicit)
    (hN : s.heap.Ns env.locals m) (m1 : m "self" = some (.ref e)) (m2 : m "value" = some vm) (hLe : env.locals ≠ e) (hLd : some env.locals ≠ od) (hp : (p2.endLine == p5.line) = true)
    (hQ : ∀ s' od' L, L.length ≤ 3 → L.lookup ("value" : Str) = some vm → Same3 s s' → Kept h₀ s'.heap → XD h₀ s'.heap G.exc e od' L → Q .next s') :
    wpAny (model G.prog G.w) A (execs [.Expr (.Call (.Attribute (.Name "RowsError" p1) "__init__" p2) [.Name "self" p3, .Constant (.str txt) kd p4] [] p5) p6, .Assign [.Attribute (.Name "self" q1) "value" q2] (.Name "value" q3) q4] env) Q E s := by
  have XIn : G.K.In h₀ := fun b o q => kb b o (G.kin b o q)
  have Xs : G.K.In s.heap := fun b o q => hk₀ b o (XIn b o q)
  have kbs : Kept G.base s.heap := kb.trans hk₀
  have hint : interactive env = false := by unfold interactive; rw [hk]; rfl
  refine wpAny_execs_cons (wpAny_Expr_any (clsCall2 (K := G.K) (va := .ref e) (vb := .str txt 0) (f := .ref M.fR) (ov := .ref M.R) rfl hp (fun _ _ => rfl) (fun _ _ => rfl) Xs (KeepF.of M.keepR)
    (fun hq => globK M.gR kbs hk h2 h3 k4 hq) (fun hq => method_cls Xs M.sR (cls_value Xs M.rR M.cR rfl hq)) (fun tk hq => wpAny_Name (wpAny_loadName_local hk k1 hN m1 (hq _)) rfl) (fun tk hq => wpAny_Constant_str (hq _ _ (.inr ⟨txt, _, _, rfl, rfl⟩)))
    fun v t => rows_call (s := { s with toks := t }) M hroom kb hk₀ x fun s₁ od₁ L₁ hl₁ e₁ kk₁ x₁ hk₁ => ?_) hint rfl)
  obtain ⟨oL, es, ep, ho, r⟩ := hN
  obtain ⟨z1, z2⟩ := hk₁ _ _ hLe hLd ho
  have N₁ : s₁.heap.Ns env.locals m := ⟨oL, es, ep, z1, r⟩
  refine wpAny_execs_cons (asg_self XIn kk₁ M.exK x₁ (.tail _ (.tail _ (.head _))) (by omega) hk k1 k2 rfl N₁ m1 m2 hLe z2 fun s₂ od₂ e₂ kk₂ x₂ N₂ hk₂ => wpAny_execs_nil ?_)
  exact hQ s₂ od₂ _ (by simp; omega) (by simp) ⟨e₂.1.trans e₁.1, e₂.2.1.trans e₁.2.1, e₂.2.2.trans e₁.2.2⟩ kk₂ x₂
theorem thrownI_call (M : ExcM G) {od : Option Addr} {v : Value} {Q : Value → Shared → Prop} (hroom : A.depth + 1 < recursionLimit) (kb : Kept G.base h₀) (hk₀ : Kept h₀ s.heap) (x : XD h₀ s.heap G.exc e od [])
    (hQ : ∀ s' od' L, L.length ≤ 3 → L.lookup ("value" : Str) = some v → Same3 s s' → Kept h₀ s'.heap → XD h₀ s'.heap G.exc e od' L → Q .none s') :
    wpAny (model G.prog G.w) A (call (.ref M.fT) [.ref e, v]) Q E s := by
  obtain ⟨name, qual, kV, doc, pm, an, cdv, ct, FA⟩ := M.fnT.fn
  obtain ⟨p1, p2, p3, p4, p5, p6, q1, q2, q3, q4, kd, txt, eB, hp⟩ := bodyT
  obtain ⟨kf, k1, k2, k4⟩ := kindT
  obtain ⟨fo, hfo, hfd⟩ := FA.at_
  have kbs : Kept G.base s.heap := kb.trans hk₀
  obtain ⟨ne1, ne2⟩ := x.ne
  refine wpAny_call (codeAny_call_def (binds := [("self", .ref e), ("value", v)]) (by omega) (kbs _ _ hfo) hfd (G.nolimit.keeps kbs) (FA.code.keeps kbs) (congrArg FuncBody.stmts eB) (BindsTo.of_eq rfl) cellT (fun y hy => ?_) (fun h₁ hns hk₁ => ?_) FA.co FA.gen kf)
  · simp only [List.mem_cons, List.not_mem_nil, or_false] at hy
    rcases hy with rfl | rfl
    · exact k1
    · exact k2
  · refine wpAny_mono (thrownI_body (m := fun x => [(("self" : Str), Value.ref e), ("value", v)].reverse.lookup x) (E := fun _ _ => False) M (by show A.depth + 1 < _; exact hroom) kb (hk₀.trans hk₁) (x.mono hk₁) kf rfl rfl k1 k2 k4 hns rfl rfl ne1 ne2 hp (Q := fun fl s' => fl = .next ∧ Q .none s') fun s' od' L hL hv e' kk x' => ⟨rfl, hQ s' od' L hL hv e' kk x'⟩) (fun fl s' q => ?_) fun _ _ z => z.elim
    obtain ⟨rfl, q⟩ := q
    exact q
end
section
variable {G : Gd}
theorem sp_exc (U2 : Uni2 G) (M : ExcM G) {n : Nat} {Γ : Ct} {c : CV} {e : Expr} {np pos : Pos} (hn : 8 ≤ n) (hx : ("Thrown" : Str) ∈ Γ.globs) (hc : SE G n Γ c e) (se : Star e) : SE G n Γ (vExc c) (.Call (.Name "Thrown" np) [e] [] pos) := by
  intro A frs env X fr ω σ s k x hA hF R F h
  refine callName (k := K1 fun v σ => alloc (.exc (.lst [v])) σ fun i σ => k (.obj i) σ) U2.gX hx (KeepF.of U2.kX) (.cons hc se .nil) hA hF R F h fun vs s₁ l ω₁ σ₁ hl S V q => ?_
  obtain ⟨av, rfl, q'⟩ := K1_inv q
  obtain ⟨v, rfl, V'⟩ := V.one_inv
  obtain ⟨nm, qq, N, bs, hdct, sn, sub, ab, col, dd, k0, k1, k2, k3, k5, mN, hC, hNs, hi⟩ := M.mro
  have kb : Kept G.base s₁.heap := S.rep.base
  obtain ⟨name, qual, kV, doc, pm, an, cdv, ct, FA⟩ := M.fnT.fn
  obtain ⟨fo, hfo, hfd⟩ := FA.at_
  have hfc : fo.cls = .type "function" := by
    obtain ⟨o, ho, hoc⟩ := Option.map_eq_some_iff.mp (show (G.K.lookup M.fT).map (·.cls) = some (.type "function") from M.tyT)
    have := G.kin _ _ ho
    rw [hfo] at this
    cases this
    exact hoc
  obtain ⟨hh, g, d, t, os⟩ := s₁
  refine xn_call (mroX _ _) (kb _ _ hC) (hNs.keeps kb) hi (kb _ _ hfo) hfc (fun h' e' hm => ?_) (by simp; exact sizeLine_ge (by omega))
  obtain ⟨ta, he', hta, htt⟩ := hm.there
  have hroom : (A.under (.builtin "type.__call__" ⟨[.ref G.exc, v], []⟩)).depth + 1 < recursionLimit := by show A.depth + 1 + 1 < _; have := hA.2.1; omega
  refine thrownI_call (s := ⟨h', g, d, t, os⟩) (e := e') (od := none) (v := v) M hroom kb hm.keeps ⟨hm.new, _, _, he', by simp, rfl, rfl⟩ fun s' od' L hL hv e3 kk x' => ⟨rfl, ?_⟩
  obtain ⟨n0, vs', sl', g1, g2, g3, g4⟩ := x'
  cases od' with
  | none => rw [show L = [] from g4] at hv; simp at hv
  | some dx =>
    obtain ⟨d1, d2, es, mm, d3, d4, d5, d6⟩ := g4
    obtain ⟨σ', hk', S'⟩ := St.allocNew (s := ⟨hh, g, d, t, os⟩) (h' := s'.heap) S.rep kk hm.new ⟨_, g1⟩ [dx] (fun b hb => by rw [List.mem_singleton.mp hb]; exact ⟨d1, d2, _, d3⟩) q' s'.toks fun ω' L' hz =>
      ⟨_, dx, es, mm, v, vs', g1, rfl, rfl, rfl, hz dx (.head _), d3, d6 _ _ hv, L'.vr V', g2, fun _ => g3⟩
    have hs' : s' = { (⟨hh, g, d, t, os⟩ : Shared) with heap := s'.heap, toks := s'.toks } := by
      obtain ⟨h1, g1, d1, t1, os1⟩ := s'
      obtain ⟨z1, z2, z3⟩ := e3
      cases z1; cases z2; cases z3; rfl
    rw [hs']
    exact OkV.after S ⟨_, _, σ', hk', S', .obj (rho_new ω₁ σ₁.n _ S.rep.len)⟩
end
end
end Mine
namespace Mine
section
open PySem PySem.W PyProof.Rows PySem.Calls PySem.Spec

/-- all that is done by hand -/
theorem sp {G : Gd} (U : Uni G) (U2 : Uni2 G) (M : ExcM G) : Sp G U where
  next := sp_next U
  nextPos := sp_nextPos U
  exc := sp_exc U2 M
  thrown := sp_thrown U U2
end
end Mine
namespace Mine
section
open PySem PySem.W PyProof.Rows PySem.Calls PySem.Spec

/-- where one object can be laid, any other can -/
theorem TR.putK_other (o o' : AO) (t : TR) : ∀ {i : Nat} {k : TR → Bool}, t.putK o i k = true → ∃ t', (∀ j, t'.get j = if j = i then some o' else t.get j) ∧ ∀ k', t.putK o' i k' = k' t' := by
  induction t with
  | lf =>
    intro i k h
    cases i with
    | zero =>
      refine ⟨.nd o' .lf .lf, fun j => ?_, fun k => rfl⟩
      cases j with
      | zero => rfl
      | succ m => simp [TR.get]
    | succ m => cases h
  | nd w l r ihl ihr =>
    intro i k h
    cases i with
    | zero => exact TR.put_intro o' (.nd w l r) rfl
    | succ m =>
      have h' : @Nat.rec (fun _ => Bool) (l.putK o (m / 2) fun l' => k (.nd w l' r)) (fun _ _ => r.putK o (m / 2) fun r' => k (.nd w l r')) (m % 2) = true := h
      cases hm : m % 2 with
      | zero =>
        rw [hm] at h'
        obtain ⟨l', e, q⟩ := ihl (show l.putK o (m / 2) _ = true from h')
        refine ⟨.nd w l' r, fun j => ?_, fun k => ?_⟩
        · cases j with
          | zero => rfl
          | succ p =>
            show (if p % 2 = 0 then l'.get (p / 2) else r.get (p / 2)) = if p + 1 = m + 1 then some o' else if p % 2 = 0 then l.get (p / 2) else r.get (p / 2)
            by_cases hp : p % 2 = 0
            · rw [if_pos hp, if_pos hp, e]
              by_cases z : p = m
              · rw [if_pos (by rw [z]), if_pos (by rw [z])]
              · rw [if_neg (by omega), if_neg (by omega)]
            · rw [if_neg hp, if_neg hp, if_neg (by omega)]
        · show @Nat.rec (fun _ => Bool) (l.putK o' (m / 2) fun l' => k (.nd w l' r)) (fun _ _ => r.putK o' (m / 2) fun r' => k (.nd w l r')) (m % 2) = _
          rw [hm]
          exact q _
      | succ z =>
        rw [hm] at h'
        obtain ⟨r', e, q⟩ := ihr (show r.putK o (m / 2) _ = true from h')
        refine ⟨.nd w l r', fun j => ?_, fun k => ?_⟩
        · cases j with
          | zero => rfl
          | succ p =>
            show (if p % 2 = 0 then l.get (p / 2) else r'.get (p / 2)) = if p + 1 = m + 1 then some o' else if p % 2 = 0 then l.get (p / 2) else r.get (p / 2)
            by_cases hp : p % 2 = 0
            · rw [if_pos hp, if_pos hp, if_neg (by omega)]
            · rw [if_neg hp, if_neg hp, e]
              by_cases y : p = m
              · rw [if_pos (by rw [y]), if_pos (by rw [y])]
              · rw [if_neg (by omega), if_neg (by omega)]
        · show @Nat.rec (fun _ => Bool) (l.putK o' (m / 2) fun l' => k (.nd w l' r)) (fun _ _ => r.putK o' (m / 2) fun r' => k (.nd w l r')) (m % 2) = _
          rw [hm]
          exact q _
theorem alloc_other (o o' : AO) {σ : Sto} {k : Nat → Sto → Bool} (h : alloc o σ k = true) : ∃ σ', σ'.n = σ.n + 1 ∧ σ'.ns = σ.ns ∧ (∀ j, σ'.t.get j = if j = σ.n then some o' else σ.t.get j) ∧ ∀ k', alloc o' σ k' = k' σ.n σ' := by
  obtain ⟨t, n, ns⟩ := σ
  obtain ⟨t', e, q⟩ := TR.putK_other o o' t (show TR.putK o t n (fun t => fN n fun i => k i ⟨t, Nat.succ i, ns⟩) = true from h)
  refine ⟨⟨t', n + 1, ns⟩, rfl, rfl, e, fun k' => ?_⟩
  show TR.putK o' t n (fun t => fN n fun i => k' i ⟨t, Nat.succ i, ns⟩) = _
  rw [q, fN_eq]
noncomputable def Ints (v : AV) : Prop := ∃ l : List Int, v = .lst (l.map .int) ∧ l.length < 4096
theorem leB_t {i j : Int} (h : i ≤ j) : Z.leB i j = true := (Z.leB_iff _ _).mpr h
theorem leB_f {i j : Int} (h : ¬ i ≤ j) : Z.leB i j = false := by
  cases e : Z.leB i j with
  | false => rfl
  | true => exact absurd ((Z.leB_iff _ _).mp e) h
theorem fmod_in (w : Int) {m : Int} (hm : 0 < m) : 0 ≤ Int.fmod w m ∧ Int.fmod w m < m := by
  rw [Int.fmod_eq_emod_of_nonneg w (Int.le_of_lt hm)]
  exact ⟨Int.emod_nonneg w (by omega), Int.emod_lt_of_pos w hm⟩
theorem begin_seed {w : Int} {a0 a1 : SV} {σ : Sto} {k : KV} (hk : ∀ y : Int, 0 ≤ y → y < 2147483647 → k (.int y) σ = true) :
    vBin .fmod (vBin .mul (vBin .add (vBin .fmod v2 (vInt 2147483629)) (vInt 3)) (vInt 16807)) (vInt 2147483647) ⟨a0, a1, .va (.int w), .un, .un, .un, .un, .un, .un, .un, .un, .un⟩ σ k noX = true := by
  have h1 := fmod_in w (m := 2147483629) (by decide)
  show opMod (.int w) (.int 2147483629) σ (fun u σ => opAdd u (.int 3) σ fun u σ => opMul u (.int 16807) σ fun u σ => opMod u (.int 2147483647) σ k) = true
  refine opMod_t (by decide) ?_
  show fI (Int.add (Int.fmod w 2147483629) 3) (fun r => opMul (.int r) (.int 16807) σ fun u σ => opMod u (.int 2147483647) σ k) = true
  rw [fI_eq]
  show ifB (small (Int.fmod w 2147483629 + 3)) (ifB (small 16807) (fI (Int.mul (Int.fmod w 2147483629 + 3) 16807) fun r => opMod (.int r) (.int 2147483647) σ k) false) false = true
  refine ifB_t (small_of (by omega) (by omega)) (ifB_t rfl ?_)
  rw [fI_eq]
  refine opMod_t (by decide) ?_
  have h2 := fmod_in (Int.mul (Int.fmod w 2147483629 + 3) 16807) (m := 2147483647) (by decide)
  exact hk _ h2.1 h2.2
theorem begin_rest {w : Int} (hw : 0 ≤ w) {a0 a1 : SV} {σ : Sto} {k : KV} {kf : KF} (hk : ∀ x y : Int, 0 ≤ x → x < 10 ^ 60 → 0 ≤ y → y < 2147483647 → alloc (.list [.int x, .int y]) σ (fun i σ => k (.obj i) σ) = true) :
    xThen (xRet (vLstM [(vIte (tCmp .ge v2 (vInt 1000000000000)) (vBin .fmod v2 (vInt 1000000000000000000000000000000000000000000000000000000000000)) (vInt 0)), (vBin .fmod (vBin .mul (vBin .add (vBin .fmod v2 (vInt 2147483629)) (vInt 3)) (vInt 16807)) (vInt 2147483647))])) xNil ⟨a0, a1, .va (.int w), .un, .un, .un, .un, .un, .un, .un, .un, .un⟩ σ kf k noX = true := by
  have E : ∀ x : Int, 0 ≤ x → x < 10 ^ 60 → vBin .fmod (vBin .mul (vBin .add (vBin .fmod v2 (vInt 2147483629)) (vInt 3)) (vInt 16807)) (vInt 2147483647) ⟨a0, a1, .va (.int w), .un, .un, .un, .un, .un, .un, .un, .un, .un⟩ σ (fun v σ => alloc (.list [.int x, v]) σ fun i σ => k (.obj i) σ) noX = true :=
    fun x h0 h1 => begin_seed fun y h2 h3 => hk x y h0 h1 h2 h3
  by_cases h : (1000000000000 : Int) ≤ w
  · show ifB (Z.leB 1000000000000 w) (opMod (.int w) (.int 1000000000000000000000000000000000000000000000000000000000000) σ fun u σ => vBin .fmod (vBin .mul (vBin .add (vBin .fmod v2 (vInt 2147483629)) (vInt 3)) (vInt 16807)) (vInt 2147483647) ⟨a0, a1, .va (.int w), .un, .un, .un, .un, .un, .un, .un, .un, .un⟩ σ (fun v σ => alloc (.list [u, v]) σ fun i σ => k (.obj i) σ) noX) _ = true
    refine ifB_t (leB_t h) (opMod_t (by decide) ?_)
    have q := fmod_in w (m := 1000000000000000000000000000000000000000000000000000000000000) (by decide)
    exact E _ q.1 (Int.lt_of_lt_of_le q.2 (by decide))
  · show ifB (Z.leB 1000000000000 w) _ (vBin .fmod (vBin .mul (vBin .add (vBin .fmod v2 (vInt 2147483629)) (vInt 3)) (vInt 16807)) (vInt 2147483647) ⟨a0, a1, .va (.int w), .un, .un, .un, .un, .un, .un, .un, .un, .un⟩ σ (fun v σ => alloc (.list [.int 0, v]) σ fun i σ => k (.obj i) σ) noX) = true
    exact ifB_f (leB_f h) (E 0 (by decide) (by decide))
theorem begin_size {z : Int} {a0 : SV} {σ : Sto} {k : KV} {kf : KF} (hk : ∀ x y : Int, 0 ≤ x → x < 10 ^ 60 → 0 ≤ y → y < 2147483647 → alloc (.list [.int x, .int y]) σ (fun i σ => k (.obj i) σ) = true) {R : CX}
    (hR : ∀ w : Int, 0 ≤ w → R ⟨a0, .va (.int z), .va (.int w), .un, .un, .un, .un, .un, .un, .un, .un, .un⟩ σ kf k noX = true) :
    xThen (xAsg g2 (vIte (tCmp .ge v1 (vInt 0)) v1 (vBin .sub (vInt 0) v1))) R ⟨a0, .va (.int z), .un, .un, .un, .un, .un, .un, .un, .un, .un, .un⟩ σ kf k noX = true := by
  by_cases h : (0 : Int) ≤ z
  · show ifB (Z.leB 0 z) (R ⟨a0, .va (.int z), .va (.int z), .un, .un, .un, .un, .un, .un, .un, .un, .un⟩ σ kf k noX) _ = true
    exact ifB_t (leB_t h) (hR z h)
  · show ifB (Z.leB 0 z) _ (fI (Int.sub 0 z) fun w => R ⟨a0, .va (.int z), .va (.int w), .un, .un, .un, .un, .un, .un, .un, .un, .un⟩ σ kf k noX) = true
    refine ifB_f (leB_f h) ?_
    rw [fI_eq]
    exact hR _ (by show (0 : Int) ≤ 0 - z; omega)
/-- the law's pile, made of the script's first number -/
theorem begin_eval {σ : Sto} {l : List Int} {k : KV} (hl : l.length < 4096)
    (hk : ∀ x y : Int, 0 ≤ x → x < 10 ^ 60 → 0 ≤ y → y < 2147483647 → alloc (.list [.int x, .int y]) σ (fun i σ => k (.obj i) σ) = true) :
    callF c__law_begin (frOf [.lst (l.map .int)]) σ k noX = true := by
  cases l with
  | nil => exact begin_size (z := 5) (a0 := .va (.lst (([] : List Int).map .int))) (kf := fun _ σ => k .none σ) hk fun w hw => begin_rest hw hk
  | cons z r =>
    show lenK ((z :: r).map AV.int) 0 _ = true
    rw [lenK_eq, List.length_map]
    refine ifB_t (blt_iff.mpr hl) ?_
    let S (w : Int) : Bool := xThen (xAsg g2 (vIte (tCmp .ge v1 (vInt 0)) v1 (vBin .sub (vInt 0) v1))) (xThen (xRet (vLstM [(vIte (tCmp .ge v2 (vInt 1000000000000)) (vBin .fmod v2 (vInt 1000000000000000000000000000000000000000000000000000000000000)) (vInt 0)), (vBin .fmod (vBin .mul (vBin .add (vBin .fmod v2 (vInt 2147483629)) (vInt 3)) (vInt 16807)) (vInt 2147483647))])) xNil)
      ⟨.va (.lst ((z :: r).map .int)), .va (.int w), .un, .un, .un, .un, .un, .un, .un, .un, .un, .un⟩ σ (fun _ σ => k .none σ) k noX
    show ifB (Z.ltB 0 (((z :: r).length : Nat) : Int)) (S z) (S 5) = true
    refine ifB_t (ltB_t (by simp only [List.length_cons]; omega)) ?_
    exact begin_size (z := z) (a0 := .va (.lst ((z :: r).map .int))) (kf := fun _ σ => k .none σ) hk fun w hw => begin_rest hw hk
end
end Mine
namespace Mine
section
open PySem PySem.W PyProof.Rows PySem.Calls PySem.Spec

/-- the pile's making, with the test that the script is a list of numbers -/
noncomputable def vBeginX (e : CV) : CV := fun fr σ k x => e fr σ (fun v σ => @decide (Ints v ∧ alloc .pile σ (fun i σ => k (.obj i) σ) = true) (Classical.propDecidable _)) x
theorem sp_begin {G : Gd} (U : Uni G) {n : Nat} {Γ : Ct} {p : CV} {ep : Expr} {np pos : Pos} (hn : 3 ≤ n) (hx : ("_law_begin" : Str) ∈ Γ.globs) (hp : SE G n Γ p ep) (sp : Star ep) :
    SE G n Γ (vBeginX p) (.Call (.Name "_law_begin" np) [ep] [] pos) := by
  intro A frs env X fr ω σ s k x hA hFr R F h
  refine callName (k := K1 fun v σ => @decide (Ints v ∧ alloc .pile σ (fun i σ => k (.obj i) σ) = true) (Classical.propDecidable _)) U.g__law_begin hx (KeepF.of U.f__law_begin.keep) (.cons hp sp .nil) hA hFr R F h fun vs s₁ l ω₁ σ₁ hl S V q => ?_
  obtain ⟨u, rfl, q1⟩ := K1_inv q
  obtain ⟨vu, rfl, Vu⟩ := V.one_inv
  obtain ⟨⟨is, rfl, his⟩, hal⟩ := @of_decide_eq_true _ (Classical.propDecidable _) q1
  let P : AV → Sto → Prop := fun av σ' => ∃ (x y : Int), av = .obj σ₁.n ∧ 0 ≤ x ∧ x < 10 ^ 60 ∧ 0 ≤ y ∧ y < 2147483647 ∧ σ'.n = σ₁.n + 1 ∧ σ'.ns = σ₁.ns ∧ ∀ j, σ'.t.get j = if j = σ₁.n then some (.list [.int x, .int y]) else σ₁.t.get j
  have hq : callF c__law_begin (frOf [.lst (is.map .int)]) σ₁ (fun av σ' => @decide (P av σ') (Classical.propDecidable _)) noX = true := by
    refine begin_eval his fun x y h1 h2 h3 h4 => ?_
    obtain ⟨σ', e1, e2, e3, e4⟩ := alloc_other .pile (.list [.int x, .int y]) hal
    rw [e4]
    exact @decide_eq_true _ (Classical.propDecidable _) ⟨x, y, rfl, h1, h2, h3, h4, e1, e2, e3⟩
  refine wpAny_mono ((fn__law_begin U).call (l := [.lst (is.map .int)]) (hA.lt (by omega)) hFr S.rep (.cons Vu .nil) rfl hq) (fun v s₂ z => ?_) fun _ _ z => z.no
  obtain ⟨av, ω', σ', hk, S₂, V₂⟩ := z
  obtain ⟨x, y, rfl, h1, h2, h3, h4, e1, e2, e3⟩ := @of_decide_eq_true _ (Classical.propDecidable _) hk
  obtain ⟨σ'', d1, d2, d3, d4⟩ := alloc_other .pile .pile hal
  rw [d4] at hal
  have R' : Rep G.toGl frs ω' σ'' s₂.heap := by
    obtain ⟨b, eb, vs, pb, vb⟩ := S₂.rep.objs σ₁.n (.list [.int x, .int y]) (by rw [e3, if_pos rfl])
    obtain ⟨v1, v2, rfl, V1, V2⟩ := vb.two_inv
    obtain ⟨w1, rfl⟩ := V1.int_inv
    obtain ⟨w2, rfl⟩ := V2.int_inv
    refine S₂.rep.swap (ao := .pile) (i := σ₁.n) (by rw [d1, e1]) (by rw [d2, e2]) (fun j => ?_) ⟨b, eb, x, y, w1, w2, pb, h1, h3, h2, h4⟩
    by_cases hj : j = σ₁.n
    · subst hj; rw [d3, if_pos rfl, if_pos rfl]
    · rw [d3, if_neg hj, if_neg hj, e3, if_neg hj]
  exact ⟨_, ω', σ'', hal, S.then ⟨S₂.step, R', S₂.gens, S₂.drawn, S₂.os⟩, V₂⟩
end
end Mine
namespace Mine
section
open PySem PySem.W PyProof.Rows PySem.Calls PySem.Spec

/-- the law's names -/
noncomputable def GL : Ct := { vars := [("script", .loc), ("pile", .loc), ("heap", .loc), ("sizes", .loc)], globs := ["_law_begin", "Heap", "_law_sizes", "_law_next", "_law_places_right", "_law_items_right", "_law_joined_right", "_law_row_right"] }
noncomputable def lawS (i : Nat) : Stmt := (fdBody (stJ 58)).getD i (.Pass default)
theorem body58 : fdBody (stJ 58) = [lawS 0, lawS 1, lawS 2, lawS 3] := rfl
theorem scope58 : scOK GL (fdScope (stJ 58)) = true := by decide +kernel
noncomputable def c_law1 : CX := xAsg (gTupR [g2, g1]) (vTup [vBeginX v0, vNew0 1 c_Heap_init])
theorem sx_law1 {G : Gd} (U : Uni G) (Z : Sp G U) : SX G 3 GL c_law1 (lawS 0) :=
  SX.asgS (SE.tup (.cons (sp_begin U (by decide) (.head _) (SE.name isv0 rfl) (fun _ _ => rfl)) (fun _ _ => rfl) (.cons (SE.new0 U.g_Heap (.tail _ (.head _)) (KeepF.of U.k_Heap) U.n_Heap (FN.mono (fn_Heap_init U Z) (by decide))) (fun _ _ => rfl) .nil))) isg1 rfl isg2 rfl (fun _ _ _ => rfl) (swapped2 (i₁ := 1) (i₂ := 2) rfl rfl rfl (by decide +kernel) rfl rfl rfl)
noncomputable def c_law2 : CX := xAsg g3 (vCall2 c__law_sizes v1 (vBin .add (vInt 1) (vNext v1 (vInt 3))))
theorem sx_law2 {G : Gd} (U : Uni G) (Z : Sp G U) : SX G 8 GL c_law2 (lawS 1) :=
  SX.asg (SE.call2f U.g__law_sizes (.tail _ (.tail _ (.head _))) (KeepF.of U.f__law_sizes.keep) (FN.mono (fn__law_sizes U Z) (by decide)) (SE.name isv1 rfl) (fun _ _ => rfl) (SE.bin (SE.int _) (Z.next (by decide) (.tail _ (.tail _ (.tail _ (.head _)))) (SE.name isv1 rfl) (fun _ _ => rfl) (SE.int _) (fun _ _ => rfl))) (fun _ _ => rfl)) (SG.name isg3 rfl (by decide)) (fun _ => rfl) (fun _ _ _ => rfl) (fun _ _ => rfl)
noncomputable def c_law3 : CX := xIf (tOr (tNot (tVal (vCall1 c__law_places_right (vTup [(vInt 2), (vInt 3)])))) (tOr (tNot (tVal (vCall1 c__law_places_right v3))) (tNot (tVal (vCall3 c__law_items_right v1 v2 v3))))) (xThen (xRet (vBool false)) xNil) xNil
theorem sx_law3 {G : Gd} (U : Uni G) (Z : Sp G U) : SX G 20 GL c_law3 (lawS 2) :=
  SX.ite (STs.bool (STs.or (ST.not (ST.val (SE.call1f U.g__law_places_right (.tail _ (.tail _ (.tail _ (.tail _ (.head _))))) (KeepF.of U.f__law_places_right.keep) (FN.mono (fn__law_places_right U Z) (by decide)) (SE.tup (.cons (SE.int _) (fun _ _ => rfl) (.cons (SE.int _) (fun _ _ => rfl) .nil))) (fun _ _ => rfl)) (fun _ _ => rfl)))
    (STs.or (ST.not (ST.val (SE.call1f U.g__law_places_right (.tail _ (.tail _ (.tail _ (.tail _ (.head _))))) (KeepF.of U.f__law_places_right.keep) (FN.mono (fn__law_places_right U Z) (by decide)) (SE.name isv3 rfl) (fun _ _ => rfl)) (fun _ _ => rfl)))
      (STs.oneOr (ST.not (ST.val (SE.call3f U.g__law_items_right (.tail _ (.tail _ (.tail _ (.tail _ (.tail _ (.head _)))))) (KeepF.of U.f__law_items_right.keep) (FN.mono (fn__law_items_right U Z) (by decide)) (SE.name isv1 rfl) (fun _ _ => rfl) (SE.name isv2 rfl) (fun _ _ => rfl) (SE.name isv3 rfl) (fun _ _ => rfl)) (fun _ _ => rfl)))))))
    (SXs.cons (SX.ret (SE.bool false)) SXs.nil) SXs.nil
theorem se_joined {G : Gd} (U : Uni G) (Z : Sp G U) {np pp hp pos : Pos} : SE G 20 GL (vCall2 c__law_joined_right v1 v2) (.Call (.Name "_law_joined_right" np) [.Name "pile" pp, .Name "heap" hp] [] pos) :=
  SE.call2f U.g__law_joined_right (.tail _ (.tail _ (.tail _ (.tail _ (.tail _ (.tail _ (.head _))))))) (KeepF.of U.f__law_joined_right.keep) (FN.mono (fn__law_joined_right U Z) (by decide)) (SE.name isv1 rfl) (fun _ _ => rfl) (SE.name isv2 rfl) (fun _ _ => rfl)
theorem se_row {G : Gd} (U : Uni G) (Z : Sp G U) {np pp hp pos : Pos} : SE G 20 GL (vCall2 c__law_row_right v1 v2) (.Call (.Name "_law_row_right" np) [.Name "pile" pp, .Name "heap" hp] [] pos) :=
  SE.call2f U.g__law_row_right (.tail _ (.tail _ (.tail _ (.tail _ (.tail _ (.tail _ (.tail _ (.head _)))))))) (KeepF.of U.f__law_row_right.keep) (FN.mono (fn__law_row_right U Z) (by decide)) (SE.name isv1 rfl) (fun _ _ => rfl) (SE.name isv2 rfl) (fun _ _ => rfl)
end
end Mine
namespace Mine
section
open PySem PySem.W PyProof.Rows PySem.Calls PySem.Spec

/-- the law's store between two statements: the tables, the pile, the heap with its things -/
noncomputable def cS (l : List AV) : Sto := ⟨.nd (.tab 0) (.nd (.tab 1) (.nd .pile .lf .lf) (.nd (.inst 1 4) .lf .lf)) (.nd (.tab 2) (.nd (.ns [(0, .obj 6)]) .lf .lf) (.nd (.list l) .lf .lf)), 7, 0⟩
noncomputable def isTab (f : Nat) : AO → Bool
  | .tab g => Nat.beq g f
  | _ => false
noncomputable def isPile : AO → Bool
  | .pile => true
  | _ => false
noncomputable def isInst : AO → Bool
  | .inst c d => ifB (Nat.beq c 1) (Nat.beq d 4) false
  | _ => false
noncomputable def isNs : AO → Bool
  | .ns [(k, .obj i)] => ifB (Nat.beq k 0) (Nat.beq i 6) false
  | _ => false
noncomputable def isLst (m : Nat) : AO → Bool
  | .list l => Nat.beq l.length m
  | _ => false
/-- the tables lie where they lay -/
noncomputable def okT (σ : Sto) : Bool := ifB (getO 0 σ (isTab 0)) (ifB (getO 1 σ (isTab 1)) (getO 2 σ (isTab 2)) false) false
/-- so do the pile and the heap, which has m things -/
noncomputable def okS (m : Nat) (σ : Sto) : Bool := ifB (okT σ) (ifB (getO 3 σ isPile) (ifB (getO 5 σ isInst) (ifB (getO 4 σ isNs) (getO 6 σ (isLst m)) false) false) false) false
theorem isTab_inv {f : Nat} {o : AO} (h : isTab f o = true) : o = .tab f := by
  cases o with
  | tab g => rw [Nat.eq_of_beq_eq_true (show Nat.beq g f = true from h)]
  | _ => cases h
theorem isPile_inv {o : AO} (h : isPile o = true) : o = .pile := by
  cases o with
  | pile => rfl
  | _ => cases h
theorem isInst_inv {o : AO} (h : isInst o = true) : o = .inst 1 4 := by
  cases o with
  | inst c d =>
    obtain ⟨h1, h2⟩ := ifB_inv (show ifB (Nat.beq c 1) (Nat.beq d 4) false = true from h)
    rw [Nat.eq_of_beq_eq_true h1, Nat.eq_of_beq_eq_true h2]
  | _ => cases h
theorem isNs_inv {o : AO} (h : isNs o = true) : o = .ns [(0, .obj 6)] := by
  match o, h with
  | .ns [(k, .obj i)], h =>
    obtain ⟨h1, h2⟩ := ifB_inv (show ifB (Nat.beq k 0) (Nat.beq i 6) false = true from h)
    rw [Nat.eq_of_beq_eq_true h1, Nat.eq_of_beq_eq_true h2]
theorem isLst_inv {m : Nat} {o : AO} (h : isLst m o = true) : ∃ l, o = .list l ∧ l.length = m := by
  cases o with
  | list l => exact ⟨l, rfl, Nat.eq_of_beq_eq_true (show Nat.beq l.length m = true from h)⟩
  | _ => cases h
theorem okT_inv {σ : Sto} (h : okT σ = true) : ∀ i, i < 3 → σ.t.get i = some (.tab i) := by
  obtain ⟨h0, h⟩ := ifB_inv h
  obtain ⟨h1, h2⟩ := ifB_inv h
  obtain ⟨_, e0, q0⟩ := getO_inv h0
  obtain ⟨_, e1, q1⟩ := getO_inv h1
  obtain ⟨_, e2, q2⟩ := getO_inv h2
  rw [isTab_inv q0] at e0; rw [isTab_inv q1] at e1; rw [isTab_inv q2] at e2
  intro i hi
  match i, hi with
  | 0, _ => exact e0
  | 1, _ => exact e1
  | 2, _ => exact e2
theorem okS_inv {m : Nat} {σ : Sto} (h : okS m σ = true) : ∃ l, l.length = m ∧ ∀ i, i < 7 → σ.t.get i = (cS l).t.get i := by
  obtain ⟨hT, h⟩ := ifB_inv h
  obtain ⟨h3, h⟩ := ifB_inv h
  obtain ⟨h5, h⟩ := ifB_inv h
  obtain ⟨h4, h6⟩ := ifB_inv h
  obtain ⟨_, e3, q3⟩ := getO_inv h3
  obtain ⟨_, e5, q5⟩ := getO_inv h5
  obtain ⟨_, e4, q4⟩ := getO_inv h4
  obtain ⟨_, e6, q6⟩ := getO_inv h6
  rw [isPile_inv q3] at e3; rw [isInst_inv q5] at e5; rw [isNs_inv q4] at e4
  obtain ⟨l, rfl, hl⟩ := isLst_inv q6
  refine ⟨l, hl, fun i hi => ?_⟩
  match i, hi with
  | 0, _ => exact okT_inv hT 0 (by decide)
  | 1, _ => exact okT_inv hT 1 (by decide)
  | 2, _ => exact okT_inv hT 2 (by decide)
  | 3, _ => exact e3
  | 4, _ => exact e4
  | 5, _ => exact e5
  | 6, _ => exact e6
noncomputable def TR.dep : TR → Nat
  | .lf => 0
  | .nd _ l r => Nat.max l.dep r.dep + 1
theorem TR.get_big : ∀ (t : TR) (i : Nat), 2 ^ t.dep ≤ i + 1 → t.get i = none
  | .lf, i, _ => get_lf i
  | .nd v l r, 0, h => by
    have : 2 ^ (Nat.max l.dep r.dep + 1) ≤ 1 := h
    have := Nat.one_le_two_pow (n := Nat.max l.dep r.dep)
    omega
  | .nd v l r, m + 1, h => by
    have h' : 2 ^ (Nat.max l.dep r.dep + 1) ≤ m + 1 + 1 := h
    have hl : 2 ^ l.dep ≤ 2 ^ (Nat.max l.dep r.dep) := Nat.pow_le_pow_right (by decide) (Nat.le_max_left _ _)
    have hr : 2 ^ r.dep ≤ 2 ^ (Nat.max l.dep r.dep) := Nat.pow_le_pow_right (by decide) (Nat.le_max_right _ _)
    show (if m % 2 = 0 then l.get (m / 2) else r.get (m / 2)) = none
    by_cases q : m % 2 = 0
    · rw [if_pos q]; exact TR.get_big l _ (by omega)
    · rw [if_neg q]; exact TR.get_big r _ (by omega)
theorem cS_lt {l : List AV} {i : Nat} {o : AO} (h : (cS l).t.get i = some o) : i < 7 := by
  rcases Nat.lt_or_ge i 7 with q | q
  · exact q
  · rw [TR.get_big (cS l).t i (by show 2 ^ 3 ≤ i + 1; omega)] at h; cases h

/-- what the law need not know any more -/
noncomputable def Wd.cut (ω : Wd) : Wd := ⟨ω.ρ.take 7, ω.fz, []⟩
noncomputable def anys (m : Nat) : List AV := List.replicate m .any
theorem VRs.anys {ω ω' : Wd} {h : Heap} : ∀ {vs : List Value} {l : List AV}, VRs ω h vs l → VRs ω' h vs (anys l.length)
  | _, _, .nil => .nil
  | _, _, .cons _ b => .cons (.any _) b.anys
theorem VRs.ofInts {ω ω' : Wd} {h : Heap} : ∀ (l : List Int) {vs : List Value}, VRs ω h vs (l.map .int) → VRs ω' h vs (l.map .int)
  | [], _, V => by rw [VRs.nil_inv (show VRs ω h _ [] from V)]; exact .nil
  | i :: l, _, V => by
    obtain ⟨v, ws, rfl, a, b⟩ := VRs.cons_inv (show VRs ω h _ (.int i :: l.map .int) from V)
    obtain ⟨t, rfl⟩ := a.int_inv
    exact .cons (.int i t) (VRs.ofInts l b)
theorem cut_rho {ω : Wd} {i : Nat} {a : Addr} (hi : i < 7) (e : ω.ρ[i]? = some a) : ω.cut.ρ[i]? = some a := by
  show (ω.ρ.take 7)[i]? = _
  rw [List.getElem?_take, if_pos hi]; exact e
theorem Rep.cut {G : Gl} {frs : List Env} {ω : Wd} {σ : Sto} {h : Heap} {l : List AV} (R : Rep G frs ω σ h) (hg : ∀ i, i < 7 → σ.t.get i = (cS l).t.get i) : Rep G frs ω.cut (cS (anys l.length)) h := by
  have sub : ∀ a ∈ ω.cut.ρ, a ∈ ω.ρ := fun a ha => List.mem_of_mem_take ha
  have at' : ∀ i o, i < 7 → (cS l).t.get i = some o → ∃ a, ω.cut.ρ[i]? = some a ∧ OR G ω h a o := fun i o hi e => by
    obtain ⟨a, ea, ho⟩ := R.objs i o ((hg i hi).trans e)
    exact ⟨a, cut_rho hi ea, ho⟩
  have len : 7 ≤ ω.ρ.length := by
    obtain ⟨a, ea, _⟩ := R.objs 6 (.list l) (hg 6 (by decide))
    have := (List.getElem?_eq_some_iff.mp ea).1
    omega
  refine ⟨fun i o e => ?_, ?_, rfl, ?_, fun a ha => R.low a (sub a ha), R.lowz, fun a ha => R.sep a (sub a ha), R.fzF, R.base, R.frames, R.glob⟩
  · have hi := cS_lt e
    match i, hi, e with
    | 0, hi, e => cases e; exact at' 0 _ hi rfl
    | 1, hi, e => cases e; exact at' 1 _ hi rfl
    | 2, hi, e => cases e; exact at' 2 _ hi rfl
    | 3, hi, e => cases e; exact at' 3 _ hi rfl
    | 4, hi, e =>
      cases e
      obtain ⟨a, ea, es, n, ho, h1, h2, h3⟩ := at' 4 _ hi rfl
      refine ⟨a, ea, es, n, ho, h1, h2, fun k x hx av hav => ?_⟩
      obtain ⟨v, hv, V⟩ := h3 k x hx av hav
      refine ⟨v, hv, ?_⟩
      have : av = .obj 6 := by
        match k, hav with
        | 0, hav => exact (Option.some.inj hav).symm
        | k + 1, hav =>
          have : List.lookup (k + 1) [((0 : Nat), AV.obj 6)] = none := rfl
          rw [this] at hav; cases hav
      subst this
      obtain ⟨b, rfl, eb⟩ := V.obj_inv
      exact .obj (cut_rho (by decide) eb)
    | 5, hi, e =>
      cases e
      obtain ⟨a, ea, da, sl, eda, ho⟩ := at' 5 _ hi rfl
      exact ⟨a, ea, da, sl, cut_rho (by decide) eda, ho⟩
    | 6, hi, e =>
      cases e
      obtain ⟨a, ea, vs, hp, V⟩ := at' 6 _ hi rfl
      exact ⟨a, ea, vs, hp, V.anys⟩
  · show (ω.ρ.take 7).length = 7
    rw [List.length_take]; omega
  · exact R.nodup.sublist (List.take_sublist 7 ω.ρ)
/-- a law's frame between two statements -/
noncomputable def cF (z : SV) : Fra := ⟨.un, .va (.obj 3), .va (.obj 5), z, .un, .un, .un, .un, .un, .un, .un, .un⟩
noncomputable def isObj (i : Nat) : SV → Bool
  | .va (.obj j) => Nat.beq j i
  | _ => false
theorem isObj_inv {i : Nat} {v : SV} (h : isObj i v = true) : v = .va (.obj i) := by
  match v, h with
  | .va (.obj j), h => rw [Nat.eq_of_beq_eq_true (show Nat.beq j i = true from h)]
noncomputable def okF (fr : Fra) : Bool := ifB (isObj 3 fr.a1) (isObj 5 fr.a2) false
theorem okF_inv {fr : Fra} (h : okF fr = true) : fr.a1 = .va (.obj 3) ∧ fr.a2 = .va (.obj 5) := by
  obtain ⟨h1, h2⟩ := ifB_inv h
  exact ⟨isObj_inv h1, isObj_inv h2⟩
/-- sizes, or nothing that is known -/
noncomputable def Plain : SV → Prop
  | .un => True
  | .va v => ∃ l : List Int, v = .tup (l.map .int)
theorem FrOK.cut {G : Gl} {frs : List Env} {env : Env} {X : List Addr} {fr : Fra} {ω : Wd} {h : Heap} {z : SV} (F : FrOK G frs GL env X fr ω h) (hf : okF fr = true) (hz : z = .un ∨ z = fr.a3) (hp : Plain z) : FrOK G frs GL env X (cF z) ω.cut h := by
  obtain ⟨f1, f2⟩ := okF_inv hf
  have sub : ∀ a ∈ ω.cut.ρ, a ∈ ω.ρ := fun a ha => List.mem_of_mem_take ha
  obtain ⟨m, hns, hl⟩ := F.loc
  refine ⟨F.e, ⟨m, hns, fun i x hx => ?_⟩, fun i x k hx hk => ?_, F.apart, F.here, F.low, fun a ha => ⟨fun q => (F.out a ha).1 (sub a q), (F.out a ha).2⟩, F.frame⟩
  · have q := hl i x hx
    match i, q with
    | 0, _ => exact trivial
    | 1, q =>
      have q : CelR ω h (m x) fr.a1 := q
      rw [f1] at q
      obtain ⟨w, e, V⟩ := q
      obtain ⟨a, rfl, ea⟩ := V.obj_inv
      exact ⟨_, e, .obj (cut_rho (by decide) ea)⟩
    | 2, q =>
      have q : CelR ω h (m x) fr.a2 := q
      rw [f2] at q
      obtain ⟨w, e, V⟩ := q
      obtain ⟨a, rfl, ea⟩ := V.obj_inv
      exact ⟨_, e, .obj (cut_rho (by decide) ea)⟩
    | 3, q =>
      have q : CelR ω h (m x) fr.a3 := q
      show CelR ω.cut h (m x) z
      rcases hz with rfl | rfl
      · exact trivial
      · generalize fr.a3 = z at q hp
        cases z with
        | un => exact trivial
        | va v =>
          obtain ⟨l, rfl⟩ := hp
          obtain ⟨w, e, V⟩ := q
          obtain ⟨a, vs, rfl, ha, ht, Vs⟩ := V.tup_inv
          exact ⟨_, e, .tup ha ht (VRs.ofInts _ Vs)⟩
    | i + 4, _ =>
      have : GL.vars[i + 4]? = none := by show ([] : List (Str × SK))[i]? = none; rfl
      rw [this] at hx; cases hx
  · match i, hx with
    | 0, hx => cases hx; exact absurd rfl hk
    | 1, hx => cases hx; exact absurd rfl hk
    | 2, hx => cases hx; exact absurd rfl hk
    | 3, hx => cases hx; exact absurd rfl hk
end
end Mine
namespace Mine
section
open PySem PySem.W PyProof.Rows PySem.Calls PySem.Spec

/-- what stands between two statements of the law: z: the sizes, where they are known; m: how many things the heap has -/
noncomputable def Can (G : Gd) (frs : List Env) (env : Env) (X : List Addr) (z : SV) (m : Nat) (s : Shared) : Prop := ∃ ω, Rep G.toGl frs ω (cS (anys m)) s.heap ∧ FrOK G.toGl frs GL env X (cF z) ω s.heap
/-- what else stays -/
noncomputable def Same4 (s s' : Shared) : Prop := s'.gens = s.gens ∧ s'.drawn = s.drawn ∧ s'.os = s.os
theorem Same4.refl (s : Shared) : Same4 s s := ⟨rfl, rfl, rfl⟩
theorem Same4.trans {a b c : Shared} (x : Same4 a b) (y : Same4 b c) : Same4 a c := ⟨y.1.trans x.1, y.2.1.trans x.2.1, y.2.2.trans x.2.2⟩
theorem St.same {G : Gd} {frs : List Env} {X : List Addr} {ω ω' : Wd} {σ' : Sto} {s s' : Shared} (S : St G frs X ω s ω' σ' s') : Same4 s s' := ⟨S.gens, S.drawn, S.os⟩
theorem Can.of {G : Gd} {frs : List Env} {env : Env} {X : List Addr} {fr : Fra} {ω : Wd} {σ : Sto} {s : Shared} {z : SV} {m : Nat} (R : Rep G.toGl frs ω σ s.heap) (F : FrOK G.toGl frs GL env X fr ω s.heap) (hs : okS m σ = true) (hf : okF fr = true) (hz : z = .un ∨ z = fr.a3) (hp : Plain z) : Can G frs env X z m s := by
  obtain ⟨l, rfl, hg⟩ := okS_inv hs
  exact ⟨ω.cut, R.cut hg, F.cut hf hz hp⟩
/-- no, and the heap has m things -/
noncomputable def kF (m : Nat) (b : Bool) (σ : Sto) : Bool := ifB b false (okS m σ)
theorem kF_inv {m : Nat} {b : Bool} {σ : Sto} (h : kF m b σ = true) : b = false ∧ okS m σ = true := by
  cases b with
  | true => exact (nomatch (show false = true from h))
  | false => exact ⟨rfl, h⟩
/-- yes, and then -/
noncomputable def kT (f : Sto → Bool) : KV := fun v σ => truthK v (f σ) false
theorem kT_inv {f : Sto → Bool} {v : AV} {σ : Sto} (h : kT f v σ = true) : v = .bool true ∧ f σ = true := by
  obtain ⟨b, rfl, q⟩ := truthK_inv h
  cases b with
  | true => exact ⟨rfl, q⟩
  | false => exact (nomatch (show false = true from q))
section
variable {G : Gd} {A : Around} {frs : List Env} {env : Env} {X : List Addr} {z : SV} {m m' : Nat} {s : Shared}
theorem can_test {t : CT} {e : Expr} (h : ST G 20 GL t e) (hc : t (cF z) (cS (anys m)) (kF m') noX = true) (hp : Plain z) (hA : Room A 20) (hF : A.frames = some frs) (C : Can G frs env X z m s) {Q : Bool → Shared → Prop} {E : Value → Shared → Prop}
    (hQ : ∀ s', Can G frs env X z m' s' → Same4 s s' → Q false s') : wpAny (model G.prog G.w) A (isTrue e env (eval e env)) Q E s := by
  obtain ⟨ω, R, F⟩ := C
  refine wpAny_mono (h A frs env X _ ω _ s _ noX hA hF R F hc) (fun b s' q => ?_) fun _ _ q => q.no
  obtain ⟨ω', σ', q, S⟩ := q
  obtain ⟨rfl, q⟩ := kF_inv q
  exact hQ s' (.of S.rep (S.fr R F) q rfl (.inr rfl) hp) S.same
theorem can_eval {c : CV} {e : Expr} (h : SE G 20 GL c e) (hc : c (cF z) (cS (anys m)) (kT (okS m')) noX = true) (hp : Plain z) (hA : Room A 20) (hF : A.frames = some frs) (C : Can G frs env X z m s) {Q : Value → Shared → Prop} {E : Value → Shared → Prop}
    (hQ : ∀ s', Can G frs env X z m' s' → Same4 s s' → Q (.bool true) s') : wpAny (model G.prog G.w) A (eval e env) Q E s := by
  obtain ⟨ω, R, F⟩ := C
  refine wpAny_mono (h A frs env X _ ω _ s _ noX hA hF R F hc) (fun b s' q => ?_) fun _ _ q => q.no
  obtain ⟨av, ω', σ', q, S, V⟩ := q
  obtain ⟨rfl, q⟩ := kT_inv q
  rw [V.bool_inv]
  exact hQ s' (.of S.rep (S.fr R F) q rfl (.inr rfl) hp) S.same
/-- what the law's end keeps -/
noncomputable def Ends (G : Gd) (s : Shared) : Prop := (∀ a o, G.base.get? a = some o → s.heap.get? a = some o) ∧ ∀ f, f < 3 → ∃ a ps, CodeHd G.base (G.lamC f) a ∧ s.heap.get? a = some (tabObj ps)
theorem ends_of {ω : Wd} {σ : Sto} (R : Rep G.toGl frs ω σ s.heap) (h : okT σ = true) : Ends G s := by
  refine ⟨R.base, fun f hf => ?_⟩
  obtain ⟨a, _, ps, e, _, _, hc⟩ := R.objs f _ (okT_inv h f hf)
  exact ⟨a, ps, hc, e⟩
theorem can_last {c : CV} {e : Expr} (h : SE G 20 GL c e) (hc : c (cF z) (cS (anys m)) (kT okT) noX = true) (hA : Room A 20) (hF : A.frames = some frs) (C : Can G frs env X z m s) {Q : Value → Shared → Prop} {E : Value → Shared → Prop}
    (hQ : ∀ s', Ends G s' → Same4 s s' → Q (.bool true) s') : wpAny (model G.prog G.w) A (eval e env) Q E s := by
  obtain ⟨ω, R, F⟩ := C
  refine wpAny_mono (h A frs env X _ ω _ s _ noX hA hF R F hc) (fun b s' q => ?_) fun _ _ q => q.no
  obtain ⟨av, ω', σ', q, S, V⟩ := q
  obtain ⟨rfl, q⟩ := kT_inv q
  rw [V.bool_inv]
  exact hQ s' (ends_of S.rep q) S.same
end
noncomputable def tL1 : CT := tNot (tVal (vCall1 c__law_places_right (vTup [(vInt 2), (vInt 3)])))
noncomputable def tL2 : CT := tNot (tVal (vCall1 c__law_places_right v3))
noncomputable def tL3 : CT := tNot (tVal (vCall3 c__law_items_right v1 v2 v3))
noncomputable def cL4 : CV := vCall2 c__law_joined_right v1 v2
noncomputable def cL5 : CV := vCall2 c__law_row_right v1 v2
theorem law3_parts {G : Gd} (U : Uni G) (Z : Sp G U) : ∃ e1 e2 e3 p q body, lawS 2 = .If (.BoolOp .Or [e1, e2, e3] p) body [] q ∧ ST G 20 GL tL1 e1 ∧ ST G 20 GL tL2 e2 ∧ ST G 20 GL tL3 e3 :=
  ⟨_, _, _, _, _, _, rfl,
    ST.not (ST.val (SE.call1f U.g__law_places_right (.tail _ (.tail _ (.tail _ (.tail _ (.head _))))) (KeepF.of U.f__law_places_right.keep) (FN.mono (fn__law_places_right U Z) (by decide)) (SE.tup (.cons (SE.int _) (fun _ _ => rfl) (.cons (SE.int _) (fun _ _ => rfl) .nil))) (fun _ _ => rfl)) (fun _ _ => rfl)),
    ST.not (ST.val (SE.call1f U.g__law_places_right (.tail _ (.tail _ (.tail _ (.tail _ (.head _))))) (KeepF.of U.f__law_places_right.keep) (FN.mono (fn__law_places_right U Z) (by decide)) (SE.name isv3 rfl) (fun _ _ => rfl)) (fun _ _ => rfl)),
    ST.not (ST.val (SE.call3f U.g__law_items_right (.tail _ (.tail _ (.tail _ (.tail _ (.tail _ (.head _)))))) (KeepF.of U.f__law_items_right.keep) (FN.mono (fn__law_items_right U Z) (by decide)) (SE.name isv1 rfl) (fun _ _ => rfl) (SE.name isv2 rfl) (fun _ _ => rfl) (SE.name isv3 rfl) (fun _ _ => rfl)) (fun _ _ => rfl))⟩
theorem law4_parts {G : Gd} (U : Uni G) (Z : Sp G U) : ∃ e1 e2 p q, lawS 3 = .Return (some (.BoolOp .And [e1, e2] p)) q ∧ SE G 20 GL cL4 e1 ∧ SE G 20 GL cL5 e2 :=
  ⟨_, _, _, _, rfl, se_joined U Z, se_row U Z⟩
/-- sizes of rank 1 to 3, each from nought to three -/
noncomputable def in4 (i : Int) : Bool := match i with
  | .ofNat n => Nat.ble n 3
  | _ => false
noncomputable def okZ : SV → Bool
  | .va (.tup [.int a]) => in4 a
  | .va (.tup [.int a, .int b]) => ifB (in4 a) (in4 b) false
  | .va (.tup [.int a, .int b, .int c]) => ifB (in4 a) (ifB (in4 b) (in4 c) false) false
  | _ => false
noncomputable def zS (l : List Nat) : SV := .va (.tup (l.map fun n => .int (.ofNat n)))
theorem in4_inv {i : Int} (h : in4 i = true) : ∃ n : Nat, i = .ofNat n ∧ n < 4 := by
  cases i with
  | ofNat n => exact ⟨n, rfl, Nat.lt_succ_of_le (Nat.le_of_ble_eq_true h)⟩
  | negSucc n => cases h
inductive Siz : List Nat → Prop
  | one {a : Nat} : a < 4 → Siz [a]
  | two {a b : Nat} : a < 4 → b < 4 → Siz [a, b]
  | three {a b c : Nat} : a < 4 → b < 4 → c < 4 → Siz [a, b, c]
theorem okZ_inv {z : SV} (h : okZ z = true) : ∃ l, z = zS l ∧ Siz l := by
  match z, h with
  | .va (.tup [.int a]), h =>
    obtain ⟨n, rfl, hn⟩ := in4_inv h
    exact ⟨[n], rfl, .one hn⟩
  | .va (.tup [.int a, .int b]), h =>
    obtain ⟨h1, h2⟩ := ifB_inv h
    obtain ⟨n, rfl, hn⟩ := in4_inv h1
    obtain ⟨k, rfl, hk⟩ := in4_inv h2
    exact ⟨[n, k], rfl, .two hn hk⟩
  | .va (.tup [.int a, .int b, .int c]), h =>
    obtain ⟨h1, h2⟩ := ifB_inv h
    obtain ⟨h2, h3⟩ := ifB_inv h2
    obtain ⟨n, rfl, hn⟩ := in4_inv h1
    obtain ⟨k, rfl, hk⟩ := in4_inv h2
    obtain ⟨j, rfl, hj⟩ := in4_inv h3
    exact ⟨[n, k, j], rfl, .three hn hk hj⟩
theorem zS_plain (l : List Nat) : Plain (zS l) := ⟨l.map .ofNat, by simp [List.map_map]⟩
/-- the law's first two statements -/
noncomputable def cS0 : Sto := ⟨.nd (.tab 0) (.nd (.tab 1) .lf .lf) (.nd (.tab 2) .lf .lf), 3, 0⟩
noncomputable def cF0 (nums : List Int) : Fra := ⟨.va (.lst (nums.map .int)), .un, .un, .un, .un, .un, .un, .un, .un, .un, .un, .un⟩
noncomputable def k1 : KF := fun fr σ => ifB (okF fr) (okS 0 σ) false
noncomputable def k2 : KF := fun fr σ => ifB (okF fr) (ifB (okZ fr.a3) (okS 0 σ) false) false
noncomputable def noR : KV := fun _ _ => false
/-- what the kernel reckons -/
structure Evs : Prop where
  e1 : ∀ nums : List Int, nums.length < 4096 → c_law1 (cF0 nums) cS0 k1 noR noX = true
  e2 : c_law2 (cF .un) (cS (anys 0)) k2 noR noX = true
  e3 : ∀ z, tL1 (cF z) (cS (anys 0)) (kF 0) noX = true
  e4 : ∀ l, Siz l → tL2 (cF (zS l)) (cS (anys 0)) (kF 0) noX = true
  e5 : ∀ l, Siz l → tL3 (cF (zS l)) (cS (anys 0)) (kF 1) noX = true
  e6 : cL4 (cF .un) (cS (anys 1)) (kT (okS 9)) noX = true
  e7 : cL5 (cF .un) (cS (anys 9)) (kT okT) noX = true
theorem Can.un {G : Gd} {frs : List Env} {env : Env} {X : List Addr} {z : SV} {m : Nat} {s : Shared} (C : Can G frs env X z m s) : Can G frs env X .un m s := by
  obtain ⟨ω, R, F⟩ := C
  have hg : ∀ i, i < 7 → (cS (anys m)).t.get i = (cS (anys m)).t.get i := fun _ _ => rfl
  have R' := R.cut hg
  rw [show (anys m).length = m by simp [anys]] at R'
  exact ⟨ω.cut, R', F.cut rfl (.inl rfl) trivial⟩
theorem law_core {G : Gd} (U : Uni G) (Z : Sp G U) (V : Evs) {A : Around} {frs : List Env} {env : Env} {X : List Addr} {s : Shared} {ω : Wd} {nums : List Int} (hi : nums.length < 4096) (hA : Room A 20) (hF : A.frames = some frs)
    (R : Rep G.toGl frs ω cS0 s.heap) (F : FrOK G.toGl frs GL env X (cF0 nums) ω s.heap) {E : Value → Shared → Prop} :
    wpAny (model G.prog G.w) A (execs (fdBody (stJ 58)) env) (fun f s' => f = .ret (.bool true) ∧ Ends G s' ∧ Same4 s s') E s := by
  rw [body58]
  refine wpAny_execs_cons (wpAny_mono (sx_law1 U Z A frs env X _ ω cS0 s k1 noR noX (hA.lt (by decide)) hF R F (V.e1 nums hi)) (fun fl s₁ q => ?_) fun _ _ q => q.no)
  cases fl with
  | ret v => obtain ⟨_, _, _, q, _⟩ := q; exact (nomatch (show false = true from q))
  | next =>
    obtain ⟨fr₁, ω₁, σ₁, q, S₁, F₁⟩ := q
    obtain ⟨q1, q2⟩ := ifB_inv q
    have T₁ := S₁.same
    obtain ⟨ω₁, R₁, F₁⟩ : Can G frs env X .un 0 s₁ := .of S₁.rep F₁ q2 q1 (.inl rfl) trivial
    clear S₁
    refine wpAny_execs_cons (wpAny_mono (sx_law2 U Z A frs env X _ ω₁ _ s₁ k2 noR noX (hA.lt (by decide)) hF R₁ F₁ V.e2) (fun fl s₂ q => ?_) fun _ _ q => q.no)
    cases fl with
    | ret v => obtain ⟨_, _, _, q, _⟩ := q; exact (nomatch (show false = true from q))
    | next =>
      obtain ⟨fr₂, ω₂, σ₂, q, S₂, F₂⟩ := q
      obtain ⟨q1, q2⟩ := ifB_inv q
      obtain ⟨q2, q3⟩ := ifB_inv q2
      have T₂ := T₁.trans S₂.same
      obtain ⟨l, hl, hs⟩ := okZ_inv q2
      have C₂ : Can G frs env X (zS l) 0 s₂ := .of S₂.rep F₂ q3 q1 (.inr hl.symm) (zS_plain l)
      clear S₂
      obtain ⟨e1, e2, e3, p, q, body, eq, t1, t2, t3⟩ := law3_parts U Z
      rw [eq]
      refine wpAny_execs_cons (wpAny_If (wpAny_isTrue_BoolOp (wpAny_allTrue_Or_cons (can_test t1 (V.e3 _) (zS_plain l) hA hF C₂ fun s₃ C₃ T₃ => ?_))))
      refine wpAny_allTrue_Or_cons (can_test t2 (V.e4 l hs) (zS_plain l) hA hF C₃ fun s₄ C₄ T₄ => ?_)
      refine wpAny_allTrue_Or_cons (can_test t3 (V.e5 l hs) (zS_plain l) hA hF C₄ fun s₅ C₅ T₅ => ?_)
      refine wpAny_allTrue_Or_nil (wpAny_execs_nil ?_)
      have C₅' := C₅.un
      have T := ((T₂.trans T₃).trans T₄).trans T₅
      obtain ⟨e1, e2, p, q, eq, r1, r2⟩ := law4_parts U Z
      rw [eq]
      refine wpAny_execs_cons (wpAny_Return_some (wpAny_And2 (can_eval r1 V.e6 trivial hA hF C₅' fun s₆ C₆ T₆ => wpAny_truthy_bool ?_)))
      exact can_last r2 V.e7 hA hF C₆ fun s₇ hE T₇ => ⟨rfl, hE, (T.trans T₆).trans T₇⟩
    | _ => exact q.elim
  | _ => exact q.elim
end
end Mine
namespace Mine
section
open PySem PySem.W PyProof.Rows PySem.Calls PySem.Spec

noncomputable def Ev2 (l : List Nat) : Bool := tL2 (cF (zS l)) (cS (anys 0)) (kF 0) noX
noncomputable def Ev3 (l : List Nat) : Bool := tL3 (cF (zS l)) (cS (anys 0)) (kF 1) noX
theorem ev_1 (nums : List Int) (h : nums.length < 4096) : c_law1 (cF0 nums) cS0 k1 noR noX = true := by
  show @decide (Ints (.lst (nums.map .int)) ∧ _) (Classical.propDecidable _) = true
  exact @decide_eq_true _ (Classical.propDecidable _) ⟨⟨nums, rfl, h⟩, by kernel_rfl⟩
theorem ev_2 : c_law2 (cF .un) (cS (anys 0)) k2 noR noX = true := by decide +kernel
theorem ev_3 (z : SV) : tL1 (cF z) (cS (anys 0)) (kF 0) noX = true := by kernel_rfl
theorem ev_6 : cL4 (cF .un) (cS (anys 1)) (kT (okS 9)) noX = true := by decide +kernel
theorem ev_7 : cL5 (cF .un) (cS (anys 9)) (kT okT) noX = true := by decide +kernel
theorem ev2one : ([0, 1, 2, 3].all fun a => Ev2 [a]) = true := by decide +kernel
theorem ev2two0 : ([0, 1, 2, 3].all fun b => Ev2 [0, b]) = true := by decide +kernel
theorem ev2two1 : ([0, 1, 2, 3].all fun b => Ev2 [1, b]) = true := by decide +kernel
theorem ev2two2 : ([0, 1, 2, 3].all fun b => Ev2 [2, b]) = true := by decide +kernel
theorem ev2two3 : ([0, 1, 2, 3].all fun b => Ev2 [3, b]) = true := by decide +kernel
theorem ev2three00 : ([0, 1, 2, 3].all fun c => Ev2 [0, 0, c]) = true := by decide +kernel
theorem ev2three01 : ([0, 1, 2, 3].all fun c => Ev2 [0, 1, c]) = true := by decide +kernel
theorem ev2three02 : ([0, 1, 2, 3].all fun c => Ev2 [0, 2, c]) = true := by decide +kernel
theorem ev2three03 : ([0, 1, 2, 3].all fun c => Ev2 [0, 3, c]) = true := by decide +kernel
theorem ev2three10 : ([0, 1, 2, 3].all fun c => Ev2 [1, 0, c]) = true := by decide +kernel
theorem ev2three11 : ([0, 1, 2, 3].all fun c => Ev2 [1, 1, c]) = true := by decide +kernel
theorem ev2three12 : ([0, 1, 2, 3].all fun c => Ev2 [1, 2, c]) = true := by decide +kernel
theorem ev2three13 : ([0, 1, 2, 3].all fun c => Ev2 [1, 3, c]) = true := by decide +kernel
theorem ev2three20 : ([0, 1, 2, 3].all fun c => Ev2 [2, 0, c]) = true := by decide +kernel
theorem ev2three21 : ([0, 1, 2, 3].all fun c => Ev2 [2, 1, c]) = true := by decide +kernel
theorem ev2three22 : ([0, 1, 2, 3].all fun c => Ev2 [2, 2, c]) = true := by decide +kernel
theorem ev2three23 : ([0, 1, 2, 3].all fun c => Ev2 [2, 3, c]) = true := by decide +kernel
theorem ev2three30 : ([0, 1, 2, 3].all fun c => Ev2 [3, 0, c]) = true := by decide +kernel
theorem ev2three31 : ([0, 1, 2, 3].all fun c => Ev2 [3, 1, c]) = true := by decide +kernel
theorem ev2three32 : ([0, 1, 2, 3].all fun c => Ev2 [3, 2, c]) = true := by decide +kernel
theorem ev2three33 : ([0, 1, 2, 3].all fun c => Ev2 [3, 3, c]) = true := by decide +kernel
theorem mem2 {P : Nat → Bool} (h : ([0, 1, 2, 3].all P) = true) {a : Nat} (ha : a < 4) : P a = true := by
  have hm : a ∈ ([0, 1, 2, 3] : List Nat) := by
    match a, ha with
    | 0, _ => simp
    | 1, _ => simp
    | 2, _ => simp
    | 3, _ => simp
  exact List.all_eq_true.mp h a hm
theorem ev2all : ∀ l, Siz l → Ev2 l = true
  | _, .one ha => mem2 ev2one ha
  | _, .two (a := a) ha hb => by
    match a, ha with
    | 0, _ => exact mem2 ev2two0 hb
    | 1, _ => exact mem2 ev2two1 hb
    | 2, _ => exact mem2 ev2two2 hb
    | 3, _ => exact mem2 ev2two3 hb
  | _, .three (a := a) (b := b) ha hb hc => by
    match a, b, ha, hb with
    | 0, 0, _, _ => exact mem2 ev2three00 hc
    | 0, 1, _, _ => exact mem2 ev2three01 hc
    | 0, 2, _, _ => exact mem2 ev2three02 hc
    | 0, 3, _, _ => exact mem2 ev2three03 hc
    | 1, 0, _, _ => exact mem2 ev2three10 hc
    | 1, 1, _, _ => exact mem2 ev2three11 hc
    | 1, 2, _, _ => exact mem2 ev2three12 hc
    | 1, 3, _, _ => exact mem2 ev2three13 hc
    | 2, 0, _, _ => exact mem2 ev2three20 hc
    | 2, 1, _, _ => exact mem2 ev2three21 hc
    | 2, 2, _, _ => exact mem2 ev2three22 hc
    | 2, 3, _, _ => exact mem2 ev2three23 hc
    | 3, 0, _, _ => exact mem2 ev2three30 hc
    | 3, 1, _, _ => exact mem2 ev2three31 hc
    | 3, 2, _, _ => exact mem2 ev2three32 hc
    | 3, 3, _, _ => exact mem2 ev2three33 hc
theorem ev3one : ([0, 1, 2, 3].all fun a => Ev3 [a]) = true := by decide +kernel
theorem ev3two0 : ([0, 1, 2, 3].all fun b => Ev3 [0, b]) = true := by decide +kernel
theorem ev3two1 : ([0, 1, 2, 3].all fun b => Ev3 [1, b]) = true := by decide +kernel
theorem ev3two2 : ([0, 1, 2, 3].all fun b => Ev3 [2, b]) = true := by decide +kernel
theorem ev3two3 : ([0, 1, 2, 3].all fun b => Ev3 [3, b]) = true := by decide +kernel
theorem ev3three00 : ([0, 1, 2, 3].all fun c => Ev3 [0, 0, c]) = true := by decide +kernel
theorem ev3three01 : ([0, 1, 2, 3].all fun c => Ev3 [0, 1, c]) = true := by decide +kernel
theorem ev3three02 : ([0, 1, 2, 3].all fun c => Ev3 [0, 2, c]) = true := by decide +kernel
theorem ev3three03 : ([0, 1, 2, 3].all fun c => Ev3 [0, 3, c]) = true := by decide +kernel
theorem ev3three10 : ([0, 1, 2, 3].all fun c => Ev3 [1, 0, c]) = true := by decide +kernel
theorem ev3three11 : ([0, 1, 2, 3].all fun c => Ev3 [1, 1, c]) = true := by decide +kernel
theorem ev3three12 : ([0, 1, 2, 3].all fun c => Ev3 [1, 2, c]) = true := by decide +kernel
theorem ev3three13 : ([0, 1, 2, 3].all fun c => Ev3 [1, 3, c]) = true := by decide +kernel
theorem ev3three20 : ([0, 1, 2, 3].all fun c => Ev3 [2, 0, c]) = true := by decide +kernel
theorem ev3three21 : ([0, 1, 2, 3].all fun c => Ev3 [2, 1, c]) = true := by decide +kernel
theorem ev3three22 : ([0, 1, 2, 3].all fun c => Ev3 [2, 2, c]) = true := by decide +kernel
theorem ev3three230 : Ev3 [2, 3, 0] = true := by decide +kernel
theorem ev3three231 : Ev3 [2, 3, 1] = true := by decide +kernel
theorem ev3three232 : Ev3 [2, 3, 2] = true := by decide +kernel
theorem ev3three233 : Ev3 [2, 3, 3] = true := by decide +kernel
theorem ev3three23 : ([0, 1, 2, 3].all fun c => Ev3 [2, 3, c]) = true := List.all_eq_true.mpr fun c hc => by
  simp only [List.mem_cons, List.not_mem_nil, or_false] at hc
  rcases hc with rfl | rfl | rfl | rfl
  · exact ev3three230
  · exact ev3three231
  · exact ev3three232
  · exact ev3three233
theorem ev3three30 : ([0, 1, 2, 3].all fun c => Ev3 [3, 0, c]) = true := by decide +kernel
theorem ev3three31 : ([0, 1, 2, 3].all fun c => Ev3 [3, 1, c]) = true := by decide +kernel
theorem ev3three320 : Ev3 [3, 2, 0] = true := by decide +kernel
theorem ev3three321 : Ev3 [3, 2, 1] = true := by decide +kernel
theorem ev3three322 : Ev3 [3, 2, 2] = true := by decide +kernel
theorem ev3three323 : Ev3 [3, 2, 3] = true := by decide +kernel
theorem ev3three32 : ([0, 1, 2, 3].all fun c => Ev3 [3, 2, c]) = true := List.all_eq_true.mpr fun c hc => by
  simp only [List.mem_cons, List.not_mem_nil, or_false] at hc
  rcases hc with rfl | rfl | rfl | rfl
  · exact ev3three320
  · exact ev3three321
  · exact ev3three322
  · exact ev3three323
theorem ev3three330 : Ev3 [3, 3, 0] = true := by decide +kernel
theorem ev3three331 : Ev3 [3, 3, 1] = true := by decide +kernel
theorem ev3three332 : Ev3 [3, 3, 2] = true := by decide +kernel
theorem ev3three333 : Ev3 [3, 3, 3] = true := by decide +kernel
theorem ev3three33 : ([0, 1, 2, 3].all fun c => Ev3 [3, 3, c]) = true := List.all_eq_true.mpr fun c hc => by
  simp only [List.mem_cons, List.not_mem_nil, or_false] at hc
  rcases hc with rfl | rfl | rfl | rfl
  · exact ev3three330
  · exact ev3three331
  · exact ev3three332
  · exact ev3three333
theorem mem3 {P : Nat → Bool} (h : ([0, 1, 2, 3].all P) = true) {a : Nat} (ha : a < 4) : P a = true := by
  have hm : a ∈ ([0, 1, 2, 3] : List Nat) := by
    match a, ha with
    | 0, _ => simp
    | 1, _ => simp
    | 2, _ => simp
    | 3, _ => simp
  exact List.all_eq_true.mp h a hm
theorem ev3all : ∀ l, Siz l → Ev3 l = true
  | _, .one ha => mem3 ev3one ha
  | _, .two (a := a) ha hb => by
    match a, ha with
    | 0, _ => exact mem3 ev3two0 hb
    | 1, _ => exact mem3 ev3two1 hb
    | 2, _ => exact mem3 ev3two2 hb
    | 3, _ => exact mem3 ev3two3 hb
  | _, .three (a := a) (b := b) ha hb hc => by
    match a, b, ha, hb with
    | 0, 0, _, _ => exact mem3 ev3three00 hc
    | 0, 1, _, _ => exact mem3 ev3three01 hc
    | 0, 2, _, _ => exact mem3 ev3three02 hc
    | 0, 3, _, _ => exact mem3 ev3three03 hc
    | 1, 0, _, _ => exact mem3 ev3three10 hc
    | 1, 1, _, _ => exact mem3 ev3three11 hc
    | 1, 2, _, _ => exact mem3 ev3three12 hc
    | 1, 3, _, _ => exact mem3 ev3three13 hc
    | 2, 0, _, _ => exact mem3 ev3three20 hc
    | 2, 1, _, _ => exact mem3 ev3three21 hc
    | 2, 2, _, _ => exact mem3 ev3three22 hc
    | 2, 3, _, _ => exact mem3 ev3three23 hc
    | 3, 0, _, _ => exact mem3 ev3three30 hc
    | 3, 1, _, _ => exact mem3 ev3three31 hc
    | 3, 2, _, _ => exact mem3 ev3three32 hc
    | 3, 3, _, _ => exact mem3 ev3three33 hc
theorem theEvs : Evs := ⟨ev_1, ev_2, ev_3, ev2all, ev3all, ev_6, ev_7⟩
end
end Mine
namespace Mine
section
open PySem PySem.W PyProof.Rows PySem.Calls PySem.Spec

/- what the top leaves, as far as the law reaches it -/
noncomputable abbrev fO (st : Stmt) (name qual : Str) (dV : Value) (m : Str) (t c : Nat) : Obj := { cls := .type "function", data := .func { name := name, qualname := qual, params := fdParams st, body := .stmts (fdBody st), scope := fdScope st, globals := 3, closure := [], defaults := dV, kwdefaults := .none, pyModule := .str m t, code := .ref c } }
noncomputable abbrev cO (n : Str) (t : Nat) (q : Str) (t1 t2 line argc fl a big tab : Nat) (v w x : Value) (k line' t3 : Nat) : Obj := { cls := .type "code", data := .fields #[.str n t, .str q t1, .str "/claim/cut.py" t2, .int line 0, .int argc 0, .int 0 0, .int 0 0, .int fl 0, .ref a, .bool true, .int big 0, .ref tab, .none, v, w, x, .int k 0, .int line' 0, .str "/claim/cut.py" t3] }
noncomputable abbrev e (P : Params) (x : Str) (t : Nat) (v : Value) : DictEntry := { hash := PyData.keyHash P x, key := .str x t, val := v }
noncomputable abbrev dO (c : Value) (l : List DictEntry) (n : Nat) : Obj := { cls := c, data := .dict l.toArray n }
noncomputable def theK (P : Params) : Frag := [
  (36, fO (inCls 0 (stJ 2)) "__init__" "RowsError.__init__" (.ref 29) "methodrows.errors" 194 35),
  (68, fO (inCls 0 (stJ 4)) "__init__" "Thrown.__init__" .none "methodrows.errors" 194 67),
  (81, fO (stJ 6) "int_value" "int_value" (.ref 74) "methodrows.forms" 268 80),
  (88, fO (stJ 7) "text_value" "text_value" .none "methodrows.forms" 268 87),
  (95, fO (stJ 8) "error_kind" "error_kind" .none "methodrows.forms" 268 94),
  (102, fO (stJ 9) "error_value" "error_value" .none "methodrows.forms" 268 101),
  (109, fO (stJ 10) "thrown" "thrown" .none "methodrows.forms" 268 108),
  (116, fO (stJ 11) "thrown_text" "thrown_text" .none "methodrows.forms" 268 115),
  (125, fO (stJ 13) "named" "named" (.ref 118) "methodrows.kind_terms" 317 124),
  (139, fO (inCls 0 (stJ 15)) "__init__" "Thing.__init__" .none "methodrows.values" 327 138),
  (160, fO (inCls 0 (stJ 16)) "__init__" "Heap.__init__" .none "methodrows.values" 327 159),
  (167, fO (inCls 1 (stJ 16)) "put" "Heap.put" .none "methodrows.values" 327 166),
  (181, fO (inCls 3 (stJ 16)) "new_array" "Heap.new_array" .none "methodrows.values" 327 180),
  (195, fO (inCls 5 (stJ 16)) "object" "Heap.object" .none "methodrows.values" 327 194),
  (209, fO (stJ 17) "array_kind" "array_kind" .none "methodrows.values" 327 208),
  (216, fO (stJ 20) "many_of" "many_of" .none "methodrows.arrays" 441 215),
  (223, fO (stJ 21) "strides_of" "strides_of" .none "methodrows.arrays" 441 222),
  (230, fO (stJ 22) "offset_of" "offset_of" .none "methodrows.arrays" 441 229),
  (237, fO (stJ 23) "index_of" "index_of" .none "methodrows.arrays" 441 236),
  (242, fO (stJ 24) "bounds_fault" "bounds_fault" .none "methodrows.arrays" 441 241),
  (247, fO (stJ 25) "check_sizes" "check_sizes" .none "methodrows.arrays" 441 246),
  (254, fO (stJ 26) "is_array" "is_array" .none "methodrows.arrays" 441 253),
  (261, fO (stJ 27) "parent_of" "parent_of" .none "methodrows.arrays" 441 260),
  (268, fO (stJ 28) "sizes_of" "sizes_of" .none "methodrows.arrays" 441 267),
  (275, fO (stJ 29) "layout_of" "layout_of" .none "methodrows.arrays" 441 274),
  (282, fO (stJ 30) "place_in_parent" "place_in_parent" .none "methodrows.arrays" 441 281),
  (287, fO (stJ 31) "places_of" "places_of" .none "methodrows.arrays" 441 286),
  (292, fO (stJ 32) "items_of" "items_of" .none "methodrows.arrays" 441 291),
  (299, fO (stJ 33) "item_at" "item_at" .none "methodrows.arrays" 441 298),
  (306, fO (stJ 34) "set_item" "set_item" .none "methodrows.arrays" 441 305),
  (313, fO (stJ 35) "made" "made" .none "methodrows.arrays" 441 312),
  (318, fO (stJ 36) "turned" "turned" .none "methodrows.arrays" 441 317),
  (325, fO (stJ 37) "need_row" "need_row" .none "methodrows.arrays" 441 324),
  (332, fO (stJ 38) "pushed" "pushed" .none "methodrows.arrays" 441 331),
  (339, fO (stJ 39) "popped" "popped" .none "methodrows.arrays" 441 338),
  (346, fO (stJ 40) "as_columns" "as_columns" .none "methodrows.arrays" 441 345),
  (351, fO (stJ 41) "beside" "beside" .none "methodrows.arrays" 441 350),
  (356, fO (stJ 42) "beneath" "beneath" .none "methodrows.arrays" 441 355),
  (361, fO (stJ 43) "by_rows" "by_rows" .none "methodrows.arrays" 441 360),
  (370, fO (stJ 46) "_law_begin" "_law_begin" .none "law_pq0700_01" 647 369),
  (377, fO (stJ 47) "_law_next" "_law_next" .none "law_pq0700_01" 647 376),
  (382, fO (stJ 48) "_law_sizes" "_law_sizes" .none "law_pq0700_01" 647 381),
  (387, fO (stJ 49) "_law_all" "_law_all" .none "law_pq0700_01" 647 386),
  (394, fO (stJ 50) "_law_value" "_law_value" .none "law_pq0700_01" 647 393),
  (401, fO (stJ 51) "_law_thrown" "_law_thrown" .none "law_pq0700_01" 647 400),
  (406, fO (stJ 52) "_law_places_right" "_law_places_right" .none "law_pq0700_01" 647 405),
  (413, fO (stJ 53) "_law_beyond" "_law_beyond" .none "law_pq0700_01" 647 412),
  (418, fO (stJ 54) "_law_items_right" "_law_items_right" .none "law_pq0700_01" 647 417),
  (423, fO (stJ 55) "_law_rows_of" "_law_rows_of" .none "law_pq0700_01" 647 422),
  (428, fO (stJ 56) "_law_joined_right" "_law_joined_right" .none "law_pq0700_01" 647 427),
  (433, fO (stJ 57) "_law_row_right" "_law_row_right" .none "law_pq0700_01" 647 432),
  (35, cO "__init__" 208 "RowsError.__init__" 209 210 7 3 3 30 181 31 (.ref 32) (.ref 33) (.ref 34) 214 7 215),
  (67, cO "__init__" 255 "Thrown.__init__" 256 257 15 2 3 62 181 63 (.ref 64) (.ref 65) (.ref 66) 260 15 261),
  (80, cO "int_value" 271 "int_value" 272 273 19 2 3 75 181 76 (.ref 77) (.ref 78) (.ref 79) 276 19 277),
  (87, cO "text_value" 279 "text_value" 280 281 21 1 3 82 181 83 (.ref 84) (.ref 85) (.ref 86) 283 21 284),
  (94, cO "error_kind" 286 "error_kind" 287 288 23 1 3 89 181 90 (.ref 91) (.ref 92) (.ref 93) 290 23 291),
  (101, cO "error_value" 293 "error_value" 294 295 25 2 3 96 181 97 (.ref 98) (.ref 99) (.ref 100) 298 25 299),
  (108, cO "thrown" 301 "thrown" 302 303 27 2 3 103 181 104 (.ref 105) (.ref 106) (.ref 107) 306 27 307),
  (115, cO "thrown_text" 309 "thrown_text" 310 311 29 2 3 110 181 111 (.ref 112) (.ref 113) (.ref 114) 314 29 315),
  (124, cO "named" 319 "named" 320 321 32 2 3 119 181 120 (.ref 121) (.ref 122) (.ref 123) 324 32 325),
  (138, cO "__init__" 341 "Thing.__init__" 342 343 37 4 3 133 181 134 (.ref 135) (.ref 136) (.ref 137) 348 37 349),
  (159, cO "__init__" 374 "Heap.__init__" 375 376 43 1 3 154 181 155 (.ref 156) (.ref 157) (.ref 158) 378 43 379),
  (166, cO "put" 381 "Heap.put" 382 383 46 2 3 161 181 162 (.ref 163) (.ref 164) (.ref 165) 386 46 387),
  (180, cO "new_array" 398 "Heap.new_array" 399 400 53 4 3 175 181 176 (.ref 177) (.ref 178) (.ref 179) 405 53 406),
  (194, cO "object" 416 "Heap.object" 417 418 59 2 3 189 181 190 (.ref 191) (.ref 192) (.ref 193) 421 59 422),
  (208, cO "array_kind" 433 "array_kind" 434 435 63 2 3 203 181 204 (.ref 205) (.ref 206) (.ref 207) 438 63 439),
  (215, cO "many_of" 445 "many_of" 446 447 67 1 3 210 181 211 (.ref 212) (.ref 213) (.ref 214) 451 67 452),
  (222, cO "strides_of" 454 "strides_of" 455 456 72 1 3 217 181 218 (.ref 219) (.ref 220) (.ref 221) 461 72 462),
  (229, cO "offset_of" 464 "offset_of" 465 466 78 2 3 224 181 225 (.ref 226) (.ref 227) (.ref 228) 473 78 474),
  (236, cO "index_of" 476 "index_of" 477 478 89 2 3 231 181 232 (.ref 233) (.ref 234) (.ref 235) 483 89 484),
  (241, cO "bounds_fault" 486 "bounds_fault" 487 488 95 2 3 238 181 239 .none .none (.ref 240) 489 95 490),
  (246, cO "check_sizes" 492 "check_sizes" 493 494 97 1 3 243 181 244 .none .none (.ref 245) 495 97 496),
  (253, cO "is_array" 498 "is_array" 499 500 100 1 3 248 181 249 (.ref 250) (.ref 251) (.ref 252) 502 100 503),
  (260, cO "parent_of" 505 "parent_of" 506 507 102 2 3 255 181 256 (.ref 257) (.ref 258) (.ref 259) 510 102 511),
  (267, cO "sizes_of" 513 "sizes_of" 514 515 106 2 3 262 181 263 (.ref 264) (.ref 265) (.ref 266) 518 106 519),
  (274, cO "layout_of" 521 "layout_of" 522 523 108 2 3 269 181 270 (.ref 271) (.ref 272) (.ref 273) 526 108 527),
  (281, cO "place_in_parent" 529 "place_in_parent" 530 531 110 3 3 276 181 277 (.ref 278) (.ref 279) (.ref 280) 541 110 542),
  (286, cO "places_of" 544 "places_of" 545 546 119 2 3 283 181 284 .none .none (.ref 285) 547 119 548),
  (291, cO "items_of" 550 "items_of" 551 552 125 2 3 288 181 289 .none .none (.ref 290) 553 125 554),
  (298, cO "item_at" 556 "item_at" 557 558 128 3 3 293 181 294 (.ref 295) (.ref 296) (.ref 297) 564 128 565),
  (305, cO "set_item" 567 "set_item" 568 569 136 4 3 300 181 301 (.ref 302) (.ref 303) (.ref 304) 575 136 576),
  (312, cO "made" 578 "made" 579 580 141 4 3 307 181 308 (.ref 309) (.ref 310) (.ref 311) 585 141 586),
  (317, cO "turned" 588 "turned" 589 590 146 3 3 314 181 315 .none .none (.ref 316) 591 146 592),
  (324, cO "need_row" 594 "need_row" 595 596 151 2 3 319 181 320 (.ref 321) (.ref 322) (.ref 323) 599 151 600),
  (331, cO "pushed" 602 "pushed" 603 604 155 3 3 326 181 327 (.ref 328) (.ref 329) (.ref 330) 609 155 610),
  (338, cO "popped" 612 "popped" 613 614 161 2 3 333 181 334 (.ref 335) (.ref 336) (.ref 337) 619 161 620),
  (345, cO "as_columns" 622 "as_columns" 623 624 170 1 3 340 181 341 (.ref 342) (.ref 343) (.ref 344) 626 170 627),
  (350, cO "beside" 629 "beside" 630 631 174 3 3 347 181 348 .none .none (.ref 349) 632 174 633),
  (355, cO "beneath" 635 "beneath" 636 637 180 3 3 352 181 353 .none .none (.ref 354) 638 180 639),
  (360, cO "by_rows" 641 "by_rows" 642 643 192 4 3 357 181 358 .none .none (.ref 359) 644 192 645),
  (369, cO "_law_begin" 652 "_law_begin" 653 654 200 1 3 364 181 365 (.ref 366) (.ref 367) (.ref 368) 658 200 659),
  (376, cO "_law_next" 661 "_law_next" 662 663 204 2 3 371 181 372 (.ref 373) (.ref 374) (.ref 375) 667 204 668),
  (381, cO "_law_sizes" 670 "_law_sizes" 671 672 211 2 3 378 181 379 .none .none (.ref 380) 673 211 674),
  (386, cO "_law_all" 676 "_law_all" 677 678 213 1 3 383 181 384 .none .none (.ref 385) 679 213 680),
  (393, cO "_law_value" 682 "_law_value" 683 684 218 1 3 388 181 389 (.ref 390) (.ref 391) (.ref 392) 686 218 687),
  (400, cO "_law_thrown" 689 "_law_thrown" 690 691 220 1 3 395 181 396 (.ref 397) (.ref 398) (.ref 399) 694 220 695),
  (405, cO "_law_places_right" 697 "_law_places_right" 698 699 226 1 3 402 181 403 .none .none (.ref 404) 700 226 701),
  (412, cO "_law_beyond" 703 "_law_beyond" 704 705 239 2 3 407 181 408 (.ref 409) (.ref 410) (.ref 411) 710 239 711),
  (417, cO "_law_items_right" 713 "_law_items_right" 714 715 244 3 3 414 181 415 .none .none (.ref 416) 716 244 717),
  (422, cO "_law_rows_of" 719 "_law_rows_of" 720 721 261 2 3 419 181 420 .none .none (.ref 421) 722 261 723),
  (427, cO "_law_joined_right" 725 "_law_joined_right" 726 727 264 2 3 424 181 425 .none .none (.ref 426) 728 264 729),
  (432, cO "_law_row_right" 731 "_law_row_right" 732 733 283 2 3 429 181 430 .none .none (.ref 431) 734 283 735),
  (2, dO .none [e P "type.__subclasses__.Exception.0" 223 (.int 39 0), e P "type.__subclasses__.Exception.n" 224 (.int 1 0)] 2),
  (3, dO (.type "dict") [e P "__name__" 165 (.str ("law_pq0700_01") 647), e P "__doc__" 166 .none, e P "__package__" 167 .none, e P "__loader__" 168 (.builtin "__main__.__loader__#opaque"), e P "__spec__" 169 .none, e P "__annotations__" 170 (.ref 6), e P "__builtins__" 171 (.ref 4), e P "__file__" 173 (.str ("/claim/cut.py") 172), e P "__cached__" 174 .none, e P "_wall" 193 (.ref 21), e P "RowsError" 226 (.ref 39), e P "MachineFault" 242 (.ref 52), e P "Thrown" 267 (.ref 71), e P "int_value" 278 (.ref 81), e P "text_value" 285 (.ref 88), e P "error_kind" 292 (.ref 95), e P "error_value" 300 (.ref 102), e P "thrown" 308 (.ref 109), e P "thrown_text" 316 (.ref 116), e P "named" 326 (.ref 125), e P "Thing" 361 (.ref 142), e P "Heap" 432 (.ref 198), e P "array_kind" 440 (.ref 209), e P "MOST_ITEMS" 444 (.int 20000 443), e P "many_of" 453 (.ref 216), e P "strides_of" 463 (.ref 223), e P "offset_of" 475 (.ref 230), e P "index_of" 485 (.ref 237), e P "bounds_fault" 491 (.ref 242), e P "check_sizes" 497 (.ref 247), e P "is_array" 504 (.ref 254), e P "parent_of" 512 (.ref 261), e P "sizes_of" 520 (.ref 268), e P "layout_of" 528 (.ref 275), e P "place_in_parent" 543 (.ref 282), e P "places_of" 549 (.ref 287), e P "items_of" 555 (.ref 292), e P "item_at" 566 (.ref 299), e P "set_item" 577 (.ref 306), e P "made" 587 (.ref 313), e P "turned" 593 (.ref 318), e P "need_row" 601 (.ref 325), e P "pushed" 611 (.ref 332), e P "popped" 621 (.ref 339), e P "as_columns" 628 (.ref 346), e P "beside" 634 (.ref 351), e P "beneath" 640 (.ref 356), e P "by_rows" 646 (.ref 361), e P "_law_ITEM" 651 (.ref 363), e P "_law_begin" 660 (.ref 370), e P "_law_next" 669 (.ref 377), e P "_law_sizes" 675 (.ref 382), e P "_law_all" 681 (.ref 387), e P "_law_value" 688 (.ref 394), e P "_law_thrown" 696 (.ref 401), e P "_law_places_right" 702 (.ref 406), e P "_law_beyond" 712 (.ref 413), e P "_law_items_right" 718 (.ref 418), e P "_law_rows_of" 724 (.ref 423), e P "_law_joined_right" 730 (.ref 428), e P "_law_row_right" 736 (.ref 433), e P "law" 746 (.ref 440)] 62),
  (38, dO (.type "dict") [e P "__module__" 203 (.str ("methodrows.errors") 194), e P "__firstlineno__" 207 (.int 5 206), e P "__init__" 216 (.ref 36), e P "__static_attributes__" 219 (.ref 37), e P "__weakref__" 221 (.ref 40), e P "__doc__" 222 .none] 3),
  (70, dO (.type "dict") [e P "__module__" 250 (.str ("methodrows.errors") 194), e P "__firstlineno__" 254 (.int 13 253), e P "__init__" 262 (.ref 68), e P "__static_attributes__" 264 (.ref 69), e P "__doc__" 265 .none] 2),
  (141, dO (.type "dict") [e P "__module__" 336 (.str ("methodrows.values") 327), e P "__firstlineno__" 340 (.int 35 339), e P "__init__" 350 (.ref 139), e P "__static_attributes__" 354 (.ref 140), e P "__dict__" 356 (.ref 143), e P "__weakref__" 358 (.ref 144), e P "__doc__" 359 .none] 4),
  (197, dO (.type "dict") [e P "__module__" 369 (.str ("methodrows.values") 327), e P "__firstlineno__" 373 (.int 41 372), e P "__init__" 380 (.ref 160), e P "put" 388 (.ref 167), e P "new_object" 397 (.ref 174), e P "new_array" 407 (.ref 181), e P "new_box" 415 (.ref 188), e P "object" 423 (.ref 195), e P "__static_attributes__" 425 (.ref 196), e P "__dict__" 427 (.ref 199), e P "__weakref__" 429 (.ref 200), e P "__doc__" 430 .none] 4),
  (39, { cls := .type "type", data := .cls { name := "RowsError", bases := [.type "Exception"], mro := [.ref 39, .type "Exception", .type "BaseException", .type "object"], ns := 38, qualname := "RowsError", subclasses := [.ref 52, .ref 71] }, slots := #[some (.ref 22), none, some (.str ("RowsError") 196), some (.str ("RowsError") 204), some (.builtin "Exception.__new__"), some (.bool true)] }),
  (71, { cls := .type "type", data := .cls { name := "Thrown", bases := [.ref 39], mro := [.ref 71, .ref 39, .type "Exception", .type "BaseException", .type "object"], ns := 70, qualname := "Thrown" }, slots := #[some (.ref 55), none, some (.str ("Thrown") 243), some (.str ("Thrown") 251), some (.builtin "Exception.__new__"), some (.bool true)] }),
  (142, { cls := .type "type", data := .cls { name := "Thing", bases := [.type "object"], mro := [.ref 142, .type "object"], ns := 141, qualname := "Thing" }, slots := #[none, none, some (.str ("Thing") 329), some (.str ("Thing") 337), some (.builtin "object.__new__"), some (.bool true)] }),
  (198, { cls := .type "type", data := .cls { name := "Heap", bases := [.type "object"], mro := [.ref 198, .type "object"], ns := 197, qualname := "Heap" }, slots := #[none, none, some (.str ("Heap") 362), some (.str ("Heap") 370), some (.builtin "object.__new__"), some (.bool true)] }),
  (29, { cls := .type "tuple", data := .seq #[.none] }),
  (363, { cls := .type "tuple", data := .seq #[.str ("name") 649, .str ("Int64") 650, .ref 362] }),
  (362, { cls := .type "tuple", data := .seq #[] }),
  (74, { cls := .type "tuple", data := .seq #[.str ("Int64") 270] }),
  (118, { cls := .type "tuple", data := .seq #[.ref 117] })]
noncomputable def theAs : List Addr := [36, 68, 81, 88, 95, 102, 109, 116, 125, 139, 160, 167, 181, 195, 209, 216, 223, 230, 237, 242, 247, 254, 261, 268, 275, 282, 287, 292, 299, 306, 313, 318, 325, 332, 339, 346, 351, 356, 361, 370, 377, 382, 387, 394, 401, 406, 413, 418, 423, 428, 433, 35, 67, 80, 87, 94, 101, 108, 115, 124, 138, 159, 166, 180, 194, 208, 215, 222, 229, 236, 241, 246, 253, 260, 267, 274, 281, 286, 291, 298, 305, 312, 317, 324, 331, 338, 345, 350, 355, 360, 369, 376, 381, 386, 393, 400, 405, 412, 417, 422, 427, 432, 2, 3, 38, 70, 141, 197, 39, 71, 142, 198, 29, 363, 362, 74, 118]
theorem theAs_ok (P : Params) : theAs = (theK P).map (·.1) := rfl
end
end Mine
namespace Mine
section
open PySem PySem.W PyProof.Rows PySem.Calls PySem.Spec

/-- the text, as far as the law's own def is asked -/
noncomputable def qv : Program := { PySem.Challenge.pw_pq0700_01 with main := { PySem.Challenge.pw_pq0700_01.main with body := [stJ 58] } }
noncomputable def theLoose : List Str := (["_wall", "RowsError", "MachineFault", "Thrown", "int_value", "text_value", "error_kind", "error_value", "thrown", "thrown_text", "named", "Thing", "Heap", "array_kind", "MOST_ITEMS", "many_of", "strides_of", "offset_of", "index_of", "bounds_fault", "check_sizes", "is_array", "parent_of", "sizes_of", "layout_of", "place_in_parent", "places_of", "items_of", "item_at", "set_item", "made", "turned", "need_row", "pushed", "popped", "as_columns", "beside", "beneath", "by_rows", "_law_ITEM", "_law_begin", "_law_next", "_law_sizes", "_law_all", "_law_value", "_law_thrown", "_law_places_right", "_law_beyond", "_law_items_right", "_law_rows_of", "_law_joined_right", "_law_row_right"] : List String).map Str.ofString
noncomputable def theTabs : List Addr := [415, 425, 430]
noncomputable def theH : Hook := kmHook theK theAs theAs_ok theTabs
theorem left : LeftO PySem.Challenge.pw_pq0700_01 qv theLoose (fun _ => true) (Hook.obs theH) (Hook.val theH) 5600 := fun w => by
  unfold openEnds fencedOpening topFrom
  rw [PySem.W.Fast.te10274390034422433532, PySem.W.Fast.te14289696077712309145, PySem.W.Fast.te14082659384304107361, PySem.W.Fast.te4187177175401517315, PySem.W.Fast.te14364793385576792824]
  kernel_rfl
end
end Mine
namespace Mine
section
open PySem PySem.W PyProof.Rows PySem.Calls PySem.Spec
noncomputable def fdPos : Stmt → Pos
  | .FunctionDef (pos := p) .. => p
  | _ => ⟨0, 0, 0, 0⟩
noncomputable abbrev theRow : OpenRow := PySem.Challenge.rw_pq0700_01.row
noncomputable abbrev theDef : DefRec := ⟨"law", fdParams (stJ 58), fdBody (stJ 58), fdScope (stJ 58), fdPos (stJ 58)⟩
theorem c_hdef : defOf qv theRow.name = some (theDef, []) := by kernel_rfl
theorem c_hp : theRow.prog.theDef theRow.name = some (theDef.params, theDef.body, theDef.scope) := by kernel_rfl
theorem c_hk : kwWritten? theDef.params.kwonlyargs theDef.params.kw_defaults = some [] := by kernel_rfl
theorem c_ok : (chainsOk qv && opensWell theRow.prog && (frees theRow.toRowW && theRow.within.isEmpty)) = true := by decide +kernel
theorem c_bare : theRow.prog.bare := ⟨rfl, rfl, rfl, rfl, rfl, by decide +kernel⟩
theorem c_hw : theRow.toRowW.promised := ⟨[ofPy (.list [])], by decide +kernel, by decide +kernel⟩
theorem c_said : PySem.Challenge.rw_pq0700_01.wellSaid = true := by
  rw [PySem.W.Fast.te9446332074065402090]
  decide +kernel
end
end Mine
namespace Mine
section
open PySem PySem.W PyProof.Rows PySem.Calls PySem.Spec

/-- what is known behind the top -/
structure GF (w : World) (h₁ : Heap) (mg mb : Str → Option Value) : Prop where
  K : (theK w.params).In h₁
  tabs : ∀ a ∈ theTabs, h₁.get? a = some (tabObj #[])
  g : h₁.Ns mainGlobals mg
  b : h₁.Ns builtinsNs mb
  nl : h₁.NoLimit
  bi : ∀ x : Str, x ≠ "__name__" → mb x = bootBuiltins x
  bm : ∃ bm ob, mg "__builtins__" = some (.ref bm) ∧ bm ≠ builtinsNs ∧ h₁.get? bm = some ob ∧ ob.cls = .type "module" ∧ ob.dict = some builtinsNs ∧ ob.data = .plain
noncomputable def theQ : List (Addr × Addr) := [(417, 415), (427, 425), (432, 430)]
noncomputable def clsA : Nat → Addr
  | 0 => 142
  | _ => 198
noncomputable def lamA : Nat → Addr
  | 0 => 417
  | 1 => 427
  | _ => 432
noncomputable def codeQ (K : Frag) (c : Addr) : Option Str := match K.lookup c with
  | some ⟨_, _, .fields vs, _⟩ => (match (vs[1]? : Option Value) with
    | some (.str q _) => some q
    | _ => none)
  | _ => none
theorem codeQ_rec {K : Frag} {h : Heap} {c : Addr} {q : Str} (X : K.In h) (e : codeQ K c = some q) : h.CodeRec (.ref c) q := by
  unfold codeQ at e
  split at e
  · rename_i vs _ hk
    split at e
    · rename_i q' t hv
      cases e
      exact ⟨c, _, vs, t, rfl, X _ _ hk, rfl, hv⟩
    · cases e
  · cases e
theorem tabs_at {w : World} {h₁ : Heap} {mg mb : Str → Option Value} (F : GF w h₁ mg mb) : TabsAt theQ h₁ := fun q hq => by
  have key : ∀ c P, codeHdIn (theK w.params) c P = true → P ∈ theTabs → CodeHd h₁ c P ∧ h₁.get? P = some (tabObj #[]) := fun c P e m => ⟨codeHd_of_K F.K e, F.tabs P m⟩
  have h1 : codeHdIn (theK w.params) 417 415 = true := by kernel_rfl
  have h2 : codeHdIn (theK w.params) 427 425 = true := by kernel_rfl
  have h3 : codeHdIn (theK w.params) 432 430 = true := by kernel_rfl
  simp only [theQ, List.mem_cons, List.not_mem_nil, or_false] at hq
  rcases hq with rfl | rfl | rfl
  · exact key _ _ h1 (by simp [theTabs])
  · exact key _ _ h2 (by simp [theTabs])
  · exact key _ _ h3 (by simp [theTabs])
theorem noTabs_ok (P : Params) : noTabs (theK P) = true := by kernel_rfl
noncomputable abbrev gh (h₁ : Heap) : Heap := ghostOf h₁ theQ
theorem gh_in {w : World} {h₁ : Heap} {mg mb : Str → Option Value} (F : GF w h₁ mg mb) : (theK w.params).In (gh h₁) := ghost_K (tabs_at F) F.K (noTabs_ok _)
theorem at_none {P : Addr → Prop} : ∀ c, P 142 → P 198 → P (clsA c)
  | 0, a, _ => a
  | _ + 1, _, b => b
theorem cls_ok (P : Params) (c : Nat) : ClsOK (theK P) (clsA c) := by
  have a142 : ClsOK (theK P) 142 := by
    refine ⟨by kernel_rfl, by kernel_rfl, by kernel_rfl, by kernel_rfl, by kernel_rfl, fun x hx => ?_⟩
    simp only [attrs, List.mem_cons, List.not_mem_nil, or_false] at hx
    rcases hx with rfl | rfl | rfl | rfl
    · exact ⟨⟨none, by kernel_rfl, by kernel_rfl⟩, by kernel_rfl⟩
    · exact ⟨⟨none, by kernel_rfl, by kernel_rfl⟩, by kernel_rfl⟩
    · exact ⟨⟨none, by kernel_rfl, by kernel_rfl⟩, by kernel_rfl⟩
    · exact ⟨⟨none, by kernel_rfl, by kernel_rfl⟩, by kernel_rfl⟩
  have a198 : ClsOK (theK P) 198 := by
    refine ⟨by kernel_rfl, by kernel_rfl, by kernel_rfl, by kernel_rfl, by kernel_rfl, fun x hx => ?_⟩
    simp only [attrs, List.mem_cons, List.not_mem_nil, or_false] at hx
    rcases hx with rfl | rfl | rfl | rfl
    · exact ⟨⟨none, by kernel_rfl, by kernel_rfl⟩, by kernel_rfl⟩
    · exact ⟨⟨none, by kernel_rfl, by kernel_rfl⟩, by kernel_rfl⟩
    · exact ⟨⟨none, by kernel_rfl, by kernel_rfl⟩, by kernel_rfl⟩
    · exact ⟨⟨none, by kernel_rfl, by kernel_rfl⟩, by kernel_rfl⟩
  exact at_none c a142 a198
/-- what the proofs of the codes ask -/
noncomputable def theGd {w : World} {h₁ : Heap} {mg mb : Str → Option Value} (F : GF w h₁ mg mb) : Gd where
  prog := theRow.prog
  w := w
  base := gh h₁
  cls := clsA
  exc := 71
  lamC := lamA
  gfz := [363, 362]
  mg := mg
  mb := mb
  hg := ghost_ns (tabs_at F) F.g
  hb := ghost_ns (tabs_at F) F.b
  nolimit := let ⟨mc, a, r⟩ := F.nl; ⟨mc, ghost_ns (tabs_at F) a, r⟩
  bi := F.bi
  K := theK w.params
  kin := gh_in F
  clsOK := cls_ok w.params
noncomputable def theNames : List (String × Addr) := [("__annotations__", 6), ("__builtins__", 4), ("_wall", 21), ("RowsError", 39), ("MachineFault", 52), ("Thrown", 71), ("int_value", 81), ("text_value", 88), ("error_kind", 95), ("error_value", 102), ("thrown", 109), ("thrown_text", 116), ("named", 125), ("Thing", 142), ("Heap", 198), ("array_kind", 209), ("many_of", 216), ("strides_of", 223), ("offset_of", 230), ("index_of", 237), ("bounds_fault", 242), ("check_sizes", 247), ("is_array", 254), ("parent_of", 261), ("sizes_of", 268), ("layout_of", 275), ("place_in_parent", 282), ("places_of", 287), ("items_of", 292), ("item_at", 299), ("set_item", 306), ("made", 313), ("turned", 318), ("need_row", 325), ("pushed", 332), ("popped", 339), ("as_columns", 346), ("beside", 351), ("beneath", 356), ("by_rows", 361), ("_law_ITEM", 363), ("_law_begin", 370), ("_law_next", 377), ("_law_sizes", 382), ("_law_all", 387), ("_law_value", 394), ("_law_thrown", 401), ("_law_places_right", 406), ("_law_beyond", 413), ("_law_items_right", 418), ("_law_rows_of", 423), ("_law_joined_right", 428), ("_law_row_right", 433), ("law", 440)]
theorem names_ok (P : Params) : theNames.map (fun q => nsIn (theK P) mainGlobals (Str.ofString q.1)) = theNames.map (fun q => some (some (.ref q.2))) := by kernel_rfl
section
variable {w : World} {h₁ : Heap} {mg mb : Str → Option Value} (F : GF w h₁ mg mb)
include F
theorem g_at {x : String} {a : Addr} (i : Nat) (h : theNames[i]? = some (x, a)) (hd : (Str.ofString x == ("__debug__" : Str)) = false) : GlobV (theGd F) (Str.ofString x) (.ref a) :=
  ⟨hd, .inl (mg_of F.K F.g (List.map_inj_left.mp (names_ok w.params) (x, a) (List.mem_of_getElem? h)))⟩
theorem b_at {x : Str} {v : Value} (h : nsIn (theK w.params) mainGlobals x = some none) (hb : bootBuiltins x = some v) (hn : x ≠ "__name__") (hd : (x == ("__debug__" : Str)) = false) : GlobV (theGd F) x v :=
  ⟨hd, .inr ⟨mg_none_of F.K F.g h, hn, hb⟩⟩
theorem f_at {st : Stmt} {name qual m : Str} {dV : Value} {t a c : Nat} (e : (theK w.params).lookup a = some (fO st name qual dV m t c)) (ec : codeQ (theK w.params) c = some qual) (hs : ((fdScope st).isCoroutine || (fdScope st).isGenerator) = false) :
    FnAt (theGd F) a (fdOf st name qual dV .none .none (.str m t) none (.ref c) .none) := by
  obtain ⟨h1, h2⟩ := Bool.or_eq_false_iff.mp hs
  exact ⟨⟨_, gh_in F _ _ e, rfl⟩, h1, h2, rfl, rfl, rfl, codeQ_rec (gh_in F) ec⟩
omit F in
theorem keep_at {st : Stmt} {name qual m : Str} {dV : Value} {t a c : Nat} {K : Frag} (e : K.lookup a = some (fO st name qual dV m t c)) : keepIn K (.ref a) = true := by
  unfold keepIn
  simp only [e]
theorem fk_at {st : Stmt} {name qual m : Str} {t a c : Nat} (e : (theK w.params).lookup a = some (fO st name qual .none m t c)) (ec : codeQ (theK w.params) c = some qual) (hs : ((fdScope st).isCoroutine || (fdScope st).isGenerator) = false) : FnK (theGd F) a st :=
  ⟨⟨_, _, _, _, _, _, _, _, f_at F e ec hs⟩, keep_at e⟩
theorem fl_at {st : Stmt} {name qual m q : Str} {t a c : Nat} (e : (theK w.params).lookup a = some (fO st name qual .none m t c)) (ec : codeQ (theK w.params) c = some qual) (hs : ((fdScope st).isCoroutine || (fdScope st).isGenerator) = false) (hq : qual ++ ".<locals>." = q) : FnL (theGd F) a st c q :=
  ⟨⟨_, _, _, _, _, _, _, f_at F e ec hs, hq⟩, keep_at e⟩
theorem item_ok : GlobA (theGd F) "_law_ITEM" (.tup [.str 2, .str 8, .tup []]) := by
  refine ⟨.ref 363, g_at F 40 rfl (by decide), fun ω h hz hb => ?_⟩
  have i363 : h.get? 363 = some { cls := .type "tuple", data := .seq #[.str "name" 649, .str "Int64" 650, .ref 362] } := hb _ _ (gh_in F 363 _ (by kernel_rfl))
  have i362 : h.get? 362 = some { cls := .type "tuple", data := .seq #[] } := hb _ _ (gh_in F 362 _ (by kernel_rfl))
  refine .tup (vs := [.str "name" 649, .str "Int64" 650, .ref 362]) (hz _ (.head _)) ⟨_, i363, rfl, _, rfl⟩ (.cons (.str _ rfl) (.cons (.str _ rfl) (.cons ?_ .nil)))
  exact .tup (vs := []) (hz _ (.tail _ (.head _))) ⟨_, i362, rfl, _, rfl⟩ .nil
noncomputable def theU : Uni (theGd F) where
  a_int_value := 81
  f_int_value := ⟨⟨_, _, 74, _, 0, 270, _, _, _, _, _, _, f_at F (st := (stJ 6)) (name := "int_value") (qual := "int_value") (dV := .ref 74) (m := "methodrows.forms") (t := 268) (a := 81) (c := 80) (by kernel_rfl) (by kernel_rfl) (by kernel_rfl), gh_in F 74 { cls := .type "tuple", data := .seq #[.str "Int64" 270] } (by kernel_rfl), rfl⟩, keep_at (st := (stJ 6)) (name := "int_value") (qual := "int_value") (dV := .ref 74) (m := "methodrows.forms") (t := 268) (c := 80) (by kernel_rfl)⟩
  g_int_value := g_at F 6 rfl (by decide)
  a_text_value := 88
  f_text_value := fk_at F (st := (stJ 7)) (name := "text_value") (qual := "text_value") (m := "methodrows.forms") (t := 268) (a := 88) (c := 87) (by kernel_rfl) (by kernel_rfl) (by kernel_rfl)
  g_text_value := g_at F 7 rfl (by decide)
  a_error_kind := 95
  f_error_kind := fk_at F (st := (stJ 8)) (name := "error_kind") (qual := "error_kind") (m := "methodrows.forms") (t := 268) (a := 95) (c := 94) (by kernel_rfl) (by kernel_rfl) (by kernel_rfl)
  g_error_kind := g_at F 8 rfl (by decide)
  a_error_value := 102
  f_error_value := fk_at F (st := (stJ 9)) (name := "error_value") (qual := "error_value") (m := "methodrows.forms") (t := 268) (a := 102) (c := 101) (by kernel_rfl) (by kernel_rfl) (by kernel_rfl)
  g_error_value := g_at F 9 rfl (by decide)
  a_thrown := 109
  f_thrown := fk_at F (st := (stJ 10)) (name := "thrown") (qual := "thrown") (m := "methodrows.forms") (t := 268) (a := 109) (c := 108) (by kernel_rfl) (by kernel_rfl) (by kernel_rfl)
  g_thrown := g_at F 10 rfl (by decide)
  a_thrown_text := 116
  f_thrown_text := fk_at F (st := (stJ 11)) (name := "thrown_text") (qual := "thrown_text") (m := "methodrows.forms") (t := 268) (a := 116) (c := 115) (by kernel_rfl) (by kernel_rfl) (by kernel_rfl)
  g_thrown_text := g_at F 11 rfl (by decide)
  a_named := 125
  f_named := ⟨⟨_, _, 118, _, .ref 117, 0, _, _, _, _, _, _, f_at F (st := (stJ 13)) (name := "named") (qual := "named") (dV := .ref 118) (m := "methodrows.kind_terms") (t := 317) (a := 125) (c := 124) (by kernel_rfl) (by kernel_rfl) (by kernel_rfl), gh_in F 118 { cls := .type "tuple", data := .seq #[.ref 117] } (by kernel_rfl), rfl⟩, keep_at (st := (stJ 13)) (name := "named") (qual := "named") (dV := .ref 118) (m := "methodrows.kind_terms") (t := 317) (c := 124) (by kernel_rfl)⟩
  g_named := g_at F 12 rfl (by decide)
  a_Thing_init := 139
  f_Thing_init := fk_at F (st := (inCls 0 (stJ 15))) (name := "__init__") (qual := "Thing.__init__") (m := "methodrows.values") (t := 327) (a := 139) (c := 138) (by kernel_rfl) (by kernel_rfl) (by kernel_rfl)
  n_Thing := ⟨by kernel_rfl, by kernel_rfl, by kernel_rfl⟩
  g_Thing := g_at F 13 rfl (by decide)
  k_Thing := by kernel_rfl
  a_Heap_init := 160
  f_Heap_init := fk_at F (st := (inCls 0 (stJ 16))) (name := "__init__") (qual := "Heap.__init__") (m := "methodrows.values") (t := 327) (a := 160) (c := 159) (by kernel_rfl) (by kernel_rfl) (by kernel_rfl)
  n_Heap := ⟨by kernel_rfl, by kernel_rfl, by kernel_rfl⟩
  g_Heap := g_at F 14 rfl (by decide)
  k_Heap := by kernel_rfl
  a_Heap_put := 167
  f_Heap_put := fk_at F (st := (inCls 1 (stJ 16))) (name := "put") (qual := "Heap.put") (m := "methodrows.values") (t := 327) (a := 167) (c := 166) (by kernel_rfl) (by kernel_rfl) (by kernel_rfl)
  m_put := ⟨by kernel_rfl, by kernel_rfl, by decide, by kernel_rfl⟩
  a_Heap_new_array := 181
  f_Heap_new_array := fk_at F (st := (inCls 3 (stJ 16))) (name := "new_array") (qual := "Heap.new_array") (m := "methodrows.values") (t := 327) (a := 181) (c := 180) (by kernel_rfl) (by kernel_rfl) (by kernel_rfl)
  m_new_array := ⟨by kernel_rfl, by kernel_rfl, by decide, by kernel_rfl⟩
  a_Heap_object := 195
  f_Heap_object := fk_at F (st := (inCls 5 (stJ 16))) (name := "object") (qual := "Heap.object") (m := "methodrows.values") (t := 327) (a := 195) (c := 194) (by kernel_rfl) (by kernel_rfl) (by kernel_rfl)
  m_object := ⟨by kernel_rfl, by kernel_rfl, by decide, by kernel_rfl⟩
  a_array_kind := 209
  f_array_kind := fk_at F (st := (stJ 17)) (name := "array_kind") (qual := "array_kind") (m := "methodrows.values") (t := 327) (a := 209) (c := 208) (by kernel_rfl) (by kernel_rfl) (by kernel_rfl)
  g_array_kind := g_at F 15 rfl (by decide)
  a_many_of := 216
  f_many_of := fk_at F (st := (stJ 20)) (name := "many_of") (qual := "many_of") (m := "methodrows.arrays") (t := 441) (a := 216) (c := 215) (by kernel_rfl) (by kernel_rfl) (by kernel_rfl)
  g_many_of := g_at F 16 rfl (by decide)
  a_strides_of := 223
  f_strides_of := fk_at F (st := (stJ 21)) (name := "strides_of") (qual := "strides_of") (m := "methodrows.arrays") (t := 441) (a := 223) (c := 222) (by kernel_rfl) (by kernel_rfl) (by kernel_rfl)
  g_strides_of := g_at F 17 rfl (by decide)
  a_offset_of := 230
  f_offset_of := fk_at F (st := (stJ 22)) (name := "offset_of") (qual := "offset_of") (m := "methodrows.arrays") (t := 441) (a := 230) (c := 229) (by kernel_rfl) (by kernel_rfl) (by kernel_rfl)
  g_offset_of := g_at F 18 rfl (by decide)
  a_index_of := 237
  f_index_of := fk_at F (st := (stJ 23)) (name := "index_of") (qual := "index_of") (m := "methodrows.arrays") (t := 441) (a := 237) (c := 236) (by kernel_rfl) (by kernel_rfl) (by kernel_rfl)
  g_index_of := g_at F 19 rfl (by decide)
  a_bounds_fault := 242
  f_bounds_fault := fk_at F (st := (stJ 24)) (name := "bounds_fault") (qual := "bounds_fault") (m := "methodrows.arrays") (t := 441) (a := 242) (c := 241) (by kernel_rfl) (by kernel_rfl) (by kernel_rfl)
  g_bounds_fault := g_at F 20 rfl (by decide)
  a_check_sizes := 247
  f_check_sizes := fk_at F (st := (stJ 25)) (name := "check_sizes") (qual := "check_sizes") (m := "methodrows.arrays") (t := 441) (a := 247) (c := 246) (by kernel_rfl) (by kernel_rfl) (by kernel_rfl)
  g_check_sizes := g_at F 21 rfl (by decide)
  a_is_array := 254
  f_is_array := fk_at F (st := (stJ 26)) (name := "is_array") (qual := "is_array") (m := "methodrows.arrays") (t := 441) (a := 254) (c := 253) (by kernel_rfl) (by kernel_rfl) (by kernel_rfl)
  g_is_array := g_at F 22 rfl (by decide)
  a_parent_of := 261
  f_parent_of := fk_at F (st := (stJ 27)) (name := "parent_of") (qual := "parent_of") (m := "methodrows.arrays") (t := 441) (a := 261) (c := 260) (by kernel_rfl) (by kernel_rfl) (by kernel_rfl)
  g_parent_of := g_at F 23 rfl (by decide)
  a_sizes_of := 268
  f_sizes_of := fk_at F (st := (stJ 28)) (name := "sizes_of") (qual := "sizes_of") (m := "methodrows.arrays") (t := 441) (a := 268) (c := 267) (by kernel_rfl) (by kernel_rfl) (by kernel_rfl)
  g_sizes_of := g_at F 24 rfl (by decide)
  a_layout_of := 275
  f_layout_of := fk_at F (st := (stJ 29)) (name := "layout_of") (qual := "layout_of") (m := "methodrows.arrays") (t := 441) (a := 275) (c := 274) (by kernel_rfl) (by kernel_rfl) (by kernel_rfl)
  g_layout_of := g_at F 25 rfl (by decide)
  a_place_in_parent := 282
  f_place_in_parent := fk_at F (st := (stJ 30)) (name := "place_in_parent") (qual := "place_in_parent") (m := "methodrows.arrays") (t := 441) (a := 282) (c := 281) (by kernel_rfl) (by kernel_rfl) (by kernel_rfl)
  g_place_in_parent := g_at F 26 rfl (by decide)
  a_places_of := 287
  f_places_of := fk_at F (st := (stJ 31)) (name := "places_of") (qual := "places_of") (m := "methodrows.arrays") (t := 441) (a := 287) (c := 286) (by kernel_rfl) (by kernel_rfl) (by kernel_rfl)
  g_places_of := g_at F 27 rfl (by decide)
  a_items_of := 292
  f_items_of := fk_at F (st := (stJ 32)) (name := "items_of") (qual := "items_of") (m := "methodrows.arrays") (t := 441) (a := 292) (c := 291) (by kernel_rfl) (by kernel_rfl) (by kernel_rfl)
  g_items_of := g_at F 28 rfl (by decide)
  a_item_at := 299
  f_item_at := fk_at F (st := (stJ 33)) (name := "item_at") (qual := "item_at") (m := "methodrows.arrays") (t := 441) (a := 299) (c := 298) (by kernel_rfl) (by kernel_rfl) (by kernel_rfl)
  g_item_at := g_at F 29 rfl (by decide)
  a_set_item := 306
  f_set_item := fk_at F (st := (stJ 34)) (name := "set_item") (qual := "set_item") (m := "methodrows.arrays") (t := 441) (a := 306) (c := 305) (by kernel_rfl) (by kernel_rfl) (by kernel_rfl)
  g_set_item := g_at F 30 rfl (by decide)
  a_made := 313
  f_made := fk_at F (st := (stJ 35)) (name := "made") (qual := "made") (m := "methodrows.arrays") (t := 441) (a := 313) (c := 312) (by kernel_rfl) (by kernel_rfl) (by kernel_rfl)
  g_made := g_at F 31 rfl (by decide)
  a_as_columns := 346
  f_as_columns := fk_at F (st := (stJ 40)) (name := "as_columns") (qual := "as_columns") (m := "methodrows.arrays") (t := 441) (a := 346) (c := 345) (by kernel_rfl) (by kernel_rfl) (by kernel_rfl)
  g_as_columns := g_at F 36 rfl (by decide)
  a_turned := 318
  f_turned := fk_at F (st := (stJ 36)) (name := "turned") (qual := "turned") (m := "methodrows.arrays") (t := 441) (a := 318) (c := 317) (by kernel_rfl) (by kernel_rfl) (by kernel_rfl)
  g_turned := g_at F 32 rfl (by decide)
  a_need_row := 325
  f_need_row := fk_at F (st := (stJ 37)) (name := "need_row") (qual := "need_row") (m := "methodrows.arrays") (t := 441) (a := 325) (c := 324) (by kernel_rfl) (by kernel_rfl) (by kernel_rfl)
  g_need_row := g_at F 33 rfl (by decide)
  a_pushed := 332
  f_pushed := fk_at F (st := (stJ 38)) (name := "pushed") (qual := "pushed") (m := "methodrows.arrays") (t := 441) (a := 332) (c := 331) (by kernel_rfl) (by kernel_rfl) (by kernel_rfl)
  g_pushed := g_at F 34 rfl (by decide)
  a_popped := 339
  f_popped := fk_at F (st := (stJ 39)) (name := "popped") (qual := "popped") (m := "methodrows.arrays") (t := 441) (a := 339) (c := 338) (by kernel_rfl) (by kernel_rfl) (by kernel_rfl)
  g_popped := g_at F 35 rfl (by decide)
  a_beside := 351
  f_beside := fk_at F (st := (stJ 41)) (name := "beside") (qual := "beside") (m := "methodrows.arrays") (t := 441) (a := 351) (c := 350) (by kernel_rfl) (by kernel_rfl) (by kernel_rfl)
  g_beside := g_at F 37 rfl (by decide)
  a_beneath := 356
  f_beneath := fk_at F (st := (stJ 42)) (name := "beneath") (qual := "beneath") (m := "methodrows.arrays") (t := 441) (a := 356) (c := 355) (by kernel_rfl) (by kernel_rfl) (by kernel_rfl)
  g_beneath := g_at F 38 rfl (by decide)
  a_by_rows := 361
  f_by_rows := fk_at F (st := (stJ 43)) (name := "by_rows") (qual := "by_rows") (m := "methodrows.arrays") (t := 441) (a := 361) (c := 360) (by kernel_rfl) (by kernel_rfl) (by kernel_rfl)
  g_by_rows := g_at F 39 rfl (by decide)
  a__law_begin := 370
  f__law_begin := fk_at F (st := (stJ 46)) (name := "_law_begin") (qual := "_law_begin") (m := "law_pq0700_01") (t := 647) (a := 370) (c := 369) (by kernel_rfl) (by kernel_rfl) (by kernel_rfl)
  g__law_begin := g_at F 41 rfl (by decide)
  a__law_next := 377
  f__law_next := fk_at F (st := (stJ 47)) (name := "_law_next") (qual := "_law_next") (m := "law_pq0700_01") (t := 647) (a := 377) (c := 376) (by kernel_rfl) (by kernel_rfl) (by kernel_rfl)
  g__law_next := g_at F 42 rfl (by decide)
  a__law_sizes := 382
  f__law_sizes := fk_at F (st := (stJ 48)) (name := "_law_sizes") (qual := "_law_sizes") (m := "law_pq0700_01") (t := 647) (a := 382) (c := 381) (by kernel_rfl) (by kernel_rfl) (by kernel_rfl)
  g__law_sizes := g_at F 43 rfl (by decide)
  a__law_all := 387
  f__law_all := fk_at F (st := (stJ 49)) (name := "_law_all") (qual := "_law_all") (m := "law_pq0700_01") (t := 647) (a := 387) (c := 386) (by kernel_rfl) (by kernel_rfl) (by kernel_rfl)
  g__law_all := g_at F 44 rfl (by decide)
  a__law_value := 394
  f__law_value := fk_at F (st := (stJ 50)) (name := "_law_value") (qual := "_law_value") (m := "law_pq0700_01") (t := 647) (a := 394) (c := 393) (by kernel_rfl) (by kernel_rfl) (by kernel_rfl)
  g__law_value := g_at F 45 rfl (by decide)
  a__law_places_right := 406
  f__law_places_right := fk_at F (st := (stJ 52)) (name := "_law_places_right") (qual := "_law_places_right") (m := "law_pq0700_01") (t := 647) (a := 406) (c := 405) (by kernel_rfl) (by kernel_rfl) (by kernel_rfl)
  g__law_places_right := g_at F 47 rfl (by decide)
  a__law_beyond := 413
  f__law_beyond := fk_at F (st := (stJ 53)) (name := "_law_beyond") (qual := "_law_beyond") (m := "law_pq0700_01") (t := 647) (a := 413) (c := 412) (by kernel_rfl) (by kernel_rfl) (by kernel_rfl)
  g__law_beyond := g_at F 48 rfl (by decide)
  a__law_items_right := 418
  f__law_items_right := fl_at F (st := (stJ 54)) (name := "_law_items_right") (qual := "_law_items_right") (m := "law_pq0700_01") (t := 647) (a := 418) (c := 417) (by kernel_rfl) (by kernel_rfl) (by kernel_rfl) (by kernel_rfl)
  g__law_items_right := g_at F 49 rfl (by decide)
  a__law_rows_of := 423
  f__law_rows_of := fk_at F (st := (stJ 55)) (name := "_law_rows_of") (qual := "_law_rows_of") (m := "law_pq0700_01") (t := 647) (a := 423) (c := 422) (by kernel_rfl) (by kernel_rfl) (by kernel_rfl)
  g__law_rows_of := g_at F 50 rfl (by decide)
  a__law_joined_right := 428
  f__law_joined_right := fl_at F (st := (stJ 56)) (name := "_law_joined_right") (qual := "_law_joined_right") (m := "law_pq0700_01") (t := 647) (a := 428) (c := 427) (by kernel_rfl) (by kernel_rfl) (by kernel_rfl) (by kernel_rfl)
  g__law_joined_right := g_at F 51 rfl (by decide)
  a__law_row_right := 433
  f__law_row_right := fl_at F (st := (stJ 57)) (name := "_law_row_right") (qual := "_law_row_right") (m := "law_pq0700_01") (t := 647) (a := 433) (c := 432) (by kernel_rfl) (by kernel_rfl) (by kernel_rfl) (by kernel_rfl)
  g__law_row_right := g_at F 52 rfl (by decide)
  g_len := b_at F (by kernel_rfl) (by boot_by_name) (by decide) (by decide)
  g_sum := b_at F (by kernel_rfl) (by boot_by_name) (by decide) (by decide)
  g_tuple := b_at F (by kernel_rfl) (by boot_by_name) (by decide) (by decide)
  g_list := b_at F (by kernel_rfl) (by boot_by_name) (by decide) (by decide)
  g_range := b_at F (by kernel_rfl) (by boot_by_name) (by decide) (by decide)
  g_zip := b_at F (by kernel_rfl) (by boot_by_name) (by decide) (by decide)
  g_enumerate := b_at F (by kernel_rfl) (by boot_by_name) (by decide) (by decide)
  g_MOST_ITEMS := ⟨.int 20000 443, ⟨by decide, .inl (mg_of F.K F.g (by kernel_rfl))⟩, fun _ _ _ _ => .int _ _⟩
  g_ITEM := item_ok F
  x := ⟨by kernel_rfl, by kernel_rfl⟩
theorem exc_obj : (gh h₁).get? 71 = some (excClassObj "Thrown" "Thrown" 71 70 [.ref 39] [.ref 39, .type "Exception", .type "BaseException", .type "object"] true [] [] false none none (some (.ref 55)) none (some (.str "Thrown" 243)) (some (.str "Thrown" 251)) (some (.bool true)) "Exception.__new__") := gh_in F 71 _ (by kernel_rfl)
noncomputable def theU2 : Uni2 (theGd F) where
  aT := 401
  fT := fk_at F (st := (stJ 51)) (name := "_law_thrown") (qual := "_law_thrown") (m := "law_pq0700_01") (t := 647) (a := 401) (c := 400) (by kernel_rfl) (by kernel_rfl) (by kernel_rfl)
  gT := g_at F 46 rfl (by decide)
  gX := g_at F 5 rfl (by decide)
  kX := by kernel_rfl
  bm := by
    obtain ⟨bm, ob, h1, h2, h3, h4, h5, h6⟩ := F.bm
    refine ⟨bm, ob, h1, h2, fun e => ?_, ghost_get (tabs_at F) h3 (fun q => by rw [q] at h4; cases h4), h4, h5, h6⟩
    obtain ⟨o, es, ep, ho, hd, _⟩ := F.g
    rw [e, ho] at h3
    cases h3
    rw [h6] at hd
    cases hd
  w := ⟨by kernel_rfl, by kernel_rfl, by kernel_rfl, by kernel_rfl⟩
  o := ⟨_, _, _, _, _, _, _, _, _, _, _, _, _, _, _, _, exc_obj F, by decide⟩
/-- the exception's own making -/
theorem init70 : (gh h₁).nsMap 70 "__init__" = some (.ref 68) := by
  have kernel : ((theK w.params).lookup 70).bind (fun o => match o.data with | .dict es _ => nsFind es ("__init__" : Str) | _ => none) = some (.ref 68) := by kernel_rfl
  obtain ⟨o, e, q⟩ := Option.bind_eq_some_iff.mp kernel
  unfold Heap.nsMap
  rw [gh_in F 70 o e]
  exact q
noncomputable def theM : ExcM (theGd F) where
  R := 39
  fT := 68
  fR := 36
  exK := ⟨⟨_, 39, (by kernel_rfl : clsIn (theK w.params) 71 = some { name := "Thrown", bases := [.ref 39], mro := [.ref 71, .ref 39, .type "Exception", .type "BaseException", .type "object"], ns := 70, qualname := "Thrown" }), rfl, rfl⟩, fun x hx => by
      simp only [List.mem_cons, List.not_mem_nil, or_false] at hx
      rcases hx with rfl | rfl | rfl
      · kernel_rfl
      · kernel_rfl
      · kernel_rfl, by kernel_rfl⟩
  mro := ⟨_, _, _, _, _, _, _, _, _, _, _, _, _, _, _, (gh h₁).nsMap 70, exc_obj F, .of_isNs (isNs_of_in (gh_in F) (by kernel_rfl)), init70 F⟩
  gE := b_at F (by kernel_rfl) (by boot_by_name) (by decide) (by decide)
  gR := g_at F 3 rfl (by decide)
  cE := by kernel_rfl
  cR := by kernel_rfl
  rR := by kernel_rfl
  sR := by kernel_rfl
  keepR := by kernel_rfl
  fnT := fk_at F (st := (inCls 0 (stJ 4))) (name := "__init__") (qual := "Thrown.__init__") (m := "methodrows.errors") (t := 194) (a := 68) (c := 67) (by kernel_rfl) (by kernel_rfl) (by kernel_rfl)
  tyT := by kernel_rfl
  fnR := ⟨_, _, 29, _, 0, _, _, _, _, _, _, f_at F (st := (inCls 0 (stJ 2))) (name := "__init__") (qual := "RowsError.__init__") (dV := .ref 29) (m := "methodrows.errors") (t := 194) (a := 36) (c := 35) (by kernel_rfl) (by kernel_rfl) (by kernel_rfl), gh_in F 29 { cls := .type "tuple", data := .seq #[.none] } (by kernel_rfl), rfl⟩
end
end
end Mine
namespace Mine
section
open PySem PySem.W PyProof.Rows PySem.Calls PySem.Spec

section
variable {G : Gd} {frs : List Env} {ω : Wd} {σ : Sto} {s : Shared} {Γ : Ct} {f : Addr} {fd : FuncData}
/-- a call of a function that always returns -/
theorem call_free {n : Nat} {body : List Stmt} {A : Around} {l : List AV} {binds : List (Str × Value)} {args : Args} {R : Result → Shared → Prop} (FA : FnAt G f fd) (hbody : fd.body = .stmts body) (hsc : ScOK Γ fd.scope) (hcap : ∀ (i : Nat) x, Γ.vars[i]? ≠ some (x, SK.cap)) (hcode : ∀ c q, Γ.code = some (c, q) → fd.code = .ref c ∧ fd.qualname ++ ".<locals>." = q)
    (hA : Room A (n + 1)) (hF : A.frames = some frs) (Rp : Rep G.toGl frs ω σ s.heap) (hbind : BindsTo s fd args binds)
    (hnames : ∀ (i : Nat) x, (binds.map (·.1))[i]? = some x → ∃ kk, Γ.vars[i]? = some (x, kk)) (hnd : (binds.map (·.1)).Nodup) (V : VRs ω s.heap (binds.map (·.2)) l)
    (hb : ∀ env X s₁, St G frs [] ω s ω σ s₁ → Rep G.toGl (env :: frs) ω σ s₁.heap → FrOK G.toGl (env :: frs) Γ env X (frOf l) ω s₁.heap → Room (A.deeper env) n → (A.deeper env).frames = some (env :: frs) →
      wpAny (model G.prog G.w) (A.deeper env) (execs body env) (fun fl s' => ∃ v, fl = .ret v ∧ R (.ok (.ret v)) s') (fun _ _ => False) s₁) :
    codeAny (model G.prog G.w) A (.call (.ref f) args) R s := by
  obtain ⟨o, ho, hd⟩ := FA.at_
  have hkb : ∀ b o, G.base.get? b = some o → s.heap.get? b = some o := Rp.base
  have hlim : s.heap.NoLimit := G.nolimit.keeps hkb
  refine codeAny_call_function (by have := hA.2.1; omega) (hkb f o ho) hd FA.co FA.gen hbody (FA.code.keeps hkb) (hbind _ _ _ _ ?_)
  rw [FA.clos]
  refine wpAny_newFunctionEnv_cells hsc.kind (fun y hy => ?_) fun env he s₁ xc => ?_
  · obtain ⟨i, hi⟩ := List.getElem?_of_mem hy
    obtain ⟨kk, hk⟩ := hnames i y.1 (by rw [List.getElem?_map, hi]; rfl)
    have hl := hsc.vars i y.1 kk hk
    cases kk with
    | loc => exact .inl hl
    | cap => exact absurd hk (hcap i _)
    | own =>
      obtain ⟨c, hc⟩ := cellsFrom_mem fd.scope.names (s.heap.objs.size + 1) y.1 (mem_of_lookup hl)
      obtain ⟨d, hd⟩ := lookup_some hc
      exact .inr ⟨hl, by rw [hd]; rfl⟩
  · obtain ⟨X, T, R', F', hX, hfr, hL⟩ := fn_frame Rp FA hsc hcap hcode hnames hnd V he xc
    refine ⟨G.nolimit.keeps fun b o e => T.rep.base b o e, codeAny_func ?_⟩
    refine wpAny_mono (hb env X s₁ T R' F' hA.deeper (Around.frames_deeper hF)) (fun fl s₂ q => ?_) fun e s₂ q => q.elim
    obtain ⟨v, rfl, q⟩ := q
    exact q
end
/-- a code has one table -/
theorem codeHd_one {h : Heap} {c P P' : Addr} (x : CodeHd h c P) (y : CodeHd h c P') : P = P' := by
  obtain ⟨o, vs, _, _, _, _, _, _, _, e1, _, e3, e4, _⟩ := x
  obtain ⟨o', vs', _, _, _, _, _, _, _, f1, _, f3, f4, _⟩ := y
  rw [e1] at f1; cases f1
  rw [e3] at f3; cases f3
  rw [e4] at f4; cases f4; rfl
theorem intsVR {ω : Wd} {h : Heap} : ∀ {vs : List Value} {nums : List Int}, IntsAre vs nums → VRs ω h vs (nums.map .int)
  | _, _, .nil => .nil
  | _, _, .cons n t r => .cons (.int n t) (intsVR r)
section
variable {w : World} {h₁ : Heap} {mg mb : Str → Option Value} (F : GF w h₁ mg mb)
include F
omit F in
theorem base_up : ∀ a o, (gh h₁).get? a = some o → h₁.get? a = some o := fun _ _ e => of_hideAll _ e
omit F in
theorem hid {a : Addr} (ha : a ∈ theTabs) : (gh h₁).get? a = none := hideAll_none _ (by simpa [theQ, theTabs] using ha)
theorem hd_at : ∀ q ∈ theQ, CodeHd (gh h₁) q.1 q.2 := fun q hq => by
  obtain ⟨o, vs, file, tf, flags, tg, inF, text, tt, e1, r1, r⟩ := (tabs_at F q hq).1
  exact ⟨o, vs, file, tf, flags, tg, inF, text, tt, ghost_get (tabs_at F) e1 (fun q => by rw [q] at r1; cases r1), r1, r⟩
/-- how it stands before the law is called -/
theorem rep0 {la : Addr} {vs : List Value} (hl : h₁.PlainList la vs.toArray) : Rep (theGd F).toGl [] ⟨theTabs, [363, 362, la], []⟩ cS0 h₁ := by
  have ne : ∀ a ∈ theTabs, a ∉ ([363, 362, la] : List Addr) := fun a ha hm => by
    have ht := F.tabs a ha
    have k : ∀ o, h₁.get? a = some o → o.cls ≠ .none → False := fun o e hc => by rw [ht] at e; cases e; exact hc rfl
    simp only [List.mem_cons, List.not_mem_nil, or_false] at hm
    rcases hm with rfl | rfl | rfl
    · exact k _ (F.K 363 { cls := .type "tuple", data := .seq #[.str "name" 649, .str "Int64" 650, .ref 362] } (by kernel_rfl)) (by simp)
    · exact k _ (F.K 362 { cls := .type "tuple", data := .seq #[] } (by kernel_rfl)) (by simp)
    · obtain ⟨n, e⟩ := hl
      exact k _ e (by simp)
  have tab : ∀ f c a, (c, a) ∈ theQ → a ∈ theTabs → lamA f = c → OR (theGd F).toGl ⟨theTabs, [363, 362, la], []⟩ h₁ a (.tab f) := fun f c a hq ha hc =>
    ⟨#[], F.tabs a ha, trivial, fun pos cv e => (nomatch (show (none : Option Value) = some cv from e)), by show CodeHd (gh h₁) (lamA f) a; rw [hc]; exact hd_at F _ hq⟩
  refine ⟨fun i o e => ?_, rfl, rfl, (by decide : theTabs.Nodup), fun a ha => ⟨_, F.tabs a ha⟩, fun a ha => ?_, fun a ha => ⟨ne a ha, hid ha, fun q => nomatch q⟩, fun a _ q => (nomatch q), base_up, trivial, fun a ha => ?_⟩
  · have hi : i < 3 := by
      rcases Nat.lt_or_ge i 3 with q | q
      · exact q
      · rw [TR.get_big cS0.t i (by show 2 ^ 2 ≤ i + 1; omega)] at e; cases e
    match i, hi, e with
    | 0, _, e => cases e; exact ⟨415, rfl, tab 0 417 415 (.head _) (.head _) rfl⟩
    | 1, _, e => cases e; exact ⟨425, rfl, tab 1 427 425 (.tail _ (.head _)) (.tail _ (.head _)) rfl⟩
    | 2, _, e => cases e; exact ⟨430, rfl, tab 2 432 430 (.tail _ (.tail _ (.head _))) (.tail _ (.tail _ (.head _))) rfl⟩
  · simp only [List.mem_cons, List.not_mem_nil, or_false] at ha
    rcases ha with rfl | rfl | rfl
    · exact ⟨_, F.K 363 { cls := .type "tuple", data := .seq #[.str "name" 649, .str "Int64" 650, .ref 362] } (by kernel_rfl)⟩
    · exact ⟨_, F.K 362 { cls := .type "tuple", data := .seq #[] } (by kernel_rfl)⟩
    · obtain ⟨n, e⟩ := hl
      exact ⟨_, e⟩
  · exact List.mem_append_left [la] ha
theorem grown {s : Shared} (E : Ends (theGd F) s) : GrownAll theQ s.heap := by
  have key : ∀ f c a, (c, a) ∈ theQ → f < 3 → lamA f = c → GrownAt a s.heap := fun f c a hq hf hc => by
    obtain ⟨a', ps, h1, h2⟩ := E.2 f hf
    have h1' : CodeHd (gh h₁) (lamA f) a' := h1
    rw [hc] at h1'
    have e : a = a' := codeHd_one (hd_at F _ hq) h1'
    rw [e]
    exact ⟨ps, h2⟩
  exact ⟨key 0 417 415 (.head _) (by decide) rfl, key 1 427 425 (.tail _ (.head _)) (by decide) rfl, key 2 432 430 (.tail _ (.tail _ (.head _))) (by decide) rfl, trivial⟩
end
theorem room0 : Room callerA 21 := ⟨rfl, by decide, by decide⟩
theorem plain_of {w : World} {h : Heap} {la : Addr} {vs : List Value} {d : List WData} (hL : h.IsList la vs.toArray) (hw : Well w.params h (.ref la) (.list d)) : h.PlainList la vs.toArray := by
  cases hw with
  | list e _ =>
    obtain ⟨o, ho, _, n, hd⟩ := hL
    rw [e] at ho
    cases ho
    cases hd
    exact ⟨_, e⟩
theorem walk_main {w : World} {s₁ : Shared} {mg mb : Str → Option Value} (F : GF w s₁.heap mg mb) {fa la : Addr} {o : Obj} {pm cd doc dV kV : Value} {vs : List Value} {nums : List Int} {cl : Str → Option Addr} {mean : ExcName → Option Value}
    (ho : s₁.heap.get? fa = some o) (hd : o.data = .func { docDef theDef.name theDef.params theDef.body theDef.scope pm cd doc with defaults := dV, kwdefaults := kV }) (hcd : s₁.heap.CodeRec cd theDef.name) (hD : Dflts mg s₁.heap theDef.params [] dV kV)
    (hg : s₁.gens = #[]) (hl : s₁.heap.PlainList la vs.toArray) (hI : IntsAre vs nums) (hn : nums.length < 4096) :
    wpAny (model theRow.prog w) callerA (call (.ref fa) [.ref la]) (fun v s' => GoodWG theRow.claim cl mean [ofPy (.list (nums.map .int))] s₁ (.ok (.ret v)) s') (fun e s' => GoodWG theRow.claim cl mean [ofPy (.list (nums.map .int))] s₁ (.error e) s') s₁ := by
  have e1 : dV = .none := by
    rcases hD.pos with ⟨_, e⟩ | ⟨q, _⟩
    · exact e
    · exact absurd (by kernel_rfl : theDef.params.defaults = []) q
  have e2 : kV = .none := by
    rcases hD.kw with ⟨_, e⟩ | ⟨q, _⟩
    · exact e
    · exact absurd rfl q
  subst e1 e2
  refine wpAny_call (codeAny_mono (kn_post (cw := theRow.claim) (cl := cl) (mean := mean) (args := [ofPy (.list (nums.map .int))]) (tabs_at F) (fun _ _ => rfl) ?_) fun r s' q => ?_)
  · have FA : FnAt (theGd F) fa { docDef theDef.name theDef.params theDef.body theDef.scope pm cd doc with defaults := .none, kwdefaults := .none } := by
      refine ⟨⟨o, ghost_get (tabs_at F) ho (fun q => by rw [q] at hd; cases hd), hd⟩, by kernel_rfl, by kernel_rfl, rfl, rfl, rfl, ?_⟩
      obtain ⟨c, oc, vs, t, hc, hoc, hdc, hv⟩ := hcd
      exact ⟨c, oc, vs, t, hc, ghost_get (tabs_at F) hoc (fun q => by rw [q] at hdc; cases hdc; cases hv), hdc, hv⟩
    have Rp := rep0 F hl
    have hla : la ∈ (⟨theTabs, [363, 362, la], []⟩ : Wd).fz := .tail _ (.tail _ (.head _))
    refine call_free (G := theGd F) (Γ := GL) (n := 20) (l := [.lst (nums.map .int)]) (binds := [("script", .ref la)]) FA rfl (ScOK.of scope58) (fun i x e => ?_) (fun c q e => (by cases e)) room0 rfl Rp (BindsTo.of_eq rfl) (fun i x e => ?_) (by simp) (.cons (.lst hla hl (intsVR hI)) .nil) fun env X s₂ S R₂ F₂ hA hF => ?_
    · match i, e with
      | 0, e => cases e
      | 1, e => cases e
      | 2, e => cases e
      | 3, e => cases e
      | i + 4, e => cases e
    · match i, e with
      | 0, e => cases e; exact ⟨_, rfl⟩
      | i + 1, e => cases e
    · refine wpAny_mono (law_core (theU F) (sp (theU F) (theU2 F) (theM F)) theEvs hn hA hF R₂ F₂) (fun fl s₃ q => ?_) fun _ _ q => q
      obtain ⟨rfl, hE, h4⟩ := q
      have hS := S.same.trans h4
      refine ⟨_, rfl, ⟨.inl ⟨_, .bool true, [], rfl, fun _ => rfl, .bool true, ?_, fun _ => ⟨List.nodup_nil, fun _ h => nomatch h⟩⟩, hE.1, hS.2.2, hS.1.trans hg⟩, grown F hE⟩
      wrow_post
  · cases r with
    | error e => exact q
    | ok fl =>
      cases fl with
      | ret v => exact q
      | _ => obtain ⟨q, _⟩ := q; rcases q with ⟨_, _, _, q, _⟩ | ⟨_, _, _, q, _⟩ <;> cases q
theorem the_walk : WalkO qv theLoose (fun _ _ => True) (Hook.says theH) theRow.toRowW theDef [] (fun f vs => PySem.call f vs) := by
  intro w s₀ s₁ mg mb G Y fa o pm cd doc dV kV ho hd hcd hD hmg hg args vals as hpre hlay hrd hwl hlo
  have F : GF w s₁.heap mg mb := ⟨Y.1, Y.2, G.T.g, G.T.b, G.T.nolimit, G.T.builtins, G.T.bmain⟩
  wrow_args hpre hlay hrd hwl hlo
  rename_i nums _ _ _ _ _ _ _ la vs _ hL _ w1 _ hI _ hc _
  exact walk_main F ho hd hcd hD hg (plain_of hL w1) hI (by omega)
end
end Mine
namespace Mine
section
open PySem PySem.W PyProof.Rows PySem.Calls PySem.Spec
theorem row_holds : theRow.Holds :=
  holds_open (r := theRow) (q := qv) (loose := theLoose) (Xt := fun _ => true) (XP := fun _ _ => True) (Yf := Hook.obs theH) (Ya := Hook.val theH) (YP := Hook.says theH) (d := theDef) (kwd := []) (N := 5600)
    left (Hook.of theH) (Hook.keeps theH) (fun _ _ => trivial) (fun _ _ _ _ _ => trivial) c_hdef c_hp c_hk (fun _ _ => recFacts_nil rfl) (by rfl) (row_said c_said) c_ok c_bare c_hw the_walk
end
end Mine
theorem PySem.Challenge.cw_pq0700_01_holds : PySem.Challenge.rw_pq0700_01.Holds :=
  PySem.W.holds_law Mine.c_said fun said => Mine.row_holds
