import PyProof.Rows.All
import Wide.All
import OpenK.AllK
import Wide.FinOn
import HandS.ForMost
import HandS.ForExc
import HandS.Defaults
import HandS.TupAny
import HandS.Wide
import HandS.Deep
import KE.DataEq
import KE.DataCmp
import KE.DataMinMax
import KE.KTupSum
import KE.SortData
import HandS.IsInst
import KE.SortLaws
import HandS.Style
import KE.GoesEnum
import KE.GoesZip
import KE.GoesNew
import HandS.Zip
import HandS.ExcCtx
import HandS.ExcOwn
import HandS.TryMany
import HandS.ExcIs
import HandS.CallLocal
import HandS.CallSlots
import HandS.Flow
import HandS.Steps
import HandS.Head0
import HandS.Head1
import HandS.Head2
import HandS.HeadEnd
import HandS.HeadHook1
import HandS.HeadHook2
import HandS.HeadHook3
import HandS.HeadHook4
import PySem.Challenge.RW_stairlaid_k78_whole_sums_over_hooks
set_option linter.all false
set_option Elab.async false
set_option maxRecDepth 100000
set_option maxHeartbeats 0
set_option exponentiation.threshold 5000
/-! Qz: values as plain data, operations as plain functions. -/
namespace Qz
open PySem
noncomputable section

inductive D where
  | non | bl (b : Bool) | int (i : Int) | str (x : Str) | tup (xs : List D) | lst (xs : List D) | fn (i : Nat) | dct (ks vs : List D) | set (xs : List D) | rol (xs : List D)
inductive R (α : Type) where
  | ok (a : α) | ex (c : Nat) (fs : List D) | bad
def bnd' {α β : Type} (r : R α) (k : α → R β) : R β := match r with
  | .ok a => k a
  | .ex c fs => .ex c fs
  | .bad => .bad
def bnd {α β : Type} (r : R α) (k : α → R β) : R β := @R.rec α (fun _ => R β) k (fun c fs => .ex c fs) .bad r
theorem bnd_def : @bnd = @bnd' := by funext α β r k; cases r <;> rfl
/-- what a statement leaves: on, back with a value (and the given list), out of the loop, on in the loop, an error -/
inductive Fl (σ β : Type) where
  | nx (s : σ) | rt (u w : D) | bk (b : β) | ct (b : β) | ex (c : Nat) (fs : List D) | bad
def bnS' {α σ β : Type} (r : R α) (k : α → Fl σ β) : Fl σ β := match r with
  | .ok a => k a
  | .ex c fs => .ex c fs
  | .bad => .bad
def bnS {α σ β : Type} (r : R α) (k : α → Fl σ β) : Fl σ β := @R.rec α (fun _ => Fl σ β) k (fun c fs => .ex c fs) .bad r
theorem bnS_def : @bnS = @bnS' := by funext α σ β r k; cases r <;> rfl
def thnS' {σ τ β : Type} (f : Fl σ β) (k : σ → Fl τ β) : Fl τ β := match f with
  | .nx s => k s
  | .rt u w => .rt u w
  | .bk b => .bk b
  | .ct b => .ct b
  | .ex c fs => .ex c fs
  | .bad => .bad

def thnS {σ τ β : Type} (f : Fl σ β) (k : σ → Fl τ β) : Fl τ β := @Fl.rec σ β (fun _ => Fl τ β) k (fun u w => .rt u w) (fun b => .bk b) (fun b => .ct b) (fun c fs => .ex c fs) .bad f
theorem thnS_def : @thnS = @thnS' := by funext σ τ β r k; cases r <;> rfl
/-! ### data: equality and order -/
mutual
def D.eqv : D → D → Bool
  | .non, .non => true
  | .bl a, .bl b => a == b
  | .bl a, .int j => (if a then 1 else 0) == j
  | .int i, .bl b => i == (if b then 1 else 0)
  | .int i, .int j => i == j
  | .str x, .str y => x == y
  | .tup xs, .tup ys => D.eqvs xs ys
  | .lst xs, .lst ys => D.eqvs xs ys
  | _, _ => false
def D.eqvs : List D → List D → Bool
  | [], [] => true
  | x :: xs, y :: ys => D.eqv x y && D.eqvs xs ys
  | _, _ => false
end
mutual
/-- no def, no dict, no set within; not too deep -/
def D.dat : Nat → D → Bool
  | _, .fn _ => false
  | _, .dct _ _ => false
  | _, .set _ => false
  | _, .rol _ => false
  | 0, .tup _ => false
  | 0, .lst _ => false
  | n + 1, .tup xs => D.dats n xs
  | n + 1, .lst xs => D.dats n xs
  | _, _ => true
def D.dats : Nat → List D → Bool
  | _, [] => true
  | n, x :: xs => D.dat n x && D.dats n xs
end
mutual
/-- the same kinds at the same places -/
def D.alike : D → D → Bool
  | .bl _, .bl _ => true
  | .int _, .int _ => true
  | .str _, .str _ => true
  | .tup xs, .tup ys => D.alikes xs ys
  | _, _ => false
def D.alikes : List D → List D → Bool
  | x :: xs, y :: ys => D.alike x y && D.alikes xs ys
  | _, _ => true
end
mutual
/-- less, of alike data -/
def D.lt : D → D → Bool
  | .bl a, .bl b => !a && b
  | .int a, .int b => decide (a < b)
  | .str a, .str b => decide (a.cps.toList < b.cps.toList)
  | .tup xs, .tup ys => D.lts xs ys
  | _, _ => false
def D.lts : List D → List D → Bool
  | [], [] => false
  | [], _ :: _ => true
  | _ :: _, [] => false
  | x :: xs, y :: ys => if D.eqv x y then D.lts xs ys else D.lt x y
end
mutual
/-- bools, ints, texts, tuples of these -/
def D.solid : Nat → D → Bool
  | _, .bl _ => true
  | _, .int _ => true
  | _, .str _ => true
  | n + 1, .tup xs => D.solids n xs
  | _, _ => false
def D.solids : Nat → List D → Bool
  | _, [] => true
  | n, x :: xs => D.solid n x && D.solids n xs
end
abbrev vB (r : R Bool) : R D := bnd r fun b => .ok (.bl b)

/-! ### operations -/
def okMul (i j : Int) : Bool := decide (-(2 ^ 64) < i ∧ i < 2 ^ 64) || decide (-(2 ^ 64) < j ∧ j < 2 ^ 64) || (decide (i.natAbs < 2 ^ 4000) && decide (j.natAbs < 2 ^ 4000))
def okDiv (j : Int) : Bool := decide (j ≠ 0 ∧ j.natAbs < 1073741824) || decide (0 < j ∧ j.natAbs < 2 ^ 8000)
def okPow (i j : Int) : Bool := decide (0 ≤ j ∧ j ≤ 1000000 ∧ i.natAbs < 2 ^ 64)
def bigL : Nat := 1000000
/-! fast parts: recursors alone -/
def bigN : Nat := (nat_lit 1000000)
theorem bigN_eq : bigN = bigL := rfl
def ifB {α : Type} (b : Bool) (x y : α) : α := @Bool.rec (fun _ => α) y x b
theorem ifB_eq {α : Type} {b : Bool} {x y : α} : ifB b x y = if b then x else y := by cases b <;> rfl
theorem ifB_dec {α : Type} {p : Prop} [Decidable p] {x y : α} : ifB (decide p) x y = if p then x else y := by by_cases h : p <;> simp [h, ifB]
theorem ifB_ble {α : Type} {m n : Nat} {x y : α} : ifB (Nat.ble m n) x y = if m ≤ n then x else y := by
  by_cases h : m ≤ n
  · rw [Nat.ble_eq_true_of_le h, if_pos h]; rfl
  · have : Nat.ble m n = false := by cases g : Nat.ble m n with
      | false => rfl
      | true => exact absurd (Nat.le_of_ble_eq_true g) h
    rw [this, if_neg h]; rfl
theorem ifI_dec {p : Prop} [Decidable p] {i j : Int} : @Bool.rec (fun _ => Int) i j (decide p) = if p then j else i := by by_cases h : p <;> simp [h]
def notB (b : Bool) : Bool := @Bool.rec (fun _ => Bool) true false b
theorem notB_eq {b : Bool} : notB b = !b := by cases b <;> rfl
def asI {α : Type} (bad : α) (d : D) (k : Int → α) : α := @D.rec (fun _ => α) (fun _ => Unit) bad (fun _ => bad) k (fun _ => bad) (fun _ _ => bad) (fun _ _ => bad) (fun _ => bad) (fun _ _ _ _ => bad) (fun _ _ => bad) (fun _ _ => bad) () (fun _ _ _ _ => ()) d
def asB {α : Type} (bad : α) (d : D) (k : Bool → α) : α := @D.rec (fun _ => α) (fun _ => Unit) bad k (fun _ => bad) (fun _ => bad) (fun _ _ => bad) (fun _ _ => bad) (fun _ => bad) (fun _ _ _ _ => bad) (fun _ _ => bad) (fun _ _ => bad) () (fun _ _ _ _ => ()) d
def asT {α : Type} (bad : α) (d : D) (k : List D → α) : α := @D.rec (fun _ => α) (fun _ => Unit) bad (fun _ => bad) (fun _ => bad) (fun _ => bad) (fun xs _ => k xs) (fun _ _ => bad) (fun _ => bad) (fun _ _ _ _ => bad) (fun _ _ => bad) (fun _ _ => bad) () (fun _ _ _ _ => ()) d
def asLs {α : Type} (bad : α) (d : D) (k : List D → α) : α := @D.rec (fun _ => α) (fun _ => Unit) bad (fun _ => bad) (fun _ => bad) (fun _ => bad) (fun _ _ => bad) (fun xs _ => k xs) (fun _ => bad) (fun _ _ _ _ => bad) (fun _ _ => bad) (fun _ _ => bad) () (fun _ _ _ _ => ()) d
/-- m less n, as an int -/
def sNN (m n : Nat) : Int := @Bool.rec (fun _ => Int) (.negSucc (Nat.pred (Nat.sub n m))) (.ofNat (Nat.sub m n)) (Nat.ble n m)
theorem sNN_eq {m n : Nat} : sNN m n = (m : Int) - n := by
  unfold sNN
  cases h : Nat.ble n m with
  | true => have := Nat.le_of_ble_eq_true h; show ((m - n : Nat) : Int) = _; omega
  | false =>
    have : ¬ n ≤ m := fun g => by rw [Nat.ble_eq_true_of_le g] at h; cases h
    show Int.negSucc (n - m - 1) = _
    omega
def addI (i j : Int) : Int := @Int.rec (fun _ => Int) (fun m => @Int.rec (fun _ => Int) (fun n => .ofNat (Nat.add m n)) (fun n => sNN m (Nat.succ n)) j) (fun m => @Int.rec (fun _ => Int) (fun n => sNN n (Nat.succ m)) (fun n => .negSucc (Nat.succ (Nat.add m n))) j) i
theorem addI_eq {i j : Int} : addI i j = i + j := by
  cases i with
  | ofNat m => cases j with
    | ofNat n => rfl
    | negSucc n => show sNN m (n + 1) = _; rw [sNN_eq, Int.ofNat_eq_natCast]; omega
  | negSucc m => cases j with
    | ofNat n => show sNN n (m + 1) = _; rw [sNN_eq, Int.ofNat_eq_natCast]; omega
    | negSucc n => show Int.negSucc (m + n + 1) = Int.negSucc m + Int.negSucc n; omega
def subI (i j : Int) : Int := @Int.rec (fun _ => Int) (fun m => @Int.rec (fun _ => Int) (fun n => sNN m n) (fun n => .ofNat (Nat.add m (Nat.succ n))) j) (fun m => @Int.rec (fun _ => Int) (fun n => .negSucc (Nat.add m n)) (fun n => sNN n m) j) i
theorem subI_eq {i j : Int} : subI i j = i - j := by
  cases i with
  | ofNat m => cases j with
    | ofNat n => show sNN m n = _; rw [sNN_eq]; rfl
    | negSucc n => show ((m + (n + 1) : Nat) : Int) = (m : Int) - Int.negSucc n; omega
  | negSucc m => cases j with
    | ofNat n => show Int.negSucc (m + n) = Int.negSucc m - (n : Int); omega
    | negSucc n => show sNN n m = _; rw [sNN_eq]; omega
def ltI (i j : Int) : Bool := @Int.rec (fun _ => Bool) (fun m => @Int.rec (fun _ => Bool) (fun n => Nat.ble (Nat.succ m) n) (fun _ => false) j) (fun m => @Int.rec (fun _ => Bool) (fun _ => true) (fun n => Nat.ble (Nat.succ n) m) j) i
def leI (i j : Int) : Bool := @Int.rec (fun _ => Bool) (fun m => @Int.rec (fun _ => Bool) (fun n => Nat.ble m n) (fun _ => false) j) (fun m => @Int.rec (fun _ => Bool) (fun _ => true) (fun n => Nat.ble n m) j) i
def eqI (i j : Int) : Bool := @Int.rec (fun _ => Bool) (fun m => @Int.rec (fun _ => Bool) (fun n => Nat.beq m n) (fun _ => false) j) (fun m => @Int.rec (fun _ => Bool) (fun _ => false) (fun n => Nat.beq m n) j) i
theorem b_dec {b : Bool} {p : Prop} [Decidable p] (h : b = true ↔ p) : b = decide p := by cases b <;> simp_all
theorem ltI_eq {i j : Int} : ltI i j = decide (i < j) := by
  refine b_dec ?_
  cases i with
  | ofNat m => cases j with
    | ofNat n => show Nat.ble (m + 1) n = true ↔ _; rw [Nat.ble_eq]; show _ ↔ (m : Int) < (n : Int); omega
    | negSucc n => show false = true ↔ _; rw [Int.ofNat_eq_natCast]; constructor
                   · intro h; cases h
                   · intro h; exfalso; omega
  | negSucc m => cases j with
    | ofNat n => show true = true ↔ _; rw [Int.ofNat_eq_natCast]; constructor
                 · intro _; omega
                 · intro _; rfl
    | negSucc n => show Nat.ble (n + 1) m = true ↔ _; rw [Nat.ble_eq]; omega
theorem leI_eq {i j : Int} : leI i j = decide (i ≤ j) := by
  refine b_dec ?_
  cases i with
  | ofNat m => cases j with
    | ofNat n => show Nat.ble m n = true ↔ _; rw [Nat.ble_eq]; show _ ↔ (m : Int) ≤ (n : Int); omega
    | negSucc n => show false = true ↔ _; rw [Int.ofNat_eq_natCast]; constructor
                   · intro h; cases h
                   · intro h; exfalso; omega
  | negSucc m => cases j with
    | ofNat n => show true = true ↔ _; rw [Int.ofNat_eq_natCast]; constructor
                 · intro _; omega
                 · intro _; rfl
    | negSucc n => show Nat.ble n m = true ↔ _; rw [Nat.ble_eq]; omega
theorem eqI_eq {i j : Int} : eqI i j = decide (i = j) := by
  refine b_dec ?_
  cases i with
  | ofNat m => cases j with
    | ofNat n => show Nat.beq m n = true ↔ _; rw [Nat.beq_eq]; show _ ↔ (m : Int) = (n : Int); omega
    | negSucc n => show false = true ↔ _; constructor
                   · intro h; cases h
                   · intro h; cases h
  | negSucc m => cases j with
    | ofNat n => show false = true ↔ _; constructor
                 · intro h; cases h
                 · intro h; cases h
    | negSucc n => show Nat.beq m n = true ↔ _; rw [Nat.beq_eq]; omega
def mulI (i j : Int) : Int := @Int.rec (fun _ => Int) (fun m => @Int.rec (fun _ => Int) (fun n => .ofNat (Nat.mul m n)) (fun n => i * j) j) (fun m => i * j) i
theorem mulI_eq {i j : Int} : mulI i j = i * j := by cases i <;> cases j <;> rfl
def fdivI (i j : Int) : Int := @Int.rec (fun _ => Int) (fun m => @Int.rec (fun _ => Int) (fun n => .ofNat (Nat.div m n)) (fun n => i.fdiv j) j) (fun m => i.fdiv j) i
theorem fdivI_eq {i j : Int} : fdivI i j = i.fdiv j := by
  cases i with
  | ofNat m => cases j with
    | ofNat n => show ((m / n : Nat) : Int) = Int.fdiv (m : Int) (n : Int); exact (Int.ofNat_fdiv m n)
    | negSucc n => rfl
  | negSucc m => rfl
def fmodI (i j : Int) : Int := @Int.rec (fun _ => Int) (fun m => @Int.rec (fun _ => Int) (fun n => .ofNat (Nat.mod m n)) (fun n => i.fmod j) j) (fun m => i.fmod j) i
theorem fmodI_eq {i j : Int} : fmodI i j = i.fmod j := by
  cases i with
  | ofNat m => cases j with
    | ofNat n => show ((m % n : Nat) : Int) = Int.fmod (m : Int) (n : Int); exact (Int.ofNat_fmod m n)
    | negSucc n => rfl
  | negSucc m => rfl
def natI (i : Int) : Nat := @Int.rec (fun _ => Nat) (fun m => m) (fun _ => (nat_lit 0)) i
theorem natI_eq {i : Int} : natI i = i.toNat := by cases i <;> rfl
def b64 (i : Int) : Bool := @Int.rec (fun _ => Bool) (fun m => Nat.ble (Nat.succ m) (nat_lit 18446744073709551616)) (fun m => Nat.ble (Nat.succ (Nat.succ m)) (nat_lit 18446744073709551616)) i
theorem b64_eq {i : Int} : b64 i = decide (-(2 ^ 64) < i ∧ i < 2 ^ 64) := by
  refine b_dec ?_
  cases i with
  | ofNat m => show Nat.ble (m + 1) 18446744073709551616 = true ↔ _; rw [Nat.ble_eq]; show _ ↔ -(2 ^ 64) < (m : Int) ∧ (m : Int) < 2 ^ 64; omega
  | negSucc m => show Nat.ble (m + 1 + 1) 18446744073709551616 = true ↔ _; rw [Nat.ble_eq]; omega
def okMulF (i j : Int) : Bool := ifB (b64 i) true (okMul i j)
theorem okMulF_eq {i j : Int} : okMulF i j = okMul i j := by
  unfold okMulF okMul
  rw [b64_eq, ifB_eq]
  cases decide (-(2 ^ 64) < i ∧ i < 2 ^ 64) <;> rfl
def okDivF (j : Int) : Bool := @Int.rec (fun _ => Bool) (fun m => @Nat.rec (fun _ => Bool) (okDiv j) (fun _ _ => ifB (Nat.ble m (nat_lit 1073741823)) true (okDiv j)) m) (fun _ => okDiv j) j
theorem okDivF_eq {j : Int} : okDivF j = okDiv j := by
  cases j with
  | ofNat m =>
    cases m with
    | zero => rfl
    | succ m =>
      show ifB (Nat.ble (m + 1) 1073741823) true (okDiv (Int.ofNat (m + 1))) = _
      rw [ifB_ble]
      split
      · rename_i h
        unfold okDiv
        have : decide ((Int.ofNat (m + 1)) ≠ 0 ∧ (Int.ofNat (m + 1)).natAbs < 1073741824) = true := by
          refine decide_eq_true ⟨by show ((m + 1 : Nat) : Int) ≠ 0; omega, ?_⟩
          show m + 1 < 1073741824
          omega
        rw [this]; rfl
      · rfl
  | negSucc m => rfl
def lenN {α : Type} (xs : List α) : Nat := @List.rec α (fun _ => Nat) (nat_lit 0) (fun _ _ ih => Nat.succ ih) xs
theorem lenN_eq {α : Type} {xs : List α} : lenN xs = xs.length := by
  induction xs with
  | nil => rfl
  | cons x xs ih => show Nat.succ (lenN xs) = _; rw [ih]; rfl
def appL {α : Type} (xs ys : List α) : List α := @List.rec α (fun _ => List α) ys (fun x _ ih => x :: ih) xs
theorem appL_eq {α : Type} {xs ys : List α} : appL xs ys = xs ++ ys := by
  induction xs with
  | nil => rfl
  | cons x xs ih => show x :: appL xs ys = _; rw [ih]; rfl
def nthL {α : Type} (xs : List α) (n : Nat) : Option α := @List.rec α (fun _ => Nat → Option α) (fun _ => none) (fun x _ ih n => @Nat.rec (fun _ => Option α) (some x) (fun m _ => ih m) n) xs n
theorem nthL_eq {α : Type} {xs : List α} {n : Nat} : nthL xs n = xs[n]? := by
  induction xs generalizing n with
  | nil => rfl
  | cons x xs ih => cases n with
    | zero => rfl
    | succ m => show nthL xs m = _; rw [ih]; rfl
def takeF {α : Type} (n : Nat) (xs : List α) : List α := @List.rec α (fun _ => Nat → List α) (fun _ => []) (fun x _ ih n => @Nat.rec (fun _ => List α) [] (fun m _ => x :: ih m) n) xs n
theorem takeF_eq {α : Type} {n : Nat} {xs : List α} : takeF n xs = xs.take n := by
  induction xs generalizing n with
  | nil => simp [takeF]
  | cons x xs ih => cases n with
    | zero => rfl
    | succ m => show x :: takeF m xs = _; rw [ih]; rfl
def dropF {α : Type} (n : Nat) (xs : List α) : List α := @List.rec α (fun _ => Nat → List α) (fun _ => []) (fun x xs ih n => @Nat.rec (fun _ => List α) (x :: xs) (fun m _ => ih m) n) xs n
theorem dropF_eq {α : Type} {n : Nat} {xs : List α} : dropF n xs = xs.drop n := by
  induction xs generalizing n with
  | nil => simp [dropF]
  | cons x xs ih => cases n with
    | zero => rfl
    | succ m => show dropF m xs = _; rw [ih]; rfl
def neL {α : Type} (xs : List α) : Bool := @List.rec α (fun _ => Bool) false (fun _ _ _ => true) xs
theorem neL_eq {α : Type} {xs : List α} : neL xs = !xs.isEmpty := by cases xs <;> rfl
/-- equal? where quickly told (fuel: depth) -/
def eqLs (q : D → D → Option Bool) (xs ys : List D) : Option Bool := @List.rec D (fun _ => List D → Option Bool) (fun ys => @List.rec D (fun _ => Option Bool) (some true) (fun _ _ _ => none) ys)
  (fun x _ ihx ys => @List.rec D (fun _ => Option Bool) none (fun y ys _ => @Option.rec Bool (fun _ => Option Bool) none (fun b => @Option.rec Bool (fun _ => Option Bool) none (fun c => some (@Bool.rec (fun _ => Bool) false c b)) (ihx ys)) (q x y)) ys) xs ys
def eqF (n : Nat) : D → D → Option Bool := @Nat.rec (fun _ => D → D → Option Bool) (fun _ _ => none) (fun _ ih u w =>
  asI (asT (asLs (asB none u fun a => asB none w fun b => some (@Bool.rec (fun _ => Bool) (notB b) b a)) u fun xs => asLs none w fun ys => eqLs ih xs ys) u fun xs => asT none w fun ys => eqLs ih xs ys)
    u fun i => asI none w fun j => some (eqI i j)) n
theorem eqLs_ok {q : D → D → Option Bool} {n : Nat} (hq : ∀ u w b, q u w = some b → D.dat n u = true ∧ D.dat n w = true ∧ D.eqv u w = b) : ∀ xs ys b, eqLs q xs ys = some b → D.dats n xs = true ∧ D.dats n ys = true ∧ D.eqvs xs ys = b
  | [], [], b, h => by cases h; exact ⟨by unfold D.dats; rfl, by unfold D.dats; rfl, by unfold D.eqvs; rfl⟩
  | [], _ :: _, b, h => by cases h
  | _ :: _, [], b, h => by cases h
  | x :: xs, y :: ys, b, h => by
    have h : @Option.rec Bool (fun _ => Option Bool) none (fun b => @Option.rec Bool (fun _ => Option Bool) none (fun c => some (@Bool.rec (fun _ => Bool) false c b)) (eqLs q xs ys)) (q x y) = some b := h
    cases h1 : q x y with
    | none => rw [h1] at h; cases h
    | some b1 =>
      rw [h1] at h
      cases h2 : eqLs q xs ys with
      | none => rw [h2] at h; cases h
      | some c =>
        rw [h2] at h
        obtain ⟨a1, a2, a3⟩ := hq x y b1 h1
        obtain ⟨b1', b2, b3⟩ := eqLs_ok hq xs ys c h2
        have h : some (@Bool.rec (fun _ => Bool) false c b1) = some b := h
        refine ⟨by unfold D.dats; rw [a1, b1']; rfl, by unfold D.dats; rw [a2, b2]; rfl, ?_⟩
        unfold D.eqvs
        rw [a3, b3]
        cases b1 <;> (cases h; rfl)
theorem eqF_ok : ∀ (n : Nat) (u w : D) (b : Bool), eqF n u w = some b → D.dat n u = true ∧ D.dat n w = true ∧ D.eqv u w = b
  | 0, _, _, _, h => by cases h
  | n + 1, u, w, b, h => by
    cases u with
    | int i => cases w with
      | int j => have h : some (eqI i j) = some b := h
                 rw [eqI_eq] at h; cases h
                 exact ⟨by unfold D.dat; rfl, by unfold D.dat; rfl, by unfold D.eqv; rfl⟩
      | _ => cases h
    | bl i => cases w with
      | bl j => cases i <;> cases j <;> (cases h; exact ⟨by unfold D.dat; rfl, by unfold D.dat; rfl, by unfold D.eqv; rfl⟩)
      | _ => cases h
    | tup xs => cases w with
      | tup ys => have h : eqLs (eqF n) xs ys = some b := h
                  obtain ⟨a1, a2, a3⟩ := eqLs_ok (n := n) (eqF_ok n) xs ys b h
                  exact ⟨by unfold D.dat; exact a1, by unfold D.dat; exact a2, by unfold D.eqv; exact a3⟩
      | _ => cases h
    | lst xs => cases w with
      | lst ys => have h : eqLs (eqF n) xs ys = some b := h
                  obtain ⟨a1, a2, a3⟩ := eqLs_ok (n := n) (eqF_ok n) xs ys b h
                  exact ⟨by unfold D.dat; exact a1, by unfold D.dat; exact a2, by unfold D.eqv; exact a3⟩
      | _ => cases h
    | _ => cases h
def eqG (u w : D) : R Bool := @Option.rec Bool (fun _ => R Bool) (if D.dat 60 u && D.dat 60 w then .ok (D.eqv u w) else .bad) (fun b => .ok b) (eqF (nat_lit 60) u w)
theorem eqG_eq (u w : D) : eqG u w = if D.dat 60 u && D.dat 60 w then .ok (D.eqv u w) else .bad := by
  unfold eqG
  cases h : eqF (nat_lit 60) u w with
  | none => rfl
  | some b =>
    obtain ⟨a1, a2, a3⟩ := eqF_ok 60 u w b h
    show R.ok b = _
    rw [a1, a2, a3]; rfl
def oAdd' : D → D → R D
  | .int i, .int j => .ok (.int (i + j))
  | .tup xs, .tup ys => if xs.length + ys.length ≤ bigL then .ok (.tup (xs ++ ys)) else .bad
  | .lst xs, .lst ys => if xs.length + ys.length ≤ bigL then .ok (.lst (xs ++ ys)) else .bad
  | _, _ => .bad
def oAdd (u w : D) : R D := @D.rec (fun _ => R D) (fun _ => Unit) .bad (fun _ => .bad) (fun i => asI .bad w fun j => .ok (.int (addI i j))) (fun _ => .bad) (fun xs _ => asT .bad w fun ys => ifB (Nat.ble (Nat.add (lenN xs) (lenN ys)) bigN) (.ok (.tup (appL xs ys))) .bad) (fun xs _ => asLs .bad w fun ys => ifB (Nat.ble (Nat.add (lenN xs) (lenN ys)) bigN) (.ok (.lst (appL xs ys))) .bad) (fun _ => .bad) (fun _ _ _ _ => .bad) (fun _ _ => .bad) (fun _ _ => .bad) () (fun _ _ _ _ => ()) u
theorem oAdd_def : oAdd = oAdd' := by
  funext u w; cases u <;> cases w <;> first | rfl | (simp only [oAdd, oAdd', asI, asT, asLs, addI_eq]; done) | (simp only [oAdd, oAdd', asT, asLs, appL_eq, lenN_eq, ifB_ble, bigN_eq, Nat.add_eq]; done)
def oSub' : D → D → R D
  | .int i, .int j => .ok (.int (i - j))
  | _, _ => .bad
def oSub (u w : D) : R D := asI .bad u fun i => asI .bad w fun j => .ok (.int (subI i j))
theorem oSub_def : oSub = oSub' := by
  funext u w; cases u <;> cases w <;> first | rfl | (simp only [oSub, oSub', asI, subI_eq]; done)
def repD {α : Type} (xs : List α) : Nat → List α
  | 0 => []
  | n + 1 => xs ++ repD xs n
def oMul' : D → D → R D
  | .int i, .int j => if okMul i j then .ok (.int (i * j)) else .bad
  | .lst xs, .int j => if decide (-(2 ^ 60) < j ∧ j < 2 ^ 60) && decide (xs.length * j.toNat ≤ bigL) then .ok (.lst (repD xs j.toNat)) else .bad
  | _, _ => .bad
def oMul (u w : D) : R D := @D.rec (fun _ => R D) (fun _ => Unit) .bad (fun _ => .bad) (fun i => asI .bad w fun j => ifB (okMulF i j) (.ok (.int (mulI i j))) .bad) (fun _ => .bad) (fun _ _ => .bad) (fun xs _ => oMul' (.lst xs) w) (fun _ => .bad) (fun _ _ _ _ => .bad) (fun _ _ => .bad) (fun _ _ => .bad) () (fun _ _ _ _ => ()) u
theorem oMul_def : oMul = oMul' := by
  funext u w; cases u <;> cases w <;> first | rfl | (simp only [oMul, oMul', asI, mulI_eq, okMulF_eq, ifB_eq]; done)
def oFdiv' : D → D → R D
  | .int i, .int j => if okDiv j then .ok (.int (i.fdiv j)) else .bad
  | _, _ => .bad
def oFdiv (u w : D) : R D := asI .bad u fun i => asI .bad w fun j => ifB (okDivF j) (.ok (.int (fdivI i j))) .bad
theorem oFdiv_def : oFdiv = oFdiv' := by
  funext u w; cases u <;> cases w <;> first | rfl | (simp only [oFdiv, oFdiv', asI, fdivI_eq, okDivF_eq, ifB_eq]; done)
def oMod' : D → D → R D
  | .int i, .int j => if j ≠ 0 then .ok (.int (i.fmod j)) else .bad
  | _, _ => .bad
def oMod (u w : D) : R D := asI .bad u fun i => asI .bad w fun j => ifB (eqI j (.ofNat (nat_lit 0))) .bad (.ok (.int (fmodI i j)))
theorem oMod_def : oMod = oMod' := by
  funext u w; cases u <;> cases w <;> first | rfl | (simp only [oMod, oMod', asI, fmodI_eq, eqI_eq, ifB_dec]; first | done | (split <;> (rename_i h; simp_all)))
def oPow : D → D → R D
  | .int i, .int j => if okPow i j then .ok (.int (i ^ j.toNat)) else .bad
  | _, _ => .bad
def oNeg : D → R D
  | .int i => .ok (.int (-i))
  | _ => .bad
def oEq' : D → D → R Bool
  | .int i, .int j => .ok (i == j)
  | a, b => if D.dat 60 a && D.dat 60 b then .ok (D.eqv a b) else .bad
def oEq (u w : D) : R Bool := @D.rec (fun _ => R Bool) (fun _ => Unit) (eqG .non w) (fun b => eqG (.bl b) w) (fun i => @D.rec (fun _ => R Bool) (fun _ => Unit) (eqG (.int i) .non) (fun b => eqG (.int i) (.bl b)) (fun j => .ok (eqI i j)) (fun x => eqG (.int i) (.str x)) (fun x _ => eqG (.int i) (.tup x)) (fun x _ => eqG (.int i) (.lst x)) (fun x => eqG (.int i) (.fn x)) (fun x y _ _ => eqG (.int i) (.dct x y)) (fun x _ => eqG (.int i) (.set x)) (fun x _ => eqG (.int i) (.rol x)) () (fun _ _ _ _ => ()) w) (fun x => eqG (.str x) w) (fun x _ => eqG (.tup x) w) (fun x _ => eqG (.lst x) w) (fun x => eqG (.fn x) w) (fun x y _ _ => eqG (.dct x y) w) (fun x _ => eqG (.set x) w) (fun x _ => eqG (.rol x) w) () (fun _ _ _ _ => ()) u
theorem oEq_def : oEq = oEq' := by
  funext u w
  cases u with
  | int i => cases w with
    | int j => show R.ok (eqI i j) = R.ok (i == j); rw [eqI_eq]; rfl
    | _ => unfold oEq; dsimp only; rw [eqG_eq]; rfl
  | _ => unfold oEq; dsimp only; rw [eqG_eq]; cases w <;> rfl
def oNe (a b : D) : R Bool := bnd (oEq a b) fun k => .ok (!k)
def oLt' : D → D → R Bool
  | .int i, .int j => .ok (decide (i < j))
  | _, _ => .bad
def oLt (u w : D) : R Bool := asI .bad u fun i => asI .bad w fun j => .ok (ltI i j)
theorem oLt_def : oLt = oLt' := by
  funext u w; cases u <;> cases w <;> first | rfl | (simp only [oLt, oLt', asI, ltI_eq, leI_eq]; done)
def oLe' : D → D → R Bool
  | .int i, .int j => .ok (decide (i ≤ j))
  | _, _ => .bad
def oLe (u w : D) : R Bool := asI .bad u fun i => asI .bad w fun j => .ok (leI i j)
theorem oLe_def : oLe = oLe' := by
  funext u w; cases u <;> cases w <;> first | rfl | (simp only [oLe, oLe', asI, ltI_eq, leI_eq]; done)
def oGt' : D → D → R Bool
  | .int i, .int j => .ok (decide (j < i))
  | _, _ => .bad
def oGt (u w : D) : R Bool := asI .bad u fun i => asI .bad w fun j => .ok (ltI j i)
theorem oGt_def : oGt = oGt' := by
  funext u w; cases u <;> cases w <;> first | rfl | (simp only [oGt, oGt', asI, ltI_eq, leI_eq]; done)
def oGe' : D → D → R Bool
  | .int i, .int j => .ok (decide (j ≤ i))
  | _, _ => .bad
def oGe (u w : D) : R Bool := asI .bad u fun i => asI .bad w fun j => .ok (leI j i)
theorem oGe_def : oGe = oGe' := by
  funext u w; cases u <;> cases w <;> first | rfl | (simp only [oGe, oGe', asI, ltI_eq, leI_eq]; done)
def isNon : D → Bool
  | .non => true
  | _ => false
def oIsN (a : D) : R Bool := .ok (isNon a)
def oNotN (a : D) : R Bool := .ok (!isNon a)
/-- what a tuple or list holds -/
def items' : D → Option (List D)
  | .tup xs => some xs
  | .lst xs => some xs
  | .rol xs => some xs
  | _ => none
def items (d : D) : Option (List D) := @D.rec (fun _ => Option (List D)) (fun _ => Unit) none (fun _ => none) (fun _ => none) (fun _ => none) (fun xs _ => some xs) (fun xs _ => some xs) (fun _ => none) (fun _ _ _ _ => none) (fun _ _ => none) (fun xs _ => some xs) () (fun _ _ _ _ => ()) d
theorem items_def : items = items' := by funext d; cases d <;> rfl
def withI' {α : Type} (d : D) (k : List D → R α) : R α := match d with
  | .tup xs => k xs
  | .lst xs => k xs
  | .rol xs => k xs
  | _ => .bad
def withI {α : Type} (d : D) (k : List D → R α) : R α := @D.rec (fun _ => R α) (fun _ => Unit) .bad (fun _ => .bad) (fun _ => .bad) (fun _ => .bad) (fun xs _ => k xs) (fun xs _ => k xs) (fun _ => .bad) (fun _ _ _ _ => .bad) (fun _ _ => .bad) (fun xs _ => k xs) () (fun _ _ _ _ => ()) d
theorem withI_def : @withI = @withI' := by funext α d k; cases d <;> rfl
/-- a place told from either end -/
def atD' {α : Type} (xs : List α) (i : Int) : Option α := if 0 ≤ i then xs[i.toNat]? else if 0 ≤ xs.length + i then xs[(xs.length + i).toNat]? else none
def atD {α : Type} (xs : List α) (i : Int) : Option α := @Int.rec (fun _ => Option α) (fun n => nthL xs n) (fun m => ifB (Nat.ble (Nat.succ m) (lenN xs)) (nthL xs (Nat.sub (lenN xs) (Nat.succ m))) none) i
theorem atD_def : @atD = @atD' := by
  funext α xs i
  cases i with
  | ofNat n => simp only [atD, atD', nthL_eq]; rw [Int.ofNat_eq_natCast, if_pos (Int.natCast_nonneg n)]; rfl
  | negSucc m =>
    simp only [atD, atD', nthL_eq, lenN_eq, ifB_ble]
    rw [if_neg (show ¬ (0 : Int) ≤ Int.negSucc m by omega)]
    by_cases h : m + 1 ≤ xs.length
    · rw [if_pos h, if_pos (by omega)]
      have : xs.length - (m + 1) = (xs.length + Int.negSucc m).toNat := by omega
      rw [← this]; rfl
    · rw [if_neg h, if_neg (by omega)]
def ofO' {α : Type} : Option α → R α
  | some x => .ok x
  | none => .bad
def ofO {α : Type} (o : Option α) : R α := @Option.rec α (fun _ => R α) .bad (fun x => .ok x) o
theorem ofO_def : @ofO = @ofO' := by funext α o; cases o <;> rfl
def oGet' (o i : D) : R D := match i with
  | .int i => withI o fun xs => ofO (atD xs i)
  | _ => .bad
def oGet (o i : D) : R D := asI .bad i fun i => withI o fun xs => ofO (atD xs i)
theorem oGet_def : oGet = oGet' := by funext o i; cases i <;> rfl
/-- a slice's bounds, as places -/
def cutI' (n : Nat) (i : Int) : Nat := if 0 ≤ i then min i.toNat n else (n + i).toNat
def cutI (n : Nat) (i : Int) : Nat := @Int.rec (fun _ => Nat) (fun m => @Bool.rec (fun _ => Nat) n m (Nat.ble m n)) (fun m => Nat.sub n (Nat.succ m)) i
theorem cutI_def : cutI = cutI' := by
  funext n i
  cases i with
  | ofNat m =>
    simp only [cutI, cutI']
    rw [Int.ofNat_eq_natCast, if_pos (Int.natCast_nonneg m)]
    show _ = min m n
    cases h : Nat.ble m n with
    | true => have := Nat.le_of_ble_eq_true h; show m = _; omega
    | false => have : ¬ m ≤ n := fun g => by rw [Nat.ble_eq_true_of_le g] at h; cases h
               show n = _; omega
  | negSucc m =>
    simp only [cutI, cutI']
    rw [if_neg (by omega)]
    show n - (m + 1) = _
    omega
def cut' {α : Type} (xs : List α) (lo hi : Option Int) : List α :=
  let a := match lo with | some i => cutI xs.length i | none => 0
  let b := match hi with | some j => cutI xs.length j | none => xs.length
  (xs.drop a).take (b - a)
def cut {α : Type} (xs : List α) (lo hi : Option Int) : List α :=
  @Option.rec Int (fun _ => List α)
    (@Option.rec Int (fun _ => List α) xs (fun j => takeF (cutI (lenN xs) j) xs) hi)
    (fun i => @Option.rec Int (fun _ => List α) (dropF (cutI (lenN xs) i) xs) (fun j => takeF (Nat.sub (cutI (lenN xs) j) (cutI (lenN xs) i)) (dropF (cutI (lenN xs) i) xs)) hi) lo
theorem cut_def : @cut = @cut' := by
  funext α xs lo hi
  cases lo with
  | none => cases hi with
    | none => simp [cut, cut']
    | some j => simp [cut, cut', takeF_eq, lenN_eq]
  | some i => cases hi with
    | none => simp only [cut, cut', dropF_eq, lenN_eq]; exact (List.take_of_length_le (by simp)).symm
    | some j => simp [cut, cut', takeF_eq, dropF_eq, lenN_eq]
def oCut' (lo hi : Option Int) : D → R D
  | .tup ds => .ok (.tup (cut ds lo hi))
  | .lst xs => .ok (.lst (cut xs lo hi))
  | .rol xs => .ok (.lst (cut xs lo hi))
  | _ => .bad
def oCut (lo hi : Option Int) (d : D) : R D := @D.rec (fun _ => R D) (fun _ => Unit) .bad (fun _ => .bad) (fun _ => .bad) (fun _ => .bad) (fun xs _ => .ok (.tup (cut xs lo hi))) (fun xs _ => .ok (.lst (cut xs lo hi))) (fun _ => .bad) (fun _ _ _ _ => .bad) (fun _ _ => .bad) (fun xs _ => .ok (.lst (cut xs lo hi))) () (fun _ _ _ _ => ()) d
theorem oCut_def : oCut = oCut' := by funext lo hi d; cases d <;> rfl
def optI (r : R D) : R (Option Int) := bnd r fun d => match d with
  | .int i => .ok (some i)
  | _ => .bad
def oLen' (d : D) : R D := withI d fun xs => .ok (.int xs.length)
def oLen (d : D) : R D := withI d fun xs => .ok (.int (.ofNat (lenN xs)))
theorem oLen_def : oLen = oLen' := by funext d; unfold oLen oLen'; congr 1; funext xs; rw [lenN_eq]; rfl
def tru' : D → R Bool
  | .non => .ok false
  | .bl b => .ok b
  | .int i => .ok (i != 0)
  | .tup ds => .ok (!ds.isEmpty)
  | .lst ds => .ok (!ds.isEmpty)
  | _ => .bad
def tru (d : D) : R Bool := @D.rec (fun _ => R Bool) (fun _ => Unit) (.ok false) (fun b => .ok b) (fun i => .ok (notB (eqI i (.ofNat (nat_lit 0))))) (fun _ => .bad) (fun ds _ => .ok (neL ds)) (fun ds _ => .ok (neL ds)) (fun _ => .bad) (fun _ _ _ _ => .bad) (fun _ _ => .bad) (fun _ _ => .bad) () (fun _ _ _ _ => ()) d
theorem tru_def : tru = tru' := by
  funext d; cases d <;> first | rfl | (simp only [tru, tru', eqI_eq, notB_eq]; rfl) | (simp only [tru, tru', neL_eq]; done)
def intsD' : List D → Option (List Int)
  | [] => some []
  | .int i :: ds => match intsD' ds with
    | some is => some (i :: is)
    | none => none
  | _ :: _ => none
def intsD (ds : List D) : Option (List Int) := @List.rec D (fun _ => Option (List Int)) (some []) (fun d _ ih => asI none d fun i => @Option.rec _ (fun _ => Option (List Int)) none (fun is => some (i :: is)) ih) ds
theorem intsD_def : intsD = intsD' := by
  funext ds
  induction ds with
  | nil => rfl
  | cons d ds ih =>
    cases d with
    | int i =>
      show @Option.rec _ (fun _ => Option (List Int)) none (fun is => some (i :: is)) (intsD ds) = _
      rw [ih]; conv => rhs; unfold intsD'
      cases intsD' ds <;> rfl
    | _ => rfl
def blsD' : List D → Option (List Bool)
  | [] => some []
  | .bl b :: ds => match blsD' ds with
    | some bs => some (b :: bs)
    | none => none
  | _ :: _ => none
def blsD (ds : List D) : Option (List Bool) := @List.rec D (fun _ => Option (List Bool)) (some []) (fun d _ ih => asB none d fun i => @Option.rec _ (fun _ => Option (List Bool)) none (fun is => some (i :: is)) ih) ds
theorem blsD_def : blsD = blsD' := by
  funext ds
  induction ds with
  | nil => rfl
  | cons d ds ih =>
    cases d with
    | bl i =>
      show @Option.rec _ (fun _ => Option (List Bool)) none (fun is => some (i :: is)) (blsD ds) = _
      rw [ih]; conv => rhs; unfold blsD'
      cases blsD' ds <;> rfl
    | _ => rfl
def sumI' : List Int → Int
  | [] => 0
  | i :: is => i + sumI' is
def sumI (is : List Int) : Int := @List.rec Int (fun _ => Int) (.ofNat (nat_lit 0)) (fun i _ ih => addI i ih) is
theorem sumI_def : sumI = sumI' := by
  funext is
  induction is with
  | nil => rfl
  | cons i is ih => show addI i (sumI is) = _; rw [ih, addI_eq]; rfl
def oSum (d : D) : R D := withI d fun xs => bnd (ofO (intsD xs)) fun is => .ok (.int (sumI is))
def withL' {α : Type} (d : D) (k : List D → R α) : R α := match d with
  | .lst xs => k xs
  | _ => .bad
def withL {α : Type} (d : D) (k : List D → R α) : R α := @D.rec (fun _ => R α) (fun _ => Unit) .bad (fun _ => .bad) (fun _ => .bad) (fun _ => .bad) (fun _ _ => .bad) (fun xs _ => k xs) (fun _ => .bad) (fun _ _ _ _ => .bad) (fun _ _ => .bad) (fun _ _ => .bad) () (fun _ _ _ _ => ()) d
theorem withL_def : @withL = @withL' := by funext α d k; cases d <;> rfl
def oAll (d : D) : R Bool := withL d fun xs => bnd (ofO (blsD xs)) fun bs => .ok (bs.all id)
def oAny (d : D) : R Bool := withL d fun xs => bnd (ofO (blsD xs)) fun bs => .ok (bs.any id)
def oMin2' : D → D → R D
  | .int i, .int j => .ok (.int (if j < i then j else i))
  | _, _ => .bad
def oMin2 (u w : D) : R D := asI .bad u fun i => asI .bad w fun j => .ok (.int (@Bool.rec (fun _ => Int) i j (ltI j i)))
theorem oMin2_def : oMin2 = oMin2' := by
  funext u w; cases u <;> cases w <;> first | rfl | (simp only [oMin2, oMin2', asI, ltI_eq, ifI_dec]; done)
def oMax2' : D → D → R D
  | .int i, .int j => .ok (.int (if j > i then j else i))
  | _, _ => .bad
def oMax2 (u w : D) : R D := asI .bad u fun i => asI .bad w fun j => .ok (.int (@Bool.rec (fun _ => Int) i j (ltI i j)))
theorem oMax2_def : oMax2 = oMax2' := by
  funext u w; cases u <;> cases w <;> first | rfl | (simp only [oMax2, oMax2', asI, ltI_eq, ifI_dec, gt_iff_lt]; done)
def minI' : Int → List Int → Int
  | m, [] => m
  | m, i :: is => minI' (if i < m then i else m) is
def minI (m : Int) (is : List Int) : Int := @List.rec Int (fun _ => Int → Int) (fun m => m) (fun i _ ih m => ih (@Bool.rec (fun _ => Int) m i (ltI i m))) is m
theorem minI_def : minI = minI' := by
  funext m is
  induction is generalizing m with
  | nil => rfl
  | cons i is ih => show minI (@Bool.rec (fun _ => Int) m i (ltI i m)) is = _; rw [ih, ltI_eq, ifI_dec]; rfl
def maxI' : Int → List Int → Int
  | m, [] => m
  | m, i :: is => maxI' (if i > m then i else m) is
def maxI (m : Int) (is : List Int) : Int := @List.rec Int (fun _ => Int → Int) (fun m => m) (fun i _ ih m => ih (@Bool.rec (fun _ => Int) m i (ltI m i))) is m
theorem maxI_def : maxI = maxI' := by
  funext m is
  induction is generalizing m with
  | nil => rfl
  | cons i is ih => show maxI (@Bool.rec (fun _ => Int) m i (ltI m i)) is = _; rw [ih, ltI_eq, ifI_dec]; rfl
def oMin1 (d : D) : R D := withL d fun xs => match intsD xs with
  | some (i :: is) => .ok (.int (minI i is))
  | _ => .bad
def oMax1 (d : D) : R D := withL d fun xs => match intsD xs with
  | some (i :: is) => .ok (.int (maxI i is))
  | _ => .bad
def oAbs : D → R D
  | .int i => .ok (.int (if i < 0 then -i else i))
  | _ => .bad
def oInt : D → R D
  | .int i => .ok (.int i)
  | .bl b => .ok (.int (if b then 1 else 0))
  | _ => .bad
def oTuple (d : D) : R D := withI d fun xs => .ok (.tup xs)
def oList (d : D) : R D := withI d fun xs => .ok (.lst xs)
/-- sorted by places: each behind those that aren't greater -/
def insB {α : Type} (lt : α → α → Bool) (x : α) : List α → List α
  | [] => [x]
  | y :: ys => if lt y x then y :: insB lt x ys else x :: y :: ys
def sortB {α : Type} (lt : α → α → Bool) : List α → List α
  | [] => []
  | x :: xs => insB lt x (sortB lt xs)
def sortD (ds : List D) : List D := sortB D.lt ds
def allAlike : List D → Bool
  | [] => true
  | x :: xs => xs.all (D.alike x) && allAlike xs
def isTup1 : D → Bool
  | .tup (_ :: _) => true
  | _ => false
def isTup : D → Bool
  | .tup _ => true
  | _ => false
def sortable (ds : List D) : Bool := allAlike ds && D.solids 60 ds && decide (ds.length ≤ bigL) && (decide (ds.length ≤ 1) || ds.all isTup1 || ds.all (fun d => !isTup d))
/-- orders quickly told -/
def eqXs (q : D → D → Bool) (xs ys : List D) : Bool := @List.rec D (fun _ => List D → Bool) (fun ys => notB (neL ys)) (fun x _ ih ys => @List.rec D (fun _ => Bool) false (fun y ys _ => @Bool.rec (fun _ => Bool) false (ih ys) (q x y)) ys) xs ys
def eqX (n : Nat) : D → D → Bool := @Nat.rec (fun _ => D → D → Bool) (fun u w => D.eqv u w) (fun _ ih u w => asI (asT (D.eqv u w) u fun xs => asT (D.eqv u w) w fun ys => eqXs ih xs ys) u fun i => asI (D.eqv u w) w fun j => eqI i j) n
theorem eqXs_eq {q : D → D → Bool} (hq : ∀ u w, q u w = D.eqv u w) : ∀ xs ys, eqXs q xs ys = D.eqvs xs ys
  | [], [] => by unfold D.eqvs; rfl
  | [], _ :: _ => by unfold D.eqvs; rfl
  | _ :: _, [] => by unfold D.eqvs; rfl
  | x :: xs, y :: ys => by
    show @Bool.rec (fun _ => Bool) false (eqXs q xs ys) (q x y) = _
    rw [eqXs_eq hq xs ys, hq]; conv => rhs; unfold D.eqvs
    cases D.eqv x y <;> rfl
theorem eqX_eq : ∀ (n : Nat) (u w : D), eqX n u w = D.eqv u w
  | 0, _, _ => rfl
  | n + 1, u, w => by
    cases u with
    | int i => cases w with
      | int j => show eqI i j = _; rw [eqI_eq]; unfold D.eqv; rfl
      | _ => rfl
    | tup xs => cases w with
      | tup ys => show eqXs (eqX n) xs ys = _; rw [eqXs_eq (eqX_eq n)]; conv => rhs; unfold D.eqv
      | _ => rfl
    | _ => rfl
def ltXs (q r : D → D → Bool) (xs ys : List D) : Bool := @List.rec D (fun _ => List D → Bool) (fun ys => neL ys) (fun x _ ih ys => @List.rec D (fun _ => Bool) false (fun y ys _ => @Bool.rec (fun _ => Bool) (r x y) (ih ys) (q x y)) ys) xs ys
def ltX (n : Nat) : D → D → Bool := @Nat.rec (fun _ => D → D → Bool) (fun u w => D.lt u w) (fun n ih u w => asI (asT (D.lt u w) u fun xs => asT (D.lt u w) w fun ys => ltXs (eqX n) ih xs ys) u fun i => asI (D.lt u w) w fun j => ltI i j) n
theorem ltXs_eq {q r : D → D → Bool} (hq : ∀ u w, q u w = D.eqv u w) (hr : ∀ u w, r u w = D.lt u w) : ∀ xs ys, ltXs q r xs ys = D.lts xs ys
  | [], [] => by unfold D.lts; rfl
  | [], _ :: _ => by unfold D.lts; rfl
  | _ :: _, [] => by unfold D.lts; rfl
  | x :: xs, y :: ys => by
    show @Bool.rec (fun _ => Bool) (r x y) (ltXs q r xs ys) (q x y) = _
    rw [ltXs_eq hq hr xs ys, hq, hr]; conv => rhs; unfold D.lts
    cases D.eqv x y <;> rfl
theorem ltX_eq : ∀ (n : Nat) (u w : D), ltX n u w = D.lt u w
  | 0, _, _ => rfl
  | n + 1, u, w => by
    cases u with
    | int i => cases w with
      | int j => show ltI i j = _; rw [ltI_eq]; unfold D.lt; rfl
      | _ => rfl
    | tup xs => cases w with
      | tup ys => show ltXs (eqX n) (ltX n) xs ys = _; rw [ltXs_eq (eqX_eq n) (ltX_eq n)]; conv => rhs; unfold D.lt
      | _ => rfl
    | _ => rfl
def insF (x : D) (ys : List D) : List D := @List.rec D (fun _ => List D) [x] (fun y ys ih => @Bool.rec (fun _ => List D) (x :: y :: ys) (y :: ih) (ltX (nat_lit 60) y x)) ys
def sortF (ds : List D) : List D := @List.rec D (fun _ => List D) [] (fun x _ ih => insF x ih) ds
theorem insF_eq (x : D) : ∀ ys, insF x ys = insB D.lt x ys
  | [] => rfl
  | y :: ys => by
    show @Bool.rec (fun _ => List D) (x :: y :: ys) (y :: insF x ys) (ltX 60 y x) = _
    rw [insF_eq x ys, ltX_eq]; conv => rhs; unfold insB
    cases D.lt y x <;> rfl
theorem sortF_eq' : ∀ ds, sortF ds = sortD ds
  | [] => rfl
  | x :: xs => by show insF x (sortF xs) = _; rw [sortF_eq' xs, insF_eq]; rfl
def andB (a b : Bool) : Bool := @Bool.rec (fun _ => Bool) false b a
theorem andB_t {a b : Bool} (h : andB a b = true) : a = true ∧ b = true := by cases a <;> cases b <;> first | exact ⟨rfl, rfl⟩ | cases h
def allF (p : D → Bool) (xs : List D) : Bool := @List.rec D (fun _ => Bool) true (fun x _ ih => andB (p x) ih) xs
theorem allF_mem {p : D → Bool} : ∀ {xs : List D}, allF p xs = true → ∀ x ∈ xs, p x = true
  | x :: xs, h, y, hy => by
    have h := andB_t (a := p x) (b := allF p xs) h
    rcases List.mem_cons.1 hy with e | e
    · rw [e]; exact h.1
    · exact allF_mem h.2 y e
def isI (d : D) : Bool := asI false d fun _ => true
def isTI (d : D) : Bool := asT false d fun xs => andB (neL xs) (allF isI xs)
/-- the same shape: ints and tuples -/
def sameLs (q : D → D → Bool) (xs ys : List D) : Bool := @List.rec D (fun _ => List D → Bool) (fun ys => notB (neL ys)) (fun x _ ih ys => @List.rec D (fun _ => Bool) false (fun y ys _ => andB (q x y) (ih ys)) ys) xs ys
def sameF (n : Nat) : D → D → Bool := @Nat.rec (fun _ => D → D → Bool) (fun _ _ => false) (fun _ ih u w => asI (asT false u fun xs => asT false w fun ys => sameLs ih xs ys) u fun _ => isI w) n
def hdOk (d : D) : Bool := asI (asT false d fun xs => neL xs) d fun _ => true
def flatF (ds : List D) : Bool := andB (Nat.ble (lenN ds) bigN) (@List.rec D (fun _ => Bool) true (fun x xs _ => asI (@Bool.rec (fun _ => Bool) (andB (hdOk x) (allF (sameF (nat_lit 60) x) (x :: xs))) true (allF isTI (x :: xs))) x fun _ => allF isI xs) ds)
theorem isI_ok {d : D} (h : isI d = true) : ∃ i, d = .int i := by cases d <;> first | exact ⟨_, rfl⟩ | cases h
theorem isTI_ok {d : D} (h : isTI d = true) : ∃ x xs, d = .tup (x :: xs) ∧ ∀ y ∈ x :: xs, isI y = true := by
  cases d with
  | tup xs =>
    have h := andB_t (a := neL xs) (b := allF isI xs) h
    cases xs with
    | nil => cases h.1
    | cons x xs => exact ⟨x, xs, rfl, allF_mem h.2⟩
  | _ => cases h
theorem solids_of {n : Nat} : ∀ {xs : List D}, (∀ x ∈ xs, D.solid n x = true) → D.solids n xs = true
  | [], _ => by unfold D.solids; rfl
  | x :: xs, h => by unfold D.solids; rw [h x (List.mem_cons_self ..), solids_of fun y hy => h y (List.mem_cons_of_mem _ hy)]; rfl
theorem alikes_of : ∀ {xs ys : List D}, (∀ x ∈ xs, ∀ y ∈ ys, D.alike x y = true) → D.alikes xs ys = true
  | [], _, _ => by simp [D.alikes]
  | _ :: _, [], _ => by simp [D.alikes]
  | x :: xs, y :: ys, h => by
    unfold D.alikes
    rw [h x (List.mem_cons_self ..) y (List.mem_cons_self ..), alikes_of fun a ha b hb => h a (List.mem_cons_of_mem _ ha) b (List.mem_cons_of_mem _ hb)]; rfl
theorem allAlike_of : ∀ {xs : List D}, (∀ x ∈ xs, ∀ y ∈ xs, D.alike x y = true) → allAlike xs = true
  | [], _ => rfl
  | x :: xs, h => by
    unfold allAlike
    rw [allAlike_of fun a ha b hb => h a (List.mem_cons_of_mem _ ha) b (List.mem_cons_of_mem _ hb), Bool.and_true, List.all_eq_true]
    exact fun y hy => h x (List.mem_cons_self ..) y (List.mem_cons_of_mem _ hy)
theorem isI_alike {x y : D} (h : isI x = true) (k : isI y = true) : D.alike x y = true := by
  obtain ⟨i, rfl⟩ := isI_ok h; obtain ⟨j, rfl⟩ := isI_ok k; unfold D.alike; rfl
theorem isI_solid {n : Nat} {x : D} (h : isI x = true) : D.solid n x = true := by
  obtain ⟨i, rfl⟩ := isI_ok h; unfold D.solid; rfl
theorem same_ls {n : Nat} (ih : ∀ x y, sameF n x y = true → D.solid n y = true ∧ ∀ z, sameF n x z = true → D.alike y z = true) :
    ∀ xs ys, sameLs (sameF n) xs ys = true → D.solids n ys = true ∧ ∀ zs, sameLs (sameF n) xs zs = true → D.alikes ys zs = true
  | [], [], _ => ⟨by unfold D.solids; rfl, fun zs _ => by simp [D.alikes]⟩
  | [], _ :: _, h => by cases h
  | _ :: _, [], h => by cases h
  | x :: xs, y :: ys, h => by
    have h := andB_t (a := sameF n x y) (b := sameLs (sameF n) xs ys) h
    have a := ih x y h.1
    have b := same_ls ih xs ys h.2
    refine ⟨by unfold D.solids; rw [a.1, b.1]; rfl, fun zs k => ?_⟩
    cases zs with
    | nil => cases k
    | cons z zs =>
      have k := andB_t (a := sameF n x z) (b := sameLs (sameF n) xs zs) k
      unfold D.alikes
      rw [a.2 z k.1, b.2 zs k.2]; rfl
theorem same_ok : ∀ (n : Nat) (x y : D), sameF n x y = true → D.solid n y = true ∧ ∀ z, sameF n x z = true → D.alike y z = true
  | 0, _, _, h => by cases h
  | n + 1, x, y, h => by
    cases x with
    | int i =>
      have h : isI y = true := h
      exact ⟨isI_solid h, fun z k => isI_alike h k⟩
    | tup xs => cases y with
      | tup ys =>
        obtain ⟨a, b⟩ := same_ls (same_ok n) xs ys h
        refine ⟨by unfold D.solid; exact a, fun z k => ?_⟩
        cases z with
        | tup zs => unfold D.alike; exact b zs k
        | _ => cases k
      | _ => cases h
    | _ => cases h
theorem flatF_ok {ds : List D} (h : flatF ds = true) : sortable ds = true := by
  unfold flatF at h
  obtain ⟨h1, h2⟩ := andB_t h
  rw [lenN_eq, bigN_eq] at h1
  have h1 := Nat.le_of_ble_eq_true h1
  unfold sortable
  rw [decide_eq_true h1, Bool.and_true]
  have mk : (∀ x ∈ ds, ∀ y ∈ ds, D.alike x y = true) → (∀ x ∈ ds, D.solid 60 x = true) → ((∀ x ∈ ds, isTup1 x = true) ∨ (∀ x ∈ ds, isTup x = false)) → (allAlike ds && D.solids 60 ds && (decide (ds.length ≤ 1) || ds.all isTup1 || ds.all (fun d => !isTup d))) = true := by
    intro a b c
    rw [allAlike_of a, solids_of b]
    have : (ds.all isTup1 || ds.all (fun d => !isTup d)) = true := by
      rcases c with c | c
      · rw [List.all_eq_true.2 c]; rfl
      · rw [Bool.or_eq_true]; right; rw [List.all_eq_true]; intro x hx; rw [c x hx]; rfl
    rw [Bool.or_assoc, this, Bool.or_true]; rfl
  cases ds with
  | nil => rfl
  | cons x xs =>
    have tI : allF isTI (x :: xs) = true → (allAlike (x :: xs) && D.solids 60 (x :: xs) && (decide ((x :: xs).length ≤ 1) || (x :: xs).all isTup1 || (x :: xs).all (fun d => !isTup d))) = true := by
      intro h
      have h := allF_mem h
      refine mk (fun a ha b hb => ?_) (fun a ha => ?_) (.inl fun a ha => ?_)
      · obtain ⟨p, ps, rfl, hp⟩ := isTI_ok (h a ha)
        obtain ⟨q, qs, rfl, hq⟩ := isTI_ok (h b hb)
        unfold D.alike
        exact alikes_of fun u hu w hw => isI_alike (hp u hu) (hq w hw)
      · obtain ⟨p, ps, rfl, hp⟩ := isTI_ok (h a ha)
        unfold D.solid
        exact solids_of fun u hu => isI_solid (hp u hu)
      · obtain ⟨p, ps, rfl, hp⟩ := isTI_ok (h a ha)
        rfl
    have sm : (hdOk x = true) → allF (sameF 60 x) (x :: xs) = true → (allAlike (x :: xs) && D.solids 60 (x :: xs) && (decide ((x :: xs).length ≤ 1) || (x :: xs).all isTup1 || (x :: xs).all (fun d => !isTup d))) = true := by
      intro g h
      have h := allF_mem h
      refine mk (fun a ha b hb => (same_ok 60 x a (h a ha)).2 b (h b hb)) (fun a ha => (same_ok 60 x a (h a ha)).1) ?_
      cases x with
      | int i => exact .inr fun a ha => by obtain ⟨j, rfl⟩ := isI_ok (h a ha); rfl
      | tup ys =>
        refine .inl fun a ha => ?_
        cases ys with
        | nil => cases g
        | cons y ys =>
          have k := h a ha
          cases a with
          | tup zs => cases zs with
            | nil => cases k
            | cons z zs => rfl
          | _ => cases k
      | _ => cases g
    have two : @Bool.rec (fun _ => Bool) (andB (hdOk x) (allF (sameF 60 x) (x :: xs))) true (allF isTI (x :: xs)) = true → (allAlike (x :: xs) && D.solids 60 (x :: xs) && (decide ((x :: xs).length ≤ 1) || (x :: xs).all isTup1 || (x :: xs).all (fun d => !isTup d))) = true := by
      intro h
      cases k : allF isTI (x :: xs) with
      | true => exact tI k
      | false => rw [k] at h; have h := andB_t h; exact sm h.1 h.2
    cases x with
    | int i =>
      have h2 : allF isI xs = true := h2
      have h2 := allF_mem h2
      have al : ∀ a ∈ D.int i :: xs, isI a = true := fun a ha => by
        rcases List.mem_cons.1 ha with e | e
        · rw [e]; rfl
        · exact h2 a e
      refine mk (fun a ha b hb => isI_alike (al a ha) (al b hb)) (fun a ha => isI_solid (al a ha)) (.inr fun a ha => ?_)
      obtain ⟨j, rfl⟩ := isI_ok (al a ha); rfl
    | _ => exact two h2
def oSorted' (d : D) : R D := withL d fun ds => if sortable ds then .ok (.lst (sortD ds)) else .bad

def oSorted (d : D) : R D := withL d fun ds => ifB (flatF ds) (.ok (.lst (sortF ds))) (ifB (sortable ds) (.ok (.lst (sortD ds))) .bad)
theorem oSorted_def : oSorted = oSorted' := by
  funext d
  unfold oSorted oSorted'
  congr 1
  funext ds
  cases h : flatF ds with
  | true => rw [if_pos (flatF_ok h), ← sortF_eq' ds]; rfl
  | false => show ifB (sortable ds) _ _ = _; exact ifB_eq
/-! ### kinds -/
inductive Ty where
  | int | bool | str | list | tuple | none
def isA : Ty → Ty → Bool
  | .int, .int => true
  | .bool, .int => true
  | .bool, .bool => true
  | .str, .str => true
  | .list, .list => true
  | .tuple, .tuple => true
  | _, _ => false
def kindV' : D → Option Ty
  | .non => some .none
  | .bl _ => some .bool
  | .int _ => some .int
  | .str _ => some .str
  | .tup _ => some .tuple
  | .lst _ => some .list
  | _ => none
def kindV (d : D) : Option Ty := @D.rec (fun _ => Option Ty) (fun _ => Unit) (some .none) (fun _ => some .bool) (fun _ => some .int) (fun _ => some .str) (fun _ _ => some .tuple) (fun _ _ => some .list) (fun _ => none) (fun _ _ _ _ => none) (fun _ _ => none) (fun _ _ => none) () (fun _ _ _ _ => ()) d
theorem kindV_def : kindV = kindV' := by funext d; cases d <;> rfl
def oIsi' (ts : List Ty) (d : D) : R Bool := match kindV d with
  | some a => .ok (ts.any (isA a))
  | none => .bad

def oIsi (ts : List Ty) (d : D) : R Bool := @Option.rec Ty (fun _ => R Bool) .bad (fun a => .ok (@List.rec Ty (fun _ => Bool) false (fun t _ ih => @Bool.rec (fun _ => Bool) ih true (isA a t)) ts)) (kindV d)
theorem oIsi_def : oIsi = oIsi' := by
  funext ts d
  unfold oIsi oIsi'
  cases kindV d with
  | none => rfl
  | some a =>
    show R.ok _ = R.ok _
    congr 1
    induction ts with
    | nil => rfl
    | cons t ts ih =>
      show @Bool.rec (fun _ => Bool) (@List.rec Ty (fun _ => Bool) false (fun t _ ih => @Bool.rec (fun _ => Bool) ih true (isA a t)) ts) true (isA a t) = _
      rw [ih, List.any_cons]
      cases isA a t <;> rfl
/-! ### lists changed: the list behind -/
def oAppend' (o v : D) : R D := withL o fun xs => if xs.length < bigL then .ok (.lst (xs ++ [v])) else .bad
def oAppend (o v : D) : R D := withL o fun xs => ifB (Nat.ble (Nat.succ (lenN xs)) bigN) (.ok (.lst (appL xs [v]))) .bad
theorem oAppend_def : oAppend = oAppend' := by
  funext o v; unfold oAppend oAppend'; congr 1; funext xs; simp only [appL_eq, lenN_eq, ifB_ble, bigN_eq, Nat.succ_le_iff]
def oExtend' : D → D → R D
  | .lst xs, .lst ys => if xs.length + ys.length ≤ bigL then .ok (.lst (xs ++ ys)) else .bad
  | _, _ => .bad
def oExtend (u w : D) : R D := asLs .bad u fun xs => asLs .bad w fun ys => ifB (Nat.ble (Nat.add (lenN xs) (lenN ys)) bigN) (.ok (.lst (appL xs ys))) .bad
theorem oExtend_def : oExtend = oExtend' := by
  funext u w; cases u <;> cases w <;> first | rfl | (simp only [oExtend, oExtend', asLs, appL_eq, lenN_eq, ifB_ble, bigN_eq, Nat.add_eq]; done)
def oReverse (o : D) : R D := withL o fun xs => .ok (.lst xs.reverse)
/-- what is taken, the list behind -/
def oPop (o : D) : R (D × D) := withL o fun xs => match xs.getLast? with
  | some d => .ok (d, .lst xs.dropLast)
  | none => .bad
/-- a place told from either end, as a number -/
def ixD (n : Nat) (k : Int) : Option Nat := if 0 ≤ k then (if k < n then some k.toNat else none) else if -(n : Int) ≤ k then some (k + n).toNat else none
def oSetAt (o i v : D) : R D := match i with
  | .int k => withL o fun xs => match ixD xs.length k with
    | some j => .ok (.lst (xs.set j v))
    | none => .bad
  | _ => .bad

/-! ### walks -/
def enumD' : Int → List D → List D
  | _, [] => []
  | k, x :: xs => .tup [.int k, x] :: enumD' (k + 1) xs
def enumD (k : Int) (xs : List D) : List D := @List.rec D (fun _ => Int → List D) (fun _ => []) (fun x _ ih k => .tup [.int k, x] :: ih (addI k (.ofNat (nat_lit 1)))) xs k
theorem enumD_def : enumD = enumD' := by
  funext k xs
  induction xs generalizing k with
  | nil => rfl
  | cons x xs ih => show .tup [.int k, x] :: enumD (addI k (.ofNat 1)) xs = _; rw [ih, addI_eq]; rfl
def zipD' : List D → List D → List D
  | x :: xs, y :: ys => .tup [x, y] :: zipD' xs ys
  | _, _ => []
def zipD (xs ys : List D) : List D := @List.rec D (fun _ => List D → List D) (fun _ => []) (fun x _ ih ys => @List.rec D (fun _ => List D) [] (fun y ys _ => .tup [x, y] :: ih ys) ys) xs ys
theorem zipD_def : zipD = zipD' := by
  funext xs ys
  induction xs generalizing ys with
  | nil => rfl
  | cons x xs ih => cases ys with
    | nil => rfl
    | cons y ys => show .tup [x, y] :: zipD xs ys = _; rw [ih]; rfl
def rngD' (lo st : Int) : Nat → List D
  | 0 => []
  | n + 1 => .int lo :: rngD' (lo + st) st n
def rngD (lo st : Int) (n : Nat) : List D := @Nat.rec (fun _ => Int → List D) (fun _ => []) (fun _ ih lo => .int lo :: ih (addI lo st)) n lo
theorem rngD_def : rngD = rngD' := by
  funext lo st n
  induction n generalizing lo with
  | zero => rfl
  | succ n ih => show .int lo :: rngD (addI lo st) st n = _; rw [ih, addI_eq]; rfl
def small62' (n : Int) : Bool := decide (-(2 ^ 62) ≤ n ∧ n < 2 ^ 62)
def small62 (n : Int) : Bool := @Int.rec (fun _ => Bool) (fun m => Nat.ble (Nat.succ m) (nat_lit 4611686018427387904)) (fun m => Nat.ble (Nat.succ m) (nat_lit 4611686018427387904)) n
theorem small62_def : small62 = small62' := by
  funext n
  unfold small62'
  have q : ∀ (b : Bool) (p : Prop) [Decidable p], (b = true ↔ p) → b = decide p := by intro b p _ h; cases b <;> simp_all
  refine q _ _ ?_
  cases n with
  | ofNat m => show Nat.ble (m + 1) 4611686018427387904 = true ↔ _; rw [Nat.ble_eq, Int.ofNat_eq_natCast]; omega
  | negSucc m => show Nat.ble (m + 1) 4611686018427387904 = true ↔ _; rw [Nat.ble_eq]; omega
def wSeq (d : D) : R (List D) := ofO (items d)
def wEnum (d : D) : R (List D) := withI d fun xs => .ok (enumD 0 xs)
def wZip (d e : D) : R (List D) := withI d fun xs => withI e fun ys => .ok (zipD xs ys)
def wRange1' : D → R (List D)
  | .int n => if small62 n then .ok (rngD 0 1 n.toNat) else .bad
  | _ => .bad
def wRange1 (d : D) : R (List D) := asI .bad d fun n => ifB (small62 n) (.ok (rngD (.ofNat (nat_lit 0)) (.ofNat (nat_lit 1)) (natI n))) .bad
theorem wRange1_def : wRange1 = wRange1' := by
  funext d; cases d <;> first | rfl | (simp only [wRange1, wRange1', asI, ifB_eq, natI_eq]; rfl)
def wRange2' : D → D → R (List D)
  | .int lo, .int hi => if small62 lo && small62 hi then .ok (rngD lo 1 (hi - lo).toNat) else .bad
  | _, _ => .bad
def wRange2 (u w : D) : R (List D) := asI .bad u fun lo => asI .bad w fun hi => ifB (small62 lo) (ifB (small62 hi) (.ok (rngD lo (.ofNat (nat_lit 1)) (natI (subI hi lo)))) .bad) .bad
theorem wRange2_def : wRange2 = wRange2' := by
  funext u w; cases u <;> cases w <;> first | rfl | (simp only [wRange2, wRange2', asI, ifB_eq, natI_eq, subI_eq]; rename_i a b; cases small62 a <;> cases small62 b <;> rfl)
def wRange3 : D → D → D → R (List D)
  | .int lo, .int hi, .int st => if decide (st ≠ 0 ∧ st.natAbs < 1073741824) && PySem.Builtin.Range.small lo hi st then .ok (rngD lo st (PySem.Builtin.Range.rangeSize lo hi st).toNat) else .bad
  | _, _, _ => .bad
/-- targets taken apart -/
def upk2' {α : Type} (bad : α) (d : D) (k : D → D → α) : α := match d with
  | .tup [x, y] => k x y
  | _ => bad
def upk2 {α : Type} (bad : α) (d : D) (k : D → D → α) : α := asT bad d fun xs => @List.rec D (fun _ => α) bad (fun x xs _ => @List.rec D (fun _ => α) bad (fun y xs _ => @List.rec D (fun _ => α) (k x y) (fun _ _ _ => bad) xs) xs) xs
theorem upk2_def : @upk2 = @upk2' := by
  funext α bad d k
  cases d with
  | tup xs => match xs with
    | [] => rfl
    | [_] => rfl
    | [_, _] => rfl
    | _ :: _ :: _ :: _ => rfl
  | _ => rfl
def upk3' {α : Type} (bad : α) (d : D) (k : D → D → D → α) : α := match d with
  | .tup [x, y, z] => k x y z
  | _ => bad
def upk3 {α : Type} (bad : α) (d : D) (k : D → D → D → α) : α := asT bad d fun xs => @List.rec D (fun _ => α) bad (fun x xs _ => @List.rec D (fun _ => α) bad (fun y xs _ => @List.rec D (fun _ => α) bad (fun z xs _ => @List.rec D (fun _ => α) (k x y z) (fun _ _ _ => bad) xs) xs) xs) xs
theorem upk3_def : @upk3 = @upk3' := by
  funext α bad d k
  cases d with
  | tup xs => match xs with
    | [] => rfl
    | [_] => rfl
    | [_, _] => rfl
    | [_, _, _] => rfl
    | _ :: _ :: _ :: _ :: _ => rfl
  | _ => rfl
def forL' {σ β : Type} (b : σ → D → Fl σ σ) : List D → σ → Fl σ β
  | [], s => .nx s
  | x :: xs, s => match b s x with
    | .nx s' => forL' b xs s'
    | .ct s' => forL' b xs s'
    | .bk s' => .nx s'
    | .rt u w => .rt u w
    | .ex c fs => .ex c fs
    | .bad => .bad
def forL {σ β : Type} (b : σ → D → Fl σ σ) (xs : List D) (s : σ) : Fl σ β := @List.rec D (fun _ => σ → Fl σ β) (fun s => .nx s) (fun x _ ih s => @Fl.rec σ σ (fun _ => Fl σ β) ih (fun u w => .rt u w) (fun s => .nx s) ih (fun c fs => .ex c fs) .bad (b s x)) xs s
theorem forL_def : @forL = @forL' := by
  funext σ β b xs s
  induction xs generalizing s with
  | nil => rfl
  | cons x xs ih =>
    show @Fl.rec σ σ (fun _ => Fl σ β) (forL b xs) (fun u w => .rt u w) (fun s => .nx s) (forL b xs) (fun c fs => .ex c fs) .bad (b s x) = _
    unfold forL'
    cases b s x <;> first | exact ih _ | rfl
def whlL' {σ β : Type} (t : σ → R Bool) (b : σ → Fl σ σ) : Nat → σ → Fl σ β
  | 0, s => match t s with
    | .ok false => .nx s
    | .ex c fs => .ex c fs
    | _ => .bad
  | f + 1, s => match t s with
    | .ok true => (match b s with
      | .nx s' => whlL' t b f s'
      | .ct s' => whlL' t b f s'
      | .bk s' => .nx s'
      | .rt u w => .rt u w
      | .ex c fs => .ex c fs
      | .bad => .bad)
    | .ok false => .nx s
    | .ex c fs => .ex c fs
    | .bad => .bad
def whlL {σ β : Type} (t : σ → R Bool) (b : σ → Fl σ σ) (n : Nat) (s : σ) : Fl σ β := @Nat.rec (fun _ => σ → Fl σ β) (fun s => @R.rec Bool (fun _ => Fl σ β) (fun k => @Bool.rec (fun _ => Fl σ β) (.nx s) .bad k) (fun c fs => .ex c fs) .bad (t s)) (fun _ ih s => @R.rec Bool (fun _ => Fl σ β) (fun k => @Bool.rec (fun _ => Fl σ β) (.nx s) (@Fl.rec σ σ (fun _ => Fl σ β) ih (fun u w => .rt u w) (fun s => .nx s) ih (fun c fs => .ex c fs) .bad (b s)) k) (fun c fs => .ex c fs) .bad (t s)) n s
theorem whlL_def : @whlL = @whlL' := by
  funext σ β t b n s
  induction n generalizing s with
  | zero =>
    show @R.rec Bool (fun _ => Fl σ β) _ _ _ (t s) = _
    unfold whlL'
    cases t s with
    | ok k => cases k <;> rfl
    | ex => rfl
    | bad => rfl
  | succ n ih =>
    show @R.rec Bool (fun _ => Fl σ β) (fun k => @Bool.rec (fun _ => Fl σ β) (.nx s) (@Fl.rec σ σ (fun _ => Fl σ β) (whlL t b n) (fun u w => .rt u w) (fun s => .nx s) (whlL t b n) (fun c fs => .ex c fs) .bad (b s)) k) (fun c fs => .ex c fs) .bad (t s) = _
    unfold whlL'
    cases t s with
    | ok k =>
      cases k with
      | false => rfl
      | true => show @Fl.rec σ σ (fun _ => Fl σ β) (whlL t b n) (fun u w => .rt u w) (fun s => .nx s) (whlL t b n) (fun c fs => .ex c fs) .bad (b s) = _; cases b s <;> first | exact ih _ | rfl
    | ex => rfl
    | bad => rfl
/-- [e for x in xs if t]: no error leaves -/
def cmpL' (t : D → R Bool) (e : D → R D) : List D → R (List D)
  | [] => .ok []
  | x :: xs => match t x with
    | .ok true => (match e x with
      | .ok v => (match cmpL' t e xs with
        | .ok vs => .ok (v :: vs)
        | _ => .bad)
      | _ => .bad)
    | .ok false => cmpL' t e xs
    | _ => .bad
def cmpL (t : D → R Bool) (e : D → R D) (xs : List D) : R (List D) := @List.rec D (fun _ => R (List D)) (.ok []) (fun x _ ih => @R.rec Bool (fun _ => R (List D)) (fun k => @Bool.rec (fun _ => R (List D)) ih (@R.rec D (fun _ => R (List D)) (fun v => @R.rec (List D) (fun _ => R (List D)) (fun vs => .ok (v :: vs)) (fun _ _ => .bad) .bad ih) (fun _ _ => .bad) .bad (e x)) k) (fun _ _ => .bad) .bad (t x)) xs
theorem cmpL_def : cmpL = cmpL' := by
  funext t e xs
  induction xs with
  | nil => rfl
  | cons x xs ih =>
    show @R.rec Bool (fun _ => R (List D)) (fun k => @Bool.rec (fun _ => R (List D)) (cmpL t e xs) (@R.rec D (fun _ => R (List D)) (fun v => @R.rec (List D) (fun _ => R (List D)) (fun vs => .ok (v :: vs)) (fun _ _ => .bad) .bad (cmpL t e xs)) (fun _ _ => .bad) .bad (e x)) k) (fun _ _ => .bad) .bad (t x) = _
    rw [ih]; conv => rhs; unfold cmpL'
    cases t x with
    | ok k =>
      cases k with
      | false => rfl
      | true => dsimp only; cases e x with
        | ok v => dsimp only; cases cmpL' t e xs <;> rfl
        | ex => rfl
        | bad => rfl
    | ex => rfl
    | bad => rfl
def yes : D → R Bool := fun _ => .ok true
def cmp' (w : R (List D)) (t : D → R Bool) (e : D → R D) : R D := bnd w fun xs => bnd (cmpL t e xs) fun vs => if vs.length ≤ bigL then .ok (.lst vs) else .bad
def cmp (w : R (List D)) (t : D → R Bool) (e : D → R D) : R D := bnd w fun xs => bnd (cmpL t e xs) fun vs => ifB (Nat.ble (lenN vs) bigN) (.ok (.lst vs)) .bad
theorem cmp_def : cmp = cmp' := by
  funext w t e; unfold cmp cmp'; congr 1; funext xs; congr 1; funext vs; simp only [lenN_eq, ifB_ble, bigN_eq]
def tst' {σ β : Type} (t : R Bool) (a b : Fl σ β) : Fl σ β := match t with
  | .ok true => a
  | .ok false => b
  | .ex c fs => .ex c fs
  | .bad => .bad
def tst {σ β : Type} (t : R Bool) (a b : Fl σ β) : Fl σ β := @R.rec Bool (fun _ => Fl σ β) (fun k => @Bool.rec (fun _ => Fl σ β) b a k) (fun c fs => .ex c fs) .bad t
theorem tst_def : @tst = @tst' := by funext σ β t a b; cases t with
  | ok k => cases k <;> rfl
  | ex => rfl
  | bad => rfl
def tNot (t : R Bool) : R Bool := bnd t fun b => .ok (!b)
def tAnd (t u : R Bool) : R Bool := bnd t fun b => match b with | true => u | false => .ok false
def tOr (t u : R Bool) : R Bool := bnd t fun b => match b with | true => .ok true | false => u
def vIf (t : R Bool) (a b : R D) : R D := bnd t fun k => match k with | true => a | false => b
def vAnd (a b : R D) : R D := bnd a fun v => bnd (tru v) fun k => match k with | true => b | false => .ok v
def vOr (a b : R D) : R D := bnd a fun v => bnd (tru v) fun k => match k with | true => .ok v | false => b
/-- a def's answer: the value; the value and the given list -/
def retV' {β : Type} (f : Fl Unit β) : R D := match f with
  | .nx _ => .ok .non
  | .rt u _ => .ok u
  | .ex c fs => .ex c fs
  | _ => .bad
def retV {β : Type} (f : Fl Unit β) : R D := @Fl.rec Unit β (fun _ => R D) (fun _ => .ok .non) (fun u _ => .ok u) (fun _ => .bad) (fun _ => .bad) (fun c fs => .ex c fs) .bad f
theorem retV_def : @retV = @retV' := by funext β f; cases f <;> rfl
/-- m only where d is a list -/
def asL' {α : Type} (bad : α) (d : D) (m : α) : α := match d with
  | .lst _ => m
  | _ => bad
def asL {α : Type} (bad : α) (d : D) (m : α) : α := @D.rec (fun _ => α) (fun _ => Unit) bad (fun _ => bad) (fun _ => bad) (fun _ => bad) (fun _ _ => bad) (fun _ _ => m) (fun _ => bad) (fun _ _ _ _ => bad) (fun _ _ => bad) (fun _ _ => bad) () (fun _ _ _ _ => ()) d
theorem asL_def : @asL = @asL' := by funext α b d m; cases d <;> rfl
def retW' {β : Type} (f : Fl D β) : R (D × D) := match f with
  | .nx w => asL .bad w (.ok (.non, w))
  | .rt u w => asL .bad w (.ok (u, w))
  | .ex c fs => .ex c fs
  | _ => .bad
def retW {β : Type} (f : Fl D β) : R (D × D) := @Fl.rec D β (fun _ => R (D × D)) (fun w => asL .bad w (.ok (.non, w))) (fun u w => asL .bad w (.ok (u, w))) (fun _ => .bad) (fun _ => .bad) (fun c fs => .ex c fs) .bad f
theorem retW_def : @retW = @retW' := by funext β f; cases f <;> rfl
theorem enumD_nil {k : Int} : enumD k [] = [] := rfl
theorem enumD_cons {k : Int} {x : D} {xs : List D} : enumD k (x :: xs) = .tup [.int k, x] :: enumD (k + 1) xs := by rw [enumD_def]; rfl
theorem zipD_nil {ys : List D} : zipD [] ys = [] := rfl
theorem zipD_nil2 {x : D} {xs : List D} : zipD (x :: xs) [] = [] := rfl
theorem zipD_cons {x y : D} {xs ys : List D} : zipD (x :: xs) (y :: ys) = .tup [x, y] :: zipD xs ys := rfl
theorem rngD_0 {lo st : Int} : rngD lo st 0 = [] := rfl
theorem rngD_succ {lo st : Int} {n : Nat} : rngD lo st (n + 1) = .int lo :: rngD (lo + st) st n := by rw [rngD_def]; rfl
theorem sumI_cons {i : Int} {is : List Int} : sumI (i :: is) = i + sumI is := by rw [sumI_def]; rfl

end
end Qz
/-! Qz: how plain data stand for the model's values. -/
namespace Qz
open PySem PySem.Spec L2

structure Whr where
  K : PySem.W.Frag
  G : Nat → Addr
  C : Nat → Addr
  F : Nat → Option Str
/-- a list that nobody changes: locked, or of the module -/
def SqF (K : PySem.W.Frag) (H : L2.Hp) (a : Addr) (xs : List V) : Prop :=
  (∃ o, H a = some (.frz o (.lst xs))) ∨
    ∃ (o : Obj) (its : Array Value) (n : Nat), K.lookup a = some o ∧ o.cls = .type "list" ∧ o.dict = none ∧ o.data = .seq its n ∧ its.size ≤ sizeLine ∧ Vals xs its.toList
theorem SqF.seq {K : PySem.W.Frag} {H : L2.Hp} {a : Addr} {xs : List V} (h : SqF K H a xs) : SqL K H a xs := by
  rcases h with h | h
  · exact .inl (.inr h)
  · exact .inr h
section
variable (Z : Whr)
mutual
/-- every list that is met stands in N -/
def RD (N : Addr → Prop) (H : L2.Hp) : D → V → Prop
  | .non, v => v = .non
  | .bl b, v => v = .bl b
  | .int i, v => v = .int i
  | .str x, v => v = .str x
  | .tup ds, v => ∃ a vs, v = .ref a ∧ SqT Z.K H a vs ∧ RDs N H ds vs
  | .lst ds, v => ∃ a vs, v = .ref a ∧ N a ∧ H a = some (.lst vs) ∧ RDs N H ds vs
  | .fn i, v => v = .ref (Z.G i)
  | .dct _ _, _ => False
  | .set _, _ => False
  | .rol ds, v => ∃ a vs, v = .ref a ∧ SqF Z.K H a vs ∧ RDs N H ds vs
def RDs (N : Addr → Prop) (H : L2.Hp) : List D → List V → Prop
  | [], vs => vs = []
  | d :: ds, vs => ∃ v r, vs = v :: r ∧ RD N H d v ∧ RDs N H ds r
end
/-- a list that may be changed: out of N, what it holds within -/
def RW (N : Addr → Prop) (H : L2.Hp) (d : D) (x : V) : Prop := match d with
  | .lst ds => ∃ a vs, x = .ref a ∧ ¬ N a ∧ H a = some (.lst vs) ∧ RDs Z N H ds vs
  | d => RD Z N H d x
/-- how far a value is its own: no list at its head, none met; a new list; all within N; what it holds within N -/
inductive Cl where
  | S | T | C | E
def Cls (N : Addr → Prop) (H : L2.Hp) (c : Cl) (H' : L2.Hp) (u : D) (x : V) : Prop := match c with
  | .S => (∀ ds, u ≠ .lst ds) ∧ RD Z (fun _ => False) H' u x
  | .T => (match u with
    | .lst ds => ∃ p vs, x = .ref p ∧ H p = none ∧ H' p = some (.lst vs) ∧ RDs Z (fun a => N a ∧ a ≠ p) H' ds vs
    | u => RD Z N H' u x)
  | .C => RD Z N H' u x
  | .E => (match u with
    | .lst ds => ∃ a vs, x = .ref a ∧ H' a = some (.lst vs) ∧ RDs Z N H' ds vs
    | u => RD Z N H' u x)
end
def Keep (N : Addr → Prop) (H H' : L2.Hp) : Prop := ∀ b o, H b = some o → (N b ∨ ∀ vs, o ≠ .lst vs) → H' b = some o
def Grow (H H' : L2.Hp) : Prop := ∀ b o, H b = some o → H' b = some o
theorem Grow.refl {H : L2.Hp} : Grow H H := fun _ _ e => e
theorem Grow.trans {H H1 H2 : L2.Hp} (a : Grow H H1) (b : Grow H1 H2) : Grow H H2 := fun c o e => b c o (a c o e)
theorem Grow.keep {N : Addr → Prop} {H H' : L2.Hp} (g : Grow H H') : Keep N H H' := fun b o e _ => g b o e
theorem Grow.back {H H' : L2.Hp} (g : Grow H H') {a : Addr} (e : H' a = none) : H a = none := by
  cases q : H a with
  | none => rfl
  | some o => rw [g a o q] at e; cases e
theorem Grow.upd {H : L2.Hp} {p : Addr} {u : HO} (hp : H p = none) : Grow H (upd H p u) := fun b o e => by
  rw [upd_ne]; exact e
  intro z; rw [z, hp] at e; cases e
section
variable {Z : Whr} {N N' : Addr → Prop} {H H' H1 : L2.Hp}
theorem SqT.keep {K : PySem.W.Frag} {a : Addr} {vs : List V} (k : Keep N H H') (h : SqT K H a vs) : SqT K H' a vs := by
  rcases h with (h | ⟨o, h⟩) | h
  · exact .inl (.inl (k _ _ h (.inr fun _ z => by cases z)))
  · exact .inl (.inr ⟨o, k _ _ h (.inr fun _ z => by cases z)⟩)
  · exact .inr h
theorem SqF.keep {K : PySem.W.Frag} {a : Addr} {vs : List V} (k : Keep N H H') (h : SqF K H a vs) : SqF K H' a vs := by
  rcases h with ⟨o, h⟩ | h
  · exact .inl ⟨o, k _ _ h (.inr fun _ z => by cases z)⟩
  · exact .inr h
mutual
theorem RD.keep (k : Keep N H H') : ∀ (d : D) (v : V), RD Z N H d v → RD Z N H' d v
  | .non, _, h => h
  | .bl _, _, h => h
  | .int _, _, h => h
  | .str _, _, h => h
  | .fn _, _, h => h
  | .dct _ _, _, h => h
  | .set _, _, h => h
  | .tup ds, v, h => by
    obtain ⟨a, vs, e, q, r⟩ := h
    exact ⟨a, vs, e, SqT.keep k q, RDs.keep k ds vs r⟩
  | .lst ds, v, h => by
    obtain ⟨a, vs, e, n, q, r⟩ := h
    exact ⟨a, vs, e, n, k _ _ q (.inl n), RDs.keep k ds vs r⟩
  | .rol ds, v, h => by
    obtain ⟨a, vs, e, q, r⟩ := h
    exact ⟨a, vs, e, q.keep k, RDs.keep k ds vs r⟩
theorem RDs.keep (k : Keep N H H') : ∀ (ds : List D) (vs : List V), RDs Z N H ds vs → RDs Z N H' ds vs
  | [], _, h => h
  | d :: ds, vs, h => by
    obtain ⟨v, r, e, q, s⟩ := h
    exact ⟨v, r, e, RD.keep k d v q, RDs.keep k ds r s⟩
end
mutual
theorem RD.imp (k : ∀ a, N a → (∃ o, H a = some o) → N' a) : ∀ (d : D) (v : V), RD Z N H d v → RD Z N' H d v
  | .non, _, h => h
  | .bl _, _, h => h
  | .int _, _, h => h
  | .str _, _, h => h
  | .fn _, _, h => h
  | .dct _ _, _, h => h
  | .set _, _, h => h
  | .tup ds, v, h => by
    obtain ⟨a, vs, e, q, r⟩ := h
    exact ⟨a, vs, e, q, RDs.imp k ds vs r⟩
  | .lst ds, v, h => by
    obtain ⟨a, vs, e, n, q, r⟩ := h
    exact ⟨a, vs, e, k a n ⟨_, q⟩, q, RDs.imp k ds vs r⟩
  | .rol ds, v, h => by
    obtain ⟨a, vs, e, q, r⟩ := h
    exact ⟨a, vs, e, q, RDs.imp k ds vs r⟩
theorem RDs.imp (k : ∀ a, N a → (∃ o, H a = some o) → N' a) : ∀ (ds : List D) (vs : List V), RDs Z N H ds vs → RDs Z N' H ds vs
  | [], _, h => h
  | d :: ds, vs, h => by
    obtain ⟨v, r, e, q, s⟩ := h
    exact ⟨v, r, e, RD.imp k d v q, RDs.imp k ds r s⟩
end
theorem RD.sub (k : ∀ a, N a → N' a) {d : D} {v : V} (h : RD Z N H d v) : RD Z N' H d v := RD.imp (fun a n _ => k a n) d v h
theorem RDs.sub (k : ∀ a, N a → N' a) {d : List D} {v : List V} (h : RDs Z N H d v) : RDs Z N' H d v := RDs.imp (fun a n _ => k a n) d v h
theorem RD.grow (g : Grow H H') {d : D} {v : V} (h : RD Z N H d v) : RD Z N H' d v := RD.keep g.keep d v h
theorem RDs.grow (g : Grow H H') {d : List D} {v : List V} (h : RDs Z N H d v) : RDs Z N H' d v := RDs.keep g.keep d v h
theorem off_imp {p : Addr} (hp : H p = none) : ∀ a, N a → (∃ o, H a = some o) → N a ∧ a ≠ p := fun a n ⟨o, e⟩ => ⟨n, fun z => by rw [z, hp] at e; cases e⟩
theorem RDs.off {p : Addr} (hp : H p = none) {d : List D} {v : List V} (h : RDs Z N H d v) : RDs Z (fun a => N a ∧ a ≠ p) H d v := RDs.imp (off_imp hp) d v h
theorem RD.off {p : Addr} (hp : H p = none) {d : D} {v : V} (h : RD Z N H d v) : RD Z (fun a => N a ∧ a ≠ p) H d v := RD.imp (off_imp hp) d v h
theorem RDs.len : ∀ {ds : List D} {vs : List V}, RDs Z N H ds vs → vs.length = ds.length
  | [], _, h => by cases h; rfl
  | d :: ds, _, h => by
    obtain ⟨v, r, rfl, _, s⟩ := h
    simp [RDs.len s]
theorem RDs.get : ∀ {ds : List D} {vs : List V} {i : Nat} {d : D}, RDs Z N H ds vs → ds[i]? = some d → ∃ v, vs[i]? = some v ∧ RD Z N H d v
  | d :: ds, _, 0, _, h, e => by
    obtain ⟨v, r, rfl, q, _⟩ := h
    simp at e; subst e
    exact ⟨v, rfl, q⟩
  | d :: ds, _, i + 1, _, h, e => by
    obtain ⟨v, r, rfl, _, s⟩ := h
    obtain ⟨w, h1, h2⟩ := RDs.get (i := i) s (by simpa using e)
    exact ⟨w, by simpa using h1, h2⟩
theorem RDs.append : ∀ {xs ys : List D} {vs ws : List V}, RDs Z N H xs vs → RDs Z N H ys ws → RDs Z N H (xs ++ ys) (vs ++ ws)
  | [], _, _, _, h, s => by cases h; exact s
  | d :: ds, _, _, _, h, s => by
    obtain ⟨v, r, rfl, q, t⟩ := h
    exact ⟨v, r ++ _, rfl, q, RDs.append t s⟩
theorem RDs.set {d : D} {v : V} (q : RD Z N H d v) : ∀ {xs : List D} {vs : List V} (i : Nat), RDs Z N H xs vs → RDs Z N H (xs.set i d) (vs.set i v)
  | [], _, _, h => by cases h; rfl
  | x :: xs, _, 0, h => by
    obtain ⟨w, r, rfl, _, t⟩ := h
    exact ⟨v, r, rfl, q, t⟩
  | x :: xs, _, i + 1, h => by
    obtain ⟨w, r, rfl, s, t⟩ := h
    exact ⟨w, r.set i v, rfl, s, RDs.set q i t⟩
theorem RDs.take : ∀ {xs : List D} {vs : List V} (k : Nat), RDs Z N H xs vs → RDs Z N H (xs.take k) (vs.take k)
  | [], _, k, h => by cases h; simp; exact rfl
  | x :: xs, _, 0, h => by simp; exact rfl
  | x :: xs, _, k + 1, h => by
    obtain ⟨w, r, rfl, s, t⟩ := h
    exact ⟨w, r.take k, rfl, s, RDs.take k t⟩
theorem RDs.drop : ∀ {xs : List D} {vs : List V} (k : Nat), RDs Z N H xs vs → RDs Z N H (xs.drop k) (vs.drop k)
  | [], _, k, h => by cases h; simp; exact rfl
  | x :: xs, _, 0, h => by simpa using h
  | x :: xs, _, k + 1, h => by
    obtain ⟨w, r, rfl, s, t⟩ := h
    simpa using RDs.drop k t
theorem RDs.reverse : ∀ {xs : List D} {vs : List V}, RDs Z N H xs vs → RDs Z N H xs.reverse vs.reverse
  | [], _, h => by cases h; exact rfl
  | x :: xs, _, h => by
    obtain ⟨w, r, rfl, s, t⟩ := h
    rw [List.reverse_cons, List.reverse_cons]
    exact RDs.append (RDs.reverse t) ⟨w, [], rfl, s, rfl⟩
theorem RDs.nil_iff {ds : List D} {vs : List V} (r : RDs Z N H ds vs) : vs = [] ↔ ds = [] := by
  have := RDs.len r
  constructor
  · intro e; rw [e] at this; exact List.eq_nil_of_length_eq_zero this.symm
  · intro e; rw [e] at this; exact List.eq_nil_of_length_eq_zero this
theorem RDs.one {d : D} {v : V} (r : RD Z N H d v) : RDs Z N H [d] [v] := ⟨v, [], rfl, r, rfl⟩

/-! ### the list under way changes -/
theorem Keep.updD {a : Addr} {vs : List V} {u : HO} (ha : H a = some (.lst vs)) (n : ¬ N a) : Keep N H (upd H a u) := fun b o e k => by
  rw [upd_ne]; exact e
  rintro rfl
  rcases k with k | k
  · exact n k
  · rw [ha] at e; exact k vs (Option.some.inj e).symm

/-! ### classes -/
theorem Cls.pre {c : Cl} {u : D} {x : V} (g : Grow H H1) (h : Cls Z N H1 c H' u x) : Cls Z N H c H' u x := by
  cases c with
  | S => exact h
  | C => exact h
  | E => exact h
  | T =>
    cases u with
    | lst ds => obtain ⟨p, vs, e, q, r⟩ := h; exact ⟨p, vs, e, g.back q, r⟩
    | _ => exact h
theorem Cls.grow {c : Cl} {u : D} {x : V} (g : Grow H' H1) (h : Cls Z N H c H' u x) : Cls Z N H c H1 u x := by
  cases c with
  | S => exact ⟨h.1, RD.grow g h.2⟩
  | C => exact RD.grow g h
  | T =>
    cases u with
    | lst ds => obtain ⟨p, vs, e, q, r, s⟩ := h; exact ⟨p, vs, e, q, g _ _ r, RDs.grow g s⟩
    | _ => exact RD.grow g h
  | E =>
    cases u with
    | lst ds =>
      obtain ⟨a, vs, e, q, r⟩ := h
      exact ⟨a, vs, e, g _ _ q, RDs.grow g r⟩
    | _ => exact RD.grow g h
theorem Cls.SC {u : D} {x : V} (h : Cls Z N H .S H' u x) : Cls Z N H .C H' u x := RD.sub (fun _ z => z.elim) h.2
theorem Cls.ST {u : D} {x : V} (h : Cls Z N H .S H' u x) : Cls Z N H .T H' u x := by
  have z := Cls.SC h
  cases u with
  | lst ds => exact (h.1 ds rfl).elim
  | _ => exact z
theorem Cls.TC {u : D} {x : V} (f : ∀ a, H a = none → N a) (h : Cls Z N H .T H' u x) : Cls Z N H .C H' u x := by
  cases u with
  | lst ds =>
    obtain ⟨p, vs, e, q, r, s⟩ := h
    exact ⟨p, vs, e, f p q, r, RDs.sub (fun _ z => z.1) s⟩
  | _ => exact h
theorem Cls.CE {u : D} {x : V} (h : Cls Z N H .C H' u x) : Cls Z N H .E H' u x := by
  cases u with
  | lst ds => obtain ⟨a, vs, e, n, q, r⟩ := h; exact ⟨a, vs, e, q, r⟩
  | _ => exact h
def Cl.le : Cl → Cl → Bool
  | .S, _ => true
  | .T, .S => false
  | .T, _ => true
  | .C, .C => true
  | .C, .E => true
  | .E, .E => true
  | _, _ => false
theorem Cls.le {c c' : Cl} {u : D} {x : V} (f : ∀ a, H a = none → N a) (l : c.le c' = true) (h : Cls Z N H c H' u x) : Cls Z N H c' H' u x := by
  cases c <;> cases c' <;> first | exact h | (cases l; done) | exact h.ST | exact h.SC | exact h.SC.CE | exact h.TC f | exact (h.TC f).CE | exact h.CE
abbrev RE (Z : Whr) (N : Addr → Prop) (H : L2.Hp) (u : D) (x : V) : Prop := Cls Z N H .E H u x
theorem Cls.re {c : Cl} {u : D} {x : V} (f : ∀ a, H a = none → N a) (h : Cls Z N H c H' u x) : RE Z N H' u x := by
  have z := h.le f (show c.le .E = true by cases c <;> rfl)
  cases u <;> exact z
/-- what an int, a text .. is -/
theorem RE.itemsE {u : D} {x : V} {ds : List D} (h : RE Z N H u x) (e : items u = some ds) : ∃ a vs, x = .ref a ∧ (SqL Z.K H a vs ∨ SqT Z.K H a vs) ∧ RDs Z N H ds vs := by
  cases u <;> first | (cases e; done) | skip
  · cases e; obtain ⟨a, vs, e, q, r⟩ := h; exact ⟨a, vs, e, .inr q, r⟩
  · cases e; obtain ⟨a, vs, e, q, r⟩ := h; exact ⟨a, vs, e, .inl (SqL.of q), r⟩
  · cases e; obtain ⟨a, vs, e, q, r⟩ := h; exact ⟨a, vs, e, .inl q.seq, r⟩
end

/-! ### what an expression gives -/
/-- the exception's own dict -/
def XD (Z : Whr) (c : Nat) (fs : List D) (H : L2.Hp) (d : Option Addr) : Prop :=
  match Z.F c, fs with
  | none, [] => d = none
  | some f, [x] => ∃ a v, d = some a ∧ H a = some (.xd [(f, v)]) ∧ RD Z (fun _ => False) H x v
  | _, _ => False
def CtV (Z : Whr) (N : Addr → Prop) (H : L2.Hp) (r : R D) (c : Cl) (Q : VK) (E : XK) : Prop := match r with
  | .ok u => ∀ x H', Grow H H' → Cls Z N H c H' u x → Q x H'
  | .ex k fs => ∀ d H', Grow H H' → XD Z k fs H' d → E (.ref (Z.C k)) d H'
  | .bad => False
def CtB (Z : Whr) (H : L2.Hp) (r : R Bool) (Q : Bool → L2.Hp → Prop) (E : XK) : Prop := match r with
  | .ok b => ∀ H', Grow H H' → Q b H'
  | .ex k fs => ∀ d H', Grow H H' → XD Z k fs H' d → E (.ref (Z.C k)) d H'
  | .bad => False
def CtA (Z : Whr) (N : Addr → Prop) (H : L2.Hp) (r : R (List D)) (c : Cl) (Q : List V → L2.Hp → Prop) (E : XK) : Prop := match r with
  | .ok us => ∀ xs H', Grow H H' → Paired (Cls Z N H c H') us xs → Q xs H'
  | .ex k fs => ∀ d H', Grow H H' → XD Z k fs H' d → E (.ref (Z.C k)) d H'
  | .bad => False
section
variable {Z : Whr} {N : Addr → Prop} {H H1 : L2.Hp} {Q : VK} {E : XK}
theorem CtV.pre {r : R D} {c : Cl} (g : Grow H H1) (h : CtV Z N H r c Q E) : CtV Z N H1 r c Q E := by
  cases r with
  | ok u => exact fun x H' g' k => h x H' (g.trans g') (k.pre g)
  | ex k fs => exact fun d H' g' xd => h d H' (g.trans g') xd
  | bad => exact h
theorem CtB.pre {r : R Bool} {Q : Bool → L2.Hp → Prop} (g : Grow H H1) (h : CtB Z H r Q E) : CtB Z H1 r Q E := by
  cases r with
  | ok u => exact fun H' g' => h H' (g.trans g')
  | ex k fs => exact fun d H' g' xd => h d H' (g.trans g') xd
  | bad => exact h
theorem RDs.of : ∀ {us : List D} {xs : List V}, Paired (RD Z N H) us xs → RDs Z N H us xs
  | _, _, .nil => rfl
  | _, _, .cons r t => ⟨_, _, rfl, r, RDs.of t⟩
theorem RDs.to : ∀ {us : List D} {xs : List V}, RDs Z N H us xs → Paired (RD Z N H) us xs
  | [], _, h => by cases h; exact .nil
  | d :: ds, _, h => by obtain ⟨v, r, rfl, q, t⟩ := h; exact .cons q (RDs.to t)
theorem pimp {α β : Type} {F G : α → β → Prop} (f : ∀ a b, F a b → G a b) : ∀ {l₁ : List α} {l₂ : List β}, Paired F l₁ l₂ → Paired G l₁ l₂
  | _, _, .nil => .nil
  | _, _, .cons r t => .cons (f _ _ r) (pimp f t)
theorem CtA.pre {r : R (List D)} {c : Cl} {Q : List V → L2.Hp → Prop} (g : Grow H H1) (h : CtA Z N H r c Q E) : CtA Z N H1 r c Q E := by
  cases r with
  | ok u => exact fun x H' g' k => h x H' (g.trans g') (pimp (fun _ _ q => Cls.pre g q) k)
  | ex k fs => exact fun d H' g' xd => h d H' (g.trans g') xd
  | bad => exact h
/-- in two steps -/
theorem CtV.bnd {r : R D} {k : D → R D} {c c' : Cl} (h : CtV Z N H (bnd r k) c Q E) : CtV Z N H r c' (fun x H1 => ∃ u, Grow H H1 ∧ Cls Z N H c' H1 u x ∧ CtV Z N H1 (k u) c Q E) E := by
  cases r with
  | ok u => exact fun x H' g q => ⟨u, g, q, CtV.pre g h⟩
  | ex k fs => exact h
  | bad => exact h
end

/-! ### slots -/
inductive Sv where
  | n | s (d : D) | o (d : D)
def SvR (Z : Whr) (N : Addr → Prop) (H : L2.Hp) : Sv → Option V → Prop
  | .n, _ => True
  | .s d, some x => RD Z N H d x
  | .o d, some x => RW Z N H d x
  | _, none => False
structure Okv (Z : Whr) (N : Addr → Prop) (Γ : List Sv) (σ : St) (H : L2.Hp) : Prop where
  sl : Paired (SvR Z N H) Γ σ
  fr : ∀ a, H a = none → N a
section
variable {Z : Whr} {N N' : Addr → Prop} {H H' : L2.Hp} {Γ Γ' : List Sv} {σ : St}
theorem RW.grow (g : Grow H H') {d : D} {x : V} (h : RW Z N H d x) : RW Z N H' d x := by
  cases d with
  | lst ds => obtain ⟨a, vs, e, n, q, r⟩ := h; exact ⟨a, vs, e, n, g _ _ q, RDs.grow g r⟩
  | _ => exact RD.grow g h
theorem SvR.grow (g : Grow H H') {s : Sv} {x : Option V} (h : SvR Z N H s x) : SvR Z N H' s x := by
  cases s with
  | n => exact trivial
  | s d => cases x with
    | none => exact h
    | some x => exact RD.grow g h
  | o d => cases x with
    | none => exact h
    | some x => exact RW.grow g h
theorem Okv.grow (g : Grow H H') (h : Okv Z N Γ σ H) : Okv Z N Γ σ H' := ⟨pimp (fun _ _ q => q.grow g) h.sl, fun a e => h.fr a (g.back e)⟩
theorem pget {α β : Type} {F : α → β → Prop} : ∀ {l₁ : List α} {l₂ : List β} {i : Nat} {a : α}, Paired F l₁ l₂ → l₁[i]? = some a → ∃ b, l₂[i]? = some b ∧ F a b
  | _, _, _, _, .nil, e => by simp at e
  | _, _, 0, _, .cons r _, e => by simp at e; subst e; exact ⟨_, rfl, r⟩
  | _, _, i + 1, _, .cons _ t, e => by
    obtain ⟨b, h1, h2⟩ := pget (i := i) t (by simpa using e)
    exact ⟨b, by simpa using h1, h2⟩
theorem pset {α β : Type} {F : α → β → Prop} {a : α} {b : β} (r : F a b) : ∀ {l₁ : List α} {l₂ : List β} (i : Nat), Paired F l₁ l₂ → Paired F (l₁.set i a) (l₂.set i b)
  | _, _, _, .nil => .nil
  | _, _, 0, .cons _ t => .cons r t
  | _, _, i + 1, .cons q t => .cons q (pset r i t)
end
end Qz
/-! Qz: the judgements of expressions; names, constants, arguments, operations. -/
namespace Qz
open PySem PySem.Spec L2

abbrev at_ (W : WX) (σ : St) : XK := fun c d H' => W c d σ H'
abbrev noX : XK := fun _ _ _ => False
def tV (Z : Whr) (Γ : List Sv) (r : R D) (c : Cl) (W : WX) : TE := fun σ H Q => ∃ N, Okv Z N Γ σ H ∧ CtV Z N H r c Q (at_ W σ)
def tVA (Z : Whr) (Γ : List Sv) (r : R (List D)) (c : Cl) (W : WX) : TA := fun σ H Q => ∃ N, Okv Z N Γ σ H ∧ CtA Z N H r c Q (at_ W σ)
def tVT (Z : Whr) (Γ : List Sv) (r : R Bool) (W : WX) : TT := fun σ H Q => ∃ N, Okv Z N Γ σ H ∧ CtB Z H r Q (at_ W σ)
structure PEv (Z : Whr) (X : Cx) (Γ : List Sv) (e : Expr) (r : R D) (c : Cl) : Prop where
  run : ∀ W, Takes X W → PE X e (tV Z Γ r c W)
structure PAv (Z : Whr) (X : Cx) (Γ : List Sv) (es : List Expr) (r : R (List D)) (c : Cl) : Prop where
  run : ∀ W, Takes X W → PA X es (tVA Z Γ r c W)
structure PTv (Z : Whr) (X : Cx) (Γ : List Sv) (e : Expr) (r : R Bool) : Prop where
  run : ∀ W, Takes X W → PT X e (tVT Z Γ r W)
structure PWv (Z : Whr) (X : Cx) (Γ : List Sv) (e : Expr) (r : R Bool) : Prop where
  run : ∀ W, Takes X W → PW X e (tVT Z Γ r W)
theorem _root_.L2.PE.weak {X : Cx} {e : Expr} {t t' : TE} (p : PE X e t) (h : ∀ σ H Q, t' σ H Q → t σ H Q) : PE X e t' := ⟨fun pins s σ H Q I q => p.run pins s σ H Q I (h σ H Q q)⟩
theorem _root_.L2.PT.weak {X : Cx} {e : Expr} {t t' : TT} (p : PT X e t) (h : ∀ σ H Q, t' σ H Q → t σ H Q) : PT X e t' := ⟨fun pins s σ H Q I q => p.run pins s σ H Q I (h σ H Q q)⟩
theorem _root_.L2.PA.weak {X : Cx} {es : List Expr} {t t' : TA} (p : PA X es t) (h : ∀ σ H Q, t' σ H Q → t σ H Q) : PA X es t' := ⟨fun pos pins s σ H Q I q => p.run pos pins s σ H Q I (h σ H Q q)⟩
theorem _root_.L2.PW.weak {X : Cx} {e : Expr} {t t' : TT} (p : PW X e t) (h : ∀ σ H Q, t' σ H Q → t σ H Q) : PW X e t' := ⟨fun wh pins s σ H Q I q => p.run wh pins s σ H Q I (h σ H Q q)⟩
theorem _root_.L2.PS.weak {X : Cx} {e : Stmt} {t t' : TS} (p : PS X e t) (h : ∀ D σ H, t' D σ H → t D σ H) : PS X e t' := ⟨fun pins s σ H D I q => p.run pins s σ H D I (h D σ H q)⟩
theorem _root_.L2.PSs.weak {X : Cx} {e : List Stmt} {t t' : TS} (p : PSs X e t) (h : ∀ D σ H, t' D σ H → t D σ H) : PSs X e t' := ⟨fun pins s σ H D I q => p.run pins s σ H D I (h D σ H q)⟩
theorem _root_.L2.PI.weak {X : Cx} {tg iter : Expr} {t t' : TI} (p : PI X tg iter t) (h : ∀ σ H Q, t' σ H Q → t σ H Q) : PI X tg iter t' := ⟨fun pins s σ H Q I q => p.run pins s σ H Q I (h σ H Q q)⟩

section
variable {Z : Whr} {X : Cx} {Γ : List Sv} {N : Addr → Prop} {H H1 H' : L2.Hp} {σ : St} {Q : VK} {E : XK} {W : WX} {a b e whole : Expr} {r r1 r2 : R D} {c c1 c2 : Cl} {pos : Pos}
/-! ### classes, names, constants -/
theorem CtV.le {c' : Cl} (f : ∀ a, H a = none → N a) (l : c.le c' = true) (h : CtV Z N H r c' Q E) : CtV Z N H r c Q E := by
  cases r with
  | ok u => exact fun x H' g k => h x H' g (k.le f l)
  | ex k fs => exact h
  | bad => exact h
theorem PEv.le {c' : Cl} (p : PEv Z X Γ e r c) (l : c.le c' = true := by rfl) : PEv Z X Γ e r c' := ⟨fun W tk => (p.run W tk).weak fun σ H Q ⟨N, o, h⟩ => ⟨N, o, CtV.le o.fr l h⟩⟩
theorem g_var (i : Nat) {x : Str} {pos : Pos} {d : D} (hi : Γ[i]? = some (.s d) := by rfl) (hN : X.N[i]? = some x := by rfl) (hv : Vis X.env.scope x := by first | exact Or.inl rfl | exact Or.inr (Or.inl rfl) | exact Or.inr (Or.inr rfl)) (hd : (x == ("__debug__" : Str)) = false := by decide)
    (hcd : (x == ("__classdict__" : Str)) = false := by decide) : PEv Z X Γ (.Name x pos) (.ok d) .C :=
  ⟨fun W _ => (pe_var hN hv hd hcd).weak fun σ H Q ⟨N, o, h⟩ => by
    obtain ⟨v, e1, r⟩ := pget o.sl hi
    cases v with
    | none => exact r.elim
    | some x => exact ⟨x, e1, h x H Grow.refl r⟩⟩
theorem RW.re {d : D} {x : V} (h : RW Z N H d x) : RE Z N H d x := by
  cases d with
  | lst ds => obtain ⟨a, vs, e, n, q, r⟩ := h; exact ⟨a, vs, e, q, r⟩
  | _ => exact h
theorem g_varO (i : Nat) {x : Str} {pos : Pos} {d : D} (hi : Γ[i]? = some (.o d) := by rfl) (hN : X.N[i]? = some x := by rfl) (hv : Vis X.env.scope x := by first | exact Or.inl rfl | exact Or.inr (Or.inl rfl) | exact Or.inr (Or.inr rfl)) (hd : (x == ("__debug__" : Str)) = false := by decide)
    (hcd : (x == ("__classdict__" : Str)) = false := by decide) : PEv Z X Γ (.Name x pos) (.ok d) .E :=
  ⟨fun W _ => (pe_var hN hv hd hcd).weak fun σ H Q ⟨N, o, h⟩ => by
    obtain ⟨v, e1, r⟩ := pget o.sl hi
    cases v with
    | none => exact r.elim
    | some x => exact ⟨x, e1, h x H Grow.refl (by have := RW.re r; cases d <;> exact this)⟩⟩
theorem PEv.const {d : D} {x : V} (p : PE X e (tC x)) (n : ∀ ds, d ≠ .lst ds) (r : ∀ H, RD Z (fun _ => False) H d x) : PEv Z X Γ e (.ok d) .S :=
  ⟨fun W _ => p.weak fun σ H Q ⟨N, o, h⟩ => h x H Grow.refl ⟨n, r H⟩⟩
theorem g_int {i j pos} : PEv Z X Γ (.Constant (.int i) j pos) (.ok (.int i)) .S := PEv.const pe_int (fun _ z => by cases z) fun _ => rfl
theorem g_bl {b j pos} : PEv Z X Γ (.Constant (.bool b) j pos) (.ok (.bl b)) .S := PEv.const pe_bl (fun _ z => by cases z) fun _ => rfl
theorem g_non {j pos} : PEv Z X Γ (.Constant .none j pos) (.ok .non) .S := PEv.const pe_non (fun _ z => by cases z) fun _ => rfl
theorem g_str {x j pos} : PEv Z X Γ (.Constant (.str x) j pos) (.ok (.str x)) .S := PEv.const pe_str (fun _ z => by cases z) fun _ => rfl
/-- a module's name: data -/
theorem g_glob {x : Str} {pos : Pos} {d : D} (n : ∀ ds, d ≠ .lst ds) (hg : Gl X x) (h : ∃ v u, X.mg x = some u ∧ RelV v u ∧ ∀ H, RD Z (fun _ => False) H d v) (hd : (x == ("__debug__" : Str)) = false := by decide) : PEv Z X Γ (.Name x pos) (.ok d) .S := by
  obtain ⟨v, u, hm, r, k⟩ := h
  exact PEv.const (pe_glob hg hm r hd) n k

/-! ### arguments -/
theorem ga_nil : PAv Z X Γ [] (.ok []) c := ⟨fun W _ => pa_nil.weak fun σ H Q ⟨N, o, h⟩ => h [] H Grow.refl .nil⟩
theorem ga_cons {es : List Expr} {A : R (List D)} (pe : PEv Z X Γ e r c) (pa : PAv Z X Γ es A c) (hs : starEach (e :: es) X.env = (false, eval e X.env) :: starEach es X.env := by rfl) : PAv Z X Γ (e :: es) (bnd r fun u => bnd A fun us => .ok (u :: us)) c := by
  refine ⟨fun W tk => (pa_cons (pe.run W tk) (pa.run W tk) hs).weak fun σ H Q ⟨N, o, h⟩ => ?_⟩
  show tV Z Γ r c W σ H fun x H1 => tVA Z Γ A c W σ H1 fun xs H2 => Q (x :: xs) H2
  refine ⟨N, o, ?_⟩
  cases r with
  | bad => exact h
  | ex k fs => exact h
  | ok u =>
    intro x H1 g1 r1
    refine ⟨N, o.grow g1, ?_⟩
    cases A with
    | bad => exact h
    | ex k fs => exact fun d H' g xd => h d H' (g1.trans g) xd
    | ok us => exact fun xs H2 g2 r2 => h (x :: xs) H2 (g1.trans g2) (.cons (r1.grow g2) (pimp (fun _ _ q => Cls.pre g1 q) r2))

/-! ### operations -/
def Fr (N : Addr → Prop) (H : L2.Hp) : Prop := ∀ a, H a = none → N a
def Snd1 (Z : Whr) (op : D → R D) (c : Cl) (r : V → L2.Hp → VK → Prop) : Prop :=
  ∀ N H x u Q, Fr N H → RE Z N H u x → CtV Z N H (op u) c Q noX → r x H Q
def Snd2 (Z : Whr) (op : D → D → R D) (c : Cl) (r : R2) : Prop :=
  ∀ N H x y u w Q, Fr N H → RE Z N H u x → RE Z N H w y → CtV Z N H (op u w) c Q noX → r x y H Q
def SndB1 (Z : Whr) (op : D → R Bool) (r : V → L2.Hp → VK → Prop) : Prop :=
  ∀ N H x u (Q : VK), Fr N H → RE Z N H u x → CtB Z H (op u) (fun b H' => Q (.bl b) H') noX → r x H Q
def SndB2 (Z : Whr) (op : D → D → R Bool) (r : R2) : Prop :=
  ∀ N H x y u w (Q : VK), Fr N H → RE Z N H u x → RE Z N H w y → CtB Z H (op u w) (fun b H' => Q (.bl b) H') noX → r x y H Q
def Calm1 {α : Type} (op : D → R α) : Prop := ∀ u c fs, op u ≠ .ex c fs
def Calm2 {α : Type} (op : D → D → R α) : Prop := ∀ u w c fs, op u w ≠ .ex c fs
theorem CtV.calm {E' : XK} (hc : ∀ k fs, r ≠ .ex k fs) (h : CtV Z N H r c Q E) : CtV Z N H r c Q E' := by
  cases r with
  | ok u => exact h
  | ex k fs => exact (hc k fs rfl).elim
  | bad => exact h
theorem CtB.calm {r : R Bool} {Q : Bool → L2.Hp → Prop} {E' : XK} (hc : ∀ k fs, r ≠ .ex k fs) (h : CtB Z H r Q E) : CtB Z H r Q E' := by
  cases r with
  | ok u => exact h
  | ex k fs => exact (hc k fs rfl).elim
  | bad => exact h
theorem un1_read {op : D → R D} {rr : V → L2.Hp → VK → Prop} (hs : Snd1 Z op c rr) (hc : Calm1 op) (q : tV Z Γ (bnd r op) c W σ H Q) : tUn rr (tV Z Γ r c1 W) σ H Q := by
  obtain ⟨N, o, h⟩ := q
  show tV Z Γ r c1 W σ H fun x H1 => rr x H1 Q
  refine ⟨N, o, ?_⟩
  cases r with
  | bad => exact h
  | ex k fs => exact h
  | ok u => exact fun x H1 g q => hs N H1 x u Q (o.grow g).fr (q.re o.fr) (CtV.calm (hc u) (CtV.pre g h))
theorem g_un1 {op : D → R D} {rr : V → L2.Hp → VK → Prop} (hp : ∀ ta, PE X e ta → PE X whole (tUn rr ta)) (hs : Snd1 Z op c rr) (hc : Calm1 op) (pe : PEv Z X Γ e r c1) : PEv Z X Γ whole (bnd r op) c :=
  ⟨fun W tk => (hp _ (pe.run W tk)).weak fun _ _ _ q => un1_read hs hc q⟩
theorem bin2_read {op : D → D → R D} {rr : R2} (hs : Snd2 Z op c rr) (hc : Calm2 op) (q : tV Z Γ (bnd r1 fun u => bnd r2 fun w => op u w) c W σ H Q) : tOp rr (tV Z Γ r1 c1 W) (tV Z Γ r2 c2 W) σ H Q := by
  obtain ⟨N, o, h⟩ := q
  show tV Z Γ r1 c1 W σ H fun x H1 => tV Z Γ r2 c2 W σ H1 fun y H2 => rr x y H2 Q
  refine ⟨N, o, ?_⟩
  cases r1 with
  | bad => exact h
  | ex k fs => exact h
  | ok u =>
    intro x H1 g1 q1
    refine ⟨N, o.grow g1, ?_⟩
    cases r2 with
    | bad => exact h
    | ex k fs => exact fun d H' g xd => h d H' (g1.trans g) xd
    | ok w =>
      exact fun y H2 g2 q2 => hs N H2 x y u w Q ((o.grow g1).grow g2).fr ((q1.grow g2).re o.fr) (q2.re (o.grow g1).fr) (CtV.calm (hc u w) (CtV.pre (g1.trans g2) h))
theorem g_bin2 {op : D → D → R D} {rr : R2} (hp : ∀ ta tb, PE X a ta → PE X b tb → PE X whole (tOp rr ta tb)) (hs : Snd2 Z op c rr) (hc : Calm2 op) (pa : PEv Z X Γ a r1 c1) (pb : PEv Z X Γ b r2 c2) : PEv Z X Γ whole (bnd r1 fun u => bnd r2 fun w => op u w) c :=
  ⟨fun W tk => (hp _ _ (pa.run W tk) (pb.run W tk)).weak fun _ _ _ q => bin2_read hs hc q⟩
/-- tests: their readings -/
theorem unB_read {op : D → R Bool} {rr : V → L2.Hp → VK → Prop} (hs : SndB1 Z op rr) (hc : Calm1 op) (q : ∃ N, Okv Z N Γ σ H ∧ CtB Z H (bnd r op) (fun b H' => Q (.bl b) H') (at_ W σ)) : tUn rr (tV Z Γ r c1 W) σ H Q := by
  obtain ⟨N, o, h⟩ := q
  show tV Z Γ r c1 W σ H fun x H1 => rr x H1 Q
  refine ⟨N, o, ?_⟩
  cases r with
  | bad => exact h
  | ex k fs => exact h
  | ok u => exact fun x H1 g q => hs N H1 x u Q (o.grow g).fr (q.re o.fr) (CtB.calm (hc u) (CtB.pre g h))
theorem binB_read {op : D → D → R Bool} {rr : R2} (hs : SndB2 Z op rr) (hc : Calm2 op) (q : ∃ N, Okv Z N Γ σ H ∧ CtB Z H (bnd r1 fun u => bnd r2 fun w => op u w) (fun b H' => Q (.bl b) H') (at_ W σ)) : tOp rr (tV Z Γ r1 c1 W) (tV Z Γ r2 c2 W) σ H Q := by
  obtain ⟨N, o, h⟩ := q
  show tV Z Γ r1 c1 W σ H fun x H1 => tV Z Γ r2 c2 W σ H1 fun y H2 => rr x y H2 Q
  refine ⟨N, o, ?_⟩
  cases r1 with
  | bad => exact h
  | ex k fs => exact h
  | ok u =>
    intro x H1 g1 q1
    refine ⟨N, o.grow g1, ?_⟩
    cases r2 with
    | bad => exact h
    | ex k fs => exact fun d H' g xd => h d H' (g1.trans g) xd
    | ok w =>
      exact fun y H2 g2 q2 => hs N H2 x y u w Q ((o.grow g1).grow g2).fr ((q1.grow g2).re o.fr) (q2.re (o.grow g1).fr) (CtB.calm (hc u w) (CtB.pre (g1.trans g2) h))
/-- a test's value -/
theorem CtV.vB {r : R Bool} (h : CtV Z N H (vB r) c Q E) (hc : c = .S) : CtB Z H r (fun b H' => Q (.bl b) H') E := by
  subst hc
  cases r with
  | ok b => exact fun H' g => h (.bl b) H' g ⟨fun _ z => (by cases z), rfl⟩
  | ex k fs => exact h
  | bad => exact h
theorem tV.vB {r : R Bool} (q : tV Z Γ (Qz.vB r) .S W σ H Q) : ∃ N, Okv Z N Γ σ H ∧ CtB Z H r (fun b H' => Q (.bl b) H') (at_ W σ) := by
  obtain ⟨N, o, h⟩ := q; exact ⟨N, o, h.vB rfl⟩
theorem tVT.vB {r : R Bool} {Q : Bool → L2.Hp → Prop} (q : tVT Z Γ r W σ H Q) : ∃ N, Okv Z N Γ σ H ∧ CtB Z H r (fun b H' => (fun x H' => ∃ k, x = V.bl k ∧ Q k H') (.bl b) H') (at_ W σ) := by
  obtain ⟨N, o, h⟩ := q
  refine ⟨N, o, ?_⟩
  cases r with
  | ok b => exact fun H' g => ⟨b, rfl, h H' g⟩
  | ex k fs => exact h
  | bad => exact h
end
end Qz
/-! Qz: operations keep their word: numbers, order, ==, +, items. -/
namespace Qz
open PySem PySem.Spec L2

theorem big_line {m : Nat} (h : m ≤ bigL) : m ≤ sizeLine := Nat.le_trans h (by rw [sizeLine_eq]; decide)
section
variable {Z : Whr} {X : Cx} {Γ : List Sv} {N : Addr → Prop} {H H1 H' : L2.Hp} {σ : St} {Q : VK} {E : XK}
/-- a scalar is given -/
theorem CtV.give {d : D} {x : V} (h : CtV Z N H (.ok d) .S Q E) (n : ∀ ds, d ≠ .lst ds) (r : RD Z (fun _ => False) H d x) : Q x H := h x H Grow.refl ⟨n, r⟩
theorem CtV.int {i : Int} (h : CtV Z N H (.ok (.int i)) .S Q E) : Q (.int i) H := h.give (fun _ z => by cases z) rfl
theorem CtV.here {d : D} {x : V} (h : CtV Z N H (.ok d) .C Q E) (r : RD Z N H d x) : Q x H := h x H Grow.refl r
/-- a new list is given -/
theorem CtV.newL {ds : List D} {vs : List V} {p : Addr} (h : CtV Z N H (.ok (.lst ds)) .T Q E) (hp : H p = none) (r : RDs Z N H ds vs) : Q (.ref p) (upd H p (.lst vs)) :=
  h _ _ (Grow.upd hp) ⟨p, vs, rfl, hp, upd_same, RDs.grow (Grow.upd hp) (r.off hp)⟩
/-- a tuple, new or old -/
theorem CtV.newT {ds : List D} {vs : List V} {p : Addr} {c : Cl} (h : CtV Z N H (.ok (.tup ds)) c Q E) (hc : c = .T ∨ c = .C) (hp : H p = none) (r : RDs Z N H ds vs) : Q (.ref p) (upd H p (.tup vs)) := by
  have k : RD Z N (upd H p (.tup vs)) (.tup ds) (.ref p) := ⟨p, vs, rfl, SqT.of upd_same, RDs.grow (Grow.upd hp) r⟩
  rcases hc with rfl | rfl <;> exact h _ _ (Grow.upd hp) k
theorem CtV.oldT {ds : List D} {x : V} {c : Cl} (h : CtV Z N H (.ok (.tup ds)) c Q E) (hc : c = .T ∨ c = .C) (r : RD Z N H (.tup ds) x) : Q x H := by
  rcases hc with rfl | rfl <;> exact h _ _ Grow.refl r

theorem two_ints {α : Type} {f : Int → Int → R α} {op : D → D → R α} (h : ∀ u w, (∃ i j, u = .int i ∧ w = .int j) ∨ op u w = .bad) : True := trivial
theorem calm_add : Calm2 oAdd := by intro u w c fs e; rw [oAdd_def] at e; unfold oAdd' at e; split at e <;> (try split at e) <;> cases e
theorem calm_sub : Calm2 oSub := by intro u w c fs e; rw [oSub_def] at e; unfold oSub' at e; split at e <;> cases e
theorem calm_mul : Calm2 oMul := by intro u w c fs e; rw [oMul_def] at e; unfold oMul' at e; split at e <;> (try split at e) <;> cases e
theorem calm_fdiv : Calm2 oFdiv := by intro u w c fs e; rw [oFdiv_def] at e; unfold oFdiv' at e; split at e <;> (try split at e) <;> cases e
theorem calm_mod : Calm2 oMod := by intro u w c fs e; rw [oMod_def] at e; unfold oMod' at e; split at e <;> (try split at e) <;> cases e
theorem calm_pow : Calm2 oPow := by intro u w c fs e; unfold oPow at e; split at e <;> (try split at e) <;> cases e
theorem calm_neg : Calm1 oNeg := by intro u c fs e; unfold oNeg at e; split at e <;> cases e
theorem calm_lt : Calm2 oLt := by intro u w c fs e; rw [oLt_def] at e; unfold oLt' at e; split at e <;> cases e
theorem calm_le : Calm2 oLe := by intro u w c fs e; rw [oLe_def] at e; unfold oLe' at e; split at e <;> cases e
theorem calm_gt : Calm2 oGt := by intro u w c fs e; rw [oGt_def] at e; unfold oGt' at e; split at e <;> cases e
theorem calm_ge : Calm2 oGe := by intro u w c fs e; rw [oGe_def] at e; unfold oGe' at e; split at e <;> cases e
theorem calm_eq : Calm2 oEq := by intro u w c fs e; rw [oEq_def] at e; unfold oEq' at e; split at e <;> (try split at e) <;> cases e
theorem calm_ne : Calm2 oNe := by
  intro u w c fs e
  unfold oNe at e
  cases q : oEq u w with
  | ok b => rw [q] at e; cases e
  | ex k f => exact (calm_eq u w k f q).elim
  | bad => rw [q] at e; cases e
theorem calm_isN : Calm1 oIsN := by intro u c fs e; cases e
theorem calm_notN : Calm1 oNotN := by intro u c fs e; cases e
theorem withI_calm {α : Type} {d : D} {k : List D → R α} (h : ∀ xs c fs, k xs ≠ .ex c fs) {c : Nat} {fs : List D} : withI d k ≠ .ex c fs := by
  intro e; rw [withI_def] at e; unfold withI' at e; split at e
  · exact h _ _ _ e
  · exact h _ _ _ e
  · exact h _ _ _ e
  · cases e
theorem withL_calm {α : Type} {d : D} {k : List D → R α} (h : ∀ xs c fs, k xs ≠ .ex c fs) {c : Nat} {fs : List D} : withL d k ≠ .ex c fs := by
  intro e; rw [withL_def] at e; unfold withL' at e; split at e
  · exact h _ _ _ e
  · cases e
theorem ofO_calm {α : Type} {o : Option α} {c : Nat} {fs : List D} : ofO o ≠ .ex c fs := by intro e; rw [ofO_def] at e; unfold ofO' at e; split at e <;> cases e
theorem calm_get : Calm2 oGet := by
  intro u w c fs e; rw [oGet_def] at e; unfold oGet' at e; split at e
  · exact withI_calm (fun _ _ _ => ofO_calm) e
  · cases e
theorem calm_cut {lo hi : Option Int} : Calm1 (oCut lo hi) := by intro u c fs e; rw [oCut_def] at e; unfold oCut' at e; split at e <;> cases e

/-! ### ints -/
theorem snd_cmpI {op : D → D → R Bool} {f : Int → Int → Bool} (h : ∀ i j, op (.int i) (.int j) = .ok (f i j)) (h' : ∀ u w, (∃ i j, u = .int i ∧ w = .int j) ∨ op u w = .bad) : SndB2 Z op (rI0 fun i j => .bl (f i j)) := by
  intro N H x y u w Q hf r1 r2 c
  rcases h' u w with ⟨i, j, rfl, rfl⟩ | e
  · rw [h] at c
    obtain rfl : x = .int i := r1
    obtain rfl : y = .int j := r2
    exact ⟨i, j, rfl, rfl, c H Grow.refl⟩
  · rw [e] at c; exact c.elim
theorem snd_lt : SndB2 Z oLt (rI0 fun i j => .bl (decide (i < j))) := snd_cmpI (fun _ _ => by rw [oLt_def]; rfl) fun u w => by rw [oLt_def]; cases u <;> cases w <;> first | exact .inr rfl | exact .inl ⟨_, _, rfl, rfl⟩
theorem snd_le : SndB2 Z oLe (rI0 fun i j => .bl (decide (i ≤ j))) := snd_cmpI (fun _ _ => by rw [oLe_def]; rfl) fun u w => by rw [oLe_def]; cases u <;> cases w <;> first | exact .inr rfl | exact .inl ⟨_, _, rfl, rfl⟩
theorem snd_gt : SndB2 Z oGt (rI0 fun i j => .bl (decide (j < i))) := snd_cmpI (fun _ _ => by rw [oGt_def]; rfl) fun u w => by rw [oGt_def]; cases u <;> cases w <;> first | exact .inr rfl | exact .inl ⟨_, _, rfl, rfl⟩
theorem snd_ge : SndB2 Z oGe (rI0 fun i j => .bl (decide (j ≤ i))) := snd_cmpI (fun _ _ => by rw [oGe_def]; rfl) fun u w => by rw [oGe_def]; cases u <;> cases w <;> first | exact .inr rfl | exact .inl ⟨_, _, rfl, rfl⟩
theorem snd_sub : Snd2 Z oSub .S (rI0 fun i j => .int (i - j)) := by
  intro N H x y u w Q hf r1 r2 c
  rw [oSub_def] at c; unfold oSub' at c
  split at c
  · rename_i i j
    obtain rfl : x = .int i := r1
    obtain rfl : y = .int j := r2
    exact ⟨i, j, rfl, rfl, c.int⟩
  · exact c.elim
theorem snd_mod : Snd2 Z oMod .S (rI (fun _ j => j ≠ 0) fun i j => .int (i.fmod j)) := by
  intro N H x y u w Q hf r1 r2 c
  rw [oMod_def] at c; unfold oMod' at c
  split at c
  · rename_i i j
    obtain rfl : x = .int i := r1
    obtain rfl : y = .int j := r2
    split at c
    · rename_i hj
      exact ⟨i, j, rfl, rfl, hj, c.int⟩
    · exact c.elim
  · exact c.elim
theorem snd_pow : Snd2 Z oPow .S (rI CPow fun i j => .int (i ^ j.toNat)) := by
  intro N H x y u w Q hf r1 r2 c
  unfold oPow at c
  split at c
  · rename_i i j
    obtain rfl : x = .int i := r1
    obtain rfl : y = .int j := r2
    split at c
    · rename_i hj
      have hj' := of_decide_eq_true hj
      exact ⟨i, j, rfl, rfl, hj', c.int⟩
    · exact c.elim
  · exact c.elim
noncomputable def rFdiv : R2 := fun x y H Q => rI CDivN (fun i j => .int (i.fdiv j)) x y H Q ∨ rI CDivW (fun i j => .int (i / j)) x y H Q
theorem snd_fdiv : Snd2 Z oFdiv .S rFdiv := by
  intro N H x y u w Q hf r1 r2 c
  rw [oFdiv_def] at c; unfold oFdiv' at c
  split at c
  · rename_i i j
    obtain rfl : x = .int i := r1
    obtain rfl : y = .int j := r2
    split at c
    · rename_i hj
      unfold okDiv at hj
      rcases Bool.or_eq_true_iff.mp hj with hj | hj
      · have hj' := of_decide_eq_true hj
        exact .inl ⟨i, j, rfl, rfl, hj', c.int⟩
      · have hj := of_decide_eq_true hj
        have e : i.fdiv j = i / j := Int.fdiv_eq_ediv_of_nonneg i (by omega)
        rw [e] at c
        exact .inr ⟨i, j, rfl, rfl, wide_div hj.1 hj.2 (by decide) (by decide), c.int⟩
    · exact c.elim
  · exact c.elim
theorem op_fdivA : OpR X (binaryOp .FloorDiv) rFdiv := op_fdivN.or op_fdivW
theorem rep_repD (k : Nat) {xs : List D} {vs : List V} (r : RDs Z N H xs vs) : RDs Z N H (repD xs k) (List.replicate k vs).flatten := by
  induction k with
  | zero => simp [repD, RDs]
  | succ k ih =>
    rw [List.replicate_succ, List.flatten_cons]
    exact RDs.append r ih
/-- a list of the module is no tracked one: what `*` and + ask is a tracked list -/
noncomputable def rMul : R2 := fun x y H Q => rI CMul (fun i j => .int (i * j)) x y H Q ∨ rI CMulW (fun i j => .int (i * j)) x y H Q ∨ rRep x y H Q
theorem op_mulA : OpR X (binaryOp .Mult) rMul := op_mul.or (op_mulW.or op_rep)

theorem snd_mul : Snd2 Z oMul .T rMul := by
  intro N H x y u w Q hf r1 r2 c
  rw [oMul_def] at c; unfold oMul' at c
  split at c
  · rename_i i j
    obtain rfl : x = .int i := r1
    obtain rfl : y = .int j := r2
    split at c
    · rename_i hj
      have q : Q (.int (i * j)) H := c _ H Grow.refl rfl
      unfold okMul at hj
      rcases Bool.or_eq_true_iff.mp hj with hj | hj
      · rcases Bool.or_eq_true_iff.mp hj with hj | hj
        · exact .inl ⟨i, j, rfl, rfl, .inl (of_decide_eq_true hj), q⟩
        · exact .inl ⟨i, j, rfl, rfl, .inr (of_decide_eq_true hj), q⟩
      · rw [Bool.and_eq_true] at hj
        exact .inr (.inl ⟨i, j, rfl, rfl, wide_mul (of_decide_eq_true hj.1) (of_decide_eq_true hj.2) (by decide) (by decide) (by decide), q⟩)
    · exact c.elim
  · rename_i xs j
    obtain rfl : y = .int j := r2
    obtain ⟨a, vs, rfl, q, r⟩ := r1
    split at c
    · rename_i hj
      rw [Bool.and_eq_true] at hj
      have h1 := of_decide_eq_true hj.1
      have h2 := of_decide_eq_true hj.2
      have l := RDs.len r
      exact .inr (.inr ⟨a, j, vs, rfl, rfl, q, by omega, by omega, by rw [l]; exact big_line h2, fun p hp => c.newL hp (rep_repD _ r)⟩)
    · exact c.elim
  · exact c.elim
theorem snd_neg : Snd1 Z oNeg .S (rU fun i => .int (-i)) := by
  intro N H x u Q hf r1 c
  unfold oNeg at c
  split at c
  · rename_i i
    obtain rfl : x = .int i := r1
    exact ⟨i, rfl, c.int⟩
  · exact c.elim
/-! ### + -/
noncomputable def rAdd2 (K : PySem.W.Frag) : R2 := fun x y H Q => rI0 (fun i j => .int (i + j)) x y H Q ∨ rCatA K x y H Q ∨ rCat x y H Q
theorem op_addA : OpR X (binaryOp .Add) (rAdd2 X.K) := op_add.or (op_catA.or op_cat)
theorem snd_add : Snd2 Z oAdd .T (rAdd2 Z.K) := by
  intro N H x y u w Q hf r1 r2 c
  rw [oAdd_def] at c; unfold oAdd' at c
  split at c
  · rename_i i j
    obtain rfl : x = .int i := r1
    obtain rfl : y = .int j := r2
    exact .inl ⟨i, j, rfl, rfl, c _ H Grow.refl rfl⟩
  · rename_i xs ys
    obtain ⟨a, vs, rfl, qa, ra⟩ := r1
    obtain ⟨b, ws, rfl, qb, rb⟩ := r2
    split at c
    · rename_i hl
      have la := RDs.len ra
      have lb := RDs.len rb
      refine .inr (.inl ⟨a, b, vs, ws, rfl, rfl, qa, qb, by rw [la, lb]; exact big_line hl, fun e => ?_, fun e1 e2 => ?_, fun e1 e2 p hp => ?_⟩)
      · have z := (RDs.nil_iff ra).mp e
        subst z
        exact c.oldT (.inl rfl) ⟨b, ws, rfl, qb, rb⟩
      · have z := (RDs.nil_iff rb).mp e2
        subst z
        rw [List.append_nil] at c
        exact c.oldT (.inl rfl) ⟨a, vs, rfl, qa, ra⟩
      · exact c.newT (.inl rfl) hp (RDs.append ra rb)
    · exact c.elim
  · rename_i xs ys
    obtain ⟨a, vs, rfl, qa, ra⟩ := r1
    obtain ⟨b, ws, rfl, qb, rb⟩ := r2
    split at c
    · rename_i hl
      have la := RDs.len ra
      have lb := RDs.len rb
      exact .inr (.inr ⟨a, b, vs, ws, rfl, rfl, qa, qb, by rw [la, lb]; exact big_line hl, fun p hp => c.newL hp (RDs.append ra rb)⟩)
    · exact c.elim
  · exact c.elim

/-! ### is None -/
theorem isNon_iff {u : D} {x : V} (r : RE Z N H u x) : isNon u = decide (x = .non) := by
  cases u with
  | non => obtain rfl : x = .non := r; rfl
  | bl b => obtain rfl : x = .bl b := r; rfl
  | int b => obtain rfl : x = .int b := r; rfl
  | str b => obtain rfl : x = .str b := r; rfl
  | fn b => obtain rfl : x = .ref (Z.G b) := r; rfl
  | tup ds => obtain ⟨a, vs, rfl, _⟩ := r; rfl
  | lst ds => obtain ⟨a, vs, rfl, _⟩ := r; rfl
  | rol ds => obtain ⟨a, vs, rfl, _⟩ := r; rfl
  | dct _ _ => exact r.elim
  | set _ => exact r.elim
theorem snd_isN : SndB1 Z oIsN (fun x H Q => Q (.bl (decide (x = .non))) H) := by
  intro N H x u Q hf r1 c
  unfold oIsN at c
  rw [isNon_iff r1] at c
  exact c H Grow.refl
theorem snd_notN : SndB1 Z oNotN (fun x H Q => Q (.bl (!decide (x = .non))) H) := by
  intro N H x u Q hf r1 c
  unfold oNotN at c
  rw [isNon_iff r1] at c
  exact c H Grow.refl
end
/-! ### == -/
mutual
noncomputable def D.py : D → PyData
  | .non => .none
  | .bl b => .bool b
  | .int i => .int i
  | .str x => .str x
  | .tup xs => .tuple (D.pys xs)
  | .lst xs => .list (D.pys xs)
  | .fn _ => .none
  | .dct _ _ => .none
  | .set _ => .none
  | .rol _ => .none
noncomputable def D.pys : List D → List PyData
  | [] => []
  | x :: xs => D.py x :: D.pys xs
end
section
variable {Z : Whr} {X : Cx} {Γ : List Sv} {N : Addr → Prop} {H H1 H' : L2.Hp} {σ : St} {Q : VK} {E : XK}
mutual
theorem RD.dp : ∀ (n : Nat) (d : D) (v : V), d.dat n = true → RD Z N H d v → Dp Z.K H v d.py
  | _, .non, v, _, r => by cases (show v = .non from r); exact .non
  | _, .bl b, v, _, r => by cases (show v = .bl b from r); exact .bl b
  | _, .int i, v, _, r => by cases (show v = .int i from r); exact .int i
  | _, .str x, v, _, r => by cases (show v = .str x from r); exact .str x
  | _, .fn i, v, e, r => by cases e
  | _, .dct _ _, v, e, r => r.elim
  | _, .set _, v, e, r => r.elim
  | _, .rol _, v, e, r => by cases e
  | 0, .tup ds, v, e, r => by cases e
  | 0, .lst ds, v, e, r => by cases e
  | n + 1, .tup ds, v, e, r => by
    obtain ⟨a, vs, rfl, q, s⟩ := r
    exact .tup q (RDs.dp n ds vs e s)
  | n + 1, .lst ds, v, e, r => by
    obtain ⟨a, vs, rfl, _, q, s⟩ := r
    exact .lst (SqL.of q) (RDs.dp n ds vs e s)
theorem RDs.dp : ∀ (n : Nat) (ds : List D) (vs : List V), D.dats n ds = true → RDs Z N H ds vs → DpAll Z.K H vs (D.pys ds)
  | _, [], vs, _, r => by cases (show vs = [] from r); exact .nil
  | n, d :: ds, vs, e, r => by
    obtain ⟨v, t, rfl, q, s⟩ := r
    unfold D.dats at e
    rw [Bool.and_eq_true] at e
    exact .cons (RD.dp n d v e.1 q) (RDs.dp n ds t e.2 s)
end
theorem RE.dp {n : Nat} {d : D} {v : V} (e : d.dat n = true) (r : RE Z N H d v) : Dp Z.K H v d.py := by
  cases d with
  | lst ds =>
    cases n with
    | zero => cases e
    | succ n =>
      obtain ⟨a, vs, rfl, q, s⟩ := r
      exact .lst (SqL.of q) (RDs.dp n ds vs e s)
  | _ => exact RD.dp (N := N) n _ v e r
mutual
theorem D.py_eqv : ∀ (n m : Nat) (a b : D), a.dat n = true → b.dat m = true → PyData.eqv a.py b.py = D.eqv a b
  | n, m, .non, b, _, hb => by cases b <;> first | rfl | (simp [D.py, PyData.eqv, D.eqv]; done) | (cases m <;> cases hb)
  | n, m, .bl x, b, _, hb => by cases b <;> first | rfl | (simp [D.py, PyData.eqv, D.eqv]; done) | (cases m <;> cases hb)
  | n, m, .int x, b, _, hb => by cases b <;> first | rfl | (simp [D.py, PyData.eqv, D.eqv]; done) | (cases m <;> cases hb)
  | n, m, .str x, b, _, hb => by cases b <;> first | rfl | (simp [D.py, PyData.eqv, D.eqv]; done) | (cases m <;> cases hb)
  | n, m, .fn i, b, ha, _ => by cases n <;> cases ha
  | n, m, .dct _ _, b, ha, _ => by cases n <;> cases ha
  | n, m, .set _, b, ha, _ => by cases n <;> cases ha
  | n, m, .rol _, b, ha, _ => by cases n <;> cases ha
  | 0, m, .tup xs, b, ha, hb => by cases ha
  | 0, m, .lst xs, b, ha, hb => by cases ha
  | n + 1, m, .tup xs, b, ha, hb => by
    cases b with
    | tup ys =>
      simp only [D.py, PyData.eqv, D.eqv]
      cases m with
      | zero => cases hb
      | succ m => exact D.pys_eqv n m xs ys ha hb
    | fn i => cases m <;> cases hb
    | dct _ _ => cases m <;> cases hb
    | set _ => cases m <;> cases hb
    | rol _ => cases m <;> cases hb
    | _ => simp [D.py, PyData.eqv, D.eqv]
  | n + 1, m, .lst xs, b, ha, hb => by
    cases b with
    | lst ys =>
      simp only [D.py, PyData.eqv, D.eqv]
      cases m with
      | zero => cases hb
      | succ m => exact D.pys_eqv n m xs ys ha hb
    | fn i => cases m <;> cases hb
    | dct _ _ => cases m <;> cases hb
    | set _ => cases m <;> cases hb
    | rol _ => cases m <;> cases hb
    | _ => simp [D.py, PyData.eqv, D.eqv]
theorem D.pys_eqv : ∀ (n m : Nat) (xs ys : List D), D.dats n xs = true → D.dats m ys = true → PyData.eqvAll (D.pys xs) (D.pys ys) = D.eqvs xs ys
  | _, _, [], [], _, _ => by simp [D.pys, PyData.eqvAll, D.eqvs]
  | _, _, [], y :: ys, _, _ => by simp [D.pys, PyData.eqvAll, D.eqvs]
  | _, _, x :: xs, [], _, _ => by simp [D.pys, PyData.eqvAll, D.eqvs]
  | n, m, x :: xs, y :: ys, ha, hb => by
    unfold D.dats at ha hb
    rw [Bool.and_eq_true] at ha hb
    simp only [D.pys, PyData.eqvAll, D.eqvs]
    rw [D.py_eqv n m x y ha.1 hb.1, D.pys_eqv n m xs ys ha.2 hb.2]
end
mutual
theorem D.py_plain : ∀ d : D, (D.py d).plain = true
  | .non => rfl
  | .bl _ => rfl
  | .int _ => rfl
  | .str _ => rfl
  | .fn _ => rfl
  | .dct _ _ => rfl
  | .set _ => rfl
  | .rol _ => rfl
  | .tup xs => by simp only [D.py, PyData.plain]; exact D.pys_plain xs
  | .lst xs => by simp only [D.py, PyData.plain]; exact D.pys_plain xs
theorem D.pys_plain : ∀ xs : List D, PyData.plainAll (D.pys xs) = true
  | [] => rfl
  | x :: xs => by simp only [D.pys, PyData.plainAll, D.py_plain x, D.pys_plain xs, Bool.and_self]
end
mutual
theorem D.py_deep : ∀ (n : Nat) (d : D), d.dat n = true → (D.py d).depth ≤ n
  | n, .non, _ => Nat.zero_le _
  | n, .bl _, _ => Nat.zero_le _
  | n, .int _, _ => Nat.zero_le _
  | n, .str _, _ => Nat.zero_le _
  | n, .fn _, _ => Nat.zero_le _
  | n, .dct _ _, _ => Nat.zero_le _
  | n, .set _, _ => Nat.zero_le _
  | n, .rol _, _ => Nat.zero_le _
  | 0, .tup xs, h => by cases h
  | 0, .lst xs, h => by cases h
  | n + 1, .tup xs, h => by simp only [D.py, PyData.depth]; have := D.pys_deep n xs h; omega
  | n + 1, .lst xs, h => by simp only [D.py, PyData.depth]; have := D.pys_deep n xs h; omega
theorem D.pys_deep : ∀ (n : Nat) (xs : List D), D.dats n xs = true → PyData.depthAll (D.pys xs) ≤ n
  | n, [], _ => Nat.zero_le _
  | n, x :: xs, h => by
    unfold D.dats at h
    rw [Bool.and_eq_true] at h
    simp only [D.pys, PyData.depthAll]
    have h1 := D.py_deep n x h.1
    have h2 := D.pys_deep n xs h.2
    omega
end
noncomputable def rEqP (K : PySem.W.Frag) : R2 := fun x y H Q => ∃ d e, Dp K H x d ∧ Dp K H y e ∧ d.plain = true ∧ e.plain = true ∧ d.depth ≤ 61 ∧ Q (.bl (PyData.eqv d e)) H
noncomputable def rNeP (K : PySem.W.Frag) : R2 := fun x y H Q => ∃ d e, Dp K H x d ∧ Dp K H y e ∧ d.plain = true ∧ e.plain = true ∧ d.depth ≤ 61 ∧ Q (.bl (!PyData.eqv d e)) H
theorem op_eqP (hu : X.A.units + 64 < cLine) : OpR X (compareOp .Eq) (rEqP X.K) := by
  intro pins s σ H x y v u Q I rx ry q
  obtain ⟨d, e, hd, he, pd, pe, hz, q⟩ := q
  obtain ⟨as, r1⟩ := Dp.reads I d x v hd rx
  obtain ⟨bs, r2⟩ := Dp.reads I e y u he ry
  exact SeqAt.eq_plain r1 r2 pd pe (by have := Nat.min_le_left d.depth e.depth; omega) ⟨.bl _, H, I, rfl, q⟩
theorem op_neP (hu : X.A.units + 64 < cLine) : OpR X (compareOp .NotEq) (rNeP X.K) := by
  intro pins s σ H x y v u Q I rx ry q
  obtain ⟨d, e, hd, he, pd, pe, hz, q⟩ := q
  obtain ⟨as, r1⟩ := Dp.reads I d x v hd rx
  obtain ⟨bs, r2⟩ := Dp.reads I e y u he ry
  exact SeqAt.ne_plain r1 r2 pd pe (by have := Nat.min_le_left d.depth e.depth; omega) ⟨.bl _, H, I, rfl, q⟩
theorem oEq_ok {u w : D} {x y : V} {k : Bool} (r1 : RE Z N H u x) (r2 : RE Z N H w y) (e : oEq u w = .ok k) :
    ∃ d e, Dp Z.K H x d ∧ Dp Z.K H y e ∧ d.plain = true ∧ e.plain = true ∧ d.depth ≤ 61 ∧ PyData.eqv d e = k := by
  have key : ∀ (n m : Nat), n ≤ 61 → D.dat n u = true → D.dat m w = true → D.eqv u w = k → ∃ d e, Dp Z.K H x d ∧ Dp Z.K H y e ∧ d.plain = true ∧ e.plain = true ∧ d.depth ≤ 61 ∧ PyData.eqv d e = k := fun n m hn h1 h2 h3 =>
    ⟨u.py, w.py, RE.dp h1 r1, RE.dp h2 r2, D.py_plain _, D.py_plain _, Nat.le_trans (D.py_deep n u h1) hn, by rw [D.py_eqv n m u w h1 h2]; exact h3⟩
  rw [oEq_def] at e; unfold oEq' at e
  split at e
  · rename_i i j
    cases e
    exact key 0 0 (by decide) rfl rfl rfl
  · split at e
    · rename_i hc
      rw [Bool.and_eq_true] at hc
      cases e
      exact key 60 60 (by decide) hc.1 hc.2 rfl
    · cases e
theorem snd_eq : SndB2 Z oEq (rEqP Z.K) := by
  intro N H x y u w Q hf r1 r2 c
  cases q : oEq u w with
  | ok k =>
    rw [q] at c
    obtain ⟨d, e', h1, h2, h3, h4, h5, h6⟩ := oEq_ok r1 r2 q
    exact ⟨d, e', h1, h2, h3, h4, h5, by rw [h6]; exact c H Grow.refl⟩
  | ex k fs => exact (calm_eq _ _ _ _ q).elim
  | bad => rw [q] at c; exact c.elim
theorem snd_ne : SndB2 Z oNe (rNeP Z.K) := by
  intro N H x y u w Q hf r1 r2 c
  unfold oNe at c
  cases q : oEq u w with
  | ok k =>
    rw [q] at c
    obtain ⟨d, e', h1, h2, h3, h4, h5, h6⟩ := oEq_ok r1 r2 q
    exact ⟨d, e', h1, h2, h3, h4, h5, by rw [h6]; exact c H Grow.refl⟩
  | ex k fs => exact (calm_eq _ _ _ _ q).elim
  | bad => rw [q] at c; exact c.elim

/-! ### what a value holds -/
/-- a sequence that is read -/
noncomputable def Sq (K : PySem.W.Frag) (H : L2.Hp) (x : V) (vs : List V) : Prop := ∃ a, x = .ref a ∧ (SqL K H a vs ∨ SqT K H a vs)
theorem withI_ok {α : Type} {d : D} {x : V} {k : List D → R α} (r : RE Z N H d x) (ne : withI d k ≠ .bad) : ∃ ds vs, withI d k = k ds ∧ Sq Z.K H x vs ∧ RDs Z N H ds vs ∧ items d = some ds := by
  cases d <;> first | (exact absurd rfl ne) | skip
  all_goals
    rename_i ds
    obtain ⟨a, vs, e, q, s⟩ := RE.itemsE r rfl
    exact ⟨ds, vs, rfl, ⟨a, e, q⟩, s, rfl⟩
theorem withL_ok {α : Type} {d : D} {x : V} {k : List D → R α} (r : RE Z N H d x) (ne : withL d k ≠ .bad) : ∃ ds a vs, withL d k = k ds ∧ x = .ref a ∧ H a = some (.lst vs) ∧ RDs Z N H ds vs ∧ d = .lst ds := by
  cases d <;> first | (exact absurd rfl ne) | skip
  rename_i ds
  obtain ⟨a, vs, e, q, s⟩ := r
  exact ⟨ds, a, vs, rfl, e, q, s, rfl⟩
theorem atD_atI {α : Type} (xs : List α) (i : Int) : atD xs i = L2.atI xs i := by
  rw [atD_def]; unfold atD'; unfold L2.atI; unfold L2.ixN
  by_cases h0 : 0 ≤ i
  · rw [if_pos h0, if_pos h0]
    by_cases h1 : i < xs.length
    · rw [if_pos h1]; rfl
    · rw [if_neg h1, List.getElem?_eq_none (by omega)]; rfl
  · rw [if_neg h0, if_neg h0]
    by_cases h1 : -(xs.length : Int) ≤ i
    · rw [if_pos (by omega), if_pos h1, Int.add_comm]; rfl
    · rw [if_neg (by omega), if_neg h1]; rfl
theorem RDs.at' {xs : List D} {vs : List V} {i : Int} {d : D} (p : RDs Z N H xs vs) (e : L2.atI xs i = some d) : ∃ b, L2.atI vs i = some b ∧ RD Z N H d b := by
  unfold L2.atI at e ⊢
  have l := RDs.len p
  rw [l]
  cases q : L2.ixN xs.length i with
  | none => rw [q] at e; cases e
  | some j =>
    rw [q] at e
    obtain ⟨b, h1, h2⟩ := RDs.get p e
    exact ⟨b, h1, h2⟩
theorem CtV.ne {r : R D} {c : Cl} (h : CtV Z N H r c Q E) : r ≠ .bad := by rintro rfl; exact h
theorem CtB.ne {r : R Bool} {Q : Bool → L2.Hp → Prop} (h : CtB Z H r Q E) : r ≠ .bad := by rintro rfl; exact h
theorem snd_get : Snd2 Z oGet .C (rIx Z.K) := by
  intro N H x y u w Q hf r1 r2 c
  rw [oGet_def] at c; unfold oGet' at c
  split at c
  · rename_i i
    obtain rfl : y = .int i := r2
    obtain ⟨ds, vs, e, ⟨a, rfl, s⟩, rv, _⟩ := withI_ok r1 c.ne
    rw [e] at c
    rw [ofO_def] at c; unfold ofO' at c
    split at c
    · rename_i d ed
      rw [atD_atI] at ed
      obtain ⟨b, h1, h2⟩ := RDs.at' rv ed
      rcases s with s | s
      · exact .inl ⟨a, vs, i, b, rfl, rfl, s, h1, c.here h2⟩
      · exact .inr (.inl ⟨a, vs, i, b, rfl, rfl, s, h1, c.here h2⟩)
    · exact c.elim
  · exact c.elim
end
end Qz
/-! Qz: built-ins keep their word. -/
namespace Qz
open PySem PySem.Spec L2

section
variable {Z : Whr} {X : Cx} {Γ : List Sv} {N : Addr → Prop} {H H1 H' : L2.Hp} {σ : St} {Q : VK} {E : XK}
theorem calm_len : Calm1 oLen := by intro u c fs e; exact withI_calm (fun _ _ _ e => by cases e) e
theorem bnd_calm {α β : Type} {r : R α} {k : α → R β} (h1 : ∀ c fs, r ≠ .ex c fs) (h2 : ∀ a c fs, k a ≠ .ex c fs) {c : Nat} {fs : List D} : bnd r k ≠ .ex c fs := by
  intro e
  cases r with
  | ok a => exact h2 a c fs e
  | ex c fs => exact h1 _ _ rfl
  | bad => cases e
theorem calm_sum : Calm1 oSum := by intro u c fs e; exact withI_calm (fun _ _ _ e => bnd_calm (fun _ _ => ofO_calm) (fun _ _ _ e => by cases e) e) e
theorem calm_all : Calm1 oAll := by intro u c fs e; exact withL_calm (fun _ _ _ e => bnd_calm (fun _ _ => ofO_calm) (fun _ _ _ e => by cases e) e) e
theorem calm_any : Calm1 oAny := by intro u c fs e; exact withL_calm (fun _ _ _ e => bnd_calm (fun _ _ => ofO_calm) (fun _ _ _ e => by cases e) e) e
theorem calm_min2 : Calm2 oMin2 := by intro u w c fs e; rw [oMin2_def] at e; unfold oMin2' at e; split at e <;> cases e
theorem calm_max2 : Calm2 oMax2 := by intro u w c fs e; rw [oMax2_def] at e; unfold oMax2' at e; split at e <;> cases e
theorem calm_min1 : Calm1 oMin1 := by intro u c fs e; exact withL_calm (fun _ _ _ e => by split at e <;> cases e) e
theorem calm_max1 : Calm1 oMax1 := by intro u c fs e; exact withL_calm (fun _ _ _ e => by split at e <;> cases e) e
theorem calm_abs : Calm1 oAbs := by intro u c fs e; unfold oAbs at e; split at e <;> cases e
theorem calm_int : Calm1 oInt := by intro u c fs e; unfold oInt at e; split at e <;> cases e
theorem calm_tuple : Calm1 oTuple := by intro u c fs e; exact withI_calm (fun _ _ _ e => by cases e) e
theorem calm_list : Calm1 oList := by intro u c fs e; exact withI_calm (fun _ _ _ e => by cases e) e
theorem calm_sorted : Calm1 oSorted := by intro u c fs e; rw [oSorted_def] at e; exact withL_calm (fun _ _ _ e => by split at e <;> cases e) e
theorem calm_isi {ts : List Ty} : Calm1 (oIsi ts) := by intro u c fs e; rw [oIsi_def] at e; unfold oIsi' at e; split at e <;> cases e

theorem intsD_ok : ∀ {ds : List D} {is : List Int} {vs : List V}, intsD ds = some is → RDs Z N H ds vs → vs = is.map V.int
  | [], _, _, e, r => by cases e; exact r
  | .int i :: ds, _, _, e, r => by
    rw [intsD_def] at e; unfold intsD' at e; try rw [← intsD_def] at e
    split at e
    · rename_i is' e'
      cases e
      obtain ⟨v, t, rfl, q, s⟩ := r
      rw [intsD_ok e' s, show v = .int i from q]; rfl
    · cases e
  | .non :: _, _, _, e, _ => by cases e
  | .bl _ :: _, _, _, e, _ => by cases e
  | .str _ :: _, _, _, e, _ => by cases e
  | .tup _ :: _, _, _, e, _ => by cases e
  | .fn _ :: _, _, _, e, _ => by cases e
  | .lst _ :: _, _, _, e, _ => by cases e
  | .rol _ :: _, _, _, e, _ => by cases e
  | .dct _ _ :: _, _, _, e, _ => by cases e
  | .set _ :: _, _, _, e, _ => by cases e
theorem blsD_ok : ∀ {ds : List D} {is : List Bool} {vs : List V}, blsD ds = some is → RDs Z N H ds vs → vs = is.map V.bl
  | [], _, _, e, r => by cases e; exact r
  | .bl i :: ds, _, _, e, r => by
    rw [blsD_def] at e; unfold blsD' at e; try rw [← blsD_def] at e
    split at e
    · rename_i is' e'
      cases e
      obtain ⟨v, t, rfl, q, s⟩ := r
      rw [blsD_ok e' s, show v = .bl i from q]; rfl
    · cases e
  | .non :: _, _, _, e, _ => by cases e
  | .int _ :: _, _, _, e, _ => by cases e
  | .str _ :: _, _, _, e, _ => by cases e
  | .tup _ :: _, _, _, e, _ => by cases e
  | .fn _ :: _, _, _, e, _ => by cases e
  | .lst _ :: _, _, _, e, _ => by cases e
  | .rol _ :: _, _, _, e, _ => by cases e
  | .dct _ _ :: _, _, _, e, _ => by cases e
  | .set _ :: _, _, _, e, _ => by cases e
theorem sumI_sum : ∀ is : List Int, sumI is = is.sum
  | [] => rfl
  | i :: is => by rw [sumI_cons, sumI_sum is, List.sum_cons]
theorem ofO_some {α : Type} {o : Option α} (h : ofO o ≠ .bad) : ∃ a, o = some a := by
  cases o with
  | none => exact absurd rfl h
  | some a => exact ⟨a, rfl⟩
theorem bnd_bad {α β : Type} {r : R α} {k : α → R β} (h : bnd r k ≠ .bad) : r ≠ .bad := by rintro rfl; exact h rfl

noncomputable def rLenQ (K : PySem.W.Frag) : List V → L2.Hp → VK → Prop := fun xs H Q => ∃ x vs, xs = [x] ∧ Sq K H x vs ∧ Q (.int vs.length) H
theorem cr_lenQ : CallR X (.builtin "len") (rLenQ X.K) := fun pins s σ H xs us Q I r q => by
  obtain ⟨x, vs, e, ⟨a, rfl, s'⟩, q⟩ := q
  exact call_len_seq pins s σ H xs us Q I r ⟨a, vs, e, s', q⟩
noncomputable def rSumQ (K : PySem.W.Frag) : List V → L2.Hp → VK → Prop := fun xs H Q => ∃ (x : V) (ns : List Int), xs = [x] ∧ Sq K H x (ns.map V.int) ∧ Q (.int (ns.sum)) H
theorem cr_sumQ (hc : X.calm = true) : CallR X (.builtin "sum") (rSumQ X.K) := fun pins s σ H xs us Q I r q => by
  obtain ⟨x, ns, e, ⟨a, rfl, s' | s'⟩, q⟩ := q
  · exact cr_sum hc pins s σ H xs us Q I r ⟨a, ns, e, s', q⟩
  · subst e
    obtain ⟨its, rv, ht, _⟩ := I.tuple s'
    rw [Vals.ref1 r]
    have hi := rv.ints
    obtain ⟨xs, ex⟩ := hi.allInts.items
    have hn : PySem.numsOf (PySem.intItems xs).toList = ns := by rw [← ex]; exact hi.numsOf
    rw [PySem.nums_intItems] at hn
    subst hn
    refine PySem.W.ktm_sumG (I.ok.hd hc) (xs := xs) (by rw [← ex]; exact ht) fun h' tk t' hk => ⟨.int _, H, I.kept hk, ⟨_, rfl⟩, ?_⟩
    rw [PySem.preSum_eq, List.take_of_length_le (by simp)]
    exact q
/-- one argument of a built-in: its reading -/
noncomputable abbrev r1' (r : List V → L2.Hp → VK → Prop) : V → L2.Hp → VK → Prop := fun x H Q => r [x] H Q
theorem snd_len : Snd1 Z oLen .S (r1' (rLenQ Z.K)) := by
  intro N H x u Q hf r c
  rw [oLen_def] at c; unfold oLen' at c
  obtain ⟨ds, vs, e, s, rv, _⟩ := withI_ok r c.ne
  rw [e] at c
  rw [← RDs.len rv] at c
  exact ⟨x, vs, rfl, s, c.int⟩
theorem snd_sum : Snd1 Z oSum .S (r1' (rSumQ Z.K)) := by
  intro N H x u Q hf r c
  unfold oSum at c
  obtain ⟨ds, vs, e, s, rv, _⟩ := withI_ok r c.ne
  rw [e] at c
  obtain ⟨is, ei⟩ := ofO_some (bnd_bad c.ne)
  rw [ei] at c
  have c : CtV Z N H (.ok (.int (sumI is))) .S Q noX := c
  rw [sumI_sum] at c
  rw [intsD_ok ei rv] at s
  exact ⟨x, is, rfl, s, c.int⟩
theorem snd_all : SndB1 Z oAll (r1' (rAll Z.K)) := by
  intro N H x u Q hf r c
  unfold oAll at c
  obtain ⟨ds, a, vs, e, rfl, q, rv, _⟩ := withL_ok r c.ne
  rw [e] at c
  obtain ⟨is, ei⟩ := ofO_some (bnd_bad c.ne)
  rw [ei] at c
  rw [blsD_ok ei rv] at q
  exact ⟨a, is, rfl, SqL.of q, c H Grow.refl⟩
theorem snd_any : SndB1 Z oAny (r1' (rAny Z.K)) := by
  intro N H x u Q hf r c
  unfold oAny at c
  obtain ⟨ds, a, vs, e, rfl, q, rv, _⟩ := withL_ok r c.ne
  rw [e] at c
  obtain ⟨is, ei⟩ := ofO_some (bnd_bad c.ne)
  rw [ei] at c
  rw [blsD_ok ei rv] at q
  exact ⟨a, is, rfl, SqL.of q, c H Grow.refl⟩
theorem snd_min2 : Snd2 Z oMin2 .S (fun x y H Q => ∃ i j, [x, y] = [.int i, .int j] ∧ Q (.int (if j < i then j else i)) H) := by
  intro N H x y u w Q hf r1 r2 c
  rw [oMin2_def] at c; unfold oMin2' at c
  split at c
  · rename_i i j
    obtain rfl : x = .int i := r1
    obtain rfl : y = .int j := r2
    exact ⟨i, j, rfl, c.int⟩
  · exact c.elim
theorem snd_max2 : Snd2 Z oMax2 .S (fun x y H Q => ∃ i j, [x, y] = [.int i, .int j] ∧ Q (.int (if j > i then j else i)) H) := by
  intro N H x y u w Q hf r1 r2 c
  rw [oMax2_def] at c; unfold oMax2' at c
  split at c
  · rename_i i j
    obtain rfl : x = .int i := r1
    obtain rfl : y = .int j := r2
    exact ⟨i, j, rfl, c.int⟩
  · exact c.elim
theorem minI_le : ∀ (is : List Int) (m : Int), minI m is ≤ m ∧ (∀ i ∈ is, minI m is ≤ i) ∧ (minI m is = m ∨ minI m is ∈ is)
  | [], m => ⟨Int.le_refl _, fun _ h => (by cases h), Or.inl rfl⟩
  | i :: is, m => by
    rw [minI_def]; unfold minI'; try rw [← minI_def]
    obtain ⟨h1, h2, h3⟩ := minI_le is (if i < m then i else m)
    refine ⟨?_, fun j hj => ?_, ?_⟩
    · by_cases q : i < m
      · rw [if_pos q] at h1 ⊢; omega
      · rw [if_neg q] at h1 ⊢; exact h1
    · rcases List.mem_cons.mp hj with rfl | hj
      · by_cases q : j < m
        · rw [if_pos q] at h1 ⊢; exact h1
        · rw [if_neg q] at h1 ⊢; omega
      · exact h2 j hj
    · rcases h3 with h3 | h3
      · by_cases q : i < m
        · rw [if_pos q] at h3 ⊢; exact .inr (by rw [h3]; exact List.mem_cons_self)
        · rw [if_neg q] at h3 ⊢; exact .inl h3
      · exact .inr (List.mem_cons_of_mem _ h3)
theorem maxI_le : ∀ (is : List Int) (m : Int), m ≤ maxI m is ∧ (∀ i ∈ is, i ≤ maxI m is) ∧ (maxI m is = m ∨ maxI m is ∈ is)
  | [], m => ⟨Int.le_refl _, fun _ h => (by cases h), Or.inl rfl⟩
  | i :: is, m => by
    rw [maxI_def]; unfold maxI'; try rw [← maxI_def]
    obtain ⟨h1, h2, h3⟩ := maxI_le is (if i > m then i else m)
    refine ⟨?_, fun j hj => ?_, ?_⟩
    · by_cases q : i > m
      · rw [if_pos q] at h1 ⊢; omega
      · rw [if_neg q] at h1 ⊢; exact h1
    · rcases List.mem_cons.mp hj with rfl | hj
      · by_cases q : j > m
        · rw [if_pos q] at h1 ⊢; exact h1
        · rw [if_neg q] at h1 ⊢; omega
      · exact h2 j hj
    · rcases h3 with h3 | h3
      · by_cases q : i > m
        · rw [if_pos q] at h3 ⊢; exact .inr (by rw [h3]; exact List.mem_cons_self)
        · rw [if_neg q] at h3 ⊢; exact .inl h3
      · exact .inr (List.mem_cons_of_mem _ h3)
theorem snd_min1 : Snd1 Z oMin1 .S (r1' (rMin Z.K)) := by
  intro N H x u Q hf r c
  unfold oMin1 at c
  obtain ⟨ds, a, vs, e, rfl, q, rv, _⟩ := withL_ok r c.ne
  rw [e] at c
  split at c
  · rename_i i is ei
    rw [intsD_ok ei rv] at q
    refine ⟨a, i :: is, rfl, SqL.of q, by simp, fun m hm hl => ?_⟩
    obtain ⟨h1, h2, h3⟩ := minI_le is i
    have e : m = minI i is := by
      have l1 : minI i is ≤ m := by rcases List.mem_cons.mp hm with rfl | hm; exact h1; exact h2 m hm
      have l2 : m ≤ minI i is := by rcases h3 with h3 | h3; rw [h3]; exact hl i List.mem_cons_self; exact hl _ (List.mem_cons_of_mem _ h3)
      omega
    rw [e]; exact c.int
  · exact c.elim
theorem snd_max1 : Snd1 Z oMax1 .S (r1' (rMax Z.K)) := by
  intro N H x u Q hf r c
  unfold oMax1 at c
  obtain ⟨ds, a, vs, e, rfl, q, rv, _⟩ := withL_ok r c.ne
  rw [e] at c
  split at c
  · rename_i i is ei
    rw [intsD_ok ei rv] at q
    refine ⟨a, i :: is, rfl, SqL.of q, by simp, fun m hm hl => ?_⟩
    obtain ⟨h1, h2, h3⟩ := maxI_le is i
    have e : m = maxI i is := by
      have l1 : m ≤ maxI i is := by rcases List.mem_cons.mp hm with rfl | hm; exact h1; exact h2 m hm
      have l2 : maxI i is ≤ m := by rcases h3 with h3 | h3; rw [h3]; exact hl i List.mem_cons_self; exact hl _ (List.mem_cons_of_mem _ h3)
      omega
    rw [e]; exact c.int
  · exact c.elim
theorem snd_abs : Snd1 Z oAbs .S (r1' (fun xs H Q => ∃ i, xs = [.int i] ∧ Q (.int (if i < 0 then -i else i)) H)) := by
  intro N H x u Q hf r c
  unfold oAbs at c
  split at c
  · rename_i i
    obtain rfl : x = .int i := r
    exact ⟨i, rfl, c.int⟩
  · exact c.elim
theorem snd_int : Snd1 Z oInt .S (r1' (fun xs H Q => (∃ i, xs = [.int i] ∧ Q (.int i) H) ∨ ∃ k, xs = [.bl k] ∧ Q (.int (if k then 1 else 0)) H)) := by
  intro N H x u Q hf r c
  unfold oInt at c
  split at c
  · rename_i i
    obtain rfl : x = .int i := r
    exact .inl ⟨i, rfl, c.int⟩
  · rename_i i
    obtain rfl : x = .bl i := r
    exact .inr ⟨i, rfl, c.int⟩
  · exact c.elim
theorem snd_tuple : Snd1 Z oTuple .T (r1' (fun xs H Q => ∃ p ys, xs = [.ref p] ∧ ((SqL Z.K H p ys ∧ ∀ l, H l = none → Q (.ref l) (upd H l (.tup ys))) ∨ (SqT Z.K H p ys ∧ Q (.ref p) H)))) := by
  intro N H x u Q hf r c
  unfold oTuple at c
  obtain ⟨ds, vs, e, ⟨a, rfl, s⟩, rv, _⟩ := withI_ok r c.ne
  rw [e] at c
  refine ⟨a, vs, rfl, ?_⟩
  rcases s with s | s
  · exact .inl ⟨s, fun p hp => c.newT (.inl rfl) hp rv⟩
  · exact .inr ⟨s, c.oldT (.inl rfl) ⟨a, vs, rfl, s, rv⟩⟩
theorem snd_list : Snd1 Z oList .T (r1' (fun xs H Q => ∃ p ys, xs = [.ref p] ∧ (SqL Z.K H p ys ∨ SqT Z.K H p ys) ∧ ∀ l, H l = none → Q (.ref l) (upd H l (.lst ys)))) := by
  intro N H x u Q hf r c
  unfold oList at c
  obtain ⟨ds, vs, e, ⟨a, rfl, s⟩, rv, _⟩ := withI_ok r c.ne
  rw [e] at c
  exact ⟨a, vs, rfl, s, fun p hp => c.newL hp rv⟩

/-! ### isinstance -/
noncomputable def Ty.nm : Ty → String
  | .int => "int"
  | .bool => "bool"
  | .str => "str"
  | .list => "list"
  | .tuple => "tuple"
  | .none => "NoneType"
theorem kit_tab : ∀ (a b : Ty), b ≠ .none → L2.kitB a.nm b.nm = some (isA a b) := by
  intro a b hb
  cases a <;> cases b <;> first | exact absurd rfl hb | decide +kernel
theorem tyx_tup {K : PySem.W.Frag} {a : Addr} {vs : List V} (q : SqT K H a vs) : TyX K H (.ref a) (.type "tuple") := by
  rcases q with (q | ⟨o, q⟩) | ⟨o, its, n, q1, q2, _⟩
  · exact .base (.tup q)
  · exact .fTuple q
  · exact .kTuple q1 q2
theorem kindV_ok {u : D} {x : V} {a : Ty} (r : RE Z N H u x) (e : kindV u = some a) : TyX Z.K H x (.type a.nm) := by
  cases u with
  | non => cases e; cases (show x = .non from r); exact .base .non
  | bl k => cases e; cases (show x = .bl k from r); exact .base (.bl k)
  | int k => cases e; cases (show x = .int k from r); exact .base (.int k)
  | str k => cases e; cases (show x = .str k from r); exact .base (.str k)
  | tup ds => cases e; obtain ⟨a, vs, rfl, q, _⟩ := r; exact tyx_tup q
  | lst ds => cases e; obtain ⟨a, vs, rfl, q, _⟩ := r; exact .base (.lst q)
  | fn k => cases e
  | rol k => cases e
  | dct _ _ => cases e
  | set _ => cases e
theorem isi_one {K : PySem.W.Frag} {a b : Ty} (hb : b ≠ .none) : PySem.W.kitOne K (.type a.nm) (.type b.nm) = some (isA a b) := kit_ty (kit_tab a b hb)
theorem isi_any {K : PySem.W.Frag} {a : Ty} : ∀ (ts : List Ty), (∀ t ∈ ts, t ≠ .none) → PySem.W.kitAny K (.type a.nm) (ts.map fun t => .type t.nm) = some (ts.any (isA a))
  | [], _ => kitAny_nil
  | t :: ts, h => by
    refine kitAny_cons (isi_one (h t List.mem_cons_self)) (fun e => ?_) (fun e => ?_)
    · rw [List.any_cons, e, Bool.false_or]; exact isi_any ts fun u hu => h u (List.mem_cons_of_mem _ hu)
    · rw [List.any_cons, e, Bool.true_or]
theorem snd_isi1 {t : Ty} (ht : t ≠ .none) : SndB1 Z (oIsi [t]) (fun x H Q => rIsi Z.K [x, .ty t.nm] H Q) := by
  intro N H x u Q hf r c
  rw [oIsi_def] at c; unfold oIsi' at c
  split at c
  · rename_i a ea
    refine ⟨x, .ty t.nm, _, _, _, rfl, .ty _, kindV_ok r ea, isi_one ht, ?_⟩
    have q := c H Grow.refl
    simpa using q
  · exact c.elim
theorem snd_isi2 {t u : Ty} (ht : t ≠ .none) (hu : u ≠ .none) : SndB1 Z (oIsi [t, u]) (fun x H Q => 2 ≤ sizeLine ∧ ∀ q, H q = none → rIsiT Z.K [x, .ref q] (upd H q (.tup [.ty t.nm, .ty u.nm])) Q) := by
  intro N H x d Q hf r c
  refine ⟨by rw [sizeLine_eq]; decide, fun q hq => ?_⟩
  rw [oIsi_def] at c; unfold oIsi' at c
  split at c
  · rename_i a ea
    have g : Grow H (upd H q (.tup [.ty t.nm, .ty u.nm])) := Grow.upd hq
    have r2 : RE Z N (upd H q (.tup [.ty t.nm, .ty u.nm])) d x := (Cls.pre (H1 := H) Grow.refl (Cls.grow g r)).re hf
    refine ⟨x, q, [.ty t.nm, .ty u.nm], _, [.type t.nm, .type u.nm], _, rfl, upd_same, .cons (.ty _) (.cons (.ty _) .nil), kindV_ok r2 ea, isi_any [t, u] (fun y hy => ?_), ?_⟩
    · simp only [List.mem_cons, List.not_mem_nil, or_false] at hy
      rcases hy with rfl | rfl <;> assumption
    · exact c _ g
  · exact c.elim
end
end Qz
/-! Qz: sorted(list of data). -/
namespace Qz
open PySem PySem.Spec L2 PySem.W

section
variable {α : Type} {lt lt' le : α → α → Bool}
theorem insB_mem {x y : α} : ∀ {l : List α}, y ∈ insB lt x l ↔ y = x ∨ y ∈ l
  | [] => by simp [insB]
  | z :: l => by
    unfold insB
    split
    · rw [List.mem_cons, insB_mem (l := l), List.mem_cons]
      constructor <;> (intro q; rcases q with q | q | q <;> simp [q])
    · simp
theorem sortB_mem {y : α} : ∀ {l : List α}, y ∈ sortB lt l ↔ y ∈ l
  | [] => by simp [sortB]
  | z :: l => by unfold sortB; rw [insB_mem, sortB_mem (l := l), List.mem_cons]
theorem insB_sorted (h : TotalLe le) (hl : ∀ a b, le a b = !lt b a) (x : α) : ∀ {l : List α}, l.Pairwise (fun a b => le a b = true) → (insB lt x l).Pairwise (fun a b => le a b = true)
  | [], _ => by simp [insB]
  | y :: l, hp => by
    have h1 := (List.pairwise_cons.mp hp).1
    have h2 := (List.pairwise_cons.mp hp).2
    unfold insB
    split
    · rename_i e
      refine List.pairwise_cons.mpr ⟨fun z hz => ?_, insB_sorted h hl x h2⟩
      rcases insB_mem.mp hz with rfl | hz
      · rcases h.total y z with q | q
        · exact q
        · rw [hl, e] at q; cases q
      · exact h1 z hz
    · rename_i e
      have q : le x y = true := by rw [hl]; simpa using e
      refine List.pairwise_cons.mpr ⟨fun z hz => ?_, hp⟩
      rcases List.mem_cons.mp hz with rfl | hz
      · exact q
      · exact h.trans x y z q (h1 z hz)
theorem sortB_sorted (h : TotalLe le) (hl : ∀ a b, le a b = !lt b a) : ∀ l : List α, (sortB lt l).Pairwise (fun a b => le a b = true)
  | [] => by simp [sortB]
  | x :: l => insB_sorted h hl x (sortB_sorted h hl l)
theorem insB_filter (h : TotalLe le) (hl : ∀ a b, le a b = !lt b a) (c x : α) : ∀ l : List α, (insB lt x l).filter (sameRank le c) = (x :: l).filter (sameRank le c)
  | [] => rfl
  | y :: l => by
    unfold insB
    split
    · rename_i e
      have ih := insB_filter h hl c x l
      have ne : ¬ (sameRank le c x = true ∧ sameRank le c y = true) := by
        rintro ⟨q1, q2⟩
        unfold sameRank at q1 q2
        rw [Bool.and_eq_true] at q1 q2
        have t := h.trans x c y q1.2 q2.1
        rw [hl, e] at t
        cases t
      by_cases hy : sameRank le c y = true
      · have hx : ¬ sameRank le c x = true := fun q => ne ⟨q, hy⟩
        rw [List.filter_cons_of_pos hy, ih, List.filter_cons_of_neg hx, List.filter_cons_of_neg hx, List.filter_cons_of_pos hy]
      · rw [List.filter_cons_of_neg hy, ih]
        by_cases hx : sameRank le c x = true
        · rw [List.filter_cons_of_pos hx, List.filter_cons_of_pos hx, List.filter_cons_of_neg hy]
        · rw [List.filter_cons_of_neg hx, List.filter_cons_of_neg hx, List.filter_cons_of_neg hy]
    · rfl
theorem sortB_filter (h : TotalLe le) (hl : ∀ a b, le a b = !lt b a) (c : α) : ∀ l : List α, (sortB lt l).filter (sameRank le c) = l.filter (sameRank le c)
  | [] => rfl
  | x :: l => by
    unfold sortB
    rw [insB_filter h hl]
    by_cases hx : sameRank le c x = true
    · rw [List.filter_cons_of_pos hx, List.filter_cons_of_pos hx, sortB_filter h hl c l]
    · rw [List.filter_cons_of_neg hx, List.filter_cons_of_neg hx, sortB_filter h hl c l]
theorem sortB_merge (h : TotalLe le) (hl : ∀ a b, le a b = !lt b a) (l : List α) : sortB lt l = l.mergeSort le := sort_unique h (sortB_sorted h hl l) fun c => sortB_filter h hl c l
theorem insB_congr {x : α} : ∀ {l : List α}, (∀ y ∈ l, lt y x = lt' y x) → insB lt x l = insB lt' x l
  | [], _ => rfl
  | y :: l, e => by
    unfold insB
    rw [e y List.mem_cons_self, insB_congr fun z hz => e z (List.mem_cons_of_mem _ hz)]
theorem sortB_congr : ∀ {l : List α}, (∀ x ∈ l, ∀ y ∈ l, lt x y = lt' x y) → sortB lt l = sortB lt' l
  | [], _ => rfl
  | x :: l, e => by
    have q := sortB_congr (l := l) fun a ha b hb => e a (List.mem_cons_of_mem _ ha) b (List.mem_cons_of_mem _ hb)
    unfold sortB
    rw [q]
    exact insB_congr fun y hy => e y (List.mem_cons_of_mem _ (sortB_mem.mp hy)) x List.mem_cons_self
end

/-! ### the order of data -/
mutual
theorem D.py_alike : ∀ (a b : D), D.alike a b = true → PySem.W.alike a.py b.py = true
  | .bl _, b, h => by cases b <;> first | (simp [D.py, PySem.W.alike]; done) | cases h
  | .int _, b, h => by cases b <;> first | (simp [D.py, PySem.W.alike]; done) | cases h
  | .str _, b, h => by cases b <;> first | (simp [D.py, PySem.W.alike]; done) | cases h
  | .tup xs, b, h => by
    cases b with
    | tup ys => simp only [D.py, PySem.W.alike]; exact D.pys_alike xs ys h
    | _ => cases h
  | .non, _, h => by cases h
  | .fn _, _, h => by cases h
  | .lst _, _, h => by cases h
  | .rol _, _, h => by cases h
  | .dct _ _, _, h => by cases h
  | .set _, _, h => by cases h
theorem D.pys_alike : ∀ (xs ys : List D), D.alikes xs ys = true → PySem.W.alikeAll (D.pys xs) (D.pys ys) = true
  | [], _, _ => by simp [D.pys, PySem.W.alikeAll]
  | _ :: _, [], _ => by simp [D.pys, PySem.W.alikeAll]
  | x :: xs, y :: ys, h => by
    unfold D.alikes at h
    rw [Bool.and_eq_true] at h
    simp only [D.pys, PySem.W.alikeAll, D.py_alike x y h.1, D.pys_alike xs ys h.2, Bool.and_self]
end
mutual
theorem D.py_lt : ∀ (n m : Nat) (a b : D), a.dat n = true → b.dat m = true → D.alike a b = true → dataLt a.py b.py = D.lt a b
  | n, m, .bl x, b, _, _, h => by
    cases b with
    | bl y =>
      simp only [D.py]
      rw [dataLt_bool]
      cases x <;> cases y <;> rfl
    | _ => cases h
  | n, m, .int x, b, _, _, h => by
    cases b with
    | int y => simp only [D.py]; rw [dataLt_int]; rfl
    | _ => cases h
  | n, m, .str x, b, _, _, h => by
    cases b with
    | str y => simp only [D.py]; rw [dataLt_str]; rfl
    | _ => cases h
  | 0, m, .tup xs, b, ha, _, h => by cases ha
  | n + 1, m, .tup xs, b, ha, hb, h => by
    cases b with
    | tup ys =>
      cases m with
      | zero => cases hb
      | succ m =>
        simp only [D.py]
        rw [dataLt_tuple]
        exact D.pys_lt n m xs ys ha hb h
    | _ => cases h
  | _, _, .non, _, _, _, h => by cases h
  | _, _, .fn _, _, _, _, h => by cases h
  | _, _, .lst _, _, _, _, h => by cases h
  | _, _, .rol _, _, _, _, h => by cases h
  | _, _, .dct _ _, _, _, _, h => by cases h
  | _, _, .set _, _, _, _, h => by cases h
theorem D.pys_lt : ∀ (n m : Nat) (xs ys : List D), D.dats n xs = true → D.dats m ys = true → D.alikes xs ys = true → PyProof.Rows.lexLt PyProof.Rows.itemOrd (keyToksAll (D.pys xs)) (keyToksAll (D.pys ys)) = D.lts xs ys
  | _, _, [], [], _, _, _ => by decide
  | _, _, [], y :: ys, _, _, _ => by simp only [D.pys, keyToksAll, D.lts]; rfl
  | _, _, x :: xs, [], _, _, _ => by simp only [D.pys, keyToksAll, D.lts]; rfl
  | n, m, x :: xs, y :: ys, ha, hb, h => by
    unfold D.alikes at h
    unfold D.dats at ha hb
    rw [Bool.and_eq_true] at h ha hb
    have al := D.py_alike x y h.1
    have ev := D.py_eqv n m x y ha.1 hb.1
    simp only [D.pys, D.lts]
    cases q : D.eqv x y with
    | true =>
      rw [q] at ev
      rw [dataLt_all_yes al ev, D.pys_lt n m xs ys ha.2 hb.2 h.2]
      rfl
    | false =>
      rw [q] at ev
      rw [dataLt_all_no al ev, D.py_lt n m x y ha.1 hb.1 h.1]
      rfl
end
section
variable {Z : Whr} {X : Cx} {Γ : List Sv} {N : Addr → Prop} {H H1 H' : L2.Hp} {σ : L2.St} {Q : VK} {E : XK}
theorem allAlike_mem : ∀ {ds : List D}, allAlike ds = true → (∀ d ∈ ds, D.alike d d = true) → (∀ a b, D.alike a b = D.alike b a) → ∀ a ∈ ds, ∀ b ∈ ds, D.alike a b = true
  | [], _, _, _, _, h, _, _ => by cases h
  | x :: xs, e, self, comm, a, ha, b, hb => by
    unfold allAlike at e
    rw [Bool.and_eq_true, List.all_eq_true] at e
    rcases List.mem_cons.mp ha with ea | ha
    · rcases List.mem_cons.mp hb with eb | hb
      · rw [ea, eb]; exact self _ List.mem_cons_self
      · rw [ea]; exact e.1 b hb
    · rcases List.mem_cons.mp hb with eb | hb
      · rw [eb, comm]; exact e.1 a ha
      · exact allAlike_mem e.2 (fun d hd => self d (List.mem_cons_of_mem _ hd)) comm a ha b hb
mutual
theorem D.alike_comm : ∀ a b : D, D.alike a b = D.alike b a
  | .non, b => by cases b <;> rfl
  | .bl _, b => by cases b <;> rfl
  | .int _, b => by cases b <;> rfl
  | .str _, b => by cases b <;> rfl
  | .fn _, b => by cases b <;> rfl
  | .lst _, b => by cases b <;> rfl
  | .rol _, b => by cases b <;> rfl
  | .dct _ _, b => by cases b <;> rfl
  | .set _, b => by cases b <;> rfl
  | .tup xs, b => by
    cases b with
    | tup ys => simp only [D.alike]; exact D.alikes_comm xs ys
    | _ => rfl
theorem D.alikes_comm : ∀ xs ys : List D, D.alikes xs ys = D.alikes ys xs
  | [], [] => rfl
  | [], _ :: _ => by simp [D.alikes]
  | _ :: _, [] => by simp [D.alikes]
  | x :: xs, y :: ys => by simp only [D.alikes]; rw [D.alike_comm x y, D.alikes_comm xs ys]
end
mutual
theorem D.alike_self : ∀ (n : Nat) (a : D), D.solid n a = true → D.alike a a = true
  | _, .non, h => by cases h
  | _, .fn _, h => by cases h
  | _, .lst _, h => by cases h
  | _, .rol _, h => by cases h
  | _, .dct _ _, h => by cases h
  | _, .set _, h => by cases h
  | _, .bl _, _ => rfl
  | _, .int _, _ => rfl
  | _, .str _, _ => rfl
  | 0, .tup xs, h => by cases h
  | n + 1, .tup xs, h => by simp only [D.alike]; exact D.alikes_self n xs h
theorem D.alikes_self : ∀ (n : Nat) (xs : List D), D.solids n xs = true → D.alikes xs xs = true
  | _, [], _ => by simp [D.alikes]
  | n, x :: xs, h => by
    unfold D.solids at h
    rw [Bool.and_eq_true] at h
    simp only [D.alikes, D.alike_self n x h.1, D.alikes_self n xs h.2, Bool.and_self]
end
theorem D.solids_mem {n : Nat} : ∀ {xs : List D} {x : D}, D.solids n xs = true → x ∈ xs → D.solid n x = true
  | _ :: _, _, h, hx => by
    unfold D.solids at h
    rw [Bool.and_eq_true] at h
    rcases List.mem_cons.mp hx with rfl | hx
    · exact h.1
    · exact D.solids_mem h.2 hx
theorem D.dats_mem {n : Nat} : ∀ {xs : List D} {x : D}, D.dats n xs = true → x ∈ xs → D.dat n x = true
  | _ :: _, _, h, hx => by
    unfold D.dats at h
    rw [Bool.and_eq_true] at h
    rcases List.mem_cons.mp hx with rfl | hx
    · exact h.1
    · exact D.dats_mem h.2 hx
mutual
theorem D.solid_dat : ∀ (n : Nat) (a : D), D.solid n a = true → D.dat n a = true
  | _, .non, h => by cases h
  | _, .fn _, h => by cases h
  | _, .lst _, h => by cases h
  | _, .rol _, h => by cases h
  | _, .dct _ _, h => by cases h
  | _, .set _, h => by cases h
  | _, .bl _, _ => rfl
  | _, .int _, _ => rfl
  | _, .str _, _ => rfl
  | 0, .tup xs, h => by cases h
  | n + 1, .tup xs, h => by simp only [D.dat]; exact D.solids_dat n xs h
theorem D.solids_dat : ∀ (n : Nat) (xs : List D), D.solids n xs = true → D.dats n xs = true
  | _, [], _ => rfl
  | n, x :: xs, h => by
    unfold D.solids at h
    rw [Bool.and_eq_true] at h
    simp only [D.dats, D.solid_dat n x h.1, D.solids_dat n xs h.2, Bool.and_self]
end
/-- keys of any kind can be sorted where fewer than two are there -/
theorem sorts_small {prog : Program} {w : World} {A : Around} {s : Shared} {vs : List Value} {ds : List PyData} (e : EachIs (fun v d => ∃ as, Reads s.heap v d as) vs ds) (hal : AllAlike ds) (hn : ∀ d ∈ ds, d ≠ .none) (hu : ∀ d, d ∈ ds → A.units + d.depth < cLine) (h1 : vs.length ≤ 1) :
    SortsAt prog w A s (dataKind s.heap ds) vs := by
  refine ⟨fun v hv => ?_, PyProof.Rows.general', ?_, fun h2 => absurd h2 (by omega)⟩
  · obtain ⟨d, hd, as, r⟩ := e.left v hv
    exact ⟨_, dataKind_some hal hd r⟩
  · intro E x y a b Q ha hb hq
    obtain ⟨d, as, hd, ra, rfl⟩ := dataKind_inv ha
    obtain ⟨d', as', hd', rb, rfl⟩ := dataKind_inv hb
    show wpAny _ _ (PyProof.Rows.oneLt' false x y) _ _ _
    exact oneLt_alike (fun z => absurd z Bool.false_ne_true) ra rb (hal d hd d' hd') (hn d hd) (Nat.lt_of_le_of_lt (Nat.add_le_add_left (Nat.min_le_left _ _) _) (hu d hd)) hq
/-- items of a list, with what they are -/
theorem each_of {pins : List (Addr × Obj)} {s : Shared} (I : Inv X pins σ H s) (hK : X.K = Z.K) : ∀ {its : List Value} {vs : List V} {ds : List D}, Vals vs its → RDs Z N H ds vs → D.dats 60 ds = true →
    EachIs (fun v (b : V × D) => RelV b.1 v ∧ RD Z N H b.2 b.1) its (vs.zip ds) ∧ EachIs (fun v (b : V × D) => ∃ as, Reads s.heap v b.2.py as) its (vs.zip ds)
  | _, _, [], .nil, r, _ => ⟨.nil, .nil⟩
  | _, _, d :: ds, .nil, r, _ => by obtain ⟨v, t, e, _⟩ := r; cases e
  | _, _, [], .cons _ _, r, _ => by cases r
  | _, _, d :: ds, .cons q t, r, hd => by
    obtain ⟨v, u, e, r1, r2⟩ := r
    cases e
    unfold D.dats at hd
    rw [Bool.and_eq_true] at hd
    obtain ⟨h1, h2⟩ := each_of I hK t r2 hd.2
    exact ⟨.cons ⟨q, r1⟩ h1, .cons (Dp.reads I _ _ _ (by rw [hK]; exact RD.dp 60 _ _ hd.1 r1) q) h2⟩
theorem zip_snd {α β : Type} : ∀ {xs : List α} {ys : List β}, xs.length = ys.length → (xs.zip ys).map (·.2) = ys
  | [], [], _ => rfl
  | x :: xs, y :: ys, h => by rw [List.zip_cons_cons, List.map_cons, zip_snd (by simpa using h)]
  | [], _ :: _, h => by cases h
  | _ :: _, [], h => by cases h
theorem each_back : ∀ {out : List Value} {bs : List (V × D)}, EachIs (fun v (b : V × D) => RelV b.1 v ∧ RD Z N H b.2 b.1) out bs → Vals (bs.map (·.1)) out ∧ RDs Z N H (bs.map (·.2)) (bs.map (·.1))
  | _, _, .nil => ⟨.nil, rfl⟩
  | _, _, .cons ⟨a, b⟩ t => by
    obtain ⟨h1, h2⟩ := each_back t
    exact ⟨.cons a h1, _, _, rfl, b, h2⟩
noncomputable def rSortQ (Z : Whr) (N : Addr → Prop) : List V → L2.Hp → VK → Prop := fun xs H Q => ∃ (a : Addr) (vs : List V) (ds : List D), xs = [.ref a] ∧ H a = some (.lst vs) ∧ RDs Z N H ds vs ∧ sortable ds = true ∧
  ∀ (p : Addr) (ws : List V), H p = none → RDs Z N H (sortD ds) ws → Q (.ref p) (upd H p (.lst ws))
theorem cr_sortQ (hK : X.K = Z.K) (hu : X.A.units + 64 < cLine) : CallR X (.builtin "sorted") (rSortQ Z N) := by
  intro pins s σ H xs us Q I r q
  obtain ⟨a, vs, ds, rfl, ha, rd, so, q⟩ := q
  unfold sortable at so
  simp only [Bool.and_eq_true, Bool.or_eq_true, decide_eq_true_eq, List.all_eq_true] at so
  obtain ⟨⟨⟨so1, sol⟩, so4⟩, so5⟩ := so
  have so2 := D.solids_dat 60 ds sol
  obtain ⟨its, rv, hl, _⟩ := I.list (SqL.of (K := X.K) ha)
  rw [Vals.ref1 r]
  obtain ⟨e, er⟩ := each_of I hK rv rd so2
  have hlen : vs.length = ds.length := RDs.len rd
  have hb : ∀ b ∈ vs.zip ds, b.2 ∈ ds := fun b hb => (List.of_mem_zip hb).2
  have lik : ∀ a ∈ ds, ∀ b ∈ ds, D.alike a b = true := allAlike_mem so1 (fun d hd => D.alike_self 60 d (D.solids_mem sol hd)) D.alike_comm
  have hal : AllAlike ((vs.zip ds).map fun b => b.2.py) := by
    intro d hd d' hd'
    obtain ⟨b, hb1, rfl⟩ := List.mem_map.mp hd
    obtain ⟨b', hb2, rfl⟩ := List.mem_map.mp hd'
    exact D.py_alike _ _ (lik _ (hb b hb1) _ (hb b' hb2))
  have hzl : (vs.zip ds).length = ds.length := by rw [List.length_zip, hlen, Nat.min_self]
  have hsz : (vs.zip ds).length ≤ sizeLine := by rw [hzl]; exact big_line so4
  have hdeep : ∀ b, b ∈ vs.zip ds → (b.2.py).depth ≤ 60 := fun b hb1 => D.py_deep 60 _ (D.dats_mem so2 (hb b hb1))
  have fin : ∀ out : List Value, out.length = (vs.zip ds).length → EachIs (fun v (b : V × D) => RelV b.1 v ∧ RD Z N H b.2 b.1) out ((vs.zip ds).mergeSort (dataLe false fun b => b.2.py)) →
      EP X pins σ Q (.ref (s.heap.objs.size + 1)) { s with heap := PyProof.Rows.sortedAll s.heap its (List.toArray out) } := by
    intro out hl1 he
    obtain ⟨v1, v2⟩ := each_back he
    have key : ((vs.zip ds).mergeSort (dataLe false fun b => b.2.py)).map (·.2) = sortD ds := by
      rw [sort_maps (r := dataLe false fun b : V × D => b.2.py) (s := dataLe false D.py) (fun b : V × D => b.2) (fun a _ b _ => rfl), zip_snd hlen]
      unfold sortD
      rw [sortB_congr (lt := D.lt) (lt' := fun a b => dataLt a.py b.py) fun a ha b hb => (D.py_lt 60 60 a b (D.dats_mem so2 ha) (D.dats_mem so2 hb) (lik a ha b hb)).symm]
      exact (sortB_merge (le := dataLe false D.py) (sortLe_total _ _ _) (fun a b => rfl) ds).symm
    rw [key] at v2
    obtain ⟨ep, he'⟩ := PyProof.Rows.sortedAll_at s.heap its (List.toArray out)
    have hlen2 : (((vs.zip ds).mergeSort (dataLe false fun b => b.2.py)).map (·.1)).length ≤ sizeLine := by
      rw [List.length_map, (List.mergeSort_perm _ _).length_eq]; exact hsz
    have hp := I.hok.fresh (Nat.le_succ s.heap.objs.size)
    exact ⟨.ref _, upd H (s.heap.objs.size + 1) (.lst (((vs.zip ds).mergeSort (dataLe false fun b => b.2.py)).map (·.1))), I.laid (t' := s.toks) (fun _ _ => PyProof.Rows.sortedAll_old) (Nat.le_succ _) ⟨hlen2, out, ep, v1, he'⟩, rfl, q _ _ hp v2⟩
  by_cases h1 : ds.length ≤ 1
  · have er' : EachIs (fun v b => ∃ as, Reads (sortingHeap (copyHeap s.heap its) (s.heap.objs.size + 1) its) v (b.2.py) as) its (vs.zip ds) := er.mono fun _ _ ⟨as, r⟩ => ⟨as, PyProof.Rows.Reads.keeps (fun _ _ => sorting_copy_old) r⟩
    refine sorted_vals hl.isList (sorts_small (s := { s with heap := sortingHeap (copyHeap s.heap its) (s.heap.objs.size + 1) its }) (each_map (R := fun v d => ∃ as, Reads (sortingHeap (copyHeap s.heap its) (s.heap.objs.size + 1) its) v d as) (fun b : V × D => b.2.py) er') hal (fun d hd z => ?_) (bound_map fun b hb1 => ?_) (by rw [e.length, hzl]; exact h1)) (by rw [e.length]; exact hsz)
      (fin _ (by rw [sortVals_length false rfl]; exact e.length) (sortVals_data false e er' hal))
    · obtain ⟨b, hb1, rfl⟩ := List.mem_map.mp hd
      have q := D.solids_mem sol (hb b hb1)
      generalize b.2 = d at z q
      cases d <;> first | (cases q; done) | (simp [D.py] at z; done)
    · have := hdeep b hb1; show X.A.units + 2 + _ < _; omega
  · have hk : Sortable ((vs.zip ds).map fun b => b.2.py) := by
      rcases so5 with (so5 | so5) | so5
      · exact absurd so5 h1
      · refine .inl fun d hd => ?_
        obtain ⟨b, hb1, rfl⟩ := List.mem_map.mp hd
        have q := so5 _ (hb b hb1)
        generalize b.2 = d at q
        unfold isTup1 at q
        split at q
        · exact ⟨_, _, by simp only [D.py, D.pys]; rfl⟩
        · cases q
      · refine .inr fun d hd => ?_
        obtain ⟨b, hb1, rfl⟩ := List.mem_map.mp hd
        have q := so5 _ (hb b hb1)
        have q2 := D.solids_mem sol (hb b hb1)
        generalize b.2 = d at q q2
        cases d <;> first | (cases q2; done) | (cases q; done) | simp [D.py]
    exact sorted_data hl.isList e er hal hk hsz (fun b hb1 => by have := hdeep b hb1; omega) fin
theorem snd_sorted : ∀ N H x u Q, Fr N H → RE Z N H u x → CtV Z N H (oSorted u) .T Q noX → rSortQ Z N [x] H Q := by
  intro N H x u Q hf r c
  rw [oSorted_def] at c; unfold oSorted' at c
  obtain ⟨ds, a, vs, e, rfl, q, rv, _⟩ := withL_ok r c.ne
  rw [e] at c
  split at c
  · rename_i so
    exact ⟨a, vs, ds, rfl, q, rv, so, fun p ws hp rw' => c.newL hp rw'⟩
  · exact c.elim
end
end Qz
/-! Qz: frames; the judgements of statements. -/
namespace Qz
open PySem PySem.Spec L2

structure Fx where
  N0 : Addr → Prop
  A0 : Option Addr
  H0 : L2.Hp
  hd : List D
  us : List V
structure At (Z : Whr) (F : Fx) (N : Addr → Prop) (Γ : List Sv) (σ : St) (H : L2.Hp) : Prop where
  ok : Okv Z N Γ σ H
  ap : ∀ (i j : Nat) (d e : List D) (a : Addr), i ≠ j → Γ[i]? = some (.o (.lst d)) → Γ[j]? = some (.o (.lst e)) → σ[i]? = some (some (.ref a)) → σ[j]? = some (some (.ref a)) → False
  ow : ∀ (i : Nat) (d : List D) (a : Addr), Γ[i]? = some (.o (.lst d)) → σ[i]? = some (some (.ref a)) → (i ≠ 0 → F.H0 a = none) ∧ (F.H0 a = none ∨ F.A0 = some a)
  hd : RDs Z N H F.hd F.us
  f0 : ∀ a, F.H0 a = none → F.N0 a
  sub : ∀ a, N a → F.N0 a
  rest : ∀ b o, F.H0 b = some o → F.A0 ≠ some b → H b = some o
  live : ∀ b o, F.H0 b = some o → ∃ o', H b = some o'
  io : ∀ a, F.A0 = some a → σ[0]? = some (some (.ref a))
/-- what is left behind a def -/
structure Ret (Z : Whr) (F : Fx) (cl : Cl) (u w : D) (x : V) (H : L2.Hp) : Prop where
  c : Cls Z F.N0 F.H0 cl H u x
  rest : ∀ b o, F.H0 b = some o → F.A0 ≠ some b → H b = some o
  live : ∀ b o, F.H0 b = some o → ∃ o', H b = some o'
  io : ∀ a, F.A0 = some a → ∀ ds, w = .lst ds → ∃ vs, H a = some (.lst vs) ∧ RDs Z F.N0 H ds vs
/-- the shape of a def: its class, its given list, what an error leaves -/
structure Sh where
  cl : Cl
  io : Bool
  px : List Sv
noncomputable def CtS {τ β : Type} (Z : Whr) (F : Fx) (S : Sh) (po : τ → List Sv) (pb : β → List Sv) (D : Ends) (W : WX) : Fl τ β → Prop
  | .nx s => ∀ N σ H, At Z F N (po s) σ H → D.nx σ H
  | .rt u w => ∀ x H, Ret Z F S.cl u w x H → D.rt x H
  | .bk b => ∀ N σ H, At Z F N (pb b) σ H → D.bk σ H
  | .ct b => ∀ N σ H, At Z F N (pb b) σ H → D.ct σ H
  | .ex c fs => F.A0 = none ∧ ∀ N σ H d, At Z F N S.px σ H → XD Z c fs H d → W (.ref (Z.C c)) d σ H
  | .bad => False
noncomputable def tGS {τ β : Type} (Z : Whr) (S : Sh) (Γ : List Sv) (po : τ → List Sv) (pb : β → List Sv) (m : Fl τ β) (W : WX) : TS := fun D σ H => ∃ F N, (S.io = false → F.A0 = none) ∧ At Z F N Γ σ H ∧ CtS Z F S po pb D W m
structure PSv {τ β : Type} (Z : Whr) (X : Cx) (S : Sh) (Γ : List Sv) (po : τ → List Sv) (pb : β → List Sv) (st : Stmt) (m : Fl τ β) : Prop where
  run : ∀ W, Takes X W → PS X st (tGS Z S Γ po pb m W)
structure PSsv {τ β : Type} (Z : Whr) (X : Cx) (S : Sh) (Γ : List Sv) (po : τ → List Sv) (pb : β → List Sv) (sts : List Stmt) (m : Fl τ β) : Prop where
  run : ∀ W, Takes X W → PSs X sts (tGS Z S Γ po pb m W)

/-! ### less is known -/
inductive Le1 : Sv → Sv → Prop
  | rf {a} : Le1 a a
  | n {a} : Le1 a .n
  | f {d} : Le1 (.o d) (.s d)
inductive LeS : List Sv → List Sv → Prop
  | nil : LeS [] []
  | cons {a b as bs} : Le1 a b → LeS as bs → LeS (a :: as) (b :: bs)
theorem LeS.rf : ∀ {l : List Sv}, LeS l l
  | [] => .nil
  | _ :: _ => .cons .rf LeS.rf
theorem LeS.at : ∀ {l l' : List Sv} {i : Nat} {b : Sv}, LeS l l' → l'[i]? = some b → ∃ a, l[i]? = some a ∧ Le1 a b
  | _, _, _, _, .nil, e => by simp at e
  | _, _, 0, _, .cons r _, e => by simp at e; subst e; exact ⟨_, rfl, r⟩
  | _, _, i + 1, _, .cons _ t, e => by
    obtain ⟨b, h1, h2⟩ := LeS.at (i := i) t (by simpa using e)
    exact ⟨b, by simpa using h1, h2⟩
/-- .. where a given list is, it stays -/
structure LeT (io : Bool) (Γ Γ' : List Sv) : Prop where
  le : LeS Γ Γ'
  hd : io = true → Γ.head? = Γ'.head?
section
variable {Z : Whr} {X : Cx} {F : Fx} {N N' : Addr → Prop} {H H' : L2.Hp} {Γ Γ' : List Sv} {σ : St} {W : WX}
theorem At.grow (g : Grow H H') (a : At Z F N Γ σ H) : At Z F N Γ σ H' :=
  ⟨a.ok.grow g, a.ap, a.ow, RDs.grow g a.hd, a.f0, a.sub, fun b o e n => g _ _ (a.rest b o e n), fun b o e => by obtain ⟨o', q⟩ := a.live b o e; exact ⟨o', g _ _ q⟩, a.io⟩
theorem RW.lst {d : D} {ds : List D} {x : V} (e : d = .lst ds) (h : RW Z N H d x) : ∃ a vs, x = .ref a ∧ ¬ N a ∧ H a = some (.lst vs) ∧ RDs Z N H ds vs := by subst e; exact h
theorem RW.alt {d : D} (n : ∀ ds, d ≠ .lst ds) {x : V} : RW Z N H d x ↔ RD Z N H d x := by
  cases d with
  | lst ds => exact absurd rfl (n ds)
  | _ => exact Iff.rfl
theorem Paired.mk' {α β : Type} {F : α → β → Prop} : ∀ {l₁ : List α} {l₂ : List β}, l₁.length = l₂.length → (∀ (i : Nat) a b, l₁[i]? = some a → l₂[i]? = some b → F a b) → Paired F l₁ l₂
  | [], [], _, _ => .nil
  | a :: as, b :: bs, h, k => .cons (k 0 a b rfl rfl) (Paired.mk' (by simpa using h) fun i x y e1 e2 => k (i + 1) x y (by simpa using e1) (by simpa using e2))
  | [], _ :: _, h, _ => by simp at h
  | _ :: _, [], h, _ => by simp at h
theorem LeS.length : ∀ {l l' : List Sv}, LeS l l' → l.length = l'.length
  | _, _, .nil => rfl
  | _, _, .cons _ t => by simp [LeS.length t]
theorem SvR.frz {M : Addr → Prop} (hM : ∀ a, M a → N' a) (hN : ∀ a, N a → N' a) {s s' : Sv} {x : Option V} (l : Le1 s s') (hf : ∀ ds p, s = .o (.lst ds) → s' = .s (.lst ds) → x = some (.ref p) → M p) (hk : ∀ ds p, s = .o (.lst ds) → s' = .o (.lst ds) → x = some (.ref p) → ¬ N' p) (h : SvR Z N H s x) : SvR Z N' H s' x := by
  cases l with
  | n => exact trivial
  | rf =>
    cases s with
    | n => exact trivial
    | s d => cases x with
      | none => exact h.elim
      | some x => exact RD.sub hN h
    | o d => cases x with
      | none => exact h.elim
      | some x =>
        cases d with
        | lst ds =>
          obtain ⟨a, vs, rfl, n, q, r⟩ := h
          exact ⟨a, vs, rfl, hk ds a rfl rfl rfl, q, RDs.sub hN r⟩
        | _ => exact RD.sub hN h
  | f =>
    rename_i d
    cases x with
    | none => exact h.elim
    | some x =>
      cases d with
      | lst ds =>
        obtain ⟨a, vs, rfl, n, q, r⟩ := h
        exact ⟨a, vs, rfl, hM a (hf ds a rfl rfl rfl), q, RDs.sub hN r⟩
      | _ => exact RD.sub hN h
theorem plen {α β : Type} {F : α → β → Prop} {l₁ : List α} {l₂ : List β} (p : Paired F l₁ l₂) : l₁.length = l₂.length := by
  induction p with
  | nil => rfl
  | cons _ _ ih => simp [ih]
/-- a list is given free: it is not changed any more -/
theorem At.le (l : LeS Γ Γ') (h0 : F.A0 = none ∨ Γ.head? = Γ'.head?) (a : At Z F N Γ σ H) : ∃ N', At Z F N' Γ' σ H := by
  let M : Addr → Prop := fun p => ∃ (i : Nat) (ds : List D), Γ[i]? = some (.o (.lst ds)) ∧ Γ'[i]? = some (.s (.lst ds)) ∧ σ[i]? = some (some (.ref p))
  have notIO : ∀ p, M p → F.H0 p = none := fun p ⟨i, ds, e1, e2, e3⟩ => by
    obtain ⟨q1, q2⟩ := a.ow i ds p e1 e3
    cases i with
    | succ i => exact q1 (by omega)
    | zero =>
      rcases h0 with h0 | h0
      · rcases q2 with q2 | q2
        · exact q2
        · rw [h0] at q2; cases q2
      · rw [List.head?_eq_getElem?, List.head?_eq_getElem?, e1, e2] at h0; cases h0
  have back : ∀ (i : Nat) (d : D), Γ'[i]? = some (.o d) → Γ[i]? = some (.o d) := fun i d e => by
    obtain ⟨b, e1, r⟩ := l.at e
    cases r with
    | rf => exact e1
  have hk : ∀ (i : Nat) (ds : List D) (p : Addr), Γ[i]? = some (.o (.lst ds)) → Γ'[i]? = some (.o (.lst ds)) → σ[i]? = some (some (.ref p)) → ¬ (N p ∨ M p) := fun i ds p e1 e2 e3 => by
    rintro (q | ⟨j, es, f1, f2, f3⟩)
    · obtain ⟨x, e4, r⟩ := pget a.ok.sl e1
      rw [e3] at e4
      cases e4
      obtain ⟨b, vs, eb, n, _⟩ := r
      cases eb
      exact n q
    · by_cases z : i = j
      · subst z; rw [e2] at f2; cases f2
      · exact a.ap i j ds es p z e1 f1 e3 f3
  refine ⟨fun p => N p ∨ M p, ⟨Paired.mk' (l.length.symm.trans (plen a.ok.sl)) fun i s x e1 e2 => ?_, fun p e => .inl (a.ok.fr p e)⟩, fun i j d e p ne e1 e2 => a.ap i j d e p ne (back i _ e1) (back j _ e2), fun i d p e1 => a.ow i d p (back i _ e1),
    RDs.sub (fun _ z => .inl z) a.hd, a.f0, fun p q => ?_, a.rest, a.live, a.io⟩
  · obtain ⟨s0, e3, r⟩ := l.at e1
    obtain ⟨x0, e4, h⟩ := pget a.ok.sl e3
    rw [e2] at e4
    cases e4
    refine SvR.frz (M := M) (fun _ z => .inr z) (fun _ z => .inl z) r (fun ds p q1 q2 q3 => ?_) (fun ds p q1 q2 q3 => ?_) h
    · subst q1 q2 q3; exact ⟨i, ds, e3, e1, e2⟩
    · subst q1 q2 q3; exact hk i ds p e3 e1 e2
  · rcases q with q | q
    · exact a.sub p q
    · exact a.f0 p (notIO p q)
/-- where a def's A0 is said, or the head stays -/
theorem LeT.h0 {io : Bool} (l : LeT io Γ Γ') (h : io = false → F.A0 = none) : F.A0 = none ∨ Γ.head? = Γ'.head? := by
  cases io with
  | false => exact .inl (h rfl)
  | true => exact .inr (l.hd rfl)

/-! ### a slot is set -/
theorem get_set {α : Type} {l : List α} {i j : Nat} {a b : α} (h : (l.set i a)[j]? = some b) : (i = j ∧ b = a) ∨ (i ≠ j ∧ l[j]? = some b) := by
  by_cases q : i = j
  · subst q
    by_cases hl : i < l.length
    · rw [List.getElem?_set_self hl] at h; cases h; exact .inl ⟨rfl, rfl⟩
    · rw [List.getElem?_eq_none (by rw [List.length_set]; omega)] at h; cases h
  · rw [List.getElem?_set_ne q] at h; exact .inr ⟨q, h⟩
theorem At.setS {i : Nat} {d : D} {x : V} (hi : F.A0 = none ∨ i ≠ 0) (r : RD Z N H d x) (a : At Z F N Γ σ H) : At Z F N (Γ.set i (.s d)) (σ.set i (some x)) H := by
  have old : ∀ {j : Nat} {e : D}, (Γ.set i (.s d))[j]? = some (.o e) → i ≠ j ∧ Γ[j]? = some (.o e) := fun {j e} q => by
    rcases get_set q with ⟨_, z⟩ | z
    · cases z
    · exact z
  refine ⟨⟨pset (F := SvR Z N H) (a := .s d) (b := some x) r i a.ok.sl, a.ok.fr⟩, fun j k e e' p ne q1 q2 q3 q4 => ?_, fun j e p q1 q2 => ?_, a.hd, a.f0, a.sub, a.rest, a.live, fun p e => ?_⟩
  · obtain ⟨z1, z2⟩ := old q1
    obtain ⟨z3, z4⟩ := old q2
    rw [List.getElem?_set_ne z1] at q3
    rw [List.getElem?_set_ne z3] at q4
    exact a.ap j k e e' p ne z2 z4 q3 q4
  · obtain ⟨z1, z2⟩ := old q1
    rw [List.getElem?_set_ne z1] at q2
    exact a.ow j e p z2 q2
  · rcases hi with hi | hi
    · rw [hi] at e; cases e
    · rw [List.getElem?_set_ne hi]; exact a.io p e
/-- a slot is forgotten -/
theorem At.setN {i : Nat} {x : Option V} (hi : F.A0 = none ∨ i ≠ 0) (a : At Z F N Γ σ H) : At Z F N (Γ.set i .n) (σ.set i x) H := by
  have old : ∀ {j : Nat} {e : D}, (Γ.set i .n)[j]? = some (.o e) → i ≠ j ∧ Γ[j]? = some (.o e) := fun {j e} q => by
    rcases get_set q with ⟨_, z⟩ | z
    · cases z
    · exact z
  refine ⟨⟨pset (F := SvR Z N H) (a := .n) (b := x) trivial i a.ok.sl, a.ok.fr⟩, fun j k e e' p ne q1 q2 q3 q4 => ?_, fun j e p q1 q2 => ?_, a.hd, a.f0, a.sub, a.rest, a.live, fun p e => ?_⟩
  · obtain ⟨z1, z2⟩ := old q1
    obtain ⟨z3, z4⟩ := old q2
    rw [List.getElem?_set_ne z1] at q3
    rw [List.getElem?_set_ne z3] at q4
    exact a.ap j k e e' p ne z2 z4 q3 q4
  · obtain ⟨z1, z2⟩ := old q1
    rw [List.getElem?_set_ne z1] at q2
    exact a.ow j e p z2 q2
  · rcases hi with hi | hi
    · rw [hi] at e; cases e
    · rw [List.getElem?_set_ne hi]; exact a.io p e
theorem Okv.liveO {i : Nat} {ds : List D} {p : Addr} (o : Okv Z N Γ σ H) (e1 : Γ[i]? = some (.o (.lst ds))) (e2 : σ[i]? = some (some (.ref p))) : ∃ vs, ¬ N p ∧ H p = some (.lst vs) ∧ RDs Z N H ds vs := by
  obtain ⟨x, e3, r⟩ := pget o.sl e1
  rw [e2] at e3
  cases e3
  obtain ⟨b, vs, eb, n, q, s⟩ := r
  cases eb
  exact ⟨vs, n, q, s⟩
theorem At.setO' {i : Nat} {ds : List D} {vs : List V} {p : Addr} (hi : F.A0 = none ∨ i ≠ 0) (g : Grow H H') (hp : H p = none) (hp' : H' p = some (.lst vs)) (rs : RDs Z (fun a => N a ∧ a ≠ p) H' ds vs) (a : At Z F N Γ σ H) : At Z F (fun b => N b ∧ b ≠ p) (Γ.set i (.o (.lst ds))) (σ.set i (some (.ref p))) H' := by
  have old : ∀ {j : Nat} {e : List D}, (Γ.set i (.o (.lst ds)))[j]? = some (.o (.lst e)) → i = j ∨ (i ≠ j ∧ Γ[j]? = some (.o (.lst e))) := fun {j e} q => by
    rcases get_set q with ⟨z, _⟩ | z
    · exact .inl z
    · exact .inr z
  have far : ∀ {j : Nat} {e : List D} {b : Addr}, Γ[j]? = some (.o (.lst e)) → σ[j]? = some (some (.ref b)) → b ≠ p := fun {j e b} e1 e2 z => by
    obtain ⟨us, _, q, _⟩ := a.ok.liveO e1 e2
    rw [z, hp] at q; cases q
  refine ⟨⟨pset (F := SvR Z (fun b => N b ∧ b ≠ p) H') (a := .o (.lst ds)) (b := some (.ref p)) ⟨p, vs, rfl, fun z => z.2 rfl, hp', rs⟩ i (pimp (fun s y h => ?_) a.ok.sl), fun b e => ⟨a.ok.fr b (g.back e), fun z => by rw [z, hp'] at e; cases e⟩⟩, fun j k e e' b ne q1 q2 q3 q4 => ?_, fun j e b q1 q2 => ?_, RDs.grow g (a.hd.off hp), a.f0, fun b z => a.sub b z.1, fun b o e n => g _ _ (a.rest b o e n), fun b o e => by obtain ⟨o', q⟩ := a.live b o e; exact ⟨o', g _ _ q⟩, fun b e => ?_⟩
  · cases s with
    | n => exact trivial
    | s e => cases y with
      | none => exact h
      | some y => exact RD.grow g (RD.off hp h)
    | o e => cases y with
      | none => exact h
      | some y =>
        cases e with
        | lst es => obtain ⟨b, us, e1, n, q, t⟩ := h; exact ⟨b, us, e1, fun z => n z.1, g _ _ q, RDs.grow g (t.off hp)⟩
        | _ => exact RD.grow g (RD.off hp h)
  · have hil : ∀ {b : Addr}, (σ.set i (some (V.ref p)))[i]? = some (some (.ref b)) → b = p := fun {b} e => by
      rcases get_set e with ⟨_, z⟩ | ⟨z, _⟩
      · cases z; rfl
      · exact absurd rfl z
    rcases old q1 with rfl | ⟨z1, z2⟩ <;> rcases old q2 with rfl | ⟨z3, z4⟩
    · exact ne rfl
    · rw [List.getElem?_set_ne z3] at q4
      exact far z4 q4 (hil q3)
    · rw [List.getElem?_set_ne z1] at q3
      exact far z2 q3 (hil q4)
    · rw [List.getElem?_set_ne z1] at q3
      rw [List.getElem?_set_ne z3] at q4
      exact a.ap j k e e' b ne z2 z4 q3 q4
  · rcases old q1 with rfl | ⟨z1, z2⟩
    · have eb : b = p := by
        rcases get_set q2 with ⟨_, z⟩ | ⟨z, _⟩
        · cases z; rfl
        · exact absurd rfl z
      subst eb
      have : F.H0 b = none := by
        cases q : F.H0 b with
        | none => rfl
        | some o => obtain ⟨o', z⟩ := a.live b o q; rw [hp] at z; cases z
      exact ⟨fun _ => this, .inl this⟩
    · rw [List.getElem?_set_ne z1] at q2
      exact a.ow j e b z2 q2
  · rcases hi with hi | hi
    · rw [hi] at e; cases e
    · rw [List.getElem?_set_ne hi]; exact a.io b e
theorem At.setO0 {i : Nat} {d : D} {x : V} (hi : F.A0 = none ∨ i ≠ 0) (g : Grow H H') (hn : ∀ ds, d ≠ .lst ds) (rr : RD Z N H' d x) (a : At Z F N Γ σ H) : At Z F N (Γ.set i (.o d)) (σ.set i (some x)) H' := by
  have b := (a.grow g).setS hi rr
  refine ⟨⟨pset (F := SvR Z N H') (a := .o d) (b := some x) ((RW.alt hn).mpr rr) i (a.grow g).ok.sl, b.ok.fr⟩, fun j k e e' p ne q1 q2 q3 q4 => ?_, fun j e p q1 q2 => ?_, b.hd, b.f0, b.sub, b.rest, b.live, b.io⟩
  · rcases get_set q1 with ⟨_, z⟩ | ⟨z1, z2⟩
    · cases z; exact absurd rfl (hn _)
    · rcases get_set q2 with ⟨_, z⟩ | ⟨z3, z4⟩
      · cases z; exact absurd rfl (hn _)
      · rw [List.getElem?_set_ne z1] at q3
        rw [List.getElem?_set_ne z3] at q4
        exact a.ap j k e e' p ne z2 z4 q3 q4
  · rcases get_set q1 with ⟨_, z⟩ | ⟨z1, z2⟩
    · cases z; exact absurd rfl (hn _)
    · rw [List.getElem?_set_ne z1] at q2
      exact a.ow j e p z2 q2
theorem At.setO {i : Nat} {d : D} {x : V} (hi : F.A0 = none ∨ i ≠ 0) (g : Grow H H') (r : Cls Z N H .T H' d x) (a : At Z F N Γ σ H) : ∃ N', At Z F N' (Γ.set i (.o d)) (σ.set i (some x)) H' := by
  by_cases hd : ∃ ds, d = .lst ds
  · obtain ⟨ds, rfl⟩ := hd
    obtain ⟨p, vs, rfl, hp, hp', rs⟩ := r
    exact ⟨_, At.setO' hi g hp hp' rs a⟩
  · have hn : ∀ ds, d ≠ .lst ds := fun ds z => hd ⟨ds, z⟩
    have rr : RD Z N H' d x := by cases d <;> first | exact r | exact absurd rfl (hn _)
    exact ⟨N, At.setO0 hi g hn rr a⟩
/-- a list changes -/
theorem At.mut {i : Nat} {ds es : List D} {ws : List V} {p : Addr} (e1 : Γ[i]? = some (.o (.lst ds))) (e2 : σ[i]? = some (some (.ref p))) (rs : RDs Z N H es ws) (a : At Z F N Γ σ H) : At Z F N (Γ.set i (.o (.lst es))) σ (upd H p (.lst ws)) := by
  obtain ⟨vs, n, hp, _⟩ := a.ok.liveO e1 e2
  have k : Keep N H (upd H p (.lst ws)) := Keep.updD hp n
  have old : ∀ {j : Nat} {e : List D}, (Γ.set i (.o (.lst es)))[j]? = some (.o (.lst e)) → (i = j ∧ e = es) ∨ (i ≠ j ∧ Γ[j]? = some (.o (.lst e))) := fun {j e} q => by
    rcases get_set q with ⟨z, w⟩ | z
    · cases w; exact .inl ⟨z, rfl⟩
    · exact .inr z
  refine ⟨⟨Paired.mk' (by rw [List.length_set]; exact plen a.ok.sl) fun j s y q1 q2 => ?_, fun b e => ?_⟩, fun j m e e' b ne q1 q2 q3 q4 => ?_, fun j e b q1 q2 => ?_, RDs.keep k _ _ a.hd, a.f0, a.sub, fun b o e nn => ?_, fun b o e => ?_, a.io⟩
  · rcases get_set q1 with ⟨rfl, rfl⟩ | ⟨z1, z2⟩
    · rw [e2] at q2; cases q2
      exact ⟨p, ws, rfl, n, upd_same, RDs.keep k _ _ rs⟩
    · obtain ⟨y', q3, h⟩ := pget a.ok.sl z2
      rw [q2] at q3; cases q3
      cases s with
      | n => exact trivial
      | s e => cases y with
        | none => exact h
        | some y => exact RD.keep k _ _ h
      | o e => cases y with
        | none => exact h
        | some y =>
          cases e with
          | lst es' =>
            obtain ⟨b, us, rfl, n', q, t⟩ := h
            refine ⟨b, us, rfl, n', ?_, RDs.keep k _ _ t⟩
            rw [upd_ne]; exact q
            rintro rfl
            exact a.ap i j ds es' b z1 e1 z2 e2 q2
          | _ => exact RD.keep k _ _ h
  · by_cases q : b = p
    · subst q; rw [upd_same] at e; cases e
    · rw [upd_ne q] at e; exact a.ok.fr b e
  · rcases old q1 with ⟨rfl, rfl⟩ | ⟨z1, z2⟩ <;> rcases old q2 with ⟨rfl, rfl⟩ | ⟨z3, z4⟩
    · exact ne rfl
    · exact a.ap _ _ _ _ b ne e1 z4 q3 q4
    · exact a.ap _ _ _ _ b ne z2 e1 q3 q4
    · exact a.ap _ _ _ _ b ne z2 z4 q3 q4
  · rcases old q1 with ⟨rfl, rfl⟩ | ⟨z1, z2⟩
    · exact a.ow _ _ b e1 q2
    · exact a.ow _ _ b z2 q2
  · by_cases q : b = p
    · subst q
      obtain ⟨_, z⟩ := a.ow i ds b e1 e2
      rcases z with z | z
      · rw [z] at e; cases e
      · exact absurd z nn
    · rw [upd_ne q]; exact a.rest b o e nn
  · by_cases q : b = p
    · subst q; exact ⟨_, upd_same⟩
    · obtain ⟨o', z⟩ := a.live b o e; exact ⟨o', by rw [upd_ne q]; exact z⟩
end
end Qz
/-! Qz: simple statements, targets. -/
namespace Qz
open PySem PySem.Spec L2

section
variable {τ τ' β β' : Type} {Z : Whr} {X : Cx} {S : Sh} {F : Fx} {N N' : Addr → Prop} {H H' : L2.Hp} {Γ Γ' : List Sv} {σ : St} {W : WX} {Dd : Ends} {po : τ → List Sv} {pb : β → List Sv} {po' : τ' → List Sv} {r : R D} {c : Cl} {e : Expr} {rest : List Stmt} {pos : Pos}
noncomputable def isN : Sv → Bool
  | .n => true
  | _ => false
theorem les_n : ∀ {Γ px : List Sv}, px.all isN = true → Γ.length = px.length → LeS Γ px
  | [], [], _, _ => .nil
  | a :: as, b :: bs, h, l => by
    rw [List.all_cons, Bool.and_eq_true] at h
    refine .cons ?_ (les_n h.2 (by simpa using l))
    cases b with
    | n => exact .n
    | s d => cases h.1
    | o d => cases h.1
  | [], _ :: _, _, l => by simp at l
  | _ :: _, [], _, l => by simp at l
theorem pss_ex {ι : Type} {sts : List Stmt} {t : ι → TS} (h : ∀ i, PSs X sts (t i)) : PSs X sts (fun D σ H => ∃ i, t i D σ H) := ⟨fun pins s σ H D I ⟨i, q⟩ => (h i).run pins s σ H D I q⟩
/-- an error on the way leaves -/
theorem ct_ex {k : Nat} {fs : List D} {H1 : L2.Hp} {d : Option Addr} (a : At Z F N Γ σ H) (hx : LeS Γ S.px) (c : CtS Z F S po pb Dd W (.ex k fs)) (g : Grow H H1) (xd : XD Z k fs H1 d) : W (.ref (Z.C k)) d σ H1 := by
  obtain ⟨N', a'⟩ := (a.grow g).le hx (.inl c.1)
  exact c.2 N' σ H1 d a' xd
theorem tV_of {f : D → Fl τ β} {Q : VK} (a : At Z F N Γ σ H) (hx : LeS Γ S.px) (k : CtS Z F S po pb Dd W (bnS r f)) (ho : ∀ u x H', Grow H H' → At Z F N Γ σ H' → Cls Z N H c H' u x → CtS Z F S po pb Dd W (f u) → Q x H') : tV Z Γ r c W σ H Q := by
  refine ⟨N, a.ok, ?_⟩
  cases r with
  | ok u => exact fun x H' g q => ho u x H' g (a.grow g) q k
  | ex c fs => exact fun d H' g xd => ct_ex a hx k g xd
  | bad => exact k.elim
theorem tVA_of {rA : R (List D)} {f : List D → Fl τ β} {Q : List V → L2.Hp → Prop} (a : At Z F N Γ σ H) (hx : LeS Γ S.px) (k : CtS Z F S po pb Dd W (bnS rA f)) (ho : ∀ us xs H', Grow H H' → At Z F N Γ σ H' → Paired (Cls Z N H c H') us xs → CtS Z F S po pb Dd W (f us) → Q xs H') : tVA Z Γ rA c W σ H Q := by
  refine ⟨N, a.ok, ?_⟩
  cases rA with
  | ok u => exact fun x H' g q => ho u x H' g (a.grow g) q k
  | ex c fs => exact fun d H' g xd => ct_ex a hx k g xd
  | bad => exact k.elim
theorem tVT_of {t : R Bool} {A B : Fl τ β} {Q : Bool → L2.Hp → Prop} (a : At Z F N Γ σ H) (hx : LeS Γ S.px) (k : CtS Z F S po pb Dd W (tst t A B)) (ho : ∀ b H', At Z F N Γ σ H' → CtS Z F S po pb Dd W (if b = true then A else B) → Q b H') : tVT Z Γ t W σ H Q := by
  refine ⟨N, a.ok, ?_⟩
  cases t with
  | ok u => exact fun H' g => ho u H' (a.grow g) (by cases u <;> exact k)
  | ex c fs => exact fun d H' g xd => ct_ex a hx k g xd
  | bad => exact k.elim
theorem ct_thn {m : Fl τ' β} {k : τ' → Fl τ β} (c : CtS Z F S po pb Dd W (thnS m k)) {U : TS} (h : ∀ s N σ H, At Z F N (po' s) σ H → CtS Z F S po pb Dd W (k s) → U Dd σ H) : CtS Z F S po' pb { Dd with nx := U Dd } W m := by
  cases m with
  | nx s => exact fun N σ H a => h s N σ H a c
  | rt u w => exact c
  | bk b => exact c
  | ct b => exact c
  | ex k fs => exact c
  | bad => exact c.elim

/-! ### blocks -/
theorem g_nil {s : τ} (l : LeT S.io Γ (po s)) : PSsv Z X S Γ po pb [] (.nx s) := ⟨fun W tk => pss_nil.weak fun D σ H ⟨F, N, hio, a, c⟩ => by
  obtain ⟨N', a'⟩ := a.le l.le (l.h0 hio)
  exact c N' σ H a'⟩
theorem g_cons {st : Stmt} {m : Fl τ' β} {k : τ' → Fl τ β} (p : PSv Z X S Γ po' pb st m) (q : ∀ s, PSsv Z X S (po' s) po pb rest (k s)) : PSsv Z X S Γ po pb (st :: rest) (thnS m k) := by
  refine ⟨fun W tk => (pss_cons (p.run W tk) (pss_ex fun s => (q s).run W tk)).weak fun D σ H ⟨F, N, hio, a, c⟩ => ⟨F, N, hio, a, ?_⟩⟩
  exact ct_thn (po' := po') c (U := fun D σ H => ∃ s, tGS Z S (po' s) po pb (k s) W D σ H) fun s N σ H a c => ⟨s, F, N, hio, a, c⟩
theorem g_le {sts : List Stmt} {m : Fl τ β} (l : LeT S.io Γ Γ') (p : PSsv Z X S Γ' po pb sts m) : PSsv Z X S Γ po pb sts m :=
  ⟨fun W tk => (p.run W tk).weak fun D σ H ⟨F, N, hio, a, c⟩ => by
    obtain ⟨N', a'⟩ := a.le l.le (l.h0 hio)
    exact ⟨F, N', hio, a', c⟩⟩
theorem g_bad {sts : List Stmt} {t : TS} (p : PSs X sts t) : PSsv (τ := τ) Z X S Γ po pb sts .bad := ⟨fun W tk => p.weak fun D σ H ⟨F, N, hio, a, c⟩ => c.elim⟩

/-! ### targets, and what follows -/
structure PTg (Z : Whr) (X : Cx) (S : Sh) (Γ : List Sv) (po : τ → List Sv) (pb : β → List Sv) (tg : Expr) (sts : List Stmt) (m : D → Fl τ β) : Prop where
  run : ∃ g : TG, PG X tg g ∧ ∀ W, Takes X W → ∃ t : TS, PSs X sts t ∧ ∀ (F : Fx) (N : Addr → Prop) (d : D) (x : V) (σ : St) (H : L2.Hp) (Dd : Ends), (S.io = false → F.A0 = none) → At Z F N Γ σ H → RD Z N H d x → CtS Z F S po pb Dd W (m d) → ∀ Q : St → L2.Hp → Prop, (∀ σ' H', t Dd σ' H' → Q σ' H') → g x σ H Q
theorem io_ne {i : Nat} (hi : S.io = false ∨ i ≠ 0) (h : S.io = false → F.A0 = none) : F.A0 = none ∨ i ≠ 0 := by
  rcases hi with q | q
  · exact .inl (h q)
  · exact .inr q
theorem t_nm (i : Nat) {x : Str} {k : D → Fl τ β} {G : D → List Sv} (nd : X.N.Nodup) (hi : S.io = false ∨ i ≠ 0) (hG : ∀ u, Γ.set i (.s u) = G u) (q : ∀ u, PSsv Z X S (G u) po pb rest (k u)) (hN : X.N[i]? = some x := by rfl) (hx : Loc X.env.scope x := by first | exact Or.inl rfl | exact Or.inr rfl)
    (hl : X.fn x = true ∨ X.env.scope.names.lookup x = some .local := by first | exact Or.inl rfl | exact Or.inr rfl) : PTg Z X S Γ po pb (.Name x pos) rest k := by
  refine ⟨gName i, pg_name nd hN hx hl, fun W tk => ⟨_, pss_ex fun u => (q u).run W tk, fun F N d x σ H Dd hio a r c Q hQ => ?_⟩⟩
  exact hQ _ _ ⟨d, F, N, hio, by rw [← hG]; exact a.setS (io_ne hi hio) r, c⟩
theorem t_2 (i j : Nat) {x y : Str} {kk : Nat} {px py : Pos} {k : D → D → Fl τ β} {G : D → D → List Sv} (hc : X.calm = true) (hK : X.K = Z.K) (nd : X.N.Nodup) (hi : S.io = false ∨ i ≠ 0) (hj : S.io = false ∨ j ≠ 0) (hG : ∀ u v, (Γ.set i (.s u)).set j (.s v) = G u v) (q : ∀ u v, PSsv Z X S (G u v) po pb rest (k u v)) (hN : X.N[i]? = some x := by rfl) (hx : Loc X.env.scope x := by first | exact Or.inl rfl | exact Or.inr rfl)
    (hl : X.fn x = true ∨ X.env.scope.names.lookup x = some .local := by first | exact Or.inl rfl | exact Or.inr rfl) (hN2 : X.N[j]? = some y := by rfl) (hy : Loc X.env.scope y := by first | exact Or.inl rfl | exact Or.inr rfl) (hl2 : X.fn y = true ∨ X.env.scope.names.lookup y = some .local := by first | exact Or.inl rfl | exact Or.inr rfl)
    (h1 : (assignEach [.Name x px, .Name y py] X.env).map (·.2) = assign (.Name x px) X.env :: (assignEach [.Name y py] X.env).map (·.2) := by rfl) (h2 : (assignEach [.Name y py] X.env).map (·.2) = assign (.Name y py) X.env :: (assignEach [] X.env).map (·.2) := by rfl)
    (hn : (assignEach [.Name x px, .Name y py] X.env).length = 2 := by rfl) (hst : (assignEach [.Name x px, .Name y py] X.env).findIdx? (·.1) = none := by rfl) : PTg Z X S Γ po pb (.Tuple [.Name x px, .Name y py] kk pos) rest (fun d => upk2 .bad d k) := by
  refine ⟨_, pg_tup hc (pgs_cons (pg_name nd hN hx hl) (pgs_cons (pg_name nd hN2 hy hl2) pgs_nil h2) h1) hn hst, fun W tk => ⟨_, pss_ex fun u => pss_ex fun v => (q u v).run W tk, fun F N d x σ H Dd hio a r c Q hQ => ?_⟩⟩
  rw [upk2_def] at c; unfold upk2' at c
  split at c
  · rename_i u v
    obtain ⟨p, vs, rfl, s, rs⟩ := r
    obtain ⟨x1, t1, rfl, r1, rs⟩ := rs
    obtain ⟨x2, t2, rfl, r2, rs⟩ := rs
    cases rs
    exact ⟨p, [x1, x2], rfl, by rw [hK]; exact s, rfl, x1, [x2], rfl, x2, [], rfl, rfl, hQ _ _ ⟨u, v, F, N, hio, by rw [← hG]; exact (a.setS (io_ne hi hio) r1).setS (io_ne hj hio) r2, c⟩⟩
  · exact c.elim
theorem t_3 (i j l : Nat) {x y z : Str} {kk : Nat} {px py pz : Pos} {k : D → D → D → Fl τ β} {G : D → D → D → List Sv} (hc : X.calm = true) (hK : X.K = Z.K) (nd : X.N.Nodup) (hi : S.io = false ∨ i ≠ 0) (hj : S.io = false ∨ j ≠ 0) (hm : S.io = false ∨ l ≠ 0) (hG : ∀ u v w, ((Γ.set i (.s u)).set j (.s v)).set l (.s w) = G u v w) (q : ∀ u v w, PSsv Z X S (G u v w) po pb rest (k u v w)) (hN : X.N[i]? = some x := by rfl) (hx : Loc X.env.scope x := by first | exact Or.inl rfl | exact Or.inr rfl)
    (hl : X.fn x = true ∨ X.env.scope.names.lookup x = some .local := by first | exact Or.inl rfl | exact Or.inr rfl) (hN2 : X.N[j]? = some y := by rfl) (hy : Loc X.env.scope y := by first | exact Or.inl rfl | exact Or.inr rfl) (hl2 : X.fn y = true ∨ X.env.scope.names.lookup y = some .local := by first | exact Or.inl rfl | exact Or.inr rfl)
    (hN3 : X.N[l]? = some z := by rfl) (hz : Loc X.env.scope z := by first | exact Or.inl rfl | exact Or.inr rfl) (hl3 : X.fn z = true ∨ X.env.scope.names.lookup z = some .local := by first | exact Or.inl rfl | exact Or.inr rfl)
    (h1 : (assignEach [.Name x px, .Name y py, .Name z pz] X.env).map (·.2) = assign (.Name x px) X.env :: (assignEach [.Name y py, .Name z pz] X.env).map (·.2) := by rfl) (h2 : (assignEach [.Name y py, .Name z pz] X.env).map (·.2) = assign (.Name y py) X.env :: (assignEach [.Name z pz] X.env).map (·.2) := by rfl) (h3 : (assignEach [.Name z pz] X.env).map (·.2) = assign (.Name z pz) X.env :: (assignEach [] X.env).map (·.2) := by rfl)
    (hn : (assignEach [.Name x px, .Name y py, .Name z pz] X.env).length = 3 := by rfl) (hst : (assignEach [.Name x px, .Name y py, .Name z pz] X.env).findIdx? (·.1) = none := by rfl) : PTg Z X S Γ po pb (.Tuple [.Name x px, .Name y py, .Name z pz] kk pos) rest (fun d => upk3 .bad d k) := by
  refine ⟨_, pg_tup hc (pgs_cons (pg_name nd hN hx hl) (pgs_cons (pg_name nd hN2 hy hl2) (pgs_cons (pg_name nd hN3 hz hl3) pgs_nil h3) h2) h1) hn hst, fun W tk => ⟨_, pss_ex fun u => pss_ex fun v => pss_ex fun w => (q u v w).run W tk, fun F N d x σ H Dd hio a r c Q hQ => ?_⟩⟩
  rw [upk3_def] at c; unfold upk3' at c
  split at c
  · rename_i u v w
    obtain ⟨p, vs, rfl, s, rs⟩ := r
    obtain ⟨x1, t1, rfl, r1, rs⟩ := rs
    obtain ⟨x2, t2, rfl, r2, rs⟩ := rs
    obtain ⟨x3, t3, rfl, r3, rs⟩ := rs
    cases rs
    exact ⟨p, [x1, x2, x3], rfl, by rw [hK]; exact s, rfl, x1, [x2, x3], rfl, x2, [x3], rfl, x3, [], rfl, rfl, hQ _ _ ⟨u, v, w, F, N, hio, by rw [← hG]; exact ((a.setS (io_ne hi hio) r1).setS (io_ne hj hio) r2).setS (io_ne hm hio) r3, c⟩⟩
  · exact c.elim
/-- t = e -/
theorem g_asg {tg : Expr} {m : D → Fl τ β} (pe : PEv Z X Γ e r c) (t : PTg Z X S Γ po pb tg rest m) (hc : c.le .C = true := by rfl) (hx : LeS Γ S.px := by exact les_n rfl rfl) (h1 : swapsWithSole [tg] e pos.line X.env = pure false := by rfl) (h2 : swappedStores [tg] e X.env = pure none := by rfl)
    (h3 : (assignEach [tg] X.env).map (·.2) = [assign tg X.env] := by rfl) : PSsv Z X S Γ po pb (.Assign [tg] e pos :: rest) (bnS r m) := by
  obtain ⟨g, pg, k⟩ := t.run
  refine ⟨fun W tk => ?_⟩
  obtain ⟨t, pt, k⟩ := k W tk
  refine (pss_cons (ps_asg (pe.run W tk) pg h1 h2 h3) pt).weak fun D σ H ⟨F, N, hio, a, c'⟩ => ?_
  exact tV_of a hx c' fun u x H' g a' q c'' => k F N u x σ H' D hio a' (q.le a.ok.fr hc) c'' _ fun _ _ z => z
/-- x = e, seen or to be changed -/
theorem g_setS (i : Nat) {x : Str} {k : D → Fl τ β} {G : D → List Sv} {pos' : Pos} (nd : X.N.Nodup) (pe : PEv Z X Γ e r c) (hi : S.io = false ∨ i ≠ 0) (hG : ∀ u, Γ.set i (.s u) = G u) (q : ∀ u, PSsv Z X S (G u) po pb rest (k u)) (hc : c.le .C = true := by rfl) (hx : LeS Γ S.px := by exact les_n rfl rfl) (hN : X.N[i]? = some x := by rfl)
    (hv : Loc X.env.scope x := by first | exact Or.inl rfl | exact Or.inr rfl) (hs : swapsWith e (some (.Name x pos')) pos.line X.env = pure false := by rfl) (hl : X.fn x = true ∨ X.env.scope.names.lookup x = some .local := by first | exact Or.inl rfl | exact Or.inr rfl) :
    PSsv Z X S Γ po pb (.Assign [.Name x pos'] e pos :: rest) (bnS r k) := by
  refine ⟨fun W tk => (pss_cons (ps_set nd hN hv (pe.run W tk) hs hl) (pss_ex fun u => (q u).run W tk)).weak fun D σ H ⟨F, N, hio, a, c'⟩ => ?_⟩
  exact tV_of a hx c' fun u y H' g a' q c'' => ⟨u, F, N, hio, by rw [← hG]; exact a'.setS (io_ne hi hio) (q.le a.ok.fr hc), c''⟩
theorem g_setO (i : Nat) {x : Str} {k : D → Fl τ β} {G : D → List Sv} {pos' : Pos} (nd : X.N.Nodup) (pe : PEv Z X Γ e r c) (hi : S.io = false ∨ i ≠ 0) (hG : ∀ u, Γ.set i (.o u) = G u) (q : ∀ u, PSsv Z X S (G u) po pb rest (k u)) (hc : c.le .T = true := by rfl) (hx : LeS Γ S.px := by exact les_n rfl rfl) (hN : X.N[i]? = some x := by rfl)
    (hv : Loc X.env.scope x := by first | exact Or.inl rfl | exact Or.inr rfl) (hs : swapsWith e (some (.Name x pos')) pos.line X.env = pure false := by rfl) (hl : X.fn x = true ∨ X.env.scope.names.lookup x = some .local := by first | exact Or.inl rfl | exact Or.inr rfl) :
    PSsv Z X S Γ po pb (.Assign [.Name x pos'] e pos :: rest) (bnS r k) := by
  refine ⟨fun W tk => (pss_cons (ps_set nd hN hv (pe.run W tk) hs hl) (pss_ex fun u => (q u).run W tk)).weak fun D σ H ⟨F, N, hio, a, c'⟩ => ?_⟩
  refine tV_of a hx c' fun u y H' g a' q c'' => ?_
  obtain ⟨N', a2⟩ := a.setO (io_ne hi hio) g (q.le a.ok.fr hc)
  exact ⟨u, F, N', hio, by rw [← hG]; exact a2, c''⟩
/-- an expression in a statement -/
theorem g_expr {k : Fl τ β} (p : PEv Z X Γ e r c) (q : PSsv Z X S Γ po pb rest k) (hx : LeS Γ S.px := by exact les_n rfl rfl) (hs : swapsWith e none pos.line X.env = pure false := by rfl) : PSsv Z X S Γ po pb (.Expr e pos :: rest) (bnS r fun _ => k) := by
  refine ⟨fun W tk => (pss_cons (ps_expr (p.run W tk) hs) (q.run W tk)).weak fun D σ H ⟨F, N, hio, a, c'⟩ => ?_⟩
  exact tV_of a hx c' fun u y H' g a' q c'' => ⟨F, N, hio, a', c''⟩
/-! ### return -/
theorem Cls.frame {u : D} {x : V} {H1 : L2.Hp} (a : At Z F N Γ σ H) (h : Cls Z N H c H1 u x) : Cls Z F.N0 F.H0 c H1 u x := by
  have f : ∀ p, H p = none → F.H0 p = none := fun p e => by
    cases q : F.H0 p with
    | none => rfl
    | some o => obtain ⟨o', z⟩ := a.live p o q; rw [e] at z; cases z
  cases c with
  | S => exact h
  | C => exact RD.sub a.sub h
  | T =>
    cases u with
    | lst ds => obtain ⟨p, vs, e, q, r, s⟩ := h; exact ⟨p, vs, e, f p q, r, RDs.sub (fun b z => ⟨a.sub b z.1, z.2⟩) s⟩
    | _ => exact RD.sub a.sub h
  | E =>
    cases u with
    | lst ds => obtain ⟨p, vs, e, r, s⟩ := h; exact ⟨p, vs, e, r, RDs.sub a.sub s⟩
    | _ => exact RD.sub a.sub h
theorem g_ret (p : PEv Z X Γ e r c) (hio : S.io = false) (hc : c.le S.cl = true := by rfl) (hx : LeS Γ S.px := by exact les_n rfl rfl) : PSsv Z X S Γ po pb [.Return (some e) pos] (bnS r fun u => .rt u .non) := by
  refine ⟨fun W tk => (pss_one (ps_ret (p.run W tk))).weak fun D σ H ⟨F, N, h0, a, c'⟩ => ?_⟩
  refine tV_of a hx c' fun u y H' g a' q c'' => c'' y H' ⟨?_, a'.rest, a'.live, fun p e => ?_⟩
  · exact (q.le a.ok.fr hc).frame a
  · rw [h0 hio] at e; cases e
theorem g_retW {w : D} (p : PEv Z X Γ e r c) (hw : Γ[0]? = some (.o w) := by rfl) (hc : c.le S.cl = true := by rfl) (hx : LeS Γ S.px := by exact les_n rfl rfl) : PSsv Z X S Γ po pb [.Return (some e) pos] (bnS r fun u => .rt u w) := by
  refine ⟨fun W tk => (pss_one (ps_ret (p.run W tk))).weak fun D σ H ⟨F, N, h0, a, c'⟩ => ?_⟩
  refine tV_of a hx c' fun u y H' g a' q c'' => c'' y H' ⟨?_, a'.rest, a'.live, fun p e ds ew => ?_⟩
  · exact (q.le a.ok.fr hc).frame a
  · subst ew
    obtain ⟨vs, n, hp, rs⟩ := a'.ok.liveO hw (a'.io p e)
    exact ⟨vs, hp, RDs.sub a'.sub rs⟩
/-! ### if -/
theorem g_if {t : Expr} {T : R Bool} {xs ys : List Stmt} {A B : Fl τ' β} {k : τ' → Fl τ β} (p : PTv Z X Γ t T) (qa : PSsv Z X S Γ po' pb xs A) (qb : PSsv Z X S Γ po' pb ys B) (q : ∀ s, PSsv Z X S (po' s) po pb rest (k s)) (hx : LeS Γ S.px := by exact les_n rfl rfl) : PSsv Z X S Γ po pb (.If t xs ys pos :: rest) (thnS (tst T A B) k) := by
  refine ⟨fun W tk => (pss_cons (ps_if (p.run W tk) (qa.run W tk) (qb.run W tk)) (pss_ex fun s => (q s).run W tk)).weak fun D σ H ⟨F, N, hio, a, c⟩ => ?_⟩
  have c' := ct_thn (po' := po') c (U := fun D σ H => ∃ s, tGS Z S (po' s) po pb (k s) W D σ H) fun s N σ H a c => ⟨s, F, N, hio, a, c⟩
  refine tVT_of a hx c' fun b H' a' c'' => ?_
  cases b with
  | true => exact ⟨F, N, hio, a', c''⟩
  | false => exact ⟨F, N, hio, a', c''⟩
theorem g_brk {b : β} (l : LeT S.io Γ (pb b)) : PSsv (τ := τ) Z X S Γ po pb [.Break pos] (.bk b) := ⟨fun W tk => (pss_one ps_break).weak fun D σ H ⟨F, N, hio, a, c⟩ => by
  obtain ⟨N', a'⟩ := a.le l.le (l.h0 hio)
  exact c N' σ H a'⟩
theorem g_cont {b : β} (l : LeT S.io Γ (pb b)) : PSsv (τ := τ) Z X S Γ po pb [.Continue pos] (.ct b) := ⟨fun W tk => (pss_one ps_continue).weak fun D σ H ⟨F, N, hio, a, c⟩ => by
  obtain ⟨N', a'⟩ := a.le l.le (l.h0 hio)
  exact c N' σ H a'⟩
end
end Qz
/-! Qz: walks over lists and tuples: plain, numbered, side by side. -/
namespace Qz
open PySem PySem.Spec L2

theorem meets_enum1 {v : Value} {o : Obj} {H : Heap → Prop} (B : Begins v o H) :
    Meets (Builtin.«enumerate.__new__» { pos := [Value.type "enumerate", v] }) fun x R s => H s.heap ∧
      R (Except.ok (Flow.ret (Value.ref (s.heap.push o).objs.size)))
        { heap := (s.heap.push o).push { cls := Value.type "enumerate", data := Data.fields #[Value.none, Value.bool false, Value.ref s.heap.objs.size, rawInt 0, Value.none, Value.none] },
          gens := s.gens, drawn := s.drawn, toks := s.toks, os := s.os } := by
  refine Meets.of_wp fun prog w A R s h => ?_
  obtain ⟨hp, g, d, tk, os⟩ := s
  obtain ⟨h1, h⟩ := h
  have hsub := sub_enumerate
  have q1 : ∀ {A' : Around} {E : Value → Shared → Prop} {Q : Value → Shared → Prop}, _ → wpAny (model prog w) A' (pyIter v) Q E _ := fun {A' E Q} q => B.iter prog w A' E { heap := hp, gens := g, drawn := d, toks := tk, os := os } Q h1 q
  unfold Builtin.«enumerate.__new__»
  refine wpAny_bind ?_
  unfold Builtin.SmallTypes.newClass
  refine wpAny_bind (wpAny_pure (wpAny_ite_false rfl (wpAny_bind (wpAny_of_eq hsub (wpAny_ite_false rfl (wpAny_pure (wpAny_ite_true rfl (wpAny_bind ?_))))))))
  unfold Builtin.SmallTypes.calledThroughType
  refine wpAny_bind (wpAny_stack_any fun st => wpAny_pure ?_)
  have fin1 : ∀ (A' : Around) (Q : Value → Shared → Prop) (E : Value → Shared → Prop), Q (Value.ref (hp.push o).objs.size) { heap := (hp.push o).push { cls := Value.type "enumerate", data := Data.fields #[Value.none, Value.bool false, Value.ref hp.objs.size, rawInt 0, Value.none, Value.none] }, gens := g, drawn := d, toks := tk, os := os } →
      wpAny (model prog w) A' (Builtin.SmallTypes.newRecord (Value.type "enumerate") (Builtin.SmallTypes.ownedTupleFields ++ [Value.ref hp.objs.size, rawInt 0, Value.none, Value.none])) Q E { heap := hp.push o, gens := g, drawn := d, toks := tk, os := os } := fun A' Q E q => by
    unfold Builtin.SmallTypes.newRecord
    unfold newObj
    exact wpAny_bind (wpAny_alloc (wpAny_pure q))
  split
  · rename_i c _ _ _ _ _
    generalize (c == Value.type "enumerate") = b
    cases b with
    | true => exact wpAny_ite_true rfl (wpAny_bind (wpAny_pure (wpAny_bind (q1 (wpAny_bind (fin1 _ _ _ (wpAny_pure ⟨_, rfl, h⟩)))))))
    | false => exact wpAny_ite_false rfl (wpAny_bind (wpAny_pure (wpAny_bind (q1 (wpAny_bind (fin1 _ _ _ (wpAny_pure ⟨_, rfl, h⟩)))))))
  · exact wpAny_ite_false rfl (wpAny_bind (wpAny_pure (wpAny_bind (q1 (wpAny_bind (fin1 _ _ _ (wpAny_pure ⟨_, rfl, h⟩)))))))
theorem enum1_begins {prog : Program} {w : World} {A : Around} {E : Value → Shared → Prop} {s : Shared} {v : Value} {o : Obj} {H : Heap → Prop} {Q : Value → Shared → Prop} (B : Begins v o H) (h1 : H s.heap)
    (h : ∀ h' : Heap, IsEnum h' (s.heap.objs.size + 1) s.heap.objs.size 0 Value.none → h'.get? s.heap.objs.size = some o → h'.objs.size = s.heap.objs.size + 2 → (∀ (b : Addr) (o : Obj), s.heap.get? b = some o → h'.get? b = some o) →
      Q (Value.ref (s.heap.objs.size + 1)) { heap := h', gens := s.gens, drawn := s.drawn, toks := s.toks, os := s.os }) :
    wpAny (model prog w) A (call (Value.type "enumerate") [v]) Q E s := by
  refine callType_new PySem.F.called_enumerate (by decide) (PySem.F.typeCall_enumerate_1 v) (PySem.F.newCall_enumerate_1 v) (fun obj => PySem.F.args_object_init_2 obj v) PySem.F.entry_enumerate_new (meets_enum1 B) ⟨h1, ?_⟩
  have hz := Heap.size_push s.heap o
  show Shared.TypeIs _ _ _ ∧ _
  have g1 : ((s.heap.push o).push { cls := Value.type "enumerate", data := Data.fields #[Value.none, Value.bool false, Value.ref s.heap.objs.size, rawInt 0, Value.none, Value.none] }).get? (s.heap.objs.size + 1) = some { cls := Value.type "enumerate", data := Data.fields #[Value.none, Value.bool false, Value.ref s.heap.objs.size, rawInt 0, Value.none, Value.none] } := by
    have := Heap.get?_push_size (s.heap.push o) (o := { cls := Value.type "enumerate", data := Data.fields #[Value.none, Value.bool false, Value.ref s.heap.objs.size, rawInt 0, Value.none, Value.none] }) rfl
    rwa [hz] at this
  rw [hz]
  refine ⟨⟨_, g1, rfl⟩, ?_⟩
  refine h _ g1 ?_ ?_ fun b ob e => Heap.get?_push_of_some _ (Heap.get?_push_of_some _ e)
  · exact Heap.get?_push_of_some _ (Heap.get?_push_size s.heap B.free)
  · rw [Heap.size_push, hz]

/-- a kind of thing to be walked: a list, a tuple -/
structure Src where
  sq : L2.Hp → Addr → List V → Prop
  is : Heap → Addr → Array Value → Prop
  itr : Heap → Addr → Addr → Nat → Prop
  o0 : Addr → Obj
structure SrcOk (K : PySem.W.Frag) (S : Src) : Prop where
  get : ∀ {X : Cx} {pins σ H s a xs}, L2.Inv X pins σ H s → X.K = K → S.sq H a xs → ∃ its : List Value, Vals xs its ∧ S.is s.heap a its.toArray
  inj : ∀ {X : Cx} {pins σ H s a xs ys}, L2.Inv X pins σ H s → X.K = K → S.sq H a xs → S.sq H a ys → xs = ys
  draws : ∀ {prog w} {A : Around}, A.handled = none → ∀ it a : Addr, a ≠ it → ∀ items : Array Value, Draws prog w A it [it, a] items.size (fun i v => items[i]? = some v) (fun i h => S.itr h it a i ∧ S.is h a items)
  beg : ∀ a items, Begins (Value.ref a) (S.o0 a) (fun h => S.is h a items)
  start : ∀ {h : Heap} {it a}, h.get? it = some (S.o0 a) → S.itr h it a 0
  live : ∀ {h : Heap} {it a i}, S.itr h it a i → ∃ o, h.get? it = some o ∧ ∀ v : Option Value, o.data ≠ Data.cell v
  keep : ∀ {h h' : Heap} {it a i}, S.itr h it a i → (∀ o, h.get? it = some o → h'.get? it = some o) → S.itr h' it a i
  has : ∀ {h : Heap} {a items}, S.is h a items → ∃ o, h.get? a = some o
noncomputable def srcL (K : PySem.W.Frag) : Src := ⟨SqL K, fun h a items => h.IsList a items, fun h it a i => h.IsListIter it a i, fun a => { cls := Value.type "list_iterator", data := Data.fields #[Value.ref a, Value.int 0 0] }⟩
noncomputable def srcT (K : PySem.W.Frag) : Src := ⟨SqT K, fun h a items => h.IsTuple a items, fun h it a i => h.IsTupleIter it a i, fun a => { cls := Value.type "tuple_iterator", data := Data.fields #[Value.ref a, Value.int 0 0] }⟩
theorem srcL_ok {K : PySem.W.Frag} : SrcOk K (srcL K) where
  get := fun I e q => by subst e; obtain ⟨its, a, b, c⟩ := I.list q; exact ⟨its, a, b.isList⟩
  inj := fun I e q r => by subst e; exact I.list_inj q r
  draws := fun hA it a ne items => Draws.list hA it a ne items
  beg := fun a items => begins_list a items
  start := fun h => ⟨_, h, rfl, rfl⟩
  live := fun ⟨o, h1, h2, h3⟩ => ⟨o, h1, fun v z => by rw [h3] at z; cases z⟩
  keep := fun h k => h.at k
  has := fun ⟨o, h, _⟩ => ⟨o, h⟩
theorem srcT_ok {K : PySem.W.Frag} : SrcOk K (srcT K) where
  get := fun I e q => by subst e; obtain ⟨its, a, b, c⟩ := I.tuple q; exact ⟨its, a, b⟩
  inj := fun I e q r => by subst e; exact I.tuple_inj q r
  draws := fun hA it a ne items => Draws.tuple hA it a ne items
  beg := fun a items => begins_tuple a items
  start := fun h => ⟨_, h, rfl, rfl⟩
  live := fun ⟨o, h1, h2, h3⟩ => ⟨o, h1, fun v z => by rw [h3] at z; cases z⟩
  keep := fun h k => h.at k
  has := fun ⟨o, h, _⟩ => ⟨o, h⟩

/-! ### numbered -/
noncomputable def ItE (S : Src) (a : Addr) : L2.It := ⟨fun i H => ∃ xs x, S.sq H a xs ∧ xs[i]? = some x, fun i H v H' => ∃ T x, v = .ref T ∧ H T = none ∧ H' = upd H T (.tup [.int i, x]) ∧ ∀ xs, S.sq H a xs → xs[i]? = some x, fun i H => ∃ xs, S.sq H a xs ∧ xs.length = i⟩
theorem turn_enumS {P : Program} {w : World} {K : PySem.W.Frag} {S : Src} (ok : SrcOk K S) {elts : List Expr} {kk : Nat} {tpos : Pos} {a e it : Addr} (hne : e ≠ it) (hea : e ≠ a) (hia : it ≠ a) :
    Turn P w K (.Tuple elts kk tpos) (ItE S a) [e, it] e (fun i h => (∃ old, IsEnum h e it (i : Int) old) ∧ S.itr h it a i) where
  mem := by simp
  obj := fun i h ⟨⟨old, he⟩, hit⟩ b hb => by
    simp only [List.mem_cons, List.not_mem_nil, or_false] at hb
    rcases hb with rfl | rfl
    · exact ⟨_, he, fun v z => by cases z⟩
    · exact ok.live hit
  keep := fun i h h' ⟨⟨old, he⟩, hit⟩ k => ⟨⟨old, k e (by simp) _ he⟩, ok.keep hit fun o q => k it (by simp) o q⟩
  item := fun X hP hw hK hc i pins s σ H E I hf st hg => by
    subst hP; subst hw
    obtain ⟨xs, x, hq, hx⟩ := hg
    obtain ⟨⟨old, he⟩, hit⟩ := st
    obtain ⟨its, rv, p⟩ := ok.get I hK hq
    obtain ⟨u, hu, ru⟩ := rv.get hx
    have hi : i < its.toArray.size := by
      have := (List.getElem?_eq_some_iff.mp hu).1
      simpa using this
    have G := GoesN.enumFrom (elts := elts) (x1 := kk) (pos := tpos) 0 (ok.draws (prog := X.prog) (w := X.w) (A := X.A.in1) (I.ok.hd hc) it a hia.symm its.toArray) e hne (by simp [hne, hea]) (by simp)
    refine G.goes i s (fun v s2 => ∃ x H', L2.Inv X pins σ H' s2 ∧ RelV x v ∧ (ItE S a).yld i H x H' ∧ ((∃ old, IsEnum s2.heap e it ((i + 1 : Nat) : Int) old) ∧ S.itr s2.heap it a (i + 1)) ∧ ∀ b, b ∈ [e, it] → H' b = none) E hi ⟨⟨old, by rw [Int.zero_add]; exact he⟩, hit, p⟩ fun v h' tk ⟨T, t, y, ev, hT, hy, hTu⟩ ⟨⟨old', he'⟩, hit', p'⟩ hk htk => ?_
    subst ev
    have ey : y = u := by
      have z : its.toArray[i]? = some u := by simpa using hu
      exact Option.some.inj (hy.symm.trans z)
    subst ey
    have hTn : H T = none := I.hok.fresh hT
    have I1 : L2.Inv X pins σ (upd H T (.tup [.int i, x])) { heap := h', gens := s.gens, drawn := s.drawn, toks := tk, os := s.os } := I.turnedNew hk hf hT (by
      refine ⟨by simp [sizeLine_eq], [Value.int (i : Int) t, y], .cons ⟨t, rfl⟩ (.cons ru .nil), ?_⟩
      rw [Int.zero_add] at hTu
      exact hTu)
    refine ⟨.ref T, upd H T (.tup [.int i, x]), I1, rfl, ⟨T, x, rfl, hTn, rfl, fun ys hy => by rw [ok.inj I hK hy hq]; exact hx⟩, ⟨⟨old', ?_⟩, hit'⟩, fun b hb => ?_⟩
    · rw [Int.zero_add] at he'; exact he'
    · have hlt : b < s.heap.objs.size := by
        simp only [List.mem_cons, List.not_mem_nil, or_false] at hb
        rcases hb with rfl | rfl
        · exact Heap.lt_size he
        · obtain ⟨o, q, _⟩ := ok.live hit; exact Heap.lt_size q
      rw [upd_ne (Nat.ne_of_lt (Nat.lt_of_lt_of_le hlt hT))]
      exact (hf b hb).1
  done := fun X hP hw hK hc i pins s σ H E I hf st hg => by
    subst hP; subst hw
    obtain ⟨xs, hq, hx⟩ := hg
    obtain ⟨⟨old, he⟩, hit⟩ := st
    obtain ⟨its, rv, p⟩ := ok.get I hK hq
    have hi : its.toArray.size = i := by rw [List.size_toArray, ← rv.length]; exact hx
    have G := GoesN.enumFrom (elts := elts) (x1 := kk) (pos := tpos) 0 (ok.draws (prog := X.prog) (w := X.w) (A := X.A.in1) (I.ok.hd hc) it a hia.symm its.toArray) e hne (by simp [hne, hea]) (by simp)
    refine G.stops s (fun s1 => L2.Inv X pins σ H s1) E ⟨⟨old, by rw [Int.zero_add, hi]; exact he⟩, by rw [hi]; exact hit, p⟩ fun h' tk hk htk => ?_
    exact I.turnedL hk hf
  self := fun A i s Q E ⟨⟨old, he⟩, _⟩ h => wpAny_pyIter_enum he h

/-! ### side by side -/
noncomputable def ItZ (S1 S2 : Src) (a b : Addr) : L2.It := ⟨fun i H => ∃ xs ys x y, S1.sq H a xs ∧ S2.sq H b ys ∧ xs[i]? = some x ∧ ys[i]? = some y, fun i H v H' => ∃ T x y, v = .ref T ∧ H T = none ∧ H' = upd H T (.tup [x, y]) ∧ (∀ xs, S1.sq H a xs → xs[i]? = some x) ∧ ∀ ys, S2.sq H b ys → ys[i]? = some y,
  fun i H => ∃ xs ys, S1.sq H a xs ∧ S2.sq H b ys ∧ min xs.length ys.length = i⟩
theorem turn_zipS {P : Program} {w : World} {K : PySem.W.Frag} {S1 S2 : Src} (ok1 : SrcOk K S1) (ok2 : SrcOk K S2) {elts : List Expr} {kk : Nat} {tpos : Pos} {a b z TI TO i1 i2 : Addr} (hs : ZipSep2 z TI TO i1 i2 [i1, a] [i2, b]) (ha : a ≠ i1) (hb : b ≠ i2) :
    Turn P w K (.Tuple elts kk tpos) (ItZ S1 S2 a b) [z, TI, TO, i1, i2] z (fun i h => IsZip h z TI TO Value.none ∧ IsTupOf2 h TI (Value.ref i1) (Value.ref i2) ∧ (∃ a1 a2, IsTupOf2 h TO a1 a2) ∧ S1.itr h i1 a i ∧ S2.itr h i2 b i) where
  mem := by simp
  obj := fun i h ⟨hz, h1, ⟨a1, a2, h2⟩, h3, h4⟩ c hc => by
    simp only [List.mem_cons, List.not_mem_nil, or_false] at hc
    rcases hc with rfl | rfl | rfl | rfl | rfl
    · exact ⟨_, hz, fun v q => by cases q⟩
    · exact ⟨_, h1, fun v q => by cases q⟩
    · exact ⟨_, h2, fun v q => by cases q⟩
    · exact ok1.live h3
    · exact ok2.live h4
  keep := fun i h h' ⟨hz, h1, ⟨a1, a2, h2⟩, h3, h4⟩ k => ⟨k z (by simp) _ hz, k TI (by simp) _ h1, ⟨a1, a2, k TO (by simp) _ h2⟩, ok1.keep h3 fun o q => k i1 (by simp) o q, ok2.keep h4 fun o q => k i2 (by simp) o q⟩
  item := fun X hP hw hK hc i pins s σ H E I hf st hg => by
    subst hP; subst hw
    obtain ⟨xs, ys, x, y, hq1, hq2, hx, hy⟩ := hg
    obtain ⟨hz, h1, h2, h3, h4⟩ := st
    obtain ⟨its1, rv1, p1⟩ := ok1.get I hK hq1
    obtain ⟨its2, rv2, p2⟩ := ok2.get I hK hq2
    obtain ⟨u1, hu1, ru1⟩ := rv1.get hx
    obtain ⟨u2, hu2, ru2⟩ := rv2.get hy
    have hi : i < min its1.toArray.size its2.toArray.size := by
      have e1 := (List.getElem?_eq_some_iff.mp hu1).1
      have e2 := (List.getElem?_eq_some_iff.mp hu2).1
      simp only [List.size_toArray]; omega
    have G := GoesN.zip2 (elts := elts) (x1 := kk) (pos := tpos) hs (ok1.draws (prog := X.prog) (w := X.w) (A := X.A.in1) (I.ok.hd hc) i1 a ha its1.toArray) (ok2.draws (prog := X.prog) (w := X.w) (A := X.A.in1) (I.ok.hd hc) i2 b hb its2.toArray)
    refine G.goes i s (fun v s2 => ∃ x H', L2.Inv X pins σ H' s2 ∧ RelV x v ∧ (ItZ S1 S2 a b).yld i H x H' ∧ (IsZip s2.heap z TI TO Value.none ∧ IsTupOf2 s2.heap TI (Value.ref i1) (Value.ref i2) ∧ (∃ a1 a2, IsTupOf2 s2.heap TO a1 a2) ∧ S1.itr s2.heap i1 a (i + 1) ∧ S2.itr s2.heap i2 b (i + 1)) ∧ ∀ c, c ∈ [z, TI, TO, i1, i2] → H' c = none) E hi ⟨hz, h1, h2, ⟨h3, p1⟩, ⟨h4, p2⟩⟩ fun v h' tk ⟨T, x', y', ev, hT, hx', hy', hTu⟩ ⟨hz', h1', h2', ⟨h3', _⟩, ⟨h4', _⟩⟩ hk htk => ?_
    subst ev
    have ex : x' = u1 := by
      have q : its1.toArray[i]? = some u1 := by simpa using hu1
      exact Option.some.inj (hx'.symm.trans q)
    have ey : y' = u2 := by
      have q : its2.toArray[i]? = some u2 := by simpa using hu2
      exact Option.some.inj (hy'.symm.trans q)
    subst ex; subst ey
    have hTn : H T = none := I.hok.fresh hT
    have I1 : L2.Inv X pins σ (upd H T (.tup [x, y])) { heap := h', gens := s.gens, drawn := s.drawn, toks := tk, os := s.os } := I.turnedNew hk (fun c hc => hf c (by
      simp only [List.mem_cons, List.not_mem_nil, or_false] at hc ⊢
      rcases hc with rfl | rfl | rfl | rfl <;> simp)) hT (by
      exact ⟨by simp [sizeLine_eq], [x', y'], .cons ru1 (.cons ru2 .nil), hTu⟩)
    refine ⟨.ref T, upd H T (.tup [x, y]), I1, rfl, ⟨T, x, y, rfl, hTn, rfl, fun zs hz => by rw [ok1.inj I hK hz hq1]; exact hx, fun zs hz => by rw [ok2.inj I hK hz hq2]; exact hy⟩, ⟨hz', h1', h2', h3', h4'⟩, fun c hc => ?_⟩
    have hlt : c < s.heap.objs.size := by
      obtain ⟨a1, a2, h2⟩ := h2
      have hc' := hc
      simp only [List.mem_cons, List.not_mem_nil, or_false] at hc'
      rcases hc' with rfl | rfl | rfl | rfl | rfl
      · exact Heap.lt_size hz
      · exact Heap.lt_size h1
      · exact Heap.lt_size h2
      · obtain ⟨o, q, _⟩ := ok1.live h3; exact Heap.lt_size q
      · obtain ⟨o, q, _⟩ := ok2.live h4; exact Heap.lt_size q
    rw [upd_ne (Nat.ne_of_lt (Nat.lt_of_lt_of_le hlt hT))]
    exact (hf c hc).1
  done := fun X hP hw hK hc i pins s σ H E I hf st hg => by
    subst hP; subst hw
    obtain ⟨xs, ys, hq1, hq2, hx⟩ := hg
    obtain ⟨hz, h1, h2, h3, h4⟩ := st
    obtain ⟨its1, rv1, p1⟩ := ok1.get I hK hq1
    obtain ⟨its2, rv2, p2⟩ := ok2.get I hK hq2
    have hi : min its1.toArray.size its2.toArray.size = i := by rw [List.size_toArray, List.size_toArray, ← rv1.length, ← rv2.length]; exact hx
    have G := GoesN.zip2 (elts := elts) (x1 := kk) (pos := tpos) hs (ok1.draws (prog := X.prog) (w := X.w) (A := X.A.in1) (I.ok.hd hc) i1 a ha its1.toArray) (ok2.draws (prog := X.prog) (w := X.w) (A := X.A.in1) (I.ok.hd hc) i2 b hb its2.toArray)
    refine G.stops s (fun s1 => L2.Inv X pins σ H s1) E (by rw [hi]; exact ⟨hz, h1, h2, ⟨h3, p1⟩, ⟨h4, p2⟩⟩) fun h' tk hk htk => ?_
    exact I.turnedL hk fun c hc => hf c (by
      simp only [List.mem_cons, List.not_mem_nil, or_false] at hc ⊢
      rcases hc with rfl | rfl | rfl | rfl <;> simp)
  self := fun A i s Q E ⟨hz, _⟩ h => wpAny_pyIter_zip hz h

/-! ### what is walked -/
noncomputable def iAny (K : PySem.W.Frag) (tl : TE) : TI := fun σ H R => tl σ H fun x H1 => ∃ a, x = .ref a ∧ (((∃ xs, SqL K H1 a xs) ∧ R (Itl K a) H1) ∨ ((∃ xs, SqT K H1 a xs) ∧ R (Itt K a) H1))
theorem pi_any {X : Cx} {tg l : Expr} {tl : TE} (hl : PE X l tl) : PI X tg l (iAny X.K tl) := ⟨fun pins s σ H R I h => by
  refine thn (hl.run pins s σ H _ I h) fun v s1 ⟨x, H1, I1, r1, a, e, q⟩ => ?_
  subst e
  cases r1
  rcases q with ⟨⟨xs, hq⟩, q⟩ | ⟨⟨xs, hq⟩, q⟩
  · obtain ⟨its, rv, p, hz⟩ := I1.list hq
    refine wpAny_pyIter_list p.isList ⟨_, [s1.heap.objs.size], fun i h => h.IsListIter s1.heap.objs.size a i, Itl X.K a, H1, rfl, I1.kept fun b o e => Heap.get?_push_of_some _ e, turn_list a _, ⟨_, Heap.get?_push_size s1.heap rfl, rfl, rfl⟩, fun b hb => ?_, q⟩
    have e : b = s1.heap.objs.size := by simpa using hb
    subst e
    exact I1.fpOk (Nat.le_refl _) (I1.hok.fresh (Nat.le_refl _))
  · obtain ⟨its, rv, p, hz⟩ := I1.tuple hq
    refine wpAny_pyIter_tuple p ⟨_, [s1.heap.objs.size], fun i h => h.IsTupleIter s1.heap.objs.size a i, Itt X.K a, H1, rfl, I1.kept fun b o e => Heap.get?_push_of_some _ e, turn_tuple a _, ⟨_, Heap.get?_push_size s1.heap rfl, rfl, rfl⟩, fun b hb => ?_, q⟩
    have e : b = s1.heap.objs.size := by simpa using hb
    subst e
    exact I1.fpOk (Nat.le_refl _) (I1.hok.fresh (Nat.le_refl _))⟩
noncomputable def iEnumA (K : PySem.W.Frag) (ta : TA) : TI := fun σ H R => ta σ H fun vs H1 => ∃ a, vs = [.ref a] ∧ (((∃ xs, SqL K H1 a xs) ∧ R (ItE (srcL K) a) H1) ∨ ((∃ xs, SqT K H1 a xs) ∧ R (ItE (srcT K) a) H1))
theorem pi_enumA {X : Cx} {e : Expr} {ta : TA} {p pos tpos : Pos} {elts : List Expr} {kk : Nat} (hg : Gl X "enumerate") (hm : X.mg "enumerate" = none) (ha : PA X [e] ta) (hs : starEach [e] X.env = [(false, eval e X.env)] := by rfl) :
    PI X (.Tuple elts kk tpos) (.Call (.Name "enumerate" p) [e] [] pos) (iEnumA X.K ta) := ⟨fun pins s σ H R I h => by
  refine PyProof.Rows.Call_ (ld_blt I hg hm PyProof.Rows.boot_enumerate (PyProof.Rows.callWith_type1 (thn (ha.run pos pins s σ H _ I h) fun us s1 ⟨vs, H1, I1, r1, a, ev, q⟩ => ?_) hs))
  subst ev
  cases r1 with
  | cons r rr =>
  cases rr
  cases r
  have go : ∀ {S : Src}, SrcOk X.K S → (∃ xs, S.sq H1 a xs) → R (ItE S a) H1 → wpAny (model X.prog X.w) X.A (call (Value.type "enumerate") [Value.ref a]) (fun v s1 => wpAny (model X.prog X.w) X.A (pyIter v) (PIE X pins σ (Expr.Tuple elts kk tpos) R) X.xe s1) X.xe s1 := fun {S} ok ⟨xs, hq⟩ q => by
    obtain ⟨its, rv, p⟩ := ok.get I1 rfl hq
    obtain ⟨oa, hoa⟩ := ok.has p
    have hla := Heap.lt_size hoa
    refine enum1_begins (ok.beg a its.toArray) p fun h' he hit hsz hk => ?_
    refine wpAny_pyIter_enum he ⟨_, [s1.heap.objs.size + 1, s1.heap.objs.size], _, ItE S a, H1, rfl, I1.kept fun b o e => hk b o e, turn_enumS ok (a := a) (e := s1.heap.objs.size + 1) (it := s1.heap.objs.size) (Nat.succ_ne_self _) (Nat.ne_of_gt (Nat.lt_succ_of_lt hla)) (Nat.ne_of_gt hla), ⟨⟨_, he⟩, ok.start hit⟩, fun b hb => ?_, q⟩
    simp only [List.mem_cons, List.not_mem_nil, or_false] at hb
    rcases hb with rfl | rfl <;> exact I1.fpOk (by omega) (I1.hok.fresh (by omega))
  rcases q with ⟨hq, q⟩ | ⟨hq, q⟩
  · exact go srcL_ok hq q
  · exact go srcT_ok hq q⟩
noncomputable def iZipA (K : PySem.W.Frag) (ta : TA) : TI := fun σ H R => ta σ H fun vs H1 => ∃ a b, vs = [.ref a, .ref b] ∧ ∃ S1 S2, SrcOk K S1 ∧ SrcOk K S2 ∧ (∃ xs, S1.sq H1 a xs) ∧ (∃ ys, S2.sq H1 b ys) ∧ R (ItZ S1 S2 a b) H1
theorem pi_zipA {X : Cx} {e e2 : Expr} {ta : TA} {p pos tpos : Pos} {elts : List Expr} {kk : Nat} (hg : Gl X "zip") (hm : X.mg "zip" = none) (ha : PA X [e, e2] ta) (hs : starEach [e, e2] X.env = (false, eval e X.env) :: starEach [e2] X.env := by rfl)
    (hpl : (backTo pos (starEach [e2] X.env)).any (·.1) = false := by rfl) : PI X (.Tuple elts kk tpos) (.Call (.Name "zip" p) [e, e2] [] pos) (iZipA X.K ta) := ⟨fun pins s σ H R I h => by
  refine PyProof.Rows.Call_ (ld_blt I hg hm PyProof.Rows.boot_zip (PyProof.Rows.callWith_type1 (thn (ha.run pos pins s σ H _ I h) fun us s1 ⟨vs, H1, I1, r1, a, b, ev, S1, S2, ok1, ok2, ⟨xs, hq1⟩, ⟨ys, hq2⟩, q⟩ => ?_) hs hpl))
  subst ev
  cases r1 with
  | cons r rr =>
  cases rr with
  | cons r2 rr =>
  cases rr
  cases r
  cases r2
  obtain ⟨its1, rv1, p1⟩ := ok1.get I1 rfl hq1
  obtain ⟨oa, hoa⟩ := ok1.has p1
  have hla := Heap.lt_size hoa
  obtain ⟨its2, rv2, p2⟩ := ok2.get I1 rfl hq2
  obtain ⟨ob, hob⟩ := ok2.has p2
  have hlb := Heap.lt_size hob
  refine zip_begins2 (ok1.beg a its1.toArray) (ok2.beg b its2.toArray) p1 p2 fun h' hz hTI hTO h1 h2 hsz hk => ?_
  refine wpAny_pyIter_zip hz ⟨_, [s1.heap.objs.size + 4, s1.heap.objs.size + 2, s1.heap.objs.size + 3, s1.heap.objs.size, s1.heap.objs.size + 1], _, ItZ S1 S2 a b, H1, rfl, I1.kept fun b o e => hk b o e,
    turn_zipS ok1 ok2 (zip_sep2 (fun c hc => ?_) (fun c hc => ?_)) (Nat.ne_of_lt hla) (Nat.ne_of_lt (Nat.lt_succ_of_lt hlb)), ⟨hz, hTI, ⟨_, _, hTO⟩, ok1.start h1, ok2.start h2⟩, fun c hc => ?_, q⟩
  · have e : c = a := by simpa using hc
    rw [e]; exact hla
  · have e : c = b := by simpa using hc
    rw [e]; exact hlb
  · simp only [List.mem_cons, List.not_mem_nil, or_false] at hc
    rcases hc with rfl | rfl | rfl | rfl | rfl <;> exact I1.fpOk (by omega) (I1.hok.fresh (by omega))⟩
end Qz
/-! Qz: what is walked. -/
namespace Qz
open PySem PySem.Spec L2

section
variable {Z : Whr} {X : Cx} {N : Addr → Prop} {H H' H1 : L2.Hp} {Γ : List Sv} {σ : St} {W : WX} {r r1 r2 r3 : R D} {c : Cl} {e e2 e3 tg iter : Expr} {p pos : Pos}
noncomputable abbrev REs (Z : Whr) (N : Addr → Prop) (H : L2.Hp) (hs : List D) (xs : List V) : Prop := Paired (RE Z N H) hs xs
/-- a walk over items, while what is held stays -/
noncomputable def ItOk (Z : Whr) (hs items : List D) (xs : List V) (J : L2.It) : Prop := ∀ N H i, Fr N H → REs Z N H hs xs →
  match items[i]? with
  | none => items.length = i → J.stop i H
  | some d => J.go i H ∧ ∀ v H', J.yld i H v H' → Grow H H' ∧ RD Z N H' d v
noncomputable def CtI (Z : Whr) (N : Addr → Prop) (H : L2.Hp) (r : R (List D)) (c : Cl) (R : L2.It → L2.Hp → Prop) (E : XK) : Prop := match r with
  | .ok items => ∀ hs xs J H', Grow H H' → Paired (Cls Z N H c H') hs xs → ItOk Z hs items xs J → R J H'
  | .ex k fs => ∀ d H', Grow H H' → XD Z k fs H' d → E (.ref (Z.C k)) d H'
  | .bad => False
noncomputable def tVI (Z : Whr) (Γ : List Sv) (r : R (List D)) (c : Cl) (W : WX) : TI := fun σ H R => ∃ N, Okv Z N Γ σ H ∧ CtI Z N H r c R (at_ W σ)
structure PIv (Z : Whr) (X : Cx) (Γ : List Sv) (tg iter : Expr) (r : R (List D)) (c : Cl) : Prop where
  run : ∀ W, Takes X W → PI X tg iter (tVI Z Γ r c W)
noncomputable def isTp : D → Bool
  | .tup _ => true
  | _ => false
noncomputable def srcB (K : PySem.W.Frag) (t : Bool) : Src := if t then srcT K else srcL K
theorem srcB_ok {K : PySem.W.Frag} {t : Bool} : SrcOk K (srcB K t) := by cases t; exact srcL_ok; exact srcT_ok
/-- what is walked, as the model sees it -/
theorem RE.src {d : D} {x : V} {ds : List D} (h : RE Z N H d x) (e : items d = some ds) : ∃ a vs, x = .ref a ∧ (srcB Z.K (isTp d)).sq H a vs ∧ RDs Z N H ds vs := by
  cases d <;> first | (cases e; done) | skip
  · cases e; obtain ⟨a, vs, e, q, r⟩ := h; exact ⟨a, vs, e, q, r⟩
  · cases e; obtain ⟨a, vs, e, q, r⟩ := h; exact ⟨a, vs, e, SqL.of q, r⟩
  · cases e; obtain ⟨a, vs, e, q, r⟩ := h; exact ⟨a, vs, e, q.seq, r⟩
theorem ItOk.seq {d : D} {ds : List D} {a : Addr} (e : items d = some ds) : ItOk Z [d] ds [.ref a] (if isTp d then Itt Z.K a else Itl Z.K a) := by
  intro N H i hf hr
  cases hr with
  | cons h t =>
  cases t
  obtain ⟨a', xs, ex, q, tt⟩ := h.src e
  cases ex
  have hl := RDs.len tt
  cases e2 : ds[i]? with
  | none =>
    intro hi
    revert q
    cases isTp d with
    | true => exact fun q => ⟨xs, q, by omega⟩
    | false => exact fun q => ⟨xs, q, by omega⟩
  | some x =>
    obtain ⟨y, e3, ry⟩ := RDs.get tt e2
    revert q
    cases isTp d with
    | true => exact fun q => ⟨⟨xs, y, q, e3⟩, fun v H' ⟨eH, k⟩ => by
        subst eH
        refine ⟨Grow.refl, ?_⟩
        have z := k xs q
        rw [e3] at z; cases z; exact ry⟩
    | false => exact fun q => ⟨⟨xs, y, q, e3⟩, fun v H' ⟨eH, k⟩ => by
        subst eH
        refine ⟨Grow.refl, ?_⟩
        have z := k xs q
        rw [e3] at z; cases z; exact ry⟩
theorem enumD_get : ∀ (k : Int) (xs : List D) (i : Nat), (enumD k xs)[i]? = (xs[i]?).map fun x => D.tup [.int (k + i), x]
  | k, [], i => by simp [enumD_nil, enumD_cons]
  | k, x :: xs, 0 => by simp [enumD_nil, enumD_cons]
  | k, x :: xs, i + 1 => by
    simp only [enumD_nil, enumD_cons, List.getElem?_cons_succ]
    rw [enumD_get (k + 1) xs i]
    congr 1
    funext y
    congr 3
    push_cast
    omega
theorem enumD_len : ∀ (k : Int) (xs : List D), (enumD k xs).length = xs.length
  | k, [] => rfl
  | k, x :: xs => by simp [enumD_nil, enumD_cons, enumD_len]
theorem ItOk.enm {d : D} {ds : List D} {a : Addr} (e : items d = some ds) : ItOk Z [d] (enumD 0 ds) [.ref a] (ItE (srcB Z.K (isTp d)) a) := by
  intro N H i hf hr
  cases hr with
  | cons h t =>
  cases t
  obtain ⟨a', xs, ex, q, tt⟩ := h.src e
  cases ex
  have hl := RDs.len tt
  rw [enumD_get]
  cases e2 : ds[i]? with
  | none =>
    intro hi
    exact ⟨xs, q, by rw [hl, ← hi, enumD_len]⟩
  | some x =>
    obtain ⟨y, e3, ry⟩ := RDs.get tt e2
    refine ⟨⟨xs, y, q, e3⟩, fun v H' ⟨T, x', ev', hT, eH, k⟩ => ?_⟩
    have z := k xs q
    rw [e3] at z; cases z
    subst eH
    refine ⟨Grow.upd hT, T, [.int i, y], ev', SqT.of upd_same, .int i, [y], rfl, by rw [Int.zero_add]; rfl, y, [], rfl, RD.grow (Grow.upd hT) ry, rfl⟩
theorem zipD_get : ∀ (xs ys : List D) (i : Nat), (zipD xs ys)[i]? = (match xs[i]?, ys[i]? with | some x, some y => some (D.tup [x, y]) | _, _ => none)
  | [], ys, i => by simp [zipD_nil, zipD_nil2, zipD_cons]
  | x :: xs, [], i => by
    simp [zipD_nil, zipD_nil2, zipD_cons]
  | x :: xs, y :: ys, 0 => by simp [zipD_nil, zipD_nil2, zipD_cons]
  | x :: xs, y :: ys, i + 1 => by simp only [zipD_nil, zipD_nil2, zipD_cons, List.getElem?_cons_succ]; exact zipD_get xs ys i
theorem zipD_len : ∀ (xs ys : List D), (zipD xs ys).length = min xs.length ys.length
  | [], ys => by simp [zipD_nil, zipD_nil2, zipD_cons]
  | x :: xs, [] => by simp [zipD_nil, zipD_nil2, zipD_cons]
  | x :: xs, y :: ys => by simp [zipD_nil, zipD_nil2, zipD_cons, zipD_len]
theorem ItOk.zp {d d2 : D} {ds ds2 : List D} {a b : Addr} (e : items d = some ds) (e' : items d2 = some ds2) : ItOk Z [d, d2] (zipD ds ds2) [.ref a, .ref b] (ItZ (srcB Z.K (isTp d)) (srcB Z.K (isTp d2)) a b) := by
  intro N H i hf hr
  cases hr with
  | cons h t =>
  cases t with
  | cons h2 t =>
  cases t
  obtain ⟨a', xs, ex, q, tt⟩ := h.src e
  cases ex
  obtain ⟨b', ys, ey, q2, tt2⟩ := h2.src e'
  cases ey
  have hl := RDs.len tt
  have hl2 := RDs.len tt2
  rw [zipD_get]
  cases e2 : ds[i]? with
  | none => exact fun hi => ⟨xs, ys, q, q2, by rw [hl, hl2, ← hi, zipD_len]⟩
  | some x =>
    cases e3 : ds2[i]? with
    | none => exact fun hi => ⟨xs, ys, q, q2, by rw [hl, hl2, ← hi, zipD_len]⟩
    | some y =>
      obtain ⟨x', e4, rx⟩ := RDs.get tt e2
      obtain ⟨y', e5, ry⟩ := RDs.get tt2 e3
      refine ⟨⟨xs, ys, x', y', q, q2, e4, e5⟩, fun v H' ⟨T, x2, y2, ev', hT, eH, k1, k2⟩ => ?_⟩
      have z := k1 xs q
      rw [e4] at z; cases z
      have z := k2 ys q2
      rw [e5] at z; cases z
      subst eH
      exact ⟨Grow.upd hT, T, [x', y'], ev', SqT.of upd_same, x', [y'], rfl, RD.grow (Grow.upd hT) rx, y', [], rfl, RD.grow (Grow.upd hT) ry, rfl⟩
theorem rngD_get : ∀ (n : Nat) (lo st : Int) (i : Nat), (rngD lo st n)[i]? = if i < n then some (.int (lo + i * st)) else none
  | 0, lo, st, i => by simp [rngD_0, rngD_succ]
  | n + 1, lo, st, 0 => by simp [rngD_0, rngD_succ]
  | n + 1, lo, st, i + 1 => by
    simp only [rngD_0, rngD_succ, List.getElem?_cons_succ]
    rw [rngD_get n (lo + st) st i]
    by_cases h : i < n
    · rw [if_pos h, if_pos (by omega)]
      congr 2
      push_cast
      rw [Int.add_mul, Int.one_mul]
      omega
    · rw [if_neg h, if_neg (by omega)]
theorem rngD_len : ∀ (n : Nat) (lo st : Int), (rngD lo st n).length = n
  | 0, _, _ => rfl
  | n + 1, lo, st => by simp [rngD_0, rngD_succ, rngD_len]
theorem ItOk.rng1 {lo : Int} {n : Nat} : ItOk Z [] (rngD lo 1 n) [] (Itr lo n) := by
  intro N H i hf hr
  rw [rngD_get]
  by_cases hi : i < n
  · rw [if_pos hi]
    refine ⟨hi, fun v H' ⟨eH, ev⟩ => ?_⟩
    subst eH; subst ev
    exact ⟨Grow.refl, by show V.int _ = V.int _; congr 1; omega⟩
  · rw [if_neg hi]
    exact fun _ => Nat.le_of_not_lt hi
theorem ItOk.rngC {lo k : Int} {n : Nat} : ItOk Z [] (rngD lo k n) [] (Itc lo k n) := by
  intro N H i hf hr
  rw [rngD_get]
  by_cases hi : i < n
  · rw [if_pos hi]
    refine ⟨hi, fun v H' ⟨eH, ev⟩ => ?_⟩
    subst eH; subst ev
    exact ⟨Grow.refl, rfl⟩
  · rw [if_neg hi]
    exact fun _ => Nat.le_of_not_lt hi

theorem items_withI {d : D} {w : List D → R (List D)} (ne : withI d w ≠ .bad) : ∃ ds, items d = some ds ∧ withI d w = w ds := by
  cases d <;> first | exact absurd rfl ne | exact ⟨_, rfl, rfl⟩
/-- for x in e -/
theorem gi_seq (hK : X.K = Z.K) (p : PEv Z X Γ e r c) : PIv Z X Γ tg e (bnd r wSeq) c := by
  refine ⟨fun W tk => (pi_any (p.run W tk)).weak fun σ H R ⟨N, o, h⟩ => ⟨N, o, ?_⟩⟩
  cases r with
  | bad => exact h
  | ex k fs => exact h
  | ok u =>
    intro x H1 g q
    replace h : CtI Z N H (wSeq u) c R (at_ W σ) := h
    unfold wSeq at h; rw [ofO_def] at h; unfold ofO' at h
    split at h
    · rename_i ds eu
      have q' := q.re o.fr
      obtain ⟨a, vs, rfl, s, rs⟩ := q'.src eu
      have z := h [u] [.ref a] _ H1 g (.cons q .nil) (ItOk.seq eu)
      revert s z
      cases isTp u with
      | true => exact fun s z => ⟨a, rfl, .inr ⟨⟨vs, by rw [hK]; exact s⟩, by rw [hK]; exact z⟩⟩
      | false => exact fun s z => ⟨a, rfl, .inl ⟨⟨vs, by rw [hK]; exact s⟩, by rw [hK]; exact z⟩⟩
    · exact h.elim
theorem gi_enum {elts : List Expr} {kk : Nat} {tpos : Pos} (hK : X.K = Z.K) (hm : X.mg "enumerate" = none) (pe : PEv Z X Γ e r c) (hg : Gl X "enumerate" := by rfl) (he : starEach [e] X.env = (false, eval e X.env) :: starEach [] X.env := by rfl) (hs : starEach [e] X.env = [(false, eval e X.env)] := by rfl) :
    PIv Z X Γ (.Tuple elts kk tpos) (.Call (.Name "enumerate" p) [e] [] pos) (bnd r wEnum) c := by
  refine ⟨fun W tk => (pi_enumA hg hm ((ga_cons pe ga_nil he).run W tk) hs).weak fun σ H R ⟨N, o, h⟩ => ⟨N, o, ?_⟩⟩
  cases r with
  | bad => exact h
  | ex k fs => exact h
  | ok u =>
    intro xs H1 g q
    cases q with
    | cons q q0 =>
    cases q0
    replace h : CtI Z N H (wEnum u) c R (at_ W σ) := h
    unfold wEnum at h
    obtain ⟨ds, eu, ew⟩ := items_withI (d := u) (w := fun xs => .ok (enumD 0 xs)) (by intro z; rw [z] at h; exact h)
    rw [ew] at h
    have q' := q.re o.fr
    obtain ⟨a, vs, rfl, s, rs⟩ := q'.src eu
    have z := h [u] [.ref a] _ H1 g (.cons q .nil) (ItOk.enm eu)
    revert s z
    cases isTp u with
    | true => exact fun s z => ⟨a, rfl, .inr ⟨⟨vs, by rw [hK]; exact s⟩, by rw [hK]; exact z⟩⟩
    | false => exact fun s z => ⟨a, rfl, .inl ⟨⟨vs, by rw [hK]; exact s⟩, by rw [hK]; exact z⟩⟩
theorem gi_zip {elts : List Expr} {kk : Nat} {tpos : Pos} (hK : X.K = Z.K) (hm : X.mg "zip" = none) (p1 : PEv Z X Γ e r1 c) (p2 : PEv Z X Γ e2 r2 c) (hg : Gl X "zip" := by rfl) (hs : starEach [e, e2] X.env = (false, eval e X.env) :: starEach [e2] X.env := by rfl)
    (hs2 : starEach [e2] X.env = (false, eval e2 X.env) :: starEach [] X.env := by rfl) (hpl : (backTo pos (starEach [e2] X.env)).any (·.1) = false := by rfl) : PIv Z X Γ (.Tuple elts kk tpos) (.Call (.Name "zip" p) [e, e2] [] pos) (bnd r1 fun u => bnd r2 fun w => wZip u w) c := by
  refine ⟨fun W tk => (pi_zipA hg hm ((ga_cons p1 (ga_cons p2 ga_nil hs2) hs).run W tk) hs hpl).weak fun σ H R ⟨N, o, h⟩ => ⟨N, o, ?_⟩⟩
  cases r1 with
  | bad => exact h
  | ex k fs => exact h
  | ok u =>
    cases r2 with
    | bad => exact h
    | ex k fs => exact h
    | ok w =>
      intro xs H1 g q
      cases q with
      | cons q q0 =>
      cases q0 with
      | cons q2 q0 =>
      cases q0
      replace h : CtI Z N H (wZip u w) c R (at_ W σ) := h
      unfold wZip at h
      obtain ⟨ds, eu, ew⟩ := items_withI (d := u) (w := fun xs => withI w fun ys => .ok (zipD xs ys)) (by intro z; rw [z] at h; exact h)
      rw [ew] at h
      obtain ⟨ds2, eu2, ew2⟩ := items_withI (d := w) (w := fun ys => .ok (zipD ds ys)) (by intro z; rw [z] at h; exact h)
      rw [ew2] at h
      obtain ⟨a, vs, rfl, s, rs⟩ := (q.re o.fr).src eu
      obtain ⟨b, vs2, rfl, s2, rs2⟩ := (q2.re o.fr).src eu2
      have z := h [u, w] [.ref a, .ref b] _ H1 g (.cons q (.cons q2 .nil)) (ItOk.zp eu eu2)
      rw [hK]
      exact ⟨a, b, rfl, _, _, srcB_ok, srcB_ok, ⟨vs, s⟩, ⟨vs2, s2⟩, z⟩
theorem small62_iff {n : Int} (h : small62 n = true) : -(2 ^ 62) ≤ n ∧ n < 2 ^ 62 := by rw [small62_def] at h; exact of_decide_eq_true h
theorem gi_range1 (hm : X.mg "range" = none) (pe : PEv Z X Γ e r c) (hg : Gl X "range" := by rfl) (he : starEach [e] X.env = (false, eval e X.env) :: starEach [] X.env := by rfl) (hs : starEach [e] X.env = [(false, eval e X.env)] := by rfl) : PIv Z X Γ tg (.Call (.Name "range" p) [e] [] pos) (bnd r wRange1) .S := by
  refine ⟨fun W tk => (pi_range1 hg hm ((ga_cons pe ga_nil he).run W tk) hs).weak fun σ H R ⟨N, o, h⟩ => ⟨N, o, ?_⟩⟩
  cases r with
  | bad => exact h
  | ex k fs => exact h
  | ok u =>
    intro xs H1 g q
    cases q with
    | cons q q0 =>
    cases q0
    replace h : CtI Z N H (wRange1 u) .S R (at_ W σ) := h
    rw [wRange1_def] at h; unfold wRange1' at h
    split at h <;> first | (exact h.elim) | skip
    rename_i n _
    have q' := q.re o.fr
    cases (show _ = V.int n from q')
    split at h <;> first | (exact h.elim) | skip
    rename_i hn
    have b := small62_iff hn
    exact ⟨n, rfl, b.1, b.2, h [] [] _ H1 g .nil ItOk.rng1⟩
theorem gi_range2 (hm : X.mg "range" = none) (p1 : PEv Z X Γ e r1 c) (p2 : PEv Z X Γ e2 r2 c) (hg : Gl X "range" := by rfl) (he : starEach [e, e2] X.env = (false, eval e X.env) :: starEach [e2] X.env := by rfl) (he2 : starEach [e2] X.env = (false, eval e2 X.env) :: starEach [] X.env := by rfl)
    (hs : starEach [e, e2] X.env = [(false, eval e X.env), (false, eval e2 X.env)] := by rfl) (hs2 : starEach [e2] X.env = [(false, eval e2 X.env)] := by rfl) : PIv Z X Γ tg (.Call (.Name "range" p) [e, e2] [] pos) (bnd r1 fun u => bnd r2 fun w => wRange2 u w) .S := by
  refine ⟨fun W tk => (pi_range2 hg hm ((ga_cons p1 (ga_cons p2 ga_nil he2) he).run W tk) hs hs2).weak fun σ H R ⟨N, o, h⟩ => ⟨N, o, ?_⟩⟩
  cases r1 with
  | bad => exact h
  | ex k fs => exact h
  | ok u =>
    cases r2 with
    | bad => exact h
    | ex k fs => exact h
    | ok w =>
      intro xs H1 g q
      cases q with
      | cons q q0 =>
      cases q0 with
      | cons q2 q0 =>
      cases q0
      replace h : CtI Z N H (wRange2 u w) .S R (at_ W σ) := h
      rw [wRange2_def] at h; unfold wRange2' at h
      split at h <;> first | (exact h.elim) | skip
      rename_i lo hi _
      cases (show _ = V.int lo from q.re o.fr)
      cases (show _ = V.int hi from q2.re o.fr)
      split at h <;> first | (exact h.elim) | skip
      rename_i hn
      rw [Bool.and_eq_true] at hn
      have b := small62_iff hn.1
      have b2 := small62_iff hn.2
      exact ⟨lo, hi, rfl, ⟨b.1, b.2, b2.1, b2.2⟩, h [] [] _ H1 g .nil ItOk.rng1⟩
theorem rangeSize_nn {a b c : Int} : 0 ≤ PySem.Builtin.Range.rangeSize a b c := by
  unfold PySem.Builtin.Range.rangeSize
  split
  · split
    · have := Int.ediv_nonneg (a := b - a - 1) (b := c) (by omega) (by omega); omega
    · exact Int.le_refl 0
  · split
    · have := Int.ediv_nonneg (a := a - b - 1) (b := -c) (by omega) (by omega); omega
    · exact Int.le_refl 0
theorem gi_range3 (hm : X.mg "range" = none) (p1 : PEv Z X Γ e r1 c) (p2 : PEv Z X Γ e2 r2 c) (p3 : PEv Z X Γ e3 r3 c) (hg : Gl X "range" := by rfl) (he : starEach [e, e2, e3] X.env = (false, eval e X.env) :: starEach [e2, e3] X.env := by rfl) (he2 : starEach [e2, e3] X.env = (false, eval e2 X.env) :: starEach [e3] X.env := by rfl) (he3 : starEach [e3] X.env = (false, eval e3 X.env) :: starEach [] X.env := by rfl)
    (hpl : (backTo pos (starEach [e2, e3] X.env)).any (·.1) = false := by rfl) : PIv Z X Γ tg (.Call (.Name "range" p) [e, e2, e3] [] pos) (bnd r1 fun u => bnd r2 fun w => bnd r3 fun z => wRange3 u w z) .S := by
  refine ⟨fun W tk => (pi_range3 hg hm ((ga_cons p1 (ga_cons p2 (ga_cons p3 ga_nil he3) he2) he).run W tk) he hpl).weak fun σ H R ⟨N, o, h⟩ => ⟨N, o, ?_⟩⟩
  cases r1 with
  | bad => exact h
  | ex k fs => exact h
  | ok u =>
   cases r2 with
   | bad => exact h
   | ex k fs => exact h
   | ok w =>
    cases r3 with
    | bad => exact h
    | ex k fs => exact h
    | ok z =>
      intro xs H1 g q
      cases q with
      | cons q q0 =>
      cases q0 with
      | cons q2 q0 =>
      cases q0 with
      | cons q3 q0 =>
      cases q0
      replace h : CtI Z N H (wRange3 u w z) .S R (at_ W σ) := h
      unfold wRange3 at h
      split at h <;> first | (exact h.elim) | skip
      rename_i lo hi st _
      cases (show _ = V.int lo from q.re o.fr)
      cases (show _ = V.int hi from q2.re o.fr)
      cases (show _ = V.int st from q3.re o.fr)
      split at h <;> first | (exact h.elim) | skip
      rename_i hn
      rw [Bool.and_eq_true] at hn
      have b := of_decide_eq_true hn.1
      exact ⟨lo, hi, st, _, rfl, ⟨b.1, b.2, hn.2, (Int.toNat_of_nonneg rangeSize_nn).symm⟩, h [] [] _ H1 g .nil ItOk.rngC⟩
end
end Qz
/-! Qz: loops. -/
namespace Qz
open PySem PySem.Spec L2

section
variable {τ τ' β β' ς : Type} {Z : Whr} {X : Cx} {S : Sh} {F : Fx} {N N' : Addr → Prop} {H H' : L2.Hp} {Γ Γ' : List Sv} {σ : St} {W : WX} {Dd : Ends} {po : τ → List Sv} {pb : β → List Sv} {po' : τ' → List Sv} {r : R D} {c : Cl} {e tg iter : Expr} {body rest : List Stmt} {pos : Pos}
noncomputable def Fx.push (F : Fx) (hs : List D) (xs : List V) : Fx := ⟨F.N0, F.A0, F.H0, hs ++ F.hd, xs ++ F.us⟩
theorem At.push {hs : List D} {xs : List V} (r : RDs Z N H hs xs) (a : At Z F N Γ σ H) : At Z (F.push hs xs) N Γ σ H :=
  ⟨a.ok, a.ap, a.ow, r.append a.hd, a.f0, a.sub, a.rest, a.live, a.io⟩
theorem RDs.append_right : ∀ {xs : List D} {vs : List V} {ys : List D} {ws : List V}, vs.length = xs.length → RDs Z N H (xs ++ ys) (vs ++ ws) → RDs Z N H xs vs ∧ RDs Z N H ys ws
  | [], [], ys, ws, _, h => ⟨rfl, h⟩
  | x :: xs, v :: vs, ys, ws, l, h => by
    obtain ⟨w, r, e, q, t⟩ := h
    cases e
    obtain ⟨a, b⟩ := RDs.append_right (by simpa using l) t
    exact ⟨⟨v, vs, rfl, q, a⟩, b⟩
  | [], _ :: _, _, _, l, _ => by simp at l
  | _ :: _, [], _, _, l, _ => by simp at l
theorem At.pop {hs : List D} {xs : List V} (l : xs.length = hs.length) (a : At Z (F.push hs xs) N Γ σ H) : At Z F N Γ σ H :=
  ⟨a.ok, a.ap, a.ow, (RDs.append_right l a.hd).2, a.f0, a.sub, a.rest, a.live, a.io⟩
theorem At.held {hs : List D} {xs : List V} (l : xs.length = hs.length) (a : At Z (F.push hs xs) N Γ σ H) : RDs Z N H hs xs := (RDs.append_right l a.hd).1
theorem CtS.push {hs : List D} {xs : List V} {m : Fl τ β} (l : xs.length = hs.length) (c : CtS Z F S po pb Dd W m) : CtS Z (F.push hs xs) S po pb Dd W m := by
  cases m with
  | nx s => exact fun N σ H a => c N σ H (a.pop l)
  | rt u w => exact fun x H r => c x H ⟨r.c, r.rest, r.live, r.io⟩
  | bk b => exact fun N σ H a => c N σ H (a.pop l)
  | ct b => exact fun N σ H a => c N σ H (a.pop l)
  | ex k fs => exact ⟨c.1, fun N σ H d a xd => c.2 N σ H d (a.pop l) xd⟩
  | bad => exact c
theorem pg_ex {ι : Type} {g : ι → TG} (h : ∀ i, PG X tg (g i)) : PG X tg (fun x σ H Q => ∃ i, g i x σ H Q) := by
  refine ⟨?_⟩
  intro v x pins s σ H Q
  rintro I r ⟨i, q⟩
  exact (h i).run _ _ _ _ _ _ _ I r q
theorem REs.of_RDs {hs : List D} {xs : List V} (f : Fr N H) (r : RDs Z N H hs xs) : REs Z N H hs xs := pimp (fun _ _ q => Cls.re (H' := H) f (show Cls Z N H .C H _ _ from q)) (RDs.to r)
theorem drop_cons {α : Type} {l : List α} {i : Nat} {x : α} (h : l[i]? = some x) : l.drop i = x :: l.drop (i + 1) := by
  obtain ⟨hl, e⟩ := List.getElem?_eq_some_iff.mp h
  rw [← e]; exact List.drop_eq_getElem_cons hl
theorem g_for {w : R (List D)} {b : ς → D → Fl ς ς} {s0 : ς} {k : ς → Fl τ β} {pl : ς → List Sv} (hpo : PassesOwn (model X.prog X.w) X.A X.env X.xe) (hc : X.calm = true) (pi : PIv Z X Γ tg iter w c) (l0 : LeT S.io Γ (pl s0)) (t : ∀ s, PTg Z X S (pl s) pl pl tg body (b s))
    (q : ∀ s, PSsv Z X S (pl s) po pb rest (k s)) (hcl : c.le .C = true := by rfl) (hx : LeS Γ S.px := by exact les_n rfl rfl) (hf : ∀ x, foldedSetIterable iter X.env x = pure x := by intro x; rfl) : PSsv Z X S Γ po pb (.For tg iter body [] pos :: rest) (bnS w fun xs => thnS (forL b xs s0) k) := by
  have hg := fun s => (t s).run.choose_spec
  refine ⟨fun W tk => ?_⟩
  have hb := fun s => ((hg s).2 W tk).choose_spec
  refine (pss_cons (ps_for hpo hc (pi.run W tk) (pg_ex fun s => (hg s).1) (pss_ex fun s => (hb s).1) hf) (pss_ex fun s => (q s).run W tk)).weak fun D σ H ⟨F, N, hio, a, c'⟩ => ?_
  refine ⟨N, a.ok, ?_⟩
  cases w with
  | bad => exact c'
  | ex k fs => exact fun d H' g xd => ct_ex a hx c' g xd
  | ok items =>
    intro hs xs J H1 g rh okJ
    have a1 := a.grow g
    have rh1 : RDs Z N H1 hs xs := RDs.of (pimp (fun _ _ q => Cls.le a.ok.fr hcl q) rh)
    have hl : xs.length = hs.length := RDs.len rh1
    obtain ⟨N1, a2⟩ := At.le (F := F.push hs xs) l0.le (l0.h0 hio) (a1.push rh1)
    refine ⟨fun i m σ H => m = items.length - i ∧ i ≤ items.length ∧ ∃ s N, At Z (F.push hs xs) N (pl s) σ H ∧ CtS Z F S po pb D W (thnS (forL b (items.drop i) s) k), ⟨_, rfl, Nat.zero_le _, s0, N1, a2, c'⟩, ?_⟩
    rintro i m σ H ⟨em, hi, s, N, a, c⟩
    have z := okJ N H i a.ok.fr (REs.of_RDs a.ok.fr (a.held hl))
    cases e : items[i]? with
    | none =>
      rw [e] at z
      have hi2 : items.length = i := by have := List.getElem?_eq_none_iff.mp e; omega
      rw [List.drop_of_length_le (by omega)] at c
      exact .inl ⟨z hi2, s, F, N, hio, a.pop hl, c⟩
    | some d =>
      rw [e] at z
      have hlt := (List.getElem?_eq_some_iff.mp e).1
      refine .inr ⟨z.1, fun σ' H' => i + 1 ≤ items.length ∧ ∃ s N, At Z (F.push hs xs) N (pl s) σ' H' ∧ CtS Z F S po pb D W (thnS (forL b (items.drop (i + 1)) s) k), fun σ' H' y => ⟨items.length - (i + 1), by omega, rfl, y⟩, fun x H' hy => ?_⟩
      obtain ⟨g2, rx⟩ := z.2 x H' hy
      rw [drop_cons e] at c
      refine ⟨s, (hb s).2 (F.push hs xs) N d x σ H' { D with nx := fun σ' H' => i + 1 ≤ items.length ∧ ∃ s N, At Z (F.push hs xs) N (pl s) σ' H' ∧ CtS Z F S po pb D W (thnS (forL b (items.drop (i + 1)) s) k), ct := fun σ' H' => i + 1 ≤ items.length ∧ ∃ s N, At Z (F.push hs xs) N (pl s) σ' H' ∧ CtS Z F S po pb D W (thnS (forL b (items.drop (i + 1)) s) k), bk := fun σ' H' => ∃ s, tGS Z S (pl s) po pb (k s) W D σ' H' } hio (a.grow g2) rx ?_ _ fun σ' H' z => ⟨s, z⟩⟩
      rw [forL_def] at c; unfold forL' at c; try rw [← forL_def] at c
      cases eb : b s d with
      | nx s' => rw [eb] at c; exact fun N2 σ2 H2 a2 => ⟨hlt, s', N2, a2, c⟩
      | ct s' => rw [eb] at c; exact fun N2 σ2 H2 a2 => ⟨hlt, s', N2, a2, c⟩
      | bk s' => rw [eb] at c; exact fun N2 σ2 H2 a2 => ⟨s', F, N2, hio, a2.pop hl, c⟩
      | rt u w => rw [eb] at c; exact fun x H r => c x H ⟨r.c, r.rest, r.live, r.io⟩
      | ex k fs => rw [eb] at c; exact ⟨c.1, fun N2 σ2 H2 d a2 xd => c.2 N2 σ2 H2 d (a2.pop hl) xd⟩
      | bad => rw [eb] at c; exact c.elim

theorem g_while {t : Expr} {T : ς → R Bool} {b : ς → Fl ς ς} {s0 : ς} {k : ς → Fl τ β} {pl : ς → List Sv} (n : Nat) (hpo : PassesOwn (model X.prog X.w) X.A X.env X.xe) (pt : ∀ s, PTv Z X (pl s) t (T s)) (l0 : LeT S.io Γ (pl s0)) (pb' : ∀ s, PSsv Z X S (pl s) pl pl body (b s))
    (q : ∀ s, PSsv Z X S (pl s) po pb rest (k s)) (hx : ∀ s, LeS (pl s) S.px := by exact fun _ => les_n rfl rfl) : PSsv Z X S Γ po pb (.While t body [] pos :: rest) (thnS (whlL T b n s0) k) := by
  refine ⟨fun W tk => ?_⟩
  have pte : PT X t (fun σ H Q => ∃ s, tVT Z (pl s) (T s) W σ H Q) := ⟨fun pins s σ H Q I ⟨i, z⟩ => ((pt i).run W tk).run pins s σ H Q I z⟩
  refine (pss_cons (ps_while hpo pte (pss_ex fun s => (pb' s).run W tk)) (pss_ex fun s => (q s).run W tk)).weak fun D σ H ⟨F, N, hio, a, c'⟩ => ?_
  obtain ⟨N1, a2⟩ := a.le l0.le (l0.h0 hio)
  refine ⟨fun m σ H => ∃ s N, At Z F N (pl s) σ H ∧ CtS Z F S po pb D W (thnS (whlL T b m s) k), ⟨n, s0, N1, a2, c'⟩, ?_⟩
  rintro m σ H ⟨s, N, a, c⟩
  refine ⟨s, N, a.ok, ?_⟩
  cases m with
  | zero =>
    rw [whlL_def] at c; unfold whlL' at c; try rw [← whlL_def] at c
    cases e : T s with
    | ok v =>
      rw [e] at c
      intro H' g
      cases v with
      | false => exact ⟨s, F, N, hio, a.grow g, c⟩
      | true => exact c.elim
    | ex k fs => rw [e] at c; exact fun d H' g xd => ct_ex a (hx s) c g xd
    | bad => rw [e] at c; exact c.elim
  | succ f =>
    rw [whlL_def] at c; unfold whlL' at c; try rw [← whlL_def] at c
    cases e : T s with
    | ok v =>
      rw [e] at c
      intro H' g
      cases v with
      | false => exact ⟨s, F, N, hio, a.grow g, c⟩
      | true =>
        refine ⟨fun σ2 H2 => ∃ s N, At Z F N (pl s) σ2 H2 ∧ CtS Z F S po pb D W (thnS (whlL T b f s) k), fun σ' H' y => ⟨f, Nat.lt_succ_self f, y⟩, s, F, N, hio, a.grow g, ?_⟩
        dsimp only at c
        cases eb : b s with
        | nx s' => rw [eb] at c; exact fun N2 σ2 H2 a2 => ⟨s', N2, a2, c⟩
        | ct s' => rw [eb] at c; exact fun N2 σ2 H2 a2 => ⟨s', N2, a2, c⟩
        | bk s' => rw [eb] at c; exact fun N2 σ2 H2 a2 => ⟨s', F, N2, hio, a2, c⟩
        | rt u w => rw [eb] at c; exact c
        | ex k fs => rw [eb] at c; exact c
        | bad => rw [eb] at c; exact c.elim
    | ex k fs => rw [e] at c; exact fun d H' g xd => ct_ex a (hx s) c g xd
    | bad => rw [e] at c; exact c.elim
end
end Qz
/-! Qz: comprehensions. -/
namespace Qz
open PySem PySem.Spec L2

section
variable {ι : Type} {Z : Whr} {X : Cx} {S : Sh} {F : Fx} {N N' : Addr → Prop} {H H' H1 : L2.Hp} {Γ Γ' : List Sv} {σ : St} {W : WX} {r : R D} {c : Cl} {e elt tg iter : Expr} {pos : Pos}
theorem wipe_len : ∀ (vs : List Nat) (σ : St), (wipe σ vs).length = σ.length
  | [], σ => rfl
  | v :: vs, σ => by
    show ((wipe σ vs).set v none).length = _
    rw [List.length_set, wipe_len vs σ]
theorem wipe_get : ∀ (vs : List Nat) (σ : St) (i : Nat), (wipe σ vs)[i]? = if i ∈ vs then (if i < σ.length then some none else none) else σ[i]?
  | [], σ, i => by simp; rfl
  | v :: vs, σ, i => by
    show ((wipe σ vs).set v none)[i]? = _
    by_cases hv : v = i
    · subst hv
      by_cases hl : v < σ.length
      · rw [List.getElem?_set_self (by rw [wipe_len]; exact hl)]; simp [hl]
      · rw [List.getElem?_eq_none (by rw [List.length_set, wipe_len]; omega)]; simp [hl]
    · rw [List.getElem?_set_ne hv, wipe_get vs σ i]
      by_cases hi : i ∈ vs
      · simp [hi]
      · have : i ∉ v :: vs := by simp [hi]; exact fun q => hv q.symm
        rw [if_neg hi, if_neg this]
noncomputable def wipeG : List Nat → List Sv → List Sv
  | [], g => g
  | i :: is, g => (wipeG is g).set i .n
theorem Okv.wipe (o : Okv Z N Γ σ H) : ∀ vs : List Nat, Okv Z N (wipeG vs Γ) (L2.wipe σ vs) H
  | [] => o
  | v :: vs => by
    have z := Okv.wipe o vs
    exact ⟨pset (F := SvR Z N H) (a := .n) (b := none) trivial v z.sl, z.fr⟩
/-- a comprehension's target -/
structure PTc (Z : Whr) (X : Cx) (tg : Expr) (own : List Nat) (Γ : List Sv) (Γ2 : ι → List Sv) (u : D → ∀ α : Type, (ι → R α) → R α) (g : TG) : Prop where
  run : PG X tg g ∧ ∀ (N : Addr → Prop) (d : D) (x : V) (σ : St) (H : L2.Hp), Okv Z N Γ σ H → RD Z N H d x →
    (∀ (α : Type) (k : ι → R α), u d α k = .bad) ∨ ∃ v, (∀ (α : Type) (k : ι → R α), u d α k = k v) ∧ ∀ Q : St → L2.Hp → Prop, (∀ σ2, Okv Z N (Γ2 v) σ2 H → L2.wipe σ2 own = L2.wipe σ own → Q σ2 H) → g x σ H Q
noncomputable def U1 (d : D) (α : Type) (k : D → R α) : R α := k d
noncomputable def U2 (d : D) (α : Type) (k : D × D → R α) : R α := upk2 .bad d fun x y => k (x, y)
noncomputable def U3 (d : D) (α : Type) (k : D × D × D → R α) : R α := upk3 .bad d fun x y z => k (x, y, z)
theorem Okv.set {i : Nat} {d : D} {x : V} (o : Okv Z N Γ σ H) (r : RD Z N H d x) : Okv Z N (Γ.set i (.s d)) (σ.set i (some x)) H := ⟨pset (F := SvR Z N H) (a := .s d) (b := some x) r i o.sl, o.fr⟩
theorem wipe_set {own : List Nat} {i : Nat} {x : Option V} (hi : i ∈ own) : L2.wipe (σ.set i x) own = L2.wipe σ own := by
  refine List.ext_getElem? fun j => ?_
  rw [wipe_get, wipe_get, List.length_set]
  by_cases hj : j ∈ own
  · rw [if_pos hj, if_pos hj]
  · rw [if_neg hj, if_neg hj, List.getElem?_set_ne]
    rintro rfl; exact hj hi
theorem tc_1 (i : Nat) {own : List Nat} {x : Str} {G : D → List Sv} (nd : X.N.Nodup) (hi : i ∈ own) (hG : ∀ u, Γ.set i (.s u) = G u) (hN : X.N[i]? = some x := by rfl) (hx : Loc X.env.scope x := by first | exact Or.inl rfl | exact Or.inr rfl)
    (hl : X.fn x = true ∨ X.env.scope.names.lookup x = some .local := by first | exact Or.inl rfl | exact Or.inr rfl) : PTc Z X (.Name x pos) own Γ G U1 (gName i) :=
  ⟨pg_name nd hN hx hl, fun N d x σ H o r => .inr ⟨d, fun _ _ => rfl, fun Q hQ => hQ _ (by rw [← hG]; exact o.set r) (wipe_set hi)⟩⟩
theorem tc_2 (i j : Nat) {own : List Nat} {x y : Str} {kk : Nat} {px py : Pos} {G : D × D → List Sv} (hc : X.calm = true) (hK : X.K = Z.K) (nd : X.N.Nodup) (hi : i ∈ own) (hj : j ∈ own) (hG : ∀ p : D × D, (Γ.set i (.s p.1)).set j (.s p.2) = G p) (hN : X.N[i]? = some x := by rfl) (hx : Loc X.env.scope x := by first | exact Or.inl rfl | exact Or.inr rfl)
    (hl : X.fn x = true ∨ X.env.scope.names.lookup x = some .local := by first | exact Or.inl rfl | exact Or.inr rfl) (hN2 : X.N[j]? = some y := by rfl) (hy : Loc X.env.scope y := by first | exact Or.inl rfl | exact Or.inr rfl) (hl2 : X.fn y = true ∨ X.env.scope.names.lookup y = some .local := by first | exact Or.inl rfl | exact Or.inr rfl)
    (h1 : (assignEach [.Name x px, .Name y py] X.env).map (·.2) = assign (.Name x px) X.env :: (assignEach [.Name y py] X.env).map (·.2) := by rfl) (h2 : (assignEach [.Name y py] X.env).map (·.2) = assign (.Name y py) X.env :: (assignEach [] X.env).map (·.2) := by rfl)
    (hn : (assignEach [.Name x px, .Name y py] X.env).length = 2 := by rfl) (hst : (assignEach [.Name x px, .Name y py] X.env).findIdx? (·.1) = none := by rfl) : PTc Z X (.Tuple [.Name x px, .Name y py] kk pos) own Γ G U2 (gTup Z.K 2 (gCons (gName i) (gCons (gName j) gNil))) := by
  refine ⟨by rw [← hK]; exact pg_tup hc (pgs_cons (pg_name nd hN hx hl) (pgs_cons (pg_name nd hN2 hy hl2) pgs_nil h2) h1) hn hst, fun N d x σ H o r => ?_⟩
  unfold U2; rw [upk2_def]; unfold upk2'
  split
  · rename_i u v
    refine .inr ⟨(u, v), fun _ _ => rfl, fun Q hQ => ?_⟩
    obtain ⟨p, vs, rfl, s, rs⟩ := r
    obtain ⟨x1, t1, rfl, r1, rs⟩ := rs
    obtain ⟨x2, t2, rfl, r2, rs⟩ := rs
    cases rs
    exact ⟨p, [x1, x2], rfl, s, rfl, x1, [x2], rfl, x2, [], rfl, rfl, hQ _ (by rw [← hG]; exact (o.set r1).set r2) (by rw [wipe_set hj, wipe_set hi])⟩
  · exact .inl fun _ _ => rfl
theorem tc_3 (i j l : Nat) {own : List Nat} {x y z : Str} {kk : Nat} {px py pz : Pos} {G : D × D × D → List Sv} (hc : X.calm = true) (hK : X.K = Z.K) (nd : X.N.Nodup) (hi : i ∈ own) (hj : j ∈ own) (hm : l ∈ own) (hG : ∀ p : D × D × D, ((Γ.set i (.s p.1)).set j (.s p.2.1)).set l (.s p.2.2) = G p) (hN : X.N[i]? = some x := by rfl) (hx : Loc X.env.scope x := by first | exact Or.inl rfl | exact Or.inr rfl)
    (hl : X.fn x = true ∨ X.env.scope.names.lookup x = some .local := by first | exact Or.inl rfl | exact Or.inr rfl) (hN2 : X.N[j]? = some y := by rfl) (hy : Loc X.env.scope y := by first | exact Or.inl rfl | exact Or.inr rfl) (hl2 : X.fn y = true ∨ X.env.scope.names.lookup y = some .local := by first | exact Or.inl rfl | exact Or.inr rfl)
    (hN3 : X.N[l]? = some z := by rfl) (hz : Loc X.env.scope z := by first | exact Or.inl rfl | exact Or.inr rfl) (hl3 : X.fn z = true ∨ X.env.scope.names.lookup z = some .local := by first | exact Or.inl rfl | exact Or.inr rfl)
    (h1 : (assignEach [.Name x px, .Name y py, .Name z pz] X.env).map (·.2) = assign (.Name x px) X.env :: (assignEach [.Name y py, .Name z pz] X.env).map (·.2) := by rfl) (h2 : (assignEach [.Name y py, .Name z pz] X.env).map (·.2) = assign (.Name y py) X.env :: (assignEach [.Name z pz] X.env).map (·.2) := by rfl) (h3 : (assignEach [.Name z pz] X.env).map (·.2) = assign (.Name z pz) X.env :: (assignEach [] X.env).map (·.2) := by rfl)
    (hn : (assignEach [.Name x px, .Name y py, .Name z pz] X.env).length = 3 := by rfl) (hst : (assignEach [.Name x px, .Name y py, .Name z pz] X.env).findIdx? (·.1) = none := by rfl) : PTc Z X (.Tuple [.Name x px, .Name y py, .Name z pz] kk pos) own Γ G U3 (gTup Z.K 3 (gCons (gName i) (gCons (gName j) (gCons (gName l) gNil)))) := by
  refine ⟨by rw [← hK]; exact pg_tup hc (pgs_cons (pg_name nd hN hx hl) (pgs_cons (pg_name nd hN2 hy hl2) (pgs_cons (pg_name nd hN3 hz hl3) pgs_nil h3) h2) h1) hn hst, fun N d x σ H o r => ?_⟩
  unfold U3; rw [upk3_def]; unfold upk3'
  split
  · rename_i u v w
    refine .inr ⟨(u, v, w), fun _ _ => rfl, fun Q hQ => ?_⟩
    obtain ⟨p, vs, rfl, s, rs⟩ := r
    obtain ⟨x1, t1, rfl, r1, rs⟩ := rs
    obtain ⟨x2, t2, rfl, r2, rs⟩ := rs
    obtain ⟨x3, t3, rfl, r3, rs⟩ := rs
    cases rs
    exact ⟨p, [x1, x2, x3], rfl, s, rfl, x1, [x2, x3], rfl, x2, [x3], rfl, x3, [], rfl, rfl, hQ _ (by rw [← hG]; exact ((o.set r1).set r2).set r3) (by rw [wipe_set hm, wipe_set hj, wipe_set hi])⟩
  · exact .inl fun _ _ => rfl
structure PTvs (Z : Whr) (X : Cx) (Γ : List Sv) (ts : List Expr) (r : R Bool) : Prop where
  run : PTs X ts (tVT Z Γ r fun _ _ _ _ => False)
theorem pts_yes : PTvs Z X Γ [] (.ok true) := ⟨⟨fun pins s σ H Q I ⟨N, o, h⟩ => (pts_nil).run pins s σ H Q I (h H Grow.refl)⟩⟩
theorem pts_if {t : Expr} {T : R Bool} (p : PTv Z X Γ t T) : PTvs Z X Γ [t] T := ⟨pts_one (p.run _ takes0)⟩
noncomputable abbrev W0 : WX := fun _ _ _ _ => False
theorem RE.off {p : Addr} {d : D} {x : V} (hp : H p = none) (h : RE Z N H d x) : RE Z (fun a => N a ∧ a ≠ p) H d x := by
  cases d with
  | lst ds => obtain ⟨a, vs, e, q, r⟩ := h; exact ⟨a, vs, e, q, r.off hp⟩
  | _ => exact RD.off hp h
theorem RE.grow {d : D} {x : V} (g : Grow H H1) (h : RE Z N H d x) : RE Z N H1 d x := by
  cases d with
  | lst ds => obtain ⟨a, vs, e, q, r⟩ := h; exact ⟨a, vs, e, g _ _ q, RDs.grow g r⟩
  | _ => exact RD.grow g h
theorem SvR.off {p : Addr} {s : Sv} {x : Option V} (hp : H p = none) (h : SvR Z N H s x) : SvR Z (fun a => N a ∧ a ≠ p) H s x := by
  cases s with
  | n => exact trivial
  | s d => cases x with
    | none => exact h
    | some x => exact RD.off hp h
  | o d => cases x with
    | none => exact h
    | some x =>
      cases d with
      | lst ds => obtain ⟨a, vs, e, n, q, r⟩ := h; exact ⟨a, vs, e, fun z => n z.1, q, r.off hp⟩
      | _ => exact RD.off hp h
theorem length_app {α : Type} (xs : List α) (y : α) (zs : List α) : ((xs ++ [y]) ++ zs) = xs ++ (y :: zs) := by simp
theorem cmp_cons {t : D → R Bool} {e : D → R D} {x : D} {xs : List D} : cmpL t e (x :: xs) = (match t x with
    | .ok true => (match e x with
      | .ok v => (match cmpL t e xs with
        | .ok vs => .ok (v :: vs)
        | _ => .bad)
      | _ => .bad)
    | .ok false => cmpL t e xs
    | _ => .bad) := by rw [cmpL_def]; rfl
/-- the reading of a comprehension -/
theorem lc_read {own : List Nat} {w : R (List D)} {Γ2 : ι → List Sv} {u : D → ∀ α : Type, (ι → R α) → R α} {T : ι → R Bool} {E : ι → R D} {ce : Cl} {Q : VK} {g : TG} (hce : ce.le .C = true)
    (ht : ∀ (N : Addr → Prop) (d : D) (x : V) (σ : St) (H : L2.Hp), Okv Z N (wipeG own Γ) σ H → RD Z N H d x →
      (∀ (α : Type) (k : ι → R α), u d α k = .bad) ∨ ∃ v, (∀ (α : Type) (k : ι → R α), u d α k = k v) ∧ ∀ Q : St → L2.Hp → Prop, (∀ σ2, Okv Z N (Γ2 v) σ2 H → L2.wipe σ2 own = L2.wipe σ own → Q σ2 H) → g x σ H Q)
    (q : tV Z Γ (cmp w (fun d => u d _ T) (fun d => u d _ E)) .T W σ H Q) :
    tLc (tVI Z Γ w c W) g (fun σ H Q => ∃ v, tVT Z (Γ2 v) (T v) W0 σ H Q) (fun σ H Q => ∃ v, tV Z (Γ2 v) (E v) ce W0 σ H Q) own σ H Q := by
  obtain ⟨N, o, h⟩ := q
  refine ⟨N, o, ?_⟩
  rw [cmp_def] at h; unfold cmp' at h
  cases w with
  | bad => exact h
  | ex k fs => exact h
  | ok items =>
    intro hs xs J H1 g1 rh okJ Da hDa
    have o1 := o.grow g1
    have rh1 : REs Z (fun a => N a ∧ a ≠ Da) H1 hs xs := pimp (fun _ _ q => RE.off hDa (q.re o.fr)) rh
    have h1 : CtV Z N H1 (bnd (cmpL (fun d => u d _ T) (fun d => u d _ E) items) fun vs => if vs.length ≤ bigL then .ok (.lst vs) else .bad) .T Q (at_ W σ) := CtV.pre g1 h
    refine ⟨fun i m H => m = items.length - i ∧ i ≤ items.length ∧ ∃ acc accd, Grow H1 H ∧ H Da = some (.lst acc) ∧ RDs Z (fun a => N a ∧ a ≠ Da) H accd acc ∧
      CtV Z N H1 (bnd (cmpL (fun d => u d _ T) (fun d => u d _ E) (items.drop i)) fun vs => if (accd ++ vs).length ≤ bigL then .ok (.lst (accd ++ vs)) else .bad) .T Q (at_ W σ), ⟨_, rfl, Nat.zero_le _, [], [], Grow.upd hDa, upd_same, rfl, by simpa using h1⟩, ?_⟩
    rintro i m H2 ⟨em, hi, acc, accd, g2, hD, ra, c⟩
    have fr2 : Fr (fun a => N a ∧ a ≠ Da) H2 := fun a e => ⟨o1.fr a (g2.back e), fun z => by rw [z, hD] at e; cases e⟩
    have z := okJ _ H2 i fr2 (pimp (fun _ _ q => RE.grow g2 q) rh1)
    cases e : items[i]? with
    | none =>
      rw [e] at z
      have hi2 : items.length = i := by have := List.getElem?_eq_none_iff.mp e; omega
      rw [List.drop_of_length_le (by omega)] at c
      refine .inl ⟨z hi2, ?_⟩
      have c : CtV Z N H1 (if (accd ++ []).length ≤ bigL then .ok (.lst (accd ++ [])) else .bad) .T Q (at_ W σ) := c
      rw [List.append_nil] at c
      split at c
      · exact c (.ref Da) H2 g2 ⟨Da, acc, rfl, hDa, hD, ra⟩
      · exact c.elim
    | some d =>
      rw [e] at z
      have hlt := (List.getElem?_eq_some_iff.mp e).1
      refine .inr ⟨z.1, fun H => i + 1 ≤ items.length ∧ ∃ acc accd, Grow H1 H ∧ H Da = some (.lst acc) ∧ RDs Z (fun a => N a ∧ a ≠ Da) H accd acc ∧
        CtV Z N H1 (bnd (cmpL (fun d => u d _ T) (fun d => u d _ E) (items.drop (i + 1))) fun vs => if (accd ++ vs).length ≤ bigL then .ok (.lst (accd ++ vs)) else .bad) .T Q (at_ W σ), fun H' y => ⟨items.length - (i + 1), by omega, rfl, y⟩, fun x H' hy => ?_⟩
      obtain ⟨g3, rx⟩ := z.2 x H' hy
      rw [drop_cons e, cmp_cons] at c
      have ow : Okv Z (fun a => N a ∧ a ≠ Da) (wipeG own Γ) (L2.wipe σ own) H' := by
        have o2 : Okv Z (fun a => N a ∧ a ≠ Da) Γ σ H' := ⟨pimp (fun _ _ q => SvR.grow (g2.trans g3) (SvR.off hDa q)) o1.sl, fun a e => fr2 a (g3.back e)⟩
        exact o2.wipe own
      rcases ht _ d x _ H' ow rx with hb | ⟨v, hv, hg⟩
      · rw [hb] at c; exact c.elim
      · rw [hv, hv] at c
        have hww : L2.wipe (L2.wipe σ own) own = L2.wipe σ own := by
          refine List.ext_getElem? fun j => ?_
          by_cases hj : j ∈ own
          · rw [wipe_get, if_pos hj, wipe_len, wipe_get, if_pos hj]
          · rw [wipe_get, if_neg hj]
        refine hg _ fun σ2 o2 hw => ⟨hw.trans hww, v, _, o2, ?_⟩
        cases eT : T v with
        | bad => rw [eT] at c; exact c.elim
        | ex k fs => rw [eT] at c; exact c.elim
        | ok b =>
          rw [eT] at c
          intro H3 g4
          cases b with
          | false => exact ⟨hlt, acc, accd, (g2.trans g3).trans g4, g4 _ _ (g3 _ _ hD), RDs.grow (g3.trans g4) ra, c⟩
          | true =>
            dsimp only at c
            refine ⟨v, _, o2.grow g4, ?_⟩
            cases eE : E v with
            | bad => rw [eE] at c; exact c.elim
            | ex k fs => rw [eE] at c; exact c.elim
            | ok y =>
              rw [eE] at c
              intro yv H4 g5 ry
              have hD4 := g5 _ _ (g4 _ _ (g3 _ _ hD))
              have ry' : RD Z (fun a => N a ∧ a ≠ Da) H4 y yv := ry.le (o2.grow g4).fr hce
              have ra4 := RDs.grow ((g3.trans g4).trans g5) ra
              have kp : Keep (fun a => N a ∧ a ≠ Da) H4 (upd H4 Da (.lst (acc ++ [yv]))) := Keep.updD hD4 (fun z => z.2 rfl)
              have G : Grow H1 (upd H4 Da (.lst (acc ++ [yv]))) := fun b ob eb => by
                rw [upd_ne]
                · exact ((g2.trans g3).trans (g4.trans g5)) b ob eb
                · rintro rfl; rw [hDa] at eb; cases eb
              refine ⟨acc, hD4, ?_, hlt, acc ++ [yv], accd ++ [y], G, upd_same, RDs.keep kp _ _ (ra4.append ⟨yv, [], rfl, ry', rfl⟩), ?_⟩
              · have hl := RDs.len ra4
                revert c
                cases cmpL (fun d => u d _ T) (fun d => u d _ E) (items.drop (i + 1)) with
                | bad => exact fun c => c.elim
                | ex _ _ => exact fun c => c.elim
                | ok vs =>
                  intro c
                  have c : CtV Z N H1 (if (accd ++ (y :: vs)).length ≤ bigL then .ok (.lst (accd ++ (y :: vs))) else .bad) .T Q (at_ W σ) := c
                  split at c
                  · rename_i hle
                    rw [List.length_append, List.length_cons] at hle
                    have := big_line hle
                    omega
                  · exact c.elim
              · revert c
                cases cmpL (fun d => u d _ T) (fun d => u d _ E) (items.drop (i + 1)) with
                | bad => exact fun c => c
                | ex _ _ => exact fun c => c.elim
                | ok vs => intro c; show CtV Z N H1 (if ((accd ++ [y]) ++ vs).length ≤ bigL then .ok (.lst ((accd ++ [y]) ++ vs)) else .bad) .T Q (at_ W σ); rw [length_app]; exact c
theorem pts_ex {ι : Type} {ts : List Expr} {t : ι → TT} (h : ∀ i, PTs X ts (t i)) : PTs X ts (fun σ H Q => ∃ i, t i σ H Q) := by
  refine ⟨?_⟩
  intro pins s σ H Q
  rintro I ⟨i, q⟩
  exact (h i).run _ _ _ _ _ I q
theorem pe_ex {X : Cx} {e : Expr} {ι : Type} {t : ι → TE} (h : ∀ i, PE X e (t i)) : PE X e (fun σ H Q => ∃ i, t i σ H Q) := ⟨fun pins s σ H Q I ⟨i, q⟩ => (h i).run pins s σ H Q I q⟩
theorem g_comp {ifs : List Expr} {scope : Scope} {own : List (Str × Nat)} {w : R (List D)} {Γ2 : ι → List Sv} {u : D → ∀ α : Type, (ι → R α) → R α} {T : ι → R Bool} {E : ι → R D} {ce : Cl} {Γw : List Sv} {g : TG} (hc : X.calm = true) (nd : X.N.Nodup) (pi : PIv Z X Γ tg iter w c) (bo : BlkOk X.N X.env.scope scope own) (hw : wipeG (own.map (·.2)) Γ = Γw)
    (pg : ∀ s H C cl fp, PTc Z (X.blk s H scope (compEnvC scope cl C X.env) fp) tg (own.map (·.2)) Γw Γ2 u g) (pt : ∀ s H C cl fp v, PTvs Z (X.blk s H scope (compEnvC scope cl C X.env) fp) (Γ2 v) ifs (T v)) (pe : ∀ s H C cl fp v, PEv Z (X.blk s H scope (compEnvC scope cl C X.env) fp) (Γ2 v) elt (E v) ce)
    (hce : ce.le .C = true := by rfl) (hf : ∀ x, foldedSetIterable iter X.env x = pure x := by intro x; rfl) : PEv Z X Γ (.ListComp elt [⟨tg, iter, ifs, 0⟩] scope pos) (cmp w (fun d => u d _ T) (fun d => u d _ E)) .T := by
  subst hw
  refine ⟨fun W tk => (pe_lc hc nd (pi.run W tk) bo (fun s H C cl fp => (pg s H C cl fp).run.1) (fun s H C cl fp => pts_ex fun v => (pt s H C cl fp v).run) (fun s H C cl fp => pe_ex fun v => (pe s H C cl fp v).run W0 takes0) hf).weak fun σ H Q q => ?_⟩
  exact lc_read hce (pg X.s_0 H 0 [] []).run.2 q
/-- y = [..] -/
theorem g_setC {τ β : Type} {S : Sh} {po : τ → List Sv} {pb : β → List Sv} {rest : List Stmt} {ifs : List Expr} {scope : Scope} {own : List (Str × Nat)} {w : R (List D)} {Γ2 : ι → List Sv} {u : D → ∀ α : Type, (ι → R α) → R α} {T : ι → R Bool} {E : ι → R D} {ce : Cl} {Γw : List Sv} {g : TG} {k : D → Fl τ β} {G : D → List Sv} (i : Nat) {y : Str} {py spos : Pos} {kd : Bool}
    (hc : X.calm = true) (nd : X.N.Nodup) (pi : PIv Z X Γ tg iter w c) (bo : BlkOk X.N X.env.scope scope own) (hw : wipeG (own.map (·.2)) Γ = Γw)
    (pg : ∀ s H C cl fp, PTc Z (X.blk s H scope (compEnvC scope cl C X.env) fp) tg (own.map (·.2)) Γw Γ2 u g) (pt : ∀ s H C cl fp v, PTvs Z (X.blk s H scope (compEnvC scope cl C X.env) fp) (Γ2 v) ifs (T v)) (pe : ∀ s H C cl fp v, PEv Z (X.blk s H scope (compEnvC scope cl C X.env) fp) (Γ2 v) elt (E v) ce)
    (hi : S.io = false ∨ i ≠ 0) (hG : ∀ u, Γ.set i (if kd = true then .o u else .s u) = G u) (q : ∀ u, PSsv Z X S (G u) po pb rest (k u))
    (hsw : swapsWith (.ListComp elt [⟨tg, iter, ifs, 0⟩] scope pos) (some (.Name y py)) spos.line X.env = pure true := by rfl) (hy : X.N[i]? = some y := by rfl) (hyl : X.env.scope.names.lookup y = some .local := by rfl)
    (hce : ce.le .C = true := by rfl) (hx : LeS Γ S.px := by exact les_n rfl rfl) (hf : ∀ x, foldedSetIterable iter X.env x = pure x := by intro x; rfl) : PSsv Z X S Γ po pb (.Assign [.Name y py] (.ListComp elt [⟨tg, iter, ifs, 0⟩] scope pos) spos :: rest) (bnS (cmp w (fun d => u d _ T) (fun d => u d _ E)) k) := by
  subst hw
  refine ⟨fun W tk => (pss_cons (ps_setLc hc nd hy hyl hsw (pi.run W tk) bo (fun s H C cl fp => (pg s H C cl fp).run.1) (fun s H C cl fp => pts_ex fun v => (pt s H C cl fp v).run) (fun s H C cl fp => pe_ex fun v => (pe s H C cl fp v).run W0 takes0) hf) (pss_ex fun u => (q u).run W tk)).weak fun D σ H ⟨F, N, hio, a, c'⟩ => ?_⟩
  refine lc_read (c := c) (Q := fun x H1 => ∃ u, tGS Z S (G u) po pb (k u) W D (σ.set i (some x)) H1) hce (pg X.s_0 H 0 [] []).run.2 ?_
  refine tV_of a hx c' fun u y H' g a' q c'' => ?_
  cases kd with
  | true =>
    obtain ⟨N', a2⟩ := a.setO (io_ne hi hio) g q
    exact ⟨u, F, N', hio, by rw [← hG]; exact a2, c''⟩
  | false => exact ⟨u, F, N, hio, by rw [← hG]; exact a'.setS (io_ne hi hio) (q.TC a.ok.fr), c''⟩
end
end Qz
/-! Qz: errors raised and caught. -/
namespace Qz
open PySem PySem.Spec L2

/-! ### several suites, each with its name -/
inductive HdsN (X : Cx) : List ExceptHandler → List (Value × Nat × (Addr → Value → Option Addr → TS)) → Prop
  | nil : HdsN X [] []
  | cons {x n : Str} {c : Value} {i : Nat} {ts : Addr → Value → Option Addr → TS} {b₀ : Stmt} {suite : List Stmt} {np pos' : Pos} {hds : List ExceptHandler} {l : List (Value × Nat × (Addr → Value → Option Addr → TS))} : X.N[i]? = some n → X.env.kindOf n = some .local → Names X x c →
      (∀ (a : Addr) (oe : Obj) (cls : Value) (d : Option Addr) (pn : List (Addr × Obj)), Zc cls d oe → (∃ vs, oe.data = Data.fields vs) → PSs (X.suite a ((a, oe) :: pn)) (b₀ :: suite) (ts a cls d)) → HdsN X hds l →
      HdsN X (.ExceptHandler (some (.Name x np)) (some n) (b₀ :: suite) pos' :: hds) ((c, i, ts) :: l)
noncomputable def wNamed (K : PySem.W.Frag) (Wout : WX) (D : Ends) : List (Value × Nat × (Addr → Value → Option Addr → TS)) → WX
  | [] => Wout
  | (c, i, ts) :: r => fun cls d σ H => ∃ b, PySem.W.exmOne K cls c = some b ∧
      (b = true → ∀ a : Addr, H a = none → ts a cls d { nx := fun σ' H' => D.nx (σ'.set i none) H', rt := D.rt, bk := fun σ' H' => D.bk (σ'.set i none) H', ct := fun σ' H' => D.ct (σ'.set i none) H' } (σ.set i (some (.ref a))) H) ∧
      (b = false → wNamed K Wout D r cls d σ H)
theorem ps_try_named {X : Cx} {body : List Stmt} {h₀ : ExceptHandler} {hds : List ExceptHandler} {l : List (Value × Nat × (Addr → Value → Option Addr → TS))} {pos : Pos} {tb : WX → TS} {Wout : WX} (hs : X.stack = X.env :: X.outer) (hf : X.env.frame = some X.env.locals) (hN : X.N.Nodup) (tk : Takes X Wout)
    (hb : ∀ (W : WX) (pn : List (Addr × Obj)) (xe : Value → Shared → Prop), Takes (X.tr pn xe) W → PassesOwn (model X.prog X.w) X.A X.env xe → PSs (X.tr pn xe) body (tb W)) (hh : HdsN X (h₀ :: hds) l) :
    PS X (.Try body (h₀ :: hds) [] [] pos) fun D σ H => tb (wNamed X.K Wout D l) D σ H := ⟨fun pins s σ H D I h => by
  have ok := I.ok
  have hfr : X.A.frames = some (X.env :: X.outer) := by rw [ok.frames, hs]
  refine wpAny_Try_except (wpAny_mono ((hb (wNamed X.K Wout D l) (X.pn ++ pins) _ (fun u s' xx => ?_) PassesOwn.looking).run [] s σ H D (I.toTry _) h) (fun f s1 hsp => ?_) fun e s1 he => he)
  · obtain ⟨a, B, sI, pins', σ', H', cls, d, rfl, J', nb, up, sky, na, os, ag, w⟩ := xx
    have J := J'.ofTry ok
    have sky' : Sky B (X.env :: X.outer) a (Zc cls d) X.env.locals s'.heap := by rw [← hs]; exact sky
    refine Sky.land Zc.steady hfr hf sky' fun h3 fl3 up3 => ?_
    have J3 : L2.Inv X pins σ' H' { heap := h3, gens := s'.gens, drawn := s'.drawn, toks := s'.toks, os := s'.os } := J.landed nb fl3.1 (up.trans up3) os ag
    obtain ⟨oe3, vs3, he3, hz3, hd3⟩ := fl3.there
    have nfr : a ∉ frs (X.env :: X.outer) := fun hm => by
      obtain ⟨_, o', e', hnf⟩ := fl3.2.2.1.mem hm
      rw [he3] at e'
      cases e'
      exact hnf vs3 hd3
    have nL : a ≠ X.env.locals := fun z => nfr (List.mem_filterMap.mpr ⟨X.env, List.mem_cons_self, by rw [hf, z]⟩)
    have nF : a ∉ X.fs := fun hm => by
      obtain ⟨e, he, q⟩ := List.mem_filterMap.mp hm
      exact nfr (List.mem_filterMap.mpr ⟨e, List.mem_cons_of_mem _ he, q⟩)
    have S3 := J3.suite he3 hd3 na nL nF
    -- the suites, one by one
    have go : ∀ {hds' l'}, HdsN X hds' l' → wNamed X.K Wout D l' cls d σ' H' → wpAny (model X.prog X.w) X.A (handleBy (Value.ref a) X.env hds') (SP X pins D) X.xe { heap := h3, gens := s'.gens, drawn := s'.drawn, toks := s'.toks, os := s'.os } := by
     intro hds' l' hk
     induction hk with
     | nil =>
       intro w
       refine wpAny_handleBy_nil ?_
       obtain ⟨k1, k2, k3, oe, vs, T, oT, ts', he, hz, hd, h1, hr⟩ := id fl3
       refine wpAny_bind (wpAny_field he hd h1 ?_)
       rw [if_neg (by simp)]
       have fin : wpAny (model X.prog X.w) X.A (setFlight (Value.ref a) X.env.frame) (fun x s4 => wpAny (model X.prog X.w) X.A (throw (Value.ref a)) (SP X pins D) X.xe s4) X.xe { heap := h3, gens := s'.gens, drawn := s'.drawn, toks := s'.toks, os := s'.os } := by
         rw [hf]
         refine HandSPX.setFlight_upZ fl3 fun h4 hh4 up4 => wpAny_throw (tk (Value.ref a) _ ⟨a, B, sI, pins, σ', H', cls, d, rfl, J, nb, (up.trans up3).trans up4, .inr (.inr (by rw [hs]; exact hh4)), na, os, ag, w⟩)
       exact wpAny_bind fin
     | @cons x n c i ts b₀ suite np pos' hds2 l2 hi hln hc hsu r ih =>
       intro w
       obtain ⟨b, hb1, hyes, hno⟩ := w
       refine wpAny_handleBy_cons (codeAny_handlers_test ?_) (fun q => by cases q)
       have LT : ∀ (A : Around) (Q E : Value → Shared → Prop) (s : Shared), (∀ (b : Addr) (o : Obj), h3.get? b = some o → s.heap.get? b = some o) → Q cls s → wpAny (model X.prog X.w) A (typeOf (Value.ref a)) Q E s := fun A Q E s k q => wpAny_typeOf_ref (k a oe3 he3) (by rw [hz3.1]; exact q)
       have LM := PySem.W.exm_one (J3.kIn) LT hb1
       have test : ∀ {Q E : Value → Shared → Prop}, Q c _ → wpAny (model X.prog X.w) (X.A.mark (some (Value.ref a))) (eval (.Name x np) X.env) Q E { heap := h3, gens := s'.gens, drawn := s'.drawn, toks := s'.toks, os := s'.os } := fun {Q E} q => by
         obtain ⟨hg, hdbg, hm | ⟨hm, hv, hnn⟩⟩ := hc
         · exact ld_glob S3 hg hm q hdbg
         · exact ld_blt S3 hg hm hv q hnn hdbg
       refine test (PySem.W.Looks.here LM ?_)
       cases b with
       | false => exact ih (hno rfl)
       | true =>
         refine codeAny_handlers_suite_as (HandSPX.lands_againZ fl3 fun h4 fl4 up4 => ?_)
         have J4 : L2.Inv X pins σ' H' { heap := h4, gens := s'.gens, drawn := s'.drawn, toks := s'.toks, os := s'.os } := J.landed nb fl4.1 ((up.trans up3).trans up4) os ag
         obtain ⟨oe4, vs4, he4, hz4, hd4⟩ := fl4.there
         have S4 := J4.suite he4 hd4 na nL nF
         refine store_ok (X := X.suite a ((a, oe4) :: (X.pn ++ pins))) S4 hN hi (.inl hln) (show RelV (.ref a) (.ref a) from rfl) (fun s5 S5 => wpAny_mono ((hsu a oe4 cls d (X.pn ++ pins) hz4 ⟨vs4, hd4⟩).run [] s5 (σ'.set i (some (.ref a))) H' _ S5 (hyes rfl a na)) (fun f s6 hsp => ?_) fun x x_1 z => z.elim) (.inr hln)
         cases f with
         | next => obtain ⟨σ6, H6, S6, q6⟩ := hsp; exact gone_ok (S6.unsuite ok) hN hi hln fun s7 J7 => ⟨σ6.set i none, H6, J7, q6⟩
         | brk => obtain ⟨σ6, H6, S6, q6⟩ := hsp; exact gone_ok (S6.unsuite ok) hN hi hln fun s7 J7 => ⟨σ6.set i none, H6, J7, q6⟩
         | cont => obtain ⟨σ6, H6, S6, q6⟩ := hsp; exact gone_ok (S6.unsuite ok) hN hi hln fun s7 J7 => ⟨σ6.set i none, H6, J7, q6⟩
         | ret u => obtain ⟨v6, σ6, H6, S6, r6, q6⟩ := hsp; exact gone_ok (S6.unsuite ok) hN hi hln fun s7 J7 => ⟨v6, σ6.set i none, H6, J7, r6, q6⟩
    exact go hh w
  · cases f with
    | next => obtain ⟨σ', H', J', q⟩ := hsp; exact wpAny_execs_nil ⟨σ', H', J'.ofTry ok, q⟩
    | brk => obtain ⟨σ', H', J', q⟩ := hsp; exact ⟨σ', H', J'.ofTry ok, q⟩
    | cont => obtain ⟨σ', H', J', q⟩ := hsp; exact ⟨σ', H', J'.ofTry ok, q⟩
    | ret u => obtain ⟨v, σ', H', J', r, q⟩ := hsp; exact ⟨v, σ', H', J'.ofTry ok, r, q⟩⟩
end Qz
/-! Qz: own classes of errors without fields: raised, caught. -/
namespace Qz
open PySem PySem.Spec L2

theorem pmk_own0 {X : Cx} {C : Addr} {bmB : List Value} {B newId initId : String} {x : Str} {p pos : Pos} (F : ExcBaseFacts B newId initId bmB) (q : PySem.W.excIn X.K C bmB newId = true) (gC : X.mg x = some (Value.ref C)) (kC : PySem.W.keepIn X.K (Value.ref C) = true) (r : Raises X (Value.ref C)) (hg : Gl X x)
    (hdb : (x == ("__debug__" : Str)) = false := by decide) : PMk X (.Call (.Name x p) [] [] pos) fun _ H Q => Q (Value.ref C) none H := by
  intro pins s σ H Q I h
  refine wpAny_Call_Name_kw (ld_glob I hg gC ?_ hdb)
  refine PySem.W.callWith_K0 I.kIn kC ?_
  obtain ⟨bm, N, nm, qn, bs, hdct, sn, sub, ab, col, dd, k0, k1, k2, k3, k5, mN, hC, hN, hni, T⟩ := exc_obj I.kIn q
  exact wpAny_call_exc_subT F T hC hN hni (fun h' e hm => mk_of I hm r h (I.hok.gone hm.new)) (by simp)
/-- the class c of the program, an error without fields -/
structure ExAt (Z : Whr) (K : PySem.W.Frag) (mg : Str → Option Value) (c : Nat) (x : Str) : Prop where
  mg : mg x = some (.ref (Z.C c))
  ex : ∃ bmB B newId initId, ExcBaseFacts B newId initId bmB ∧ PySem.W.excIn K (Z.C c) bmB newId = true
  kp : PySem.W.keepIn K (.ref (Z.C c)) = true
  sub : PySem.W.subIn K (.ref (Z.C c)) (.type "BaseException") = some true
  ty : PySem.W.typeIn K (.ref (Z.C c)) = some (.type "type")
  ec : ExcC K (Z.C c)
  nf : Z.F c = none
/-- the classes: apart from one another, each under its own -/
structure ExAll (Z : Whr) (K : PySem.W.Frag) (mg : Str → Option Value) (Es : List (Str × String)) : Prop where
  at' : ∀ c e, Es[c]? = some e → ExAt Z K mg c e.1
  exm : ∀ c d, c < Es.length → d < Es.length → PySem.W.exmOne K (.ref (Z.C c)) (.ref (Z.C d)) = some (c == d)
  kit : ∀ c e, Es[c]? = some e → ∀ T ∈ ["ValueError", "LookupError"], PySem.W.kitOne K (.ref (Z.C c)) (.type T) = some (T == e.2)

section
variable {τ τ' β : Type} {Z : Whr} {X : Cx} {S : Sh} {F : Fx} {N N' : Addr → Prop} {H H' : L2.Hp} {Γ Γ' Γx : List Sv} {σ : St} {W : WX} {Dd : Ends} {po : τ → List Sv} {pb : β → List Sv} {po' : τ' → List Sv} {Es : List (Str × String)} {rest : List Stmt}
/-- raise X() -/
theorem g_raise0 {c : Nat} {e : Str × String} {p pos pos' : Pos} (hK : X.K = Z.K) (hc : X.calm = true) (xa : ExAll Z X.K X.mg Es) (he : Es[c]? = some e) (hio : S.io = false) (hx : LeS Γ S.px := by exact les_n rfl rfl) (hg : Gl X e.1 := by rfl) (hdb : (e.1 == ("__debug__" : Str)) = false := by decide) : PSsv Z X S Γ po pb [.Raise (some (.Call (.Name e.1 p) [] [] pos)) none pos'] (.ex c []) := by
  have A := xa.at' c e he
  obtain ⟨bmB, B, newId, initId, fF, q⟩ := A.ex
  refine ⟨fun W tk => (pss_one (ps_raise hc tk (pmk_own0 fF q A.mg A.kp (raises_own A.sub A.ty) hg hdb))).weak fun D σ H ⟨F, N, hio', a, c'⟩ => ?_⟩
  exact ct_ex a hx c' Grow.refl (by show XD Z c [] H none; unfold XD; rw [A.nf])
/-- a suite: one list of data is written -/
noncomputable def wv : D → V
  | .str x => .str x
  | .bl b => .bl b
  | .int i => .int i
  | _ => .non
noncomputable def plainW : D → Bool
  | .str _ => true
  | .bl _ => true
  | .int _ => true
  | .non => true
  | _ => false
theorem wv_RD {d : D} (p : plainW d = true) : RD Z N H d (wv d) := by
  cases d <;> first | rfl | cases p
theorem wv_RDs : ∀ {ds : List D}, (∀ d ∈ ds, plainW d = true) → RDs Z N H ds (ds.map wv)
  | [], _ => rfl
  | d :: ds, p => ⟨_, _, rfl, wv_RD (p d List.mem_cons_self), wv_RDs fun x hx => p x (List.mem_cons_of_mem _ hx)⟩
/-- suites: the class asked for, the error's slot, the slot that is set, what is written -/
structure Hnd where
  c : Nat
  i : Nat
  j : Nat
  ws : List D
noncomputable def hndL (c : Nat) (fs : List D) : List (Hnd × τ) → Fl τ β
  | [] => .ex c fs
  | d :: ds => if c = d.1.c then .nx d.2 else hndL c fs ds
/-- the errors that the suites are for leave no more -/
noncomputable def tryS (nc : Nat) (m : Fl τ β) (hs : List (Hnd × τ)) : Fl τ β := match m with
  | .ex c fs => if c < nc then hndL c fs hs else .bad
  | m => m
noncomputable def tSui (i j : Nat) (ws : List D) (a : Addr) : TS := fun D σ H => σ[i]? = some (some (.ref a)) ∧ ∀ p, H p = none → D.nx (σ.set j (some (.ref p))) (upd H p (.lst (ws.map wv)))
noncomputable def SuiteOk (Z : Whr) (X : Cx) (c i j : Nat) (ws : List D) (sts : List Stmt) : Prop :=
  (∀ d ∈ ws, plainW d = true) ∧ ∀ (a : Addr) (oe : Obj) (pn : List (Addr × Obj)), Zc (.ref (Z.C c)) none oe → (∃ vs, oe.data = Data.fields vs) → PSs (X.suite a ((a, oe) :: pn)) sts (tSui i j ws a)
inductive HsOk (Z : Whr) (X : Cx) : List ExceptHandler → List Hnd → Prop
  | nil : HsOk Z X [] []
  | cons {x n : Str} {c i j : Nat} {ws : List D} {b₀ : Stmt} {suite : List Stmt} {np pos' : Pos} {hds : List ExceptHandler} {l : List Hnd} : X.N[i]? = some n → X.env.kindOf n = some .local → Names X x (.ref (Z.C c)) → SuiteOk Z X c i j ws (b₀ :: suite) → HsOk Z X hds l →
      HsOk Z X (.ExceptHandler (some (.Name x np)) (some n) (b₀ :: suite) pos' :: hds) (⟨c, i, j, ws⟩ :: l)
noncomputable def tsH (Z : Whr) (d : Hnd) : Value × Nat × (Addr → Value → Option Addr → TS) := (.ref (Z.C d.c), d.i, fun a cls dd D σ H => (cls = .ref (Z.C d.c) ∧ dd = none) ∧ tSui d.i d.j d.ws a D σ H)
theorem HsOk.named {hds : List ExceptHandler} {l : List Hnd} (k : HsOk Z X hds l) : HdsN X hds (l.map (tsH Z)) := by
  induction k with
  | nil => exact .nil
  | cons h1 h2 h3 h4 _ ih =>
    refine .cons h1 h2 h3 (fun a oe cls d pn hz hf => ⟨fun pins s σ H D I q => ?_⟩) ih
    obtain ⟨⟨rfl, rfl⟩, q⟩ := q
    exact (h4.2 a oe pn hz hf).run pins s σ H D I q
theorem HsOk.plain {hds : List ExceptHandler} {l : List Hnd} (k : HsOk Z X hds l) : ∀ d ∈ l, ∀ w ∈ d.ws, plainW w = true := by
  induction k with
  | nil => intro d hd; cases hd
  | cons h1 h2 h3 h4 _ ih =>
    intro d hd
    rcases List.mem_cons.mp hd with rfl | hd
    · exact h4.1
    · exact ih d hd

theorem hnd_read {c : Nat} {fs : List D} {d : Option Addr} (h0 : F.A0 = none) (xa : ExAll Z X.K X.mg Es) (hc : c < Es.length) (a : At Z F N Γx σ H) (xd : XD Z c fs H d) (hS : LeS Γx S.px) : ∀ (l : List (Hnd × τ)), (∀ d ∈ l, d.1.c < Es.length ∧ (∀ w ∈ d.1.ws, plainW w = true) ∧ d.1.i < Γx.length ∧ LeS (((Γx.set d.1.i .n).set d.1.j (.s (.lst d.1.ws))).set d.1.i .n) (po d.2)) → CtS Z F S po pb Dd W (hndL c fs l) → wNamed X.K W Dd ((l.map (·.1)).map (tsH Z)) (.ref (Z.C c)) d σ H
  | [], _, q => by
    obtain ⟨N', a'⟩ := a.le hS (.inl h0)
    exact q.2 N' σ H d a' xd
  | e :: l, pl, q => by
    unfold hndL at q
    obtain ⟨p1, p2, p3, p4⟩ := pl e List.mem_cons_self
    refine ⟨c == e.1.c, xa.exm c e.1.c hc p1, fun hb => ?_, fun hb => ?_⟩
    · have ec : c = e.1.c := by simpa using hb
      rw [if_pos ec] at q
      intro b hbn
      have nf := (xa.at' c _ (List.getElem?_eq_getElem hc)).nf
      unfold XD at xd
      rw [nf] at xd
      have hd : d = none := by
        split at xd
        · exact xd
        · rename_i z; cases z
        · exact xd.elim
      refine ⟨⟨by rw [ec], hd⟩, by rw [List.getElem?_set_self (by rw [← plen a.ok.sl]; exact p3)], fun p hp => ?_⟩
      have g : Grow H (upd H p (.lst (e.1.ws.map wv))) := Grow.upd hp
      have a1 := (a.grow g).setN (i := e.1.i) (x := some (.ref b)) (.inl h0)
      have a2 := a1.setS (i := e.1.j) (d := .lst e.1.ws) (x := .ref p) (.inl h0) ⟨p, _, rfl, a.ok.fr p hp, upd_same, wv_RDs p2⟩
      have a3 := a2.setN (i := e.1.i) (x := none) (.inl h0)
      obtain ⟨N', a4⟩ := a3.le p4 (.inl h0)
      exact q N' _ _ a4
    · have ec : c ≠ e.1.c := by simpa using hb
      rw [if_neg ec] at q
      exact hnd_read h0 xa hc a xd hS l (fun d hd => pl d (List.mem_cons_of_mem _ hd)) q
/-- try .. except X as n: .. -/
theorem g_try {body : List Stmt} {h₀ : ExceptHandler} {hds : List ExceptHandler} {l : List (Hnd × τ')} {B : Fl τ' β} {k : τ' → Fl τ β} {pos : Pos} (Γx : List Sv) (hs : X.stack = X.env :: X.outer) (hf : X.env.frame = some X.env.locals) (hN : X.N.Nodup) (xa : ExAll Z X.K X.mg Es)
    (pb' : ∀ (pn : List (Addr × Obj)) (xe : Value → Shared → Prop), PassesOwn (model X.prog X.w) X.A X.env xe → PSsv Z (X.tr pn xe) ⟨S.cl, S.io, Γx⟩ Γ po' pb body B) (ph : HsOk Z X (h₀ :: hds) (l.map (·.1)))
    (hio0 : S.io = false) (hl : ∀ d ∈ l, d.1.c < Es.length ∧ (∀ w ∈ d.1.ws, plainW w = true) ∧ d.1.i < Γx.length ∧ LeS (((Γx.set d.1.i .n).set d.1.j (.s (.lst d.1.ws))).set d.1.i .n) (po' d.2)) (hS : LeS Γx S.px) (q : ∀ s, PSsv Z X S (po' s) po pb rest (k s)) :
    PSsv Z X S Γ po pb (.Try body (h₀ :: hds) [] [] pos :: rest) (thnS (tryS Es.length B l) k) := by
  refine ⟨fun W tk => (pss_cons (ps_try_named hs hf hN tk (fun W pn xe tk po => (pb' pn xe po).run W tk) ph.named) (pss_ex fun s => (q s).run W tk)).weak fun D σ H ⟨F, N, hio, a, c⟩ => ⟨F, N, hio, a, ?_⟩⟩
  have c' := ct_thn (po' := po') c (U := fun D σ H => ∃ s, tGS Z S (po' s) po pb (k s) W D σ H) fun s N σ H a c => ⟨s, F, N, hio, a, c⟩
  unfold tryS at c'
  cases e : B with
  | nx s1 => rw [e] at c'; exact c'
  | rt u w => rw [e] at c'; exact c'
  | bk s1 => rw [e] at c'; exact c'
  | ct s1 => rw [e] at c'; exact c'
  | ex k fs =>
    rw [e] at c'
    have h0 : F.A0 = none := hio hio0
    dsimp only at c'
    split at c'
    · rename_i hk
      exact ⟨h0, fun N1 σ1 H1 d a1 xd => hnd_read (po := po') (pb := pb) h0 xa hk a1 xd hS l hl c'⟩
    · exact c'.elim
  | bad => rw [e] at c'; exact c'
/-- the suite y = ['word', isinstance(n, T)] -/
theorem suite_isi {c i j : Nat} {e : Str × String} {y n : Str} {w : Str} {T : String} {bb : Bool} {py ps1 ps2 pn pT pc pl pos : Pos} {jp : Nat} (hN : X.N.Nodup) (hi : X.N[i]? = some n) (hj : X.N[j]? = some y) (hy : Loc X.env.scope y) (hn : Vis X.env.scope n) (xa : ExAll Z X.K X.mg Es) (he : Es[c]? = some e) (hbb : (T == e.2) = bb) (hT : T ∈ ["ValueError", "LookupError"])
    (hg : Gl X "isinstance") (hm : X.mg "isinstance" = none) (hg2 : Gl X (Str.ofString T)) (hm2 : X.mg (Str.ofString T) = none) (hl : X.fn y = true ∨ X.env.scope.names.lookup y = some .local := by first | exact Or.inl rfl | exact Or.inr rfl)
    (hb2 : bootBuiltins (Str.ofString T) = some (.type T) := by rfl) (hd2 : (Str.ofString T == ("__debug__" : Str)) = false := by decide) (hn2 : (Str.ofString T) ≠ "__name__" := by decide) (hdn : (n == ("__debug__" : Str)) = false := by decide) (hcn : (n == ("__classdict__" : Str)) = false := by decide) :
    SuiteOk Z X c i j [.str w, .bl bb] [.Assign [.Name y py] (.List [.Constant (.str w) jp ps1, .Call (.Name "isinstance" ps2) [.Name n pn, .Name (Str.ofString T) pT] [] pc] pl) pos] := by
  subst hbb
  refine ⟨by intro d hd; simp only [List.mem_cons, List.not_mem_nil, or_false] at hd; rcases hd with rfl | rfl <;> rfl, fun a oe pn hz hf => ?_⟩
  have ec := (xa.at' c e he).ec
  have kt := xa.kit c e he T hT
  refine (pss_one (ps_set (X := X.suite a ((a, oe) :: pn)) hN hj hy (pe_lst (pa_cons pe_str (pa_cons (pe_callB (call_isE ec hz hf) hg hm (by decide +kernel) (pa_cons (pe_var hi hn hdn hcn) (pa_cons (pe_bltn (v := .ty T) hg2 hm2 hb2 rfl hn2 hd2) pa_nil))) pa_nil))) (hf := hl))).weak fun D σ H q => ?_
  obtain ⟨q1, q2⟩ := q
  exact ⟨.ref a, q1, .ty T, .type T, _, rfl, fun u r => by cases r; rfl, kt, by simp [sizeLine_eq], fun p hp => q2 p hp⟩
end
end Qz
/-! Qz: defs, their promises; calls. -/
namespace Qz
open PySem PySem.Spec L2

noncomputable abbrev DF := List D → R D
noncomputable abbrev DW := List D → R (D × D)
structure DefI where
  x : Str
  ps : List Str
  st : Stmt
/-- a def's promise: what the plain function says of it -/
noncomputable def spV (Z : Whr) (np : Nat) (F : DF) (cl : Cl) : Sp := fun xs H Q E => xs.length = np ∧ ∃ N ds, Fr N H ∧ RDs Z N H ds xs ∧ CtV Z N H (F ds) cl Q E
/-- .. with a given list that is changed -/
noncomputable def GrowB (a : Addr) (H H' : L2.Hp) : Prop := ∀ b o, H b = some o → b ≠ a → H' b = some o
noncomputable def CtW (Z : Whr) (N : Addr → Prop) (a : Addr) (H : L2.Hp) (r : R (D × D)) (c : Cl) (Q : VK) : Prop := match r with
  | .ok (u, w) => ∀ x H', GrowB a H H' → (∃ es ws, w = .lst es ∧ H' a = some (.lst ws) ∧ RDs Z N H' es ws) → Cls Z N H c H' u x → Q x H'
  | _ => False
noncomputable def spW (Z : Whr) (np : Nat) (F : DW) (cl : Cl) : Sp := fun xs H Q E => xs.length = np ∧ ∃ N a vs ys es ds, xs = .ref a :: ys ∧ Fr N H ∧ ¬ N a ∧ H a = some (.lst vs) ∧ RDs Z N H es vs ∧ RDs Z N H ds ys ∧ CtW Z N a H (F (.lst es :: ds)) cl Q
structure FnAt (Z : Whr) (P : Program) (w : World) (K : PySem.W.Frag) (mg : Str → Option Value) (base : Heap) (F : DF) (cl : Cl) (k : Nat) (a : Addr) (d : DefI) : Prop where
  ok : ∃ fd, FunD K d.x d.x (defArgs d.st) (defBody d.st) (defScope d.st) [] [] a fd ∧ FnOk P w K mg base (L2.CX P w) k a fd d.ps (spV Z d.ps.length F cl) ∧ Binds K fd d.ps []
  ar : ∀ ds, ds.length ≠ d.ps.length → F ds = .bad
structure FnAtW (Z : Whr) (P : Program) (w : World) (K : PySem.W.Frag) (mg : Str → Option Value) (base : Heap) (F : DW) (cl : Cl) (k : Nat) (a : Addr) (d : DefI) : Prop where
  ok : ∃ fd, FunD K d.x d.x (defArgs d.st) (defBody d.st) (defScope d.st) [] [] a fd ∧ FnOk P w K mg base (L2.CX P w) k a fd d.ps (spW Z d.ps.length F cl) ∧ Binds K fd d.ps []
  ar : ∀ ds, ds.length ≠ d.ps.length → F ds = .bad
noncomputable abbrev noB : Unit → List Sv := fun _ => []
section
variable {Z : Whr} {X : Cx} {N : Addr → Prop} {H H' : L2.Hp} {Γ : List Sv} {σ : St} {W : WX} {P : Program} {w : World} {K : PySem.W.Frag} {mg : Str → Option Value} {base : Heap} {a : Addr} {d : DefI} {k j : Nat} {cl : Cl}
theorem FnAt.mono {F : DF} (h : FnAt Z P w K mg base F cl j a d) (l : j ≤ k) : FnAt Z P w K mg base F cl k a d := by
  obtain ⟨⟨fd, f, ok, b⟩, ar⟩ := h
  exact ⟨⟨fd, f, ok.mono l, b⟩, ar⟩
theorem FnAtW.mono {F : DW} (h : FnAtW Z P w K mg base F cl j a d) (l : j ≤ k) : FnAtW Z P w K mg base F cl k a d := by
  obtain ⟨⟨fd, f, ok, b⟩, ar⟩ := h
  exact ⟨⟨fd, f, ok.mono l, b⟩, ar⟩
theorem FnAt.cle {F : DF} {c' : Cl} (h : FnAt Z P w K mg base F cl j a d) (l : cl.le c' = true) : FnAt Z P w K mg base F c' j a d := by
  obtain ⟨⟨fd, f, ok, b⟩, ar⟩ := h
  refine ⟨⟨fd, f, ok.imp fun vs H Q E ⟨q, N, ds, fr, rd, c⟩ => ⟨q, N, ds, fr, rd, ?_⟩, b⟩, ar⟩
  exact CtV.le fr l c
theorem start_sl {N0 : List Str} {n : Nat} : ∀ {ds : List D} {vs : List V}, RDs Z N H ds vs → Paired (SvR Z N H) (ds.map .s ++ List.replicate n .n) (vs.map some ++ List.replicate n none)
  | [], _, r => by
    cases r
    induction n with
    | zero => exact .nil
    | succ n ih => exact .cons trivial ih
  | d :: ds, _, r => by
    obtain ⟨v, t, rfl, q, s⟩ := r
    exact .cons q (start_sl (N0 := N0) s)
theorem Cls.non {cl : Cl} : Cls Z N H cl H' .non .non := by cases cl <;> first | rfl | exact ⟨fun _ z => (by cases z), rfl⟩
/-- the slots of a def at its start -/
noncomputable abbrev g0 (ds : List D) (n : Nat) : List Sv := ds.map .s ++ List.replicate n .n
theorem no_o {ds : List D} {n i : Nat} {d : D} (h : (g0 ds n)[i]? = some (.o d)) : False := by
  have := List.mem_of_getElem? h
  simp [g0] at this
theorem def_ok {NN : List Str} {nl : Nat} {F : DF} {fd : FuncData} (f : FunD K d.x d.x (defArgs d.st) (defBody d.st) (defScope d.st) [] [] a fd)
    (bi : ∀ (kV doc pm : Value) (an : Option Addr) (cdv ct : Value) (us : List Value), us.length = d.ps.length → bindArgs (PySem.W.fnOf d.x d.x (defArgs d.st) (defBody d.st) (defScope d.st) Value.none kV doc pm an cdv ct) { pos := us } = pure (d.ps.zip us))
    (sc : FnScope NN d.ps (defScope d.st)) (hn : NN.length = d.ps.length + nl) (ar : ∀ ds, ds.length ≠ d.ps.length → F ds = .bad)
    (body : ∀ (cdv : Value) (A : Around) (outer : List Env) (s : Shared) (H : L2.Hp) (E : XK), Room k (A.deeper (PyProof.Rows.envOfC d.x (defScope d.st) s.heap.objs.size a cdv)) → ∀ ds : List D, ds.length = d.ps.length →
      ∃ m : Fl Unit Unit, F ds = retV m ∧ PSsv Z (cxOf (L2.CX P w) P w K mg base NN d.x (defScope d.st) a cdv A outer s H E) ⟨cl, false, List.replicate NN.length .n⟩ (g0 ds nl) (fun _ => List.replicate NN.length .n) noB (defBody d.st) m) :
    FnAt Z P w K mg base F cl (k + 1) a d := by
  refine ⟨⟨fd, f, ?_, f.bindsN bi⟩, ar⟩
  refine FunD.ok f sc (fun vs H Q E h => h.1) (fun cdv A outer s H vs Q E hr h => ?_)
  obtain ⟨hl, N, ds, fr, rd, c⟩ := h
  have hd : ds.length = d.ps.length := by rw [← RDs.len rd, hl]
  obtain ⟨m, em, p⟩ := body cdv A outer s H E hr ds hd
  refine ⟨_, p.run (fun cls d _ H => E cls d H) (takes_of rfl rfl rfl rfl), ?_⟩
  have e0 : NN.length - vs.length = nl := by omega
  refine ⟨⟨N, none, H, [], []⟩, N, fun _ => rfl, ⟨⟨by unfold L2.start; rw [e0]; exact start_sl (N0 := NN) rd, fr⟩, fun i j d e p _ q1 => (no_o q1).elim, fun i d p q1 => (no_o q1).elim, rfl, fr, fun _ z => z, fun b o e _ => e, fun b o e => ⟨o, e⟩, fun _ z => by cases z⟩, ?_⟩
  rw [em] at c
  cases m with
  | nx s => exact fun N1 σ1 H1 a1 => c .non H1 (fun b o e => a1.rest b o e (by simp)) Cls.non
  | rt u w => exact fun x H1 r => c x H1 (fun b o e => r.rest b o e (by simp)) r.c
  | bk b => exact c.elim
  | ct b => exact c.elim
  | ex k fs => exact ⟨rfl, fun N1 σ1 H1 d a1 xd => c d H1 (fun b o e => a1.rest b o e (by simp)) xd⟩
  | bad => exact c.elim
noncomputable abbrev g0W (es ds : List D) (n : Nat) : List Sv := .o (.lst es) :: g0 ds n
theorem def_okW {NN : List Str} {nl : Nat} {F : DW} {fd : FuncData} (f : FunD K d.x d.x (defArgs d.st) (defBody d.st) (defScope d.st) [] [] a fd)
    (bi : ∀ (kV doc pm : Value) (an : Option Addr) (cdv ct : Value) (us : List Value), us.length = d.ps.length → bindArgs (PySem.W.fnOf d.x d.x (defArgs d.st) (defBody d.st) (defScope d.st) Value.none kV doc pm an cdv ct) { pos := us } = pure (d.ps.zip us))
    (sc : FnScope NN d.ps (defScope d.st)) (hn : NN.length = d.ps.length + nl) (ar : ∀ ds, ds.length ≠ d.ps.length → F ds = .bad)
    (body : ∀ (cdv : Value) (A : Around) (outer : List Env) (s : Shared) (H : L2.Hp) (E : XK), Room k (A.deeper (PyProof.Rows.envOfC d.x (defScope d.st) s.heap.objs.size a cdv)) → ∀ es ds : List D, ds.length + 1 = d.ps.length →
      ∃ m : Fl D Unit, F (.lst es :: ds) = retW m ∧ PSsv Z (cxOf (L2.CX P w) P w K mg base NN d.x (defScope d.st) a cdv A outer s H E) ⟨cl, true, List.replicate NN.length .n⟩ (g0W es ds nl) (fun w => .o w :: List.replicate (NN.length - 1) .n) noB (defBody d.st) m) :
    FnAtW Z P w K mg base F cl (k + 1) a d := by
  refine ⟨⟨fd, f, ?_, f.bindsN bi⟩, ar⟩
  refine FunD.ok f sc (fun vs H Q E h => h.1) (fun cdv A outer s H vs Q E hr h => ?_)
  obtain ⟨hl, N, a0, us, ys, es, ds, rfl, fr, na, ha, re, rd, c⟩ := h
  have hd : ds.length + 1 = d.ps.length := by rw [← RDs.len rd, ← hl]; rfl
  obtain ⟨m, em, p⟩ := body cdv A outer s H E hr es ds hd
  refine ⟨_, p.run (fun cls d _ H => E cls d H) (takes_of rfl rfl rfl rfl), ?_⟩
  have e0 : NN.length - (V.ref a0 :: ys).length = nl := by omega
  refine ⟨⟨N, some a0, H, [], []⟩, N, (fun z => by cases z), ⟨⟨?_, fr⟩, fun i j d e p ne q1 q2 => ?_, fun i d p q1 q2 => ?_, rfl, fr, fun _ z => z, fun b o e _ => e, fun b o e => ⟨o, e⟩, (fun p z => by cases z; rfl)⟩, ?_⟩
  · unfold L2.start
    rw [e0]
    exact .cons ⟨a0, us, rfl, na, ha, re⟩ (start_sl (N0 := NN) rd)
  · cases i with
    | succ i => exact (no_o (ds := ds) (n := nl) (i := i) (by simpa using q1)).elim
    | zero =>
      cases j with
      | zero => exact absurd rfl ne
      | succ j => exact (no_o (ds := ds) (n := nl) (i := j) (by simpa using q2)).elim
  · cases i with
    | succ i => exact (no_o (ds := ds) (n := nl) (i := i) (by simpa using q1)).elim
    | zero => exact ⟨fun z => absurd rfl z, .inr (by cases q2; rfl)⟩
  rw [em] at c
  cases m with
  | nx s =>
    obtain ⟨es', rfl⟩ : ∃ es', s = .lst es' := by cases s <;> first | exact c.elim | exact ⟨_, rfl⟩
    intro N1 σ1 H1 a1
    obtain ⟨vs', n', hp, rs⟩ := a1.ok.liveO (i := 0) rfl (a1.io a0 rfl)
    exact c .non H1 (fun b o e ne => a1.rest b o e (by simpa using fun z => ne z.symm)) ⟨es', vs', rfl, hp, RDs.sub a1.sub rs⟩ Cls.non
  | rt u w =>
    obtain ⟨es', rfl⟩ : ∃ es', w = .lst es' := by cases w <;> first | exact c.elim | exact ⟨_, rfl⟩
    intro x H1 r
    obtain ⟨vs', hp, rs⟩ := r.io a0 rfl es' rfl
    exact c x H1 (fun b o e ne => r.rest b o e (by simpa using fun z => ne z.symm)) ⟨es', vs', rfl, hp, rs⟩ r.c
  | bk b => exact c.elim
  | ct b => exact c.elim
  | ex k fs => exact c.elim
  | bad => exact c.elim

/-! ### calls -/
theorem spV_of {F : DF} {us : List D} {xs : List V} {Q : VK} {E : XK} (ar : ∀ ds, ds.length ≠ d.ps.length → F ds = .bad) (fr : Fr N H) (r : RDs Z N H us xs) (c : CtV Z N H (F us) cl Q E) : spV Z d.ps.length F cl xs H Q E := by
  refine ⟨?_, N, us, fr, r, c⟩
  by_cases q : us.length = d.ps.length
  · rw [RDs.len r]; exact q
  · rw [ar us q] at c; exact c.elim
theorem g_call {F : DF} {e : Expr} {es : List Expr} {A : R (List D)} {x : Str} {p pos : Pos} (hr : Room k X.A) (fa : FnAt Z X.prog X.w X.K X.mg X.base F cl k a d) (hx : d.x = x) (mgf : X.mg d.x = some (.ref a)) (pa : PAv Z X Γ (e :: es) A .C) (hg : Gl X x := by rfl) (hdb : (x == ("__debug__" : Str)) = false := by decide)
    (he : starEach (e :: es) X.env = (false, eval e X.env) :: starEach es X.env := by rfl) (hpl : (backTo pos (starEach es X.env)).any (·.1) = false := by rfl) : PEv Z X Γ (.Call (.Name x p) (e :: es) [] pos) (bnd A F) cl := by
  subst hx
  obtain ⟨⟨fd, f, ok, bd⟩, ar⟩ := fa
  refine ⟨fun W tk => (pe_callS (sp := spV Z d.ps.length F cl) (E := WE W) ok hr hg mgf f.kp bd (fun σ => passAt tk σ) (pa.run W tk) hdb he hpl).weak fun σ H Q ⟨N, o, c⟩ => ?_⟩
  show tVA Z Γ A .C W σ H fun vs H1 => spV Z d.ps.length F cl vs H1 Q (WE W σ)
  refine ⟨N, o, ?_⟩
  cases A with
  | bad => exact c
  | ex k fs => exact c
  | ok us => exact fun xs H1 g r => spV_of ar (o.grow g).fr (RDs.of r) (CtV.pre g c)
theorem g_call0 {F : DF} {x : Str} {p pos : Pos} (hr : Room k X.A) (fa : FnAt Z X.prog X.w X.K X.mg X.base F cl k a d) (hx : d.x = x) (mgf : X.mg d.x = some (.ref a)) (hg : Gl X x := by rfl) (hdb : (x == ("__debug__" : Str)) = false := by decide) : PEv Z X Γ (.Call (.Name x p) [] [] pos) (F []) cl := by
  subst hx
  obtain ⟨⟨fd, f, ok, bd⟩, ar⟩ := fa
  refine ⟨fun W tk => ⟨fun pins s σ H Q I ⟨N, o, c⟩ => ?_⟩⟩
  refine wpAny_Call_Name_kw (ld_glob I hg mgf ?_ hdb)
  refine PySem.W.callWith_K0 I.kIn f.kp ?_
  exact run_fnS (us := []) ok hr bd (passAt tk σ) I .nil (spV_of (us := []) ar o.fr rfl c)
/-- a local name that holds a def -/
noncomputable def doorA (nf : Nat) (T : Nat → DF) (v : D) (A : R (List D)) : R D := match v with
  | .fn g => if g < nf then bnd A (T g) else .bad
  | _ => .bad
theorem g_door {Fs : List DefI} {T : Nat → DF} {v : D} (i : Nat) {x : Str} {e : Expr} {es : List Expr} {A : R (List D)} {p pos : Pos} (hr : Room k X.A) (fa : ∀ (g : Nat) d, Fs[g]? = some d → FnAt Z X.prog X.w X.K X.mg X.base (T g) .C k (Z.G g) d) (pa : PAv Z X Γ (e :: es) A .C) (hi : Γ[i]? = some (.s v) := by rfl) (hN : X.N[i]? = some x := by rfl)
    (hv : Vis X.env.scope x := by first | exact Or.inl rfl | exact Or.inr (Or.inl rfl) | exact Or.inr (Or.inr rfl)) (hdb : (x == ("__debug__" : Str)) = false := by decide) (hcd : (x == ("__classdict__" : Str)) = false := by decide)
    (he : starEach (e :: es) X.env = (false, eval e X.env) :: starEach es X.env := by rfl) (hpl : (backTo pos (starEach es X.env)).any (·.1) = false := by rfl) : PEv Z X Γ (.Call (.Name x p) (e :: es) [] pos) (doorA Fs.length T v A) .C := by
  refine ⟨fun W tk => ⟨fun pins s σ H Q I ⟨N, o, c⟩ => ?_⟩⟩
  obtain ⟨y, ey, ry⟩ := pget o.sl hi
  cases v <;> first | (exact c.elim) | skip
  rename_i g _
  unfold doorA at c
  dsimp only at c
  cases y with
  | none => exact (show False from ry).elim
  | some y =>
  obtain rfl : y = .ref (Z.G g) := ry
  split at c
  · rename_i hlt
    refine wpAny_Call_Name_kw (L2.thn ((pe_var (pos := p) hN hv hdb hcd).run pins s σ H (fun v H1 => v = .ref (Z.G g) ∧ H1 = H) I ⟨.ref (Z.G g), ey, rfl, rfl⟩) fun u s1 ⟨v, H1, I1, r1, q1⟩ => ?_)
    obtain ⟨rfl, rfl⟩ := q1
    cases r1
    obtain ⟨⟨fd, f, ok, bd⟩, ar⟩ := fa g _ (List.getElem?_eq_getElem hlt)
    refine PySem.W.callWith_K (h₀ := X.base) I.ok.mod.kin f.kp (L2.thn ((pa.run W tk).run pos pins s1 σ _ (fun vs H1 => spV Z Fs[g].ps.length (T g) .C vs H1 Q (WE W σ)) I1 ⟨N, o, ?_⟩) fun us s2 ⟨vs, H2, I2, r, q⟩ => ⟨I2.kIn, ?_⟩) he hpl
    · cases A with
      | bad => exact c
      | ex k fs => exact c
      | ok us => exact fun xs H2 g2 r => spV_of ar (o.grow g2).fr (RDs.of r) (CtV.pre g2 c)
    · exact run_fnS ok hr bd (passAt tk σ) I2 r q
  · exact c.elim

/-! ### by names -/
structure PKv (Z : Whr) (X : Cx) (Γ : List Sv) (kws : List Keyword) (A : R (List D)) : Prop where
  run : ∀ W, Takes X W → PK X kws (tVA Z Γ A .C W)
theorem _root_.L2.PK.weak {X : Cx} {es : List Keyword} {t t' : TA} (p : PK X es t) (h : ∀ σ H Q, t' σ H Q → t σ H Q) : PK X es t' := ⟨fun pos pins s σ H Q I q => p.run pos pins s σ H Q I (h σ H Q q)⟩
theorem gk_nil : PKv Z X Γ [] (.ok []) := ⟨fun W _ => pk_nil.weak fun σ H Q ⟨N, o, h⟩ => h [] H Grow.refl .nil⟩
theorem gk_cons {nm : Option Str} {kpos : Pos} {e : Expr} {kws : List Keyword} {r : R D} {A : R (List D)} (pe : PEv Z X Γ e r .C) (pa : PKv Z X Γ kws A) : PKv Z X Γ (⟨nm, e, kpos⟩ :: kws) (bnd r fun u => bnd A fun us => .ok (u :: us)) := by
  refine ⟨fun W tk => (pk_cons (pe.run W tk) (pa.run W tk)).weak fun σ H Q ⟨N, o, h⟩ => ?_⟩
  show tV Z Γ r .C W σ H fun x H1 => tVA Z Γ A .C W σ H1 fun xs H2 => Q (x :: xs) H2
  refine ⟨N, o, ?_⟩
  cases r with
  | bad => exact h
  | ex k fs => exact h
  | ok u =>
    intro x H1 g1 r1
    refine ⟨N, o.grow g1, ?_⟩
    cases A with
    | bad => exact h
    | ex k fs => exact fun d H' g xd => h d H' (g1.trans g) xd
    | ok us => exact fun xs H2 g2 r2 => h (x :: xs) H2 (g1.trans g2) (.cons (r1.grow g2) (pimp (fun _ _ q => Cls.pre g1 q) r2))
noncomputable def pickV {α : Type} (vs : List α) : List Nat → Option (List α)
  | [] => some []
  | i :: is => match vs[i]?, pickV vs is with
    | some v, some r => some (v :: r)
    | _, _ => none
theorem pick_RDs {us : List D} {xs : List V} (t : RDs Z N H us xs) : ∀ {π : List Nat} {ws : List D}, pickV us π = some ws → ∃ ys, pickV xs π = some ys ∧ RDs Z N H ws ys
  | [], ws, e => by cases e; exact ⟨[], rfl, rfl⟩
  | i :: π, ws, e => by
    unfold pickV at e
    split at e
    · rename_i v r e1 e2
      cases e
      obtain ⟨x, ex, rx⟩ := RDs.get t e1
      obtain ⟨ys, ey, ry⟩ := pick_RDs t e2
      exact ⟨x :: ys, by unfold pickV; rw [ex, ey], x, ys, rfl, rx, ry⟩
    · cases e
theorem pick_Vals {xs : List V} {us : List Value} (t : Vals xs us) : ∀ {π : List Nat} {ys : List V}, pickV xs π = some ys → ∃ ws, pickV us π = some ws ∧ Vals ys ws
  | [], ws, e => by cases e; exact ⟨[], rfl, .nil⟩
  | i :: π, ws, e => by
    unfold pickV at e
    split at e
    · rename_i v r e1 e2
      cases e
      obtain ⟨x, ex, rx⟩ := t.get e1
      obtain ⟨ys, ey, ry⟩ := pick_Vals t e2
      exact ⟨x :: ys, by unfold pickV; rw [ex, ey], .cons rx ry⟩
    · cases e
/-- the names are the parameters', in the order π -/
noncomputable def KwOk (d : DefI) (ks : List Str) (π : List Nat) : Prop := ∀ (kV doc pm : Value) (an : Option Addr) (cdv ct : Value) (us ws : List Value), us.length = ks.length → pickV us π = some ws →
  bindArgs (PySem.W.fnOf d.x d.x (defArgs d.st) (defBody d.st) (defScope d.st) Value.none kV doc pm an cdv ct) { pos := [], kw := ks.zip us } = pure (d.ps.zip ws)
theorem bindsK {K : PySem.W.Frag} {d : DefI} {a : Addr} {fd : FuncData} (F : FunD K d.x d.x (defArgs d.st) (defBody d.st) (defScope d.st) [] [] a fd) {ks : List Str} {π : List Nat} (kw : KwOk d ks π) {us ws : List Value} (hl : us.length = ks.length) (e : pickV us π = some ws) (s : Shared) : BindsTo s fd { pos := [], kw := ks.zip us } (d.ps.zip ws) := by
  obtain ⟨oc, od, dV, kV, doc, pm, an, cdv, ct, osl, rfl, lk, hcd, hD, hK⟩ := F.ex
  rcases hD with ⟨_, rfl⟩ | ⟨q, _⟩
  · exact BindsTo.of_eq (kw kV doc pm an cdv ct us ws hl e)
  · exact absurd rfl q
theorem run_fnSK {X : Cx} {CX : CXT} {k : Nat} {f : Addr} {fd : FuncData} {ps : List Str} {sp : Sp} {E : L2.St → XK} {pins : List (Addr × Obj)} {σ : L2.St} {H : L2.Hp} {s : Shared} {Q : VK} {us : List Value} {vs : List V} {args : Args} (F : FnOk X.prog X.w X.K X.mg X.base CX k f fd ps sp) (hr : Room k X.A) (b : BindsTo s fd args (ps.zip us)) (hx : PassesAt CX X σ (E σ)) (I : L2.Inv X pins σ H s)
    (r : Vals vs us) (h : sp vs H Q (E σ)) : wpAny (model X.prog X.w) X.A (PySem.call (Value.ref f) args.pos args.kw) (EP X pins σ Q) X.xe s := by
  refine wpAny_call (codeAny_mono (F.run X.A X.stack s H args us vs Q (E σ) hr I.env0 b r h) fun r s' hq => ?_)
  cases r with
  | error e => exact hx pins H s e s' I hq
  | ok fl =>
    cases fl with
    | next => exact hq.elim
    | brk => exact hq.elim
    | cont => exact hq.elim
    | ret u => exact I.after hq
/-- f(x=a, ..) -/
noncomputable def callK (A : R (List D)) (F : DF) (π : List Nat) : R D := bnd A fun us => match pickV us π with
  | some ws => F ws
  | none => .bad
theorem g_callK {F : DF} {x : Str} {ks : List Str} {π : List Nat} {kws : List Keyword} {A : R (List D)} {p pos : Pos} (hr : Room k X.A) (fa : FnAt Z X.prog X.w X.K X.mg X.base F cl k a d) (hx : d.x = x) (mgf : X.mg d.x = some (.ref a)) (kw : KwOk d ks π) (pa : PKv Z X Γ kws A) (hg : Gl X x := by rfl) (hdb : (x == ("__debug__" : Str)) = false := by decide)
    (hlen : kws.length = ks.length := by rfl) (hall : ((backToKw pos (keywordEach kws X.env)).all fun x => x.fst.isSome) = true := by rfl) (hks : (backToKw pos (keywordEach kws X.env)).filterMap (fun x => x.fst) = ks := by rfl)
    (hcnt : ∀ us : List D, A = .ok us → us.length = ks.length)
    (hpl : (((backTo pos (starEach [] X.env)).any fun x => x.fst) || (backToKw pos (keywordEach kws X.env)).any fun x => x.fst.isNone) = false := by rfl) : PEv Z X Γ (.Call (.Name x p) [] kws pos) (callK A F π) cl := by
  subst hx
  obtain ⟨⟨fd, f, ok, bd⟩, ar⟩ := fa
  refine ⟨fun W tk => ⟨fun pins s σ H Q I ⟨N, o, c⟩ => ?_⟩⟩
  refine wpAny_Call_Name_kw (ld_glob I hg mgf ?_ hdb)
  refine PySem.W.callWith_KW0 I.ok.mod.kin f.kp hall (L2.thn ((pa.run W tk).run pos pins s σ H (fun vs H1 => vs.length = ks.length ∧ ∃ ys, pickV vs π = some ys ∧ spV Z d.ps.length F cl ys H1 Q (WE W σ)) I ⟨N, o, ?_⟩) fun us s1 ⟨vs, H1, I1, r1, hl, ys, ey, sp⟩ => ⟨I1.kIn, ?_⟩) hpl
  · unfold callK at c
    cases A with
    | bad => exact c
    | ex k fs => exact c
    | ok us =>
      have c2 : CtV Z N H (match pickV us π with | some ws => F ws | none => .bad) cl Q (at_ W σ) := c
      split at c2
      · rename_i ws ew
        intro xs H1 g r1
        have r2 := RDs.of r1
        obtain ⟨ys, ey, ry⟩ := pick_RDs r2 ew
        exact ⟨by rw [RDs.len r2]; exact hcnt us rfl, ys, ey, spV_of ar (o.grow g).fr ry (CtV.pre g c2)⟩
      · exact c2.elim
  · obtain ⟨ws, ew, rw_⟩ := pick_Vals r1 ey
    rw [hks]
    exact run_fnSK (args := { pos := [], kw := ks.zip us }) ok hr (bindsK f kw (by rw [← r1.length]; exact hl) ew s1) (passAt tk σ) I1 rw_ sp
end
end Qz
/-! Qz: the context; the rules by constructs. -/
namespace Qz
open PySem PySem.Spec L2

noncomputable def bltNames : List Str := ["abs", "all", "any", "dict", "enumerate", "int", "isinstance", "len", "list", "max", "min", "range", "set", "sorted", "str", "sum", "super", "tuple", "zip", "bool", "LookupError", "ValueError"]
structure CtxOk (Z : Whr) (Fs : List DefI) (Es : List (Str × String)) (Gs : List (Str × D)) (k : Nat) (X : Cx) : Prop where
  hK : X.K = Z.K
  calm : X.calm = true
  room : Room k X.A
  nd : X.N.Nodup
  po : PassesOwn (model X.prog X.w) X.A X.env X.xe
  mg : ∀ i d, Fs[i]? = some d → X.mg d.x = some (.ref (Z.G i))
  exs : ExAll Z X.K X.mg Es
  blt : ∀ x ∈ bltNames, X.mg x = none
  glo : ∀ (i : Nat) (x : Str) (d : D), Gs[i]? = some (x, d) → ∃ v u, X.mg x = some u ∧ RelV v u ∧ ∀ H, RD Z (fun _ => False) H d v
@[reducible] noncomputable def o1 {α : Type} (op : D → R α) (r : R D) : R α := bnd r op
@[reducible] noncomputable def o2 {α : Type} (op : D → D → R α) (r1 r2 : R D) : R α := bnd r1 fun u => bnd r2 fun w => op u w
noncomputable def chn (op op' : D → D → R Bool) (r1 r2 r3 : R D) : R Bool := bnd r1 fun u => bnd r2 fun w => bnd (op u w) fun b => match b with
  | true => bnd r3 fun z => op' w z
  | false => .ok false
noncomputable def slc (r : R D) (lo hi : R (Option Int)) : R D := bnd r fun u => bnd lo fun l => bnd hi fun h => oCut l h u
section
variable {Z : Whr} {Fs : List DefI} {Es : List (Str × String)} {Gs : List (Str × D)} {X : Cx} {k : Nat} {N : Addr → Prop} {H H1 : L2.Hp} {Γ : List Sv} {σ : L2.St} {Q : VK} {E : XK} {a b c e : Expr} {r r1 r2 r3 : R D} {c1 c2 c3 cl : Cl} {p pos : Pos} {T1 T2 : R Bool} {W : WX}
theorem CtxOk.blk (C : CtxOk Z Fs Es Gs k X) {s : Shared} {H : L2.Hp} {sc : Scope} {env : Env} {fp : List Addr} : CtxOk Z Fs Es Gs k (X.blk s H sc env fp) :=
  ⟨C.hK, C.calm, C.room, C.nd, PassesOwn.never, C.mg, C.exs, C.blt, C.glo⟩
theorem CtxOk.tr (C : CtxOk Z Fs Es Gs k X) {pn : List (Addr × Obj)} {xe : Value → Shared → Prop} (po : PassesOwn (model X.prog X.w) X.A X.env xe) : CtxOk Z Fs Es Gs k (X.tr pn xe) :=
  ⟨C.hK, C.calm, C.room, C.nd, po, C.mg, C.exs, C.blt, C.glo⟩
theorem CtxOk.hu (C : CtxOk Z Fs Es Gs k X) : X.A.units + 64 < cLine := by
  have := C.room.un; omega
theorem CtxOk.bl (C : CtxOk Z Fs Es Gs k X) {x : Str} (h : bltNames.contains x = true) : X.mg x = none := C.blt x (by simpa using h)
theorem r_glo (C : CtxOk Z Fs Es Gs k X) (i : Nat) {x : Str} {d : D} (hd : Gs[i]? = some (x, d)) (n : ∀ ds, d ≠ .lst ds := by intro _ z; cases z) (hg : Gl X x := by rfl) (hdb : (x == ("__debug__" : Str)) = false := by decide) : PEv Z X Γ (.Name x pos) (.ok d) .S := g_glob n hg (C.glo i x d hd) hdb
theorem r_fn (C : CtxOk Z Fs Es Gs k X) (i : Nat) {d : DefI} (hd : Fs[i]? = some d) {x : Str} (hx : d.x = x) (hg : Gl X x := by rfl) (hdb : (x == ("__debug__" : Str)) = false := by decide) : PEv Z X Γ (.Name x pos) (.ok (.fn i)) .S := by
  subst hx
  exact g_glob (fun _ z => by cases z) hg ⟨.ref (Z.G i), .ref (Z.G i), C.mg i d hd, rfl, fun _ => rfl⟩ hdb
/-! ### numbers -/
theorem r_add (C : CtxOk Z Fs Es Gs k X) (p : PEv Z X Γ a r1 c1) (q : PEv Z X Γ b r2 c2) : PEv Z X Γ (.BinOp a .Add b pos) (o2 oAdd r1 r2) .T := g_bin2 (fun _ _ p q => pe_op op_addA p q) (by rw [C.hK]; exact snd_add) calm_add p q
theorem r_sub (C : CtxOk Z Fs Es Gs k X) (p : PEv Z X Γ a r1 c1) (q : PEv Z X Γ b r2 c2) : PEv Z X Γ (.BinOp a .Sub b pos) (o2 oSub r1 r2) .S := g_bin2 (fun _ _ p q => pe_op op_sub p q) snd_sub calm_sub p q
theorem r_mul (C : CtxOk Z Fs Es Gs k X) (p : PEv Z X Γ a r1 c1) (q : PEv Z X Γ b r2 c2) : PEv Z X Γ (.BinOp a .Mult b pos) (o2 oMul r1 r2) .T := g_bin2 (fun _ _ p q => pe_op op_mulA p q) snd_mul calm_mul p q
theorem r_fdiv (C : CtxOk Z Fs Es Gs k X) (p : PEv Z X Γ a r1 c1) (q : PEv Z X Γ b r2 c2) : PEv Z X Γ (.BinOp a .FloorDiv b pos) (o2 oFdiv r1 r2) .S := g_bin2 (fun _ _ p q => pe_op op_fdivA p q) snd_fdiv calm_fdiv p q
theorem r_mod (C : CtxOk Z Fs Es Gs k X) (p : PEv Z X Γ a r1 c1) (q : PEv Z X Γ b r2 c2) : PEv Z X Γ (.BinOp a .Mod b pos) (o2 oMod r1 r2) .S := g_bin2 (fun _ _ p q => pe_op op_modN p q) snd_mod calm_mod p q
theorem r_pow (C : CtxOk Z Fs Es Gs k X) (p : PEv Z X Γ a r1 c1) (q : PEv Z X Γ b r2 c2) : PEv Z X Γ (.BinOp a .Pow b pos) (o2 oPow r1 r2) .S := g_bin2 (fun _ _ p q => pe_op op_pow p q) snd_pow calm_pow p q
theorem r_neg (C : CtxOk Z Fs Es Gs k X) (p : PEv Z X Γ a r1 c1) : PEv Z X Γ (.UnaryOp .USub a pos) (o1 oNeg r1) .S := g_un1 (fun _ p => pe_un un_neg p) snd_neg calm_neg p
/-! ### comparisons, as values and as tests -/
theorem g_binB {op : D → D → R Bool} {rr : R2} {whole : Expr} (hp : ∀ ta tb, PE X a ta → PE X b tb → PE X whole (tOp rr ta tb)) (hs : SndB2 Z op rr) (hc : Calm2 op) (pa : PEv Z X Γ a r1 c1) (pb : PEv Z X Γ b r2 c2) : PEv Z X Γ whole (vB (o2 op r1 r2)) .S :=
  ⟨fun W tk => (hp _ _ (pa.run W tk) (pb.run W tk)).weak fun _ _ _ q => binB_read hs hc (tV.vB q)⟩
theorem g_unB {op : D → R Bool} {rr : V → L2.Hp → VK → Prop} {whole : Expr} (hp : ∀ ta, PE X a ta → PE X whole (tUn rr ta)) (hs : SndB1 Z op rr) (hc : Calm1 op) (pa : PEv Z X Γ a r1 c1) : PEv Z X Γ whole (vB (o1 op r1)) .S :=
  ⟨fun W tk => (hp _ (pa.run W tk)).weak fun _ _ _ q => unB_read hs hc (tV.vB q)⟩
theorem r_eq (C : CtxOk Z Fs Es Gs k X) (p : PEv Z X Γ a r1 c1) (q : PEv Z X Γ b r2 c2) : PEv Z X Γ (.Compare a [.Eq] [b] pos) (vB (o2 oEq r1 r2)) .S := g_binB (fun _ _ p q => pe_cmpR (op_eqP C.hu) p q (nomark _)) (by rw [C.hK]; exact snd_eq) calm_eq p q
theorem r_ne (C : CtxOk Z Fs Es Gs k X) (p : PEv Z X Γ a r1 c1) (q : PEv Z X Γ b r2 c2) : PEv Z X Γ (.Compare a [.NotEq] [b] pos) (vB (o2 oNe r1 r2)) .S := g_binB (fun _ _ p q => pe_cmpR (op_neP C.hu) p q (nomark _)) (by rw [C.hK]; exact snd_ne) calm_ne p q
theorem r_lt (C : CtxOk Z Fs Es Gs k X) (p : PEv Z X Γ a r1 c1) (q : PEv Z X Γ b r2 c2) : PEv Z X Γ (.Compare a [.Lt] [b] pos) (vB (o2 oLt r1 r2)) .S := g_binB (fun _ _ p q => pe_cmpR op_lt p q (nomark _)) snd_lt calm_lt p q
theorem r_le (C : CtxOk Z Fs Es Gs k X) (p : PEv Z X Γ a r1 c1) (q : PEv Z X Γ b r2 c2) : PEv Z X Γ (.Compare a [.LtE] [b] pos) (vB (o2 oLe r1 r2)) .S := g_binB (fun _ _ p q => pe_cmpR op_le p q (nomark _)) snd_le calm_le p q
theorem r_gt (C : CtxOk Z Fs Es Gs k X) (p : PEv Z X Γ a r1 c1) (q : PEv Z X Γ b r2 c2) : PEv Z X Γ (.Compare a [.Gt] [b] pos) (vB (o2 oGt r1 r2)) .S := g_binB (fun _ _ p q => pe_cmpR op_gt p q (nomark _)) snd_gt calm_gt p q
theorem r_ge (C : CtxOk Z Fs Es Gs k X) (p : PEv Z X Γ a r1 c1) (q : PEv Z X Γ b r2 c2) : PEv Z X Γ (.Compare a [.GtE] [b] pos) (vB (o2 oGe r1 r2)) .S := g_binB (fun _ _ p q => pe_cmpR op_ge p q (nomark _)) snd_ge calm_ge p q
theorem r_isN (C : CtxOk Z Fs Es Gs k X) {j : Nat} {p2 : Pos} (p : PEv Z X Γ a r1 c1) : PEv Z X Γ (.Compare a [.Is] [.Constant .none j p2] pos) (vB (o1 oIsN r1)) .S := g_unB (fun _ p => pe_cmp (pc_isN p)) snd_isN calm_isN p
theorem r_notN (C : CtxOk Z Fs Es Gs k X) {j : Nat} {p2 : Pos} (p : PEv Z X Γ a r1 c1) : PEv Z X Γ (.Compare a [.IsNot] [.Constant .none j p2] pos) (vB (o1 oNotN r1)) .S := g_unB (fun _ p => pe_cmp (pc_notN p)) snd_notN calm_notN p
theorem t_eq (C : CtxOk Z Fs Es Gs k X) (p : PEv Z X Γ a r1 c1) (q : PEv Z X Γ b r2 c2) : PTv Z X Γ (.Compare a [.Eq] [b] pos) (o2 oEq r1 r2) := ⟨fun W tk => (pt_cmpR (op_eqP C.hu) (p.run W tk) (q.run W tk) (nomark _)).weak fun _ _ _ q => binB_read (by rw [C.hK]; exact snd_eq) calm_eq (tVT.vB q)⟩
theorem t_ne (C : CtxOk Z Fs Es Gs k X) (p : PEv Z X Γ a r1 c1) (q : PEv Z X Γ b r2 c2) : PTv Z X Γ (.Compare a [.NotEq] [b] pos) (o2 oNe r1 r2) := ⟨fun W tk => (pt_cmpR (op_neP C.hu) (p.run W tk) (q.run W tk) (nomark _)).weak fun _ _ _ q => binB_read (by rw [C.hK]; exact snd_ne) calm_ne (tVT.vB q)⟩
theorem t_lt (C : CtxOk Z Fs Es Gs k X) (p : PEv Z X Γ a r1 c1) (q : PEv Z X Γ b r2 c2) : PTv Z X Γ (.Compare a [.Lt] [b] pos) (o2 oLt r1 r2) := ⟨fun W tk => (pt_cmpR op_lt (p.run W tk) (q.run W tk) (nomark _)).weak fun _ _ _ q => binB_read snd_lt calm_lt (tVT.vB q)⟩
theorem t_le (C : CtxOk Z Fs Es Gs k X) (p : PEv Z X Γ a r1 c1) (q : PEv Z X Γ b r2 c2) : PTv Z X Γ (.Compare a [.LtE] [b] pos) (o2 oLe r1 r2) := ⟨fun W tk => (pt_cmpR op_le (p.run W tk) (q.run W tk) (nomark _)).weak fun _ _ _ q => binB_read snd_le calm_le (tVT.vB q)⟩
theorem t_gt (C : CtxOk Z Fs Es Gs k X) (p : PEv Z X Γ a r1 c1) (q : PEv Z X Γ b r2 c2) : PTv Z X Γ (.Compare a [.Gt] [b] pos) (o2 oGt r1 r2) := ⟨fun W tk => (pt_cmpR op_gt (p.run W tk) (q.run W tk) (nomark _)).weak fun _ _ _ q => binB_read snd_gt calm_gt (tVT.vB q)⟩
theorem t_ge (C : CtxOk Z Fs Es Gs k X) (p : PEv Z X Γ a r1 c1) (q : PEv Z X Γ b r2 c2) : PTv Z X Γ (.Compare a [.GtE] [b] pos) (o2 oGe r1 r2) := ⟨fun W tk => (pt_cmpR op_ge (p.run W tk) (q.run W tk) (nomark _)).weak fun _ _ _ q => binB_read snd_ge calm_ge (tVT.vB q)⟩
theorem t_isN (C : CtxOk Z Fs Es Gs k X) {j : Nat} {p2 : Pos} (p : PEv Z X Γ a r1 c1) : PTv Z X Γ (.Compare a [.Is] [.Constant .none j p2] pos) (o1 oIsN r1) := ⟨fun W tk => (pt_cmp (pc_isN (p.run W tk))).weak fun _ _ Q q => unB_read (Q := fun x H' => ∃ k, x = V.bl k ∧ Q k H') snd_isN calm_isN (tVT.vB q)⟩
theorem t_notN (C : CtxOk Z Fs Es Gs k X) {j : Nat} {p2 : Pos} (p : PEv Z X Γ a r1 c1) : PTv Z X Γ (.Compare a [.IsNot] [.Constant .none j p2] pos) (o1 oNotN r1) := ⟨fun W tk => (pt_cmp (pc_notN (p.run W tk))).weak fun _ _ Q q => unB_read (Q := fun x H' => ∃ k, x = V.bl k ∧ Q k H') snd_notN calm_notN (tVT.vB q)⟩
/-- a < b < c of ints -/
theorem chain_read {op op' : D → D → R Bool} {rr rr' : R2} (hs : SndB2 Z op rr) (hs' : SndB2 Z op' rr') (hc : Calm2 op) (hc' : Calm2 op') (q : ∃ N, Okv Z N Γ σ H ∧ CtB Z H (chn op op' r1 r2 r3) (fun b H' => Q (.bl b) H') (at_ W σ)) : tChain rr rr' (tV Z Γ r1 c1 W) (tV Z Γ r2 c2 W) (tV Z Γ r3 c3 W) σ H Q := by
  obtain ⟨N, o, h⟩ := q
  unfold chn at h
  refine ⟨N, o, ?_⟩
  cases r1 with
  | bad => exact h
  | ex k fs => exact h
  | ok u =>
    intro x H1 g1 q1
    refine ⟨N, o.grow g1, ?_⟩
    cases r2 with
    | bad => exact h
    | ex k fs => exact fun d H' g xd => h d H' (g1.trans g) xd
    | ok w =>
      intro y H2 g2 q2
      have h : CtB Z H (bnd (op u w) fun b => match b with | true => bnd r3 fun z => op' w z | false => .ok false) (fun b H' => Q (.bl b) H') (at_ W σ) := h
      have o2' := (o.grow g1).grow g2
      refine hs N H2 x y u w _ o2'.fr ((q1.grow g2).re o.fr) (q2.re (o.grow g1).fr) ?_
      cases e3 : op u w with
      | bad => rw [e3] at h; exact h
      | ex k fs => exact (hc _ _ _ _ e3).elim
      | ok bb =>
        rw [e3] at h
        intro H3 g3
        cases bb with
        | false =>
          refine ⟨false, rfl, ?_⟩
          rw [if_neg (by simp)]
          exact h H3 ((g1.trans g2).trans g3)
        | true =>
          refine ⟨true, rfl, ?_⟩
          rw [if_pos rfl]
          refine ⟨N, o2'.grow g3, ?_⟩
          cases r3 with
          | bad => exact h
          | ex k fs => exact fun d H' g xd => h d H' (((g1.trans g2).trans g3).trans g) xd
          | ok z =>
            intro z' H4 g4 q4
            exact hs' N H4 y z' w z Q ((o2'.grow g3).grow g4).fr ((q2.grow (g3.trans g4)).re (o.grow g1).fr) (q4.re (o2'.grow g3).fr) (CtB.calm (hc' w z) (CtB.pre (((g1.trans g2).trans g3).trans g4) h))
theorem r_ch_le_le (C : CtxOk Z Fs Es Gs k X) (p : PEv Z X Γ a r1 c1) (q : PEv Z X Γ b r2 c2) (s : PEv Z X Γ c r3 c3) (hl : lastMarks [.LtE, .LtE] [b, c] = false := by rfl) : PEv Z X Γ (.Compare a [.LtE, .LtE] [b, c] pos) (vB (chn oLe oLe r1 r2 r3)) .S := ⟨fun W tk => (pe_chain op_le op_le (p.run W tk) (q.run W tk) (s.run W tk) hl).weak fun _ _ _ q => chain_read snd_le snd_le calm_le calm_le (tV.vB q)⟩
theorem t_ch_le_le (C : CtxOk Z Fs Es Gs k X) (p : PEv Z X Γ a r1 c1) (q : PEv Z X Γ b r2 c2) (s : PEv Z X Γ c r3 c3) (hl : lastMarks [.LtE, .LtE] [b, c] = false := by rfl) : PTv Z X Γ (.Compare a [.LtE, .LtE] [b, c] pos) (chn oLe oLe r1 r2 r3) := ⟨fun W tk => (pt_chain op_le op_le (p.run W tk) (q.run W tk) (s.run W tk) hl).weak fun _ _ _ q => chain_read snd_le snd_le calm_le calm_le (tVT.vB q)⟩
theorem r_ch_le_lt (C : CtxOk Z Fs Es Gs k X) (p : PEv Z X Γ a r1 c1) (q : PEv Z X Γ b r2 c2) (s : PEv Z X Γ c r3 c3) (hl : lastMarks [.LtE, .Lt] [b, c] = false := by rfl) : PEv Z X Γ (.Compare a [.LtE, .Lt] [b, c] pos) (vB (chn oLe oLt r1 r2 r3)) .S := ⟨fun W tk => (pe_chain op_le op_lt (p.run W tk) (q.run W tk) (s.run W tk) hl).weak fun _ _ _ q => chain_read snd_le snd_lt calm_le calm_lt (tV.vB q)⟩
theorem t_ch_le_lt (C : CtxOk Z Fs Es Gs k X) (p : PEv Z X Γ a r1 c1) (q : PEv Z X Γ b r2 c2) (s : PEv Z X Γ c r3 c3) (hl : lastMarks [.LtE, .Lt] [b, c] = false := by rfl) : PTv Z X Γ (.Compare a [.LtE, .Lt] [b, c] pos) (chn oLe oLt r1 r2 r3) := ⟨fun W tk => (pt_chain op_le op_lt (p.run W tk) (q.run W tk) (s.run W tk) hl).weak fun _ _ _ q => chain_read snd_le snd_lt calm_le calm_lt (tVT.vB q)⟩
theorem r_ch_lt_le (C : CtxOk Z Fs Es Gs k X) (p : PEv Z X Γ a r1 c1) (q : PEv Z X Γ b r2 c2) (s : PEv Z X Γ c r3 c3) (hl : lastMarks [.Lt, .LtE] [b, c] = false := by rfl) : PEv Z X Γ (.Compare a [.Lt, .LtE] [b, c] pos) (vB (chn oLt oLe r1 r2 r3)) .S := ⟨fun W tk => (pe_chain op_lt op_le (p.run W tk) (q.run W tk) (s.run W tk) hl).weak fun _ _ _ q => chain_read snd_lt snd_le calm_lt calm_le (tV.vB q)⟩
theorem t_ch_lt_le (C : CtxOk Z Fs Es Gs k X) (p : PEv Z X Γ a r1 c1) (q : PEv Z X Γ b r2 c2) (s : PEv Z X Γ c r3 c3) (hl : lastMarks [.Lt, .LtE] [b, c] = false := by rfl) : PTv Z X Γ (.Compare a [.Lt, .LtE] [b, c] pos) (chn oLt oLe r1 r2 r3) := ⟨fun W tk => (pt_chain op_lt op_le (p.run W tk) (q.run W tk) (s.run W tk) hl).weak fun _ _ _ q => chain_read snd_lt snd_le calm_lt calm_le (tVT.vB q)⟩
theorem r_ch_lt_lt (C : CtxOk Z Fs Es Gs k X) (p : PEv Z X Γ a r1 c1) (q : PEv Z X Γ b r2 c2) (s : PEv Z X Γ c r3 c3) (hl : lastMarks [.Lt, .Lt] [b, c] = false := by rfl) : PEv Z X Γ (.Compare a [.Lt, .Lt] [b, c] pos) (vB (chn oLt oLt r1 r2 r3)) .S := ⟨fun W tk => (pe_chain op_lt op_lt (p.run W tk) (q.run W tk) (s.run W tk) hl).weak fun _ _ _ q => chain_read snd_lt snd_lt calm_lt calm_lt (tV.vB q)⟩
theorem t_ch_lt_lt (C : CtxOk Z Fs Es Gs k X) (p : PEv Z X Γ a r1 c1) (q : PEv Z X Γ b r2 c2) (s : PEv Z X Γ c r3 c3) (hl : lastMarks [.Lt, .Lt] [b, c] = false := by rfl) : PTv Z X Γ (.Compare a [.Lt, .Lt] [b, c] pos) (chn oLt oLt r1 r2 r3) := ⟨fun W tk => (pt_chain op_lt op_lt (p.run W tk) (q.run W tk) (s.run W tk) hl).weak fun _ _ _ q => chain_read snd_lt snd_lt calm_lt calm_lt (tVT.vB q)⟩
/-! ### truth; not, and, or, a if t else b -/
theorem tru_ok {u : D} {x : V} {b : Bool} (r : RE Z N H u x) (e : tru u = .ok b) : TruV Z.K x H b := by
  rw [tru_def] at e
  cases u <;> first | (cases e; done) | skip
  · cases e; cases r; exact rfl
  · cases e; cases r; exact rfl
  · cases e; cases r; exact rfl
  · rename_i ds
    cases e
    obtain ⟨a, vs, rfl, q, t⟩ := r
    refine .inr (.inl ⟨vs, q, ?_⟩)
    cases ds with
    | nil => cases t; rfl
    | cons d ds => obtain ⟨v, r, rfl, _, _⟩ := t; rfl
  · rename_i ds
    cases e
    obtain ⟨a, vs, rfl, q, t⟩ := r
    refine .inl ⟨vs, SqL.of q, ?_⟩
    cases ds with
    | nil => cases t; rfl
    | cons d ds => obtain ⟨v, r, rfl, _, _⟩ := t; rfl
theorem tru_calm {u : D} {k : Nat} {fs : List D} : tru u ≠ .ex k fs := by intro e; rw [tru_def] at e; cases u <;> cases e
theorem t_val (C : CtxOk Z Fs Es Gs k X) (p : PEv Z X Γ a r c1) (hw : ∀ whole : Sem Value, PySem.isTrue a X.env whole = (do let v ← whole; standAt a.pos; holding [v] (truthy v)) := by intro w; rfl) : PTv Z X Γ a (o1 tru r) := by
  refine ⟨fun W tk => (pt_truth (p.run W tk) hw).weak fun σ H Q ⟨N, o, h⟩ => ⟨N, o, ?_⟩⟩
  cases r with
  | bad => exact h
  | ex k fs => exact h
  | ok u =>
    intro x H1 g q
    have h : CtB Z H (tru u) Q (at_ W σ) := h
    cases e : tru u with
    | bad => rw [e] at h; exact h.elim
    | ex k fs => exact (tru_calm e).elim
    | ok b => rw [e] at h; exact ⟨b, by rw [C.hK]; exact tru_ok (q.re o.fr) e, h H1 g⟩
theorem t_not (C : CtxOk Z Fs Es Gs k X) (p : PTv Z X Γ a T1) : PTv Z X Γ (.UnaryOp .Not a pos) (tNot T1) := by
  refine ⟨fun W tk => (pt_not (p.run W tk)).weak fun σ H Q ⟨N, o, h⟩ => ⟨N, o, ?_⟩⟩
  unfold Qz.tNot at h
  cases T1 with
  | bad => exact h
  | ex k fs => exact h
  | ok b => exact h
theorem t_w (p : PWv Z X Γ a T1) : PTv Z X Γ a T1 := ⟨fun W tk => (p.run W tk).pt⟩
theorem w_and1 (p : PTv Z X Γ a T1) : PWv Z X Γ (.BoolOp .And [a] pos) T1 := ⟨fun W tk => pw_and1 (p.run W tk)⟩
theorem w_or1 (p : PTv Z X Γ a T1) : PWv Z X Γ (.BoolOp .Or [a] pos) T1 := ⟨fun W tk => pw_or1 (p.run W tk)⟩
theorem w_and {rest : List Expr} (p : PTv Z X Γ a T1) (q : PWv Z X Γ (.BoolOp .And (b :: rest) pos) T2) : PWv Z X Γ (.BoolOp .And (a :: b :: rest) pos) (tAnd T1 T2) := by
  refine ⟨fun W tk => (pw_and (p.run W tk) (q.run W tk)).weak fun σ H Q ⟨N, o, h⟩ => ⟨N, o, ?_⟩⟩
  unfold Qz.tAnd at h
  cases T1 with
  | bad => exact h
  | ex k fs => exact h
  | ok v =>
    intro H1 g
    cases v with
    | true => exact ⟨N, o.grow g, CtB.pre g h⟩
    | false => exact h H1 g
theorem w_or {rest : List Expr} (p : PTv Z X Γ a T1) (q : PWv Z X Γ (.BoolOp .Or (b :: rest) pos) T2) : PWv Z X Γ (.BoolOp .Or (a :: b :: rest) pos) (tOr T1 T2) := by
  refine ⟨fun W tk => (pw_or (p.run W tk) (q.run W tk)).weak fun σ H Q ⟨N, o, h⟩ => ⟨N, o, ?_⟩⟩
  unfold Qz.tOr at h
  cases T1 with
  | bad => exact h
  | ex k fs => exact h
  | ok v =>
    intro H1 g
    cases v with
    | true => exact h H1 g
    | false => exact ⟨N, o.grow g, CtB.pre g h⟩
theorem r_if (t : PTv Z X Γ c T1) (p : PEv Z X Γ a r1 cl) (q : PEv Z X Γ b r2 cl) : PEv Z X Γ (.IfExp c a b pos) (vIf T1 r1 r2) cl := by
  refine ⟨fun W tk => (pe_ifExp (t.run W tk) (p.run W tk) (q.run W tk)).weak fun σ H Q ⟨N, o, h⟩ => ⟨N, o, ?_⟩⟩
  unfold vIf at h
  cases T1 with
  | bad => exact h
  | ex k fs => exact h
  | ok v =>
    intro H1 g
    cases v with
    | true => exact ⟨N, o.grow g, CtV.pre g h⟩
    | false => exact ⟨N, o.grow g, CtV.pre g h⟩
theorem r_and1 (p : PEv Z X Γ a r cl) : PEv Z X Γ (.BoolOp .And [a] pos) r cl := ⟨fun W tk => pe_one (p.run W tk)⟩
theorem r_or1 (p : PEv Z X Γ a r cl) : PEv Z X Γ (.BoolOp .Or [a] pos) r cl := ⟨fun W tk => pe_one (p.run W tk)⟩
theorem r_and (C : CtxOk Z Fs Es Gs k X) {rest : List Expr} (p : PEv Z X Γ a r1 cl) (q : PEv Z X Γ (.BoolOp .And (b :: rest) pos) r2 cl) : PEv Z X Γ (.BoolOp .And (a :: b :: rest) pos) (vAnd r1 r2) cl := by
  refine ⟨fun W tk => (pe_andT (p.run W tk) (q.run W tk)).weak fun σ H Q ⟨N, o, h⟩ => ⟨N, o, ?_⟩⟩
  unfold vAnd at h
  cases r1 with
  | bad => exact h
  | ex k fs => exact h
  | ok u =>
    intro x H1 g q1
    have h : CtV Z N H (bnd (tru u) fun k => match k with | true => r2 | false => .ok u) cl Q (at_ W σ) := h
    cases e : tru u with
    | bad => rw [e] at h; exact h.elim
    | ex k fs => exact (tru_calm e).elim
    | ok b =>
      rw [e] at h
      refine ⟨b, by rw [C.hK]; exact tru_ok (q1.re o.fr) e, ?_⟩
      cases b with
      | true => rw [if_pos rfl]; exact ⟨N, o.grow g, CtV.pre g h⟩
      | false => rw [if_neg (by simp)]; exact h x H1 g q1
theorem r_or (C : CtxOk Z Fs Es Gs k X) {rest : List Expr} (p : PEv Z X Γ a r1 cl) (q : PEv Z X Γ (.BoolOp .Or (b :: rest) pos) r2 cl) : PEv Z X Γ (.BoolOp .Or (a :: b :: rest) pos) (vOr r1 r2) cl := by
  refine ⟨fun W tk => (pe_orT (p.run W tk) (q.run W tk)).weak fun σ H Q ⟨N, o, h⟩ => ⟨N, o, ?_⟩⟩
  unfold vOr at h
  cases r1 with
  | bad => exact h
  | ex k fs => exact h
  | ok u =>
    intro x H1 g q1
    have h : CtV Z N H (bnd (tru u) fun k => match k with | true => .ok u | false => r2) cl Q (at_ W σ) := h
    cases e : tru u with
    | bad => rw [e] at h; exact h.elim
    | ex k fs => exact (tru_calm e).elim
    | ok b =>
      rw [e] at h
      refine ⟨b, by rw [C.hK]; exact tru_ok (q1.re o.fr) e, ?_⟩
      cases b with
      | true => rw [if_pos rfl]; exact h x H1 g q1
      | false => rw [if_neg (by simp)]; exact ⟨N, o.grow g, CtV.pre g h⟩
theorem r_not (C : CtxOk Z Fs Es Gs k X) (p : PEv Z X Γ a r c1) : PEv Z X Γ (.UnaryOp .Not a pos) (vB (tNot (o1 tru r))) .S := by
  refine ⟨fun W tk => (pe_notT (p.run W tk)).weak fun σ H Q q => ?_⟩
  obtain ⟨N, o, h⟩ := tV.vB q
  refine ⟨N, o, ?_⟩
  unfold Qz.tNot at h
  cases r with
  | bad => exact h
  | ex k fs => exact h
  | ok u =>
    intro x H1 g q1
    have h : CtB Z H (bnd (tru u) fun b => .ok (!b)) (fun b H' => Q (.bl b) H') (at_ W σ) := h
    cases e : tru u with
    | bad => rw [e] at h; exact h.elim
    | ex k fs => exact (tru_calm e).elim
    | ok b => rw [e] at h; exact ⟨b, by rw [C.hK]; exact tru_ok (q1.re o.fr) e, h H1 g⟩
/-! ### items, slices -/
theorem r_get (C : CtxOk Z Fs Es Gs k X) (p : PEv Z X Γ a r1 c1) (q : PEv Z X Γ b r2 c2) (hx : PlainIx b := by intro _ _; rfl) : PEv Z X Γ (.Subscript a b pos) (o2 oGet r1 r2) .C := g_bin2 (fun _ _ p q => pe_ix ix_seq p q hx) (by rw [C.hK]; exact snd_get) calm_get p q
theorem cut_eq {α : Type} (xs : List α) (lo hi : Option Int) : cut xs lo hi = (xs.drop (HT.sIx xs.length 0 lo)).take (HT.sIx xs.length xs.length hi - HT.sIx xs.length 0 lo) := by
  have e : ∀ (n : Nat) (i : Int), cutI n i = if i < 0 then (i + n).toNat else min i.toNat n := fun n i => by
    rw [cutI_def]; unfold cutI'
    by_cases hi : 0 ≤ i
    · rw [if_pos hi, if_neg (by omega)]
    · rw [if_neg hi, if_pos (by omega)]; congr 1; omega
  rw [cut_def]; unfold cut'; unfold HT.sIx
  cases lo <;> cases hi <;> simp only [e]
noncomputable def rSlB (K : PySem.W.Frag) : V → Option Int → Option Int → L2.Hp → VK → Prop := fun x lo hi H Q => rSlL K x lo hi H Q ∨ rSlA K x lo hi H Q
theorem sl_both : SlR X (rSlB X.K) := sl_list.or sl_tupA
theorem RDs.cut {ds : List D} {vs : List V} (r : RDs Z N H ds vs) (lo hi : Option Int) : RDs Z N H (cut ds lo hi) (cutV vs lo hi) := by
  unfold cutV
  rw [cut_eq, RDs.len r]
  exact (r.drop _).take _
theorem snd_cut {u : D} {x : V} {lo hi : Option Int} (r : RE Z N H u x) (c : CtV Z N H (oCut lo hi u) .T Q noX) : rSlB Z.K x lo hi H Q := by
  rw [oCut_def] at c; unfold oCut' at c
  split at c <;> first | (exact c.elim) | skip
  · rename_i ds
    obtain ⟨a, vs, rfl, q, t⟩ := r
    have t' := RDs.cut t lo hi
    refine .inr ⟨a, vs, rfl, q, fun hf => ?_, fun _ p hp => ?_⟩
    · have e : cutV vs lo hi = vs := by
        unfold cutV; rw [hf.1, hf.2]; simp
      rw [e] at t'
      exact c.oldT (.inl rfl) ⟨a, vs, rfl, q, t'⟩
    · exact c.newT (.inl rfl) hp t'
  · obtain ⟨a, vs, rfl, q, t⟩ := r
    exact .inl ⟨_, vs, rfl, SqL.of q, fun p hp => c.newL hp (RDs.cut t lo hi)⟩
  · obtain ⟨a, vs, rfl, q, t⟩ := r
    exact .inl ⟨_, vs, rfl, q.seq, fun p hp => c.newL hp (RDs.cut t lo hi)⟩
structure POv (Z : Whr) (X : Cx) (Γ : List Sv) (o : Option Expr) (r : R (Option Int)) : Prop where
  run : ∀ W, Takes X W → ∃ t, PO X o t ∧ ∀ N σ H Q, Okv Z N Γ σ H → (match r with | .ok l => ∀ H', Grow H H' → Q l H' | .ex k fs => ∀ d H', Grow H H' → XD Z k fs H' d → at_ W σ (.ref (Z.C k)) d H' | .bad => False) → t σ H Q
theorem o_none : POv Z X Γ none (.ok none) := ⟨fun W tk => ⟨_, po_none, fun N σ H Q o h => h H Grow.refl⟩⟩
theorem o_some (p : PEv Z X Γ a r c1) : POv Z X Γ (some a) (optI r) := ⟨fun W tk => ⟨_, po_some (p.run W tk), fun N σ H Q o h => by
  refine ⟨N, o, ?_⟩
  unfold optI at h
  cases r with
  | bad => exact h
  | ex k fs => exact h
  | ok u =>
    intro x H1 g q
    cases u with
    | int i =>
      have q' := q.re o.fr
      cases (show x = V.int i from q')
      exact ⟨i, rfl, h H1 g⟩
    | _ => exact (show False from h).elim⟩⟩
theorem r_sl (C : CtxOk Z Fs Es Gs k X) {lo hi : Option Expr} {L U : R (Option Int)} {p2 : Pos} (p : PEv Z X Γ a r c1) (l : POv Z X Γ lo L) (u : POv Z X Γ hi U) : PEv Z X Γ (.Subscript a (.Slice lo hi none p2) pos) (slc r L U) .T := by
  refine ⟨fun W tk => ?_⟩
  obtain ⟨tl, pl, kl⟩ := l.run W tk
  obtain ⟨tu, pu, ku⟩ := u.run W tk
  refine (pe_slice sl_both (p.run W tk) pl pu).weak fun σ H Q ⟨N, o, h⟩ => ⟨N, o, ?_⟩
  unfold slc at h
  cases r with
  | bad => exact h
  | ex k fs => exact h
  | ok v =>
    intro x H1 g1 q1
    refine kl N σ H1 _ (o.grow g1) ?_
    cases L with
    | bad => exact h
    | ex k fs => exact fun d H' g xd => h d H' (g1.trans g) xd
    | ok lo =>
      intro H2 g2
      refine ku N σ H2 _ ((o.grow g1).grow g2) ?_
      cases U with
      | bad => exact h
      | ex k fs => exact fun d H' g xd => h d H' ((g1.trans g2).trans g) xd
      | ok hi =>
        intro H3 g3
        rw [C.hK]
        exact snd_cut ((q1.grow (g2.trans g3)).re o.fr) (CtV.calm (calm_cut v) (CtV.pre ((g1.trans g2).trans g3) h))
/-! ### built-in functions -/
theorem bi1 {op : D → R D} {rr : List V → L2.Hp → VK → Prop} {whole : Expr} (hp : ∀ t, PA X [a] t → PE X whole (tCB rr t)) (hs : Snd1 Z op cl (r1' rr)) (hc : Calm1 op) (pe : PEv Z X Γ a r c1) (he : starEach [a] X.env = (false, eval a X.env) :: starEach [] X.env) : PEv Z X Γ whole (o1 op r) cl := by
  refine ⟨fun W tk => (hp _ ((ga_cons pe ga_nil he).run W tk)).weak fun σ H Q ⟨N, o, h⟩ => ⟨N, o, ?_⟩⟩
  cases r with
  | bad => exact h
  | ex k fs => exact h
  | ok u =>
    intro xs H1 g q
    cases q with
    | cons q t =>
    cases t
    exact hs N H1 _ u Q (o.grow g).fr (q.re o.fr) (CtV.calm (hc u) (CtV.pre g h))
theorem biB_read {op : D → R Bool} {rr : List V → L2.Hp → VK → Prop} (hs : SndB1 Z op (r1' rr)) (hc : Calm1 op) (q : ∃ N, Okv Z N Γ σ H ∧ CtB Z H (o1 op r) (fun b H' => Q (.bl b) H') (at_ W σ)) : tCB rr (tVA Z Γ (bnd r fun u => bnd (.ok []) fun us => .ok (u :: us)) c1 W) σ H Q := by
  obtain ⟨N, o, h⟩ := q
  refine ⟨N, o, ?_⟩
  cases r with
  | bad => exact h
  | ex k fs => exact h
  | ok u =>
    intro xs H1 g q
    cases q with
    | cons q t =>
    cases t
    exact hs N H1 _ u Q (o.grow g).fr (q.re o.fr) (CtB.calm (hc u) (CtB.pre g h))
theorem bi2 {op : D → D → R D} {rr : List V → L2.Hp → VK → Prop} {whole : Expr} (hp : ∀ t, PA X [a, b] t → PE X whole (tCB rr t)) (hs : Snd2 Z op cl (fun x y H Q => rr [x, y] H Q)) (hc : Calm2 op) (p1 : PEv Z X Γ a r1 c1) (p2 : PEv Z X Γ b r2 c1) (he : starEach [a, b] X.env = (false, eval a X.env) :: starEach [b] X.env) (he2 : starEach [b] X.env = (false, eval b X.env) :: starEach [] X.env) : PEv Z X Γ whole (o2 op r1 r2) cl := by
  refine ⟨fun W tk => (hp _ ((ga_cons p1 (ga_cons p2 ga_nil he2) he).run W tk)).weak fun σ H Q ⟨N, o, h⟩ => ⟨N, o, ?_⟩⟩
  cases r1 with
  | bad => exact h
  | ex k fs => exact h
  | ok u =>
    cases r2 with
    | bad => exact h
    | ex k fs => exact h
    | ok w =>
      intro xs H1 g q
      cases q with
      | cons q t =>
      cases t with
      | cons q2 t =>
      cases t
      exact hs N H1 _ _ u w Q (o.grow g).fr (q.re o.fr) (q2.re o.fr) (CtV.calm (hc u w) (CtV.pre g h))
theorem r_len (C : CtxOk Z Fs Es Gs k X) (pe : PEv Z X Γ a r c1) (hg : Gl X "len" := by rfl) (he : starEach [a] X.env = (false, eval a X.env) :: starEach [] X.env := by rfl) : PEv Z X Γ (.Call (.Name "len" p) [a] [] pos) (o1 oLen r) .S :=
  bi1 (fun _ q => pe_callB cr_lenQ hg (C.bl (by decide)) (by decide +kernel) q (he := he)) (by rw [C.hK]; exact snd_len) calm_len pe he
theorem r_sum (C : CtxOk Z Fs Es Gs k X) (pe : PEv Z X Γ a r c1) (hg : Gl X "sum" := by rfl) (he : starEach [a] X.env = (false, eval a X.env) :: starEach [] X.env := by rfl) : PEv Z X Γ (.Call (.Name "sum" p) [a] [] pos) (o1 oSum r) .S :=
  bi1 (fun _ q => pe_callB (cr_sumQ C.calm) hg (C.bl (by decide)) (by decide +kernel) q (he := he)) (by rw [C.hK]; exact snd_sum) calm_sum pe he
theorem r_min1 (C : CtxOk Z Fs Es Gs k X) (pe : PEv Z X Γ a r c1) (hg : Gl X "min" := by rfl) (he : starEach [a] X.env = (false, eval a X.env) :: starEach [] X.env := by rfl) : PEv Z X Γ (.Call (.Name "min" p) [a] [] pos) (o1 oMin1 r) .S :=
  bi1 (fun _ q => pe_callB (cr_min C.calm) hg (C.bl (by decide)) (by decide +kernel) q (he := he)) (by rw [C.hK]; exact snd_min1) calm_min1 pe he
theorem r_max1 (C : CtxOk Z Fs Es Gs k X) (pe : PEv Z X Γ a r c1) (hg : Gl X "max" := by rfl) (he : starEach [a] X.env = (false, eval a X.env) :: starEach [] X.env := by rfl) : PEv Z X Γ (.Call (.Name "max" p) [a] [] pos) (o1 oMax1 r) .S :=
  bi1 (fun _ q => pe_callB (cr_max C.calm) hg (C.bl (by decide)) (by decide +kernel) q (he := he)) (by rw [C.hK]; exact snd_max1) calm_max1 pe he
theorem r_abs (C : CtxOk Z Fs Es Gs k X) (pe : PEv Z X Γ a r c1) (hg : Gl X "abs" := by rfl) (he : starEach [a] X.env = (false, eval a X.env) :: starEach [] X.env := by rfl) : PEv Z X Γ (.Call (.Name "abs" p) [a] [] pos) (o1 oAbs r) .S :=
  bi1 (fun _ q => pe_callB call_abs hg (C.bl (by decide)) (by decide +kernel) q (he := he)) (snd_abs) calm_abs pe he
theorem r_int (C : CtxOk Z Fs Es Gs k X) (pe : PEv Z X Γ a r c1) (hg : Gl X "int" := by rfl) (he : starEach [a] X.env = (false, eval a X.env) :: starEach [] X.env := by rfl) : PEv Z X Γ (.Call (.Name "int" p) [a] [] pos) (o1 oInt r) .S :=
  bi1 (fun _ q => pe_callTy call_int1 hg (C.bl (by decide)) (by decide +kernel) q (he := he)) (snd_int) calm_int pe he
theorem r_tuple (C : CtxOk Z Fs Es Gs k X) (pe : PEv Z X Γ a r c1) (hg : Gl X "tuple" := by rfl) (he : starEach [a] X.env = (false, eval a X.env) :: starEach [] X.env := by rfl) : PEv Z X Γ (.Call (.Name "tuple" p) [a] [] pos) (o1 oTuple r) .T :=
  bi1 (fun _ q => pe_callTy call_tuple_of hg (C.bl (by decide)) (by decide +kernel) q (he := he)) (by rw [C.hK]; exact snd_tuple) calm_tuple pe he
theorem r_list (C : CtxOk Z Fs Es Gs k X) (pe : PEv Z X Γ a r c1) (hg : Gl X "list" := by rfl) (he : starEach [a] X.env = (false, eval a X.env) :: starEach [] X.env := by rfl) : PEv Z X Γ (.Call (.Name "list" p) [a] [] pos) (o1 oList r) .T :=
  bi1 (fun _ q => pe_callTy call_list_of hg (C.bl (by decide)) (by decide +kernel) q (he := he)) (by rw [C.hK]; exact snd_list) calm_list pe he
theorem r_sorted (C : CtxOk Z Fs Es Gs k X) (pe : PEv Z X Γ a r c1) (hg : Gl X "sorted" := by rfl) (he : starEach [a] X.env = (false, eval a X.env) :: starEach [] X.env := by rfl) : PEv Z X Γ (.Call (.Name "sorted" p) [a] [] pos) (o1 oSorted r) .T := by
  refine ⟨fun W tk => ⟨fun pins s σ H Q I ⟨N, o, h⟩ => ?_⟩⟩
  refine (pe_callB (cr_sortQ (Z := Z) (N := N) C.hK C.hu) hg (C.bl (by decide)) (by decide +kernel) ((ga_cons pe ga_nil he).run W tk) (he := he)).run pins s σ H Q I ⟨N, o, ?_⟩
  cases r with
  | bad => exact h
  | ex k fs => exact h
  | ok u =>
    intro xs H1 g q
    cases q with
    | cons q t =>
    cases t
    exact snd_sorted N H1 _ u Q (o.grow g).fr (q.re o.fr) (CtV.calm (calm_sorted u) (CtV.pre g h))
theorem r_all (C : CtxOk Z Fs Es Gs k X) (pe : PEv Z X Γ a r c1) (hg : Gl X "all" := by rfl) (he : starEach [a] X.env = (false, eval a X.env) :: starEach [] X.env := by rfl) : PEv Z X Γ (.Call (.Name "all" p) [a] [] pos) (vB (o1 oAll r)) .S :=
  ⟨fun W tk => (pe_callB (cr_all C.calm) hg (C.bl (by decide)) (by decide +kernel) ((ga_cons pe ga_nil he).run W tk) (he := he)).weak fun _ _ _ q => biB_read (by rw [C.hK]; exact snd_all) calm_all (tV.vB q)⟩
theorem r_any (C : CtxOk Z Fs Es Gs k X) (pe : PEv Z X Γ a r c1) (hg : Gl X "any" := by rfl) (he : starEach [a] X.env = (false, eval a X.env) :: starEach [] X.env := by rfl) : PEv Z X Γ (.Call (.Name "any" p) [a] [] pos) (vB (o1 oAny r)) .S :=
  ⟨fun W tk => (pe_callB (cr_any C.calm) hg (C.bl (by decide)) (by decide +kernel) ((ga_cons pe ga_nil he).run W tk) (he := he)).weak fun _ _ _ q => biB_read (by rw [C.hK]; exact snd_any) calm_any (tV.vB q)⟩
theorem r_min2 (C : CtxOk Z Fs Es Gs k X) (p1 : PEv Z X Γ a r1 c1) (p2 : PEv Z X Γ b r2 c1) (hg : Gl X "min" := by rfl) (he : starEach [a, b] X.env = (false, eval a X.env) :: starEach [b] X.env := by rfl) (he2 : starEach [b] X.env = (false, eval b X.env) :: starEach [] X.env := by rfl) (hpl : (backTo pos (starEach [b] X.env)).any (·.1) = false := by rfl) : PEv Z X Γ (.Call (.Name "min" p) [a, b] [] pos) (o2 oMin2 r1 r2) .S :=
  bi2 (fun _ q => pe_callB (call_min2 C.calm) hg (C.bl (by decide)) (by decide +kernel) q (he := he) (hpl := hpl)) snd_min2 calm_min2 p1 p2 he he2
theorem r_max2 (C : CtxOk Z Fs Es Gs k X) (p1 : PEv Z X Γ a r1 c1) (p2 : PEv Z X Γ b r2 c1) (hg : Gl X "max" := by rfl) (he : starEach [a, b] X.env = (false, eval a X.env) :: starEach [b] X.env := by rfl) (he2 : starEach [b] X.env = (false, eval b X.env) :: starEach [] X.env := by rfl) (hpl : (backTo pos (starEach [b] X.env)).any (·.1) = false := by rfl) : PEv Z X Γ (.Call (.Name "max" p) [a, b] [] pos) (o2 oMax2 r1 r2) .S :=
  bi2 (fun _ q => pe_callB (call_max2 C.calm) hg (C.bl (by decide)) (by decide +kernel) q (he := he) (hpl := hpl)) snd_max2 calm_max2 p1 p2 he he2
theorem r_isi1 (C : CtxOk Z Fs Es Gs k X) {t : Ty} {p2 : Pos} {U : Str} (pe : PEv Z X Γ a r c1) (ht : t ≠ .none := by intro h; cases h) (hg : Gl X "isinstance" := by rfl) (hg2 : Gl X U := by rfl) (hU : bltNames.contains U = true := by decide) (hv2 : bootBuiltins U = some (.type t.nm) := by rfl)
    (hn2 : U ≠ "__name__" := by decide) (hd2 : (U == ("__debug__" : Str)) = false := by decide) (he : starEach [a, .Name U p2] X.env = (false, eval a X.env) :: starEach [.Name U p2] X.env := by rfl) (hpl : (backTo pos (starEach [.Name U p2] X.env)).any (·.1) = false := by rfl)
    (he2 : starEach [.Name U p2] X.env = (false, eval (.Name U p2) X.env) :: starEach [] X.env := by rfl) : PEv Z X Γ (.Call (.Name "isinstance" p) [a, .Name U p2] [] pos) (vB (o1 (oIsi [t]) r)) .S := by
  refine ⟨fun W tk => (pe_callB call_isi hg (C.bl (by decide)) (by decide +kernel) (pa_cons (pe.run W tk) (pa_cons (pe_bltn (v := .ty t.nm) hg2 (C.bl hU) hv2 rfl hn2 hd2) pa_nil he2) he) (he := he) (hpl := hpl)).weak fun σ H Q q => ?_⟩
  have z := unB_read (c1 := c1) (snd_isi1 ht) calm_isi (tV.vB q)
  rw [C.hK]
  exact z
theorem r_isi2 (C : CtxOk Z Fs Es Gs k X) {t u : Ty} {p2 p3 p4 : Pos} {x4 : Nat} {U V : Str} (pe : PEv Z X Γ a r c1) (ht : t ≠ .none := by intro h; cases h) (hu : u ≠ .none := by intro h; cases h) (hg : Gl X "isinstance" := by rfl) (hg2 : Gl X U := by rfl) (hg3 : Gl X V := by rfl) (hU : bltNames.contains U = true := by decide) (hV : bltNames.contains V = true := by decide) (hv2 : bootBuiltins U = some (.type t.nm) := by rfl) (hv3 : bootBuiltins V = some (.type u.nm) := by rfl)
    (hn2 : U ≠ "__name__" := by decide) (hd2 : (U == ("__debug__" : Str)) = false := by decide) (hn3 : V ≠ "__name__" := by decide) (hd3 : (V == ("__debug__" : Str)) = false := by decide) (he : starEach [a, .Tuple [.Name U p2, .Name V p3] x4 p4] X.env = (false, eval a X.env) :: starEach [.Tuple [.Name U p2, .Name V p3] x4 p4] X.env := by rfl) (hpl : (backTo pos (starEach [.Tuple [.Name U p2, .Name V p3] x4 p4] X.env)).any (·.1) = false := by rfl)
    (he2 : starEach [.Tuple [.Name U p2, .Name V p3] x4 p4] X.env = (false, eval (.Tuple [.Name U p2, .Name V p3] x4 p4) X.env) :: starEach [] X.env := by rfl)
    (he3 : starEach [.Name U p2, .Name V p3] X.env = (false, eval (.Name U p2) X.env) :: starEach [.Name V p3] X.env := by rfl) (he4 : starEach [.Name V p3] X.env = (false, eval (.Name V p3) X.env) :: starEach [] X.env := by rfl) : PEv Z X Γ (.Call (.Name "isinstance" p) [a, .Tuple [.Name U p2, .Name V p3] x4 p4] [] pos) (vB (o1 (oIsi [t, u]) r)) .S := by
  refine ⟨fun W tk => (pe_callB call_isiT hg (C.bl (by decide)) (by decide +kernel) (pa_cons (pe.run W tk) (pa_cons (pe_tup (pa_cons (pe_bltn (v := .ty t.nm) hg2 (C.bl hU) hv2 rfl hn2 hd2) (pa_cons (pe_bltn (v := .ty u.nm) hg3 (C.bl hV) hv3 rfl hn3 hd3) pa_nil he4) he3)) pa_nil he2) he) (he := he) (hpl := hpl)).weak fun σ H Q q => ?_⟩
  have z := unB_read (c1 := c1) (snd_isi2 ht hu) calm_isi (tV.vB q)
  rw [C.hK]
  exact z
/-! ### displays -/
/-- how many arguments -/
noncomputable def Cnt (A : R (List D)) (k : Nat) : Prop := ∀ us, A = .ok us → us.length = k
theorem cnt_nil : Cnt (.ok []) 0 := fun us e => by cases e; rfl
theorem cnt_cons {A : R (List D)} {k : Nat} (c : Cnt A k) : Cnt (bnd r fun u => bnd A fun us => .ok (u :: us)) (k + 1) := fun us e => by
  cases r with
  | bad => cases e
  | ex c fs => cases e
  | ok u =>
    cases A with
    | bad => cases e
    | ex c fs => cases e
    | ok vs => cases e; rw [List.length_cons, c vs rfl]
noncomputable def mkT (us : List D) : R D := .ok (.tup us)
noncomputable def mkLs (us : List D) : R D := .ok (.lst us)
theorem r_tup {es : List Expr} {A : R (List D)} {m x1 : Nat} (pa : PAv Z X Γ es A .C) (cn : Cnt A m) (hm : m ≤ bigL := by decide) : PEv Z X Γ (.Tuple es x1 pos) (bnd A mkT) .C := by
  refine ⟨fun W tk => (pe_tup (pa.run W tk)).weak fun σ H Q ⟨N, o, h⟩ => ⟨N, o, ?_⟩⟩
  cases A with
  | bad => exact h
  | ex k fs => exact h
  | ok us =>
    intro xs H1 g q
    have rd := RDs.of q
    refine ⟨by rw [RDs.len rd, cn us rfl]; exact big_line hm, fun p hp => ?_⟩
    have h : CtV Z N H (.ok (.tup us)) .C Q (at_ W σ) := h
    exact (CtV.pre g h).newT (.inr rfl) hp rd
theorem r_lst {es : List Expr} {A : R (List D)} {m : Nat} (pa : PAv Z X Γ es A .C) (cn : Cnt A m) (hm : m ≤ bigL := by decide) : PEv Z X Γ (.List es pos) (bnd A mkLs) .T := by
  refine ⟨fun W tk => (pe_lst (pa.run W tk)).weak fun σ H Q ⟨N, o, h⟩ => ⟨N, o, ?_⟩⟩
  cases A with
  | bad => exact h
  | ex k fs => exact h
  | ok us =>
    intro xs H1 g q
    have rd := RDs.of q
    refine ⟨by rw [RDs.len rd, cn us rfl]; exact big_line hm, fun p hp => ?_⟩
    have h : CtV Z N H (.ok (.lst us)) .T Q (at_ W σ) := h
    exact (CtV.pre g h).newL hp rd
end
end Qz
/-! Qz: lists changed; draws. -/
namespace Qz
open PySem PySem.Spec L2

section
variable {τ β : Type} {Z : Whr} {Fs : List DefI} {Es : List (Str × String)} {Gs : List (Str × D)} {X : Cx} {S : Sh} {F : Fx} {k : Nat} {N : Addr → Prop} {H H' H1 : L2.Hp} {Γ Γ' : List Sv} {σ : L2.St} {Q : VK} {E : XK} {W : WX} {Dd : Ends} {po : τ → List Sv} {pb : β → List Sv} {a b c e : Expr} {r r1 r2 r3 : R D} {c1 c2 c3 cl : Cl} {p pos : Pos} {rest : List Stmt}
theorem GrowB.keep {q : Addr} {vs : List V} (g : GrowB q H H') (hq : H q = some (.lst vs)) (n : ¬ N q) : Keep N H H' := fun b o e k => by
  by_cases z : b = q
  · subst z
    rcases k with k | k
    · exact absurd k n
    · rw [hq] at e; exact absurd (Option.some.inj e).symm (k vs)
  · exact g b o e z
theorem At.mutG {i : Nat} {ds es : List D} {ws : List V} {q : Addr} (e1 : Γ[i]? = some (.o (.lst ds))) (e2 : σ[i]? = some (some (.ref q))) (g : GrowB q H H') (hq' : H' q = some (.lst ws)) (rs : RDs Z N H' es ws) (a : At Z F N Γ σ H) : At Z F N (Γ.set i (.o (.lst es))) σ H' := by
  obtain ⟨vs, n, hp, _⟩ := a.ok.liveO e1 e2
  have k : Keep N H H' := g.keep hp n
  have old : ∀ {j : Nat} {e : List D}, (Γ.set i (.o (.lst es)))[j]? = some (.o (.lst e)) → (i = j ∧ e = es) ∨ (i ≠ j ∧ Γ[j]? = some (.o (.lst e))) := fun {j e} q => by
    rcases get_set q with ⟨z, w⟩ | z
    · cases w; exact .inl ⟨z, rfl⟩
    · exact .inr z
  refine ⟨⟨Paired.mk' (by rw [List.length_set]; exact plen a.ok.sl) fun j s y q1 q2 => ?_, fun b e => ?_⟩, fun j m e e' b ne q1 q2 q3 q4 => ?_, fun j e b q1 q2 => ?_, RDs.keep k _ _ a.hd, a.f0, a.sub, fun b o e nn => ?_, fun b o e => ?_, a.io⟩
  · rcases get_set q1 with ⟨rfl, rfl⟩ | ⟨z1, z2⟩
    · rw [e2] at q2; cases q2
      exact ⟨q, ws, rfl, n, hq', rs⟩
    · obtain ⟨y', q3, h⟩ := pget a.ok.sl z2
      rw [q2] at q3; cases q3
      cases s with
      | n => exact trivial
      | s e => cases y with
        | none => exact h
        | some y => exact RD.keep k _ _ h
      | o e => cases y with
        | none => exact h
        | some y =>
          cases e with
          | lst es' =>
            obtain ⟨b, us, rfl, n', q', t⟩ := h
            refine ⟨b, us, rfl, n', g b _ q' ?_, RDs.keep k _ _ t⟩
            rintro rfl
            exact a.ap i j ds es' b z1 e1 z2 e2 q2
          | _ => exact RD.keep k _ _ h
  · by_cases z : b = q
    · subst z; rw [hq'] at e; cases e
    · cases w : H b with
      | none => exact a.ok.fr b w
      | some o => rw [g b o w z] at e; cases e
  · rcases old q1 with ⟨rfl, rfl⟩ | ⟨z1, z2⟩ <;> rcases old q2 with ⟨rfl, rfl⟩ | ⟨z3, z4⟩
    · exact ne rfl
    · exact a.ap _ _ _ _ b ne e1 z4 q3 q4
    · exact a.ap _ _ _ _ b ne z2 e1 q3 q4
    · exact a.ap _ _ _ _ b ne z2 z4 q3 q4
  · rcases old q1 with ⟨rfl, rfl⟩ | ⟨z1, z2⟩
    · exact a.ow _ _ b e1 q2
    · exact a.ow _ _ b z2 q2
  · by_cases z : b = q
    · subst z
      obtain ⟨_, y⟩ := a.ow i ds b e1 e2
      rcases y with y | y
      · rw [y] at e; cases e
      · exact absurd y nn
    · exact g _ _ (a.rest b o e nn) z
  · obtain ⟨o', y⟩ := a.live b o e
    by_cases z : b = q
    · subst z; exact ⟨_, hq'⟩
    · exact ⟨o', g _ _ y z⟩
/-- a list's method: the list behind -/
noncomputable def SndM (Z : Whr) (op : D → D → R D) (ca : Cl) (r : V → List V → L2.Hp → VK → Prop) : Prop :=
  ∀ N H q ds es vs u y Q, Fr N H → H q = some (.lst vs) → RDs Z N H ds vs → Cls Z N H ca H u y → op (.lst ds) u = .ok es → ∃ es', es = .lst es' ∧ ∃ ws, RDs Z N H es' ws ∧ (Q .non (upd H q (.lst ws)) → r (.ref q) [y] H Q)
theorem ct_asL {d : D} {m : Fl τ β} (c : CtS Z F S po pb Dd W (asL .bad d m)) : ∃ ds, d = .lst ds ∧ CtS Z F S po pb Dd W m := by
  cases d <;> first | exact c.elim | exact ⟨_, rfl, c⟩
theorem CtS.okd {rr : R D} {f : D → Fl τ β} (hc : ∀ k fs, rr ≠ .ex k fs) (c : CtS Z F S po pb Dd W (bnS rr f)) : ∃ d, rr = .ok d ∧ CtS Z F S po pb Dd W (f d) := by
  cases rr with
  | ok d => exact ⟨d, rfl, c⟩
  | ex k fs => exact (hc k fs rfl).elim
  | bad => exact c.elim
theorem g_m1 {op : D → D → R D} {rr : V → List V → L2.Hp → VK → Prop} {name : Str} {id : String} {ca : Cl} (hsl : Slot "list" name id) (hty : typeOf (Value.builtin id) = pure (Value.type "method_descriptor")) (hm : MtR X id rr) (hs : SndM Z op ca rr) (hcm : Calm2 op) (hca : ca = .C ∨ ca = .E) (i : Nat) {x : Str} {d : D} {np apos cpos spos : Pos} {f : D → Fl τ β} {G : D → List Sv} (pe : PEv Z X Γ e r ca)
    (hG : ∀ u, Γ.set i (.o u) = G u) (q : ∀ u, PSsv Z X S (G u) po pb rest (f u)) (hi : Γ[i]? = some (.o d)) (hx : LeS Γ S.px) (hN : X.N[i]? = some x) (hv : Vis X.env.scope x) (hd : (x == ("__debug__" : Str)) = false) (hcd : (x == ("__classdict__" : Str)) = false)
    (h1 : attributeBase (.Name x np) name X.env (eval (.Name x np) X.env) = eval (.Name x np) X.env)
    (h2 : ((((backTo cpos (starEach [e] X.env)).all fun x => !x.1) && (backToKw cpos (keywordEach [] X.env)).all fun x => x.1.isSome) && decide ((([e] : List Expr).length + ([] : List Keyword).length + if ([] : List Keyword).isEmpty = true then 0 else 1) < 30)) = true)
    (h3 : (apos.endLine == cpos.line) = true) (h4 : starEach [e] X.env = (false, eval e X.env) :: starEach [] X.env) (h5 : ((backTo cpos (starEach [] X.env)).any fun x => x.1) = false) (hsw : swapsWith (.Call (.Attribute (.Name x np) name apos) [e] [] cpos) none spos.line X.env = pure false) :
    PSsv Z X S Γ po pb (.Expr (.Call (.Attribute (.Name x np) name apos) [e] [] cpos) spos :: rest) (asL .bad d (bnS r fun u => bnS (op d u) f)) := by
  refine ⟨fun W tk => (pss_cons (ps_expr (pe_bm PySem.F.plainAttrs_list hsl hty hm (pe_var hN hv hd hcd) ((ga_cons pe ga_nil h4).run W tk) h1 h2 h3 h4 h5) hsw) (pss_ex fun u => (q u).run W tk)).weak fun D σ H ⟨F, N, hio, at0, c⟩ => ?_⟩
  obtain ⟨ds, rfl, c⟩ := ct_asL c
  obtain ⟨y0, e0, rw0⟩ := pget at0.ok.sl hi
  cases y0 with
  | none => exact (show False from rw0).elim
  | some y0 =>
  obtain ⟨q0, vs, rfl, nq, hq, rds⟩ := rw0
  refine ⟨.ref q0, e0, .inl ⟨rfl, vs, SqL.of hq⟩, N, at0.ok, ?_⟩
  cases r with
  | bad => exact c.elim
  | ex k fs => exact fun d H' g xd => ct_ex at0 hx c g xd
  | ok u =>
    intro ys H1 g qq
    cases qq with
    | cons qq t =>
    cases t
    obtain ⟨es, eo, c⟩ := CtS.okd (hcm _ _) c
    have at1 := at0.grow g
    rename_i y1
    have qa : Cls Z N H1 ca H1 u y1 := by rcases hca with rfl | rfl <;> exact qq
    obtain ⟨es', rfl, ws, rws, kk⟩ := hs N H1 q0 ds es vs u _ (fun _ H1 => ∃ u, tGS Z S (G u) po pb (f u) W D σ H1) at1.ok.fr (g _ _ hq) (RDs.grow g rds) qa eo
    refine kk ⟨.lst es', F, N, hio, by rw [← hG]; exact at1.mut hi e0 rws, c⟩
theorem calm_append : Calm2 oAppend := by intro u w c fs e; rw [oAppend_def] at e; exact withL_calm (fun _ _ _ e => by split at e <;> cases e) e
theorem calm_extend : Calm2 oExtend := by intro u w c fs e; rw [oExtend_def] at e; unfold oExtend' at e; split at e <;> (try split at e) <;> cases e
theorem big_lt {m : Nat} (h : m < bigL) : m < sizeLine := big_line (m := m + 1) h
theorem snd_append : SndM Z oAppend .C rAppend := by
  intro N H q ds es vs u y Q fr hq rd ru e
  rw [oAppend_def] at e; unfold oAppend' at e; rw [withL_def] at e; unfold withL' at e
  dsimp only at e
  split at e
  · rename_i hl
    cases e
    exact ⟨_, rfl, vs ++ [y], rd.append (RDs.one ru), fun z => ⟨q, vs, y, rfl, rfl, hq, by rw [RDs.len rd]; exact big_lt hl, z⟩⟩
  · cases e
theorem snd_extend : SndM Z oExtend .E rExtend := by
  intro N H q ds es vs u y Q fr hq rd ru e
  rw [oExtend_def] at e; unfold oExtend' at e
  split at e
  · rename_i xs ys heq
    cases heq
    split at e
    · rename_i hl
      cases e
      obtain ⟨b, us, rfl, hb, rb⟩ := ru
      exact ⟨_, rfl, vs ++ us, rd.append rb, fun z => ⟨q, b, vs, us, rfl, rfl, hq, hb, by rw [RDs.len rd, RDs.len rb]; exact big_line hl, z⟩⟩
    · cases e
  · cases e

theorem calm_reverse : Calm1 oReverse := by intro u c fs e; exact withL_calm (fun _ _ _ e => by cases e) e
/-- the usual premises, by themselves -/
theorem g_append (C : CtxOk Z Fs Es Gs k X) (i : Nat) {x : Str} {d : D} {np apos cpos spos : Pos} {f : D → Fl τ β} {G : D → List Sv} (pe : PEv Z X Γ e r .C) (hG : ∀ u, Γ.set i (.o u) = G u) (q : ∀ u, PSsv Z X S (G u) po pb rest (f u)) (hi : Γ[i]? = some (.o d) := by rfl) (hx : LeS Γ S.px := by exact les_n rfl rfl) (hN : X.N[i]? = some x := by rfl) (hv : Vis X.env.scope x := by first | exact Or.inl rfl | exact Or.inr (Or.inl rfl) | exact Or.inr (Or.inr rfl)) (hd : (x == ("__debug__" : Str)) = false := by decide) (hcd : (x == ("__classdict__" : Str)) = false := by decide)
    (h1 : attributeBase (.Name x np) "append" X.env (eval (.Name x np) X.env) = eval (.Name x np) X.env := by rfl)
    (h2 : ((((backTo cpos (starEach [e] X.env)).all fun x => !x.1) && (backToKw cpos (keywordEach [] X.env)).all fun x => x.1.isSome) && decide ((([e] : List Expr).length + ([] : List Keyword).length + if ([] : List Keyword).isEmpty = true then 0 else 1) < 30)) = true := by rfl)
    (h3 : (apos.endLine == cpos.line) = true := by rfl) (h4 : starEach [e] X.env = (false, eval e X.env) :: starEach [] X.env := by rfl) (h5 : ((backTo cpos (starEach [] X.env)).any fun x => x.1) = false := by rfl) (hsw : swapsWith (.Call (.Attribute (.Name x np) "append" apos) [e] [] cpos) none spos.line X.env = pure false := by rfl) :
    PSsv Z X S Γ po pb (.Expr (.Call (.Attribute (.Name x np) "append" apos) [e] [] cpos) spos :: rest) (asL .bad d (bnS r fun u => bnS (oAppend d u) f)) := g_m1 PySem.F.slot_list_append PySem.F.type_list_append mt_append snd_append calm_append (.inl rfl) i pe hG q hi hx hN hv hd hcd h1 h2 h3 h4 h5 hsw
theorem g_extend (C : CtxOk Z Fs Es Gs k X) (i : Nat) {x : Str} {d : D} {np apos cpos spos : Pos} {f : D → Fl τ β} {G : D → List Sv} (pe : PEv Z X Γ e r .E) (hG : ∀ u, Γ.set i (.o u) = G u) (q : ∀ u, PSsv Z X S (G u) po pb rest (f u)) (hi : Γ[i]? = some (.o d) := by rfl) (hx : LeS Γ S.px := by exact les_n rfl rfl) (hN : X.N[i]? = some x := by rfl) (hv : Vis X.env.scope x := by first | exact Or.inl rfl | exact Or.inr (Or.inl rfl) | exact Or.inr (Or.inr rfl)) (hd : (x == ("__debug__" : Str)) = false := by decide) (hcd : (x == ("__classdict__" : Str)) = false := by decide)
    (h1 : attributeBase (.Name x np) "extend" X.env (eval (.Name x np) X.env) = eval (.Name x np) X.env := by rfl)
    (h2 : ((((backTo cpos (starEach [e] X.env)).all fun x => !x.1) && (backToKw cpos (keywordEach [] X.env)).all fun x => x.1.isSome) && decide ((([e] : List Expr).length + ([] : List Keyword).length + if ([] : List Keyword).isEmpty = true then 0 else 1) < 30)) = true := by rfl)
    (h3 : (apos.endLine == cpos.line) = true := by rfl) (h4 : starEach [e] X.env = (false, eval e X.env) :: starEach [] X.env := by rfl) (h5 : ((backTo cpos (starEach [] X.env)).any fun x => x.1) = false := by rfl) (hsw : swapsWith (.Call (.Attribute (.Name x np) "extend" apos) [e] [] cpos) none spos.line X.env = pure false := by rfl) :
    PSsv Z X S Γ po pb (.Expr (.Call (.Attribute (.Name x np) "extend" apos) [e] [] cpos) spos :: rest) (asL .bad d (bnS r fun u => bnS (oExtend d u) f)) := g_m1 PySem.F.slot_list_extend PySem.F.type_list_extend mt_extend snd_extend calm_extend (.inr rfl) i pe hG q hi hx hN hv hd hcd h1 h2 h3 h4 h5 hsw
theorem g_reverse (C : CtxOk Z Fs Es Gs k X) (i : Nat) {x : Str} {d : D} {np apos cpos spos : Pos} {f : D → Fl τ β} {G : D → List Sv} (hG : ∀ u, Γ.set i (.o u) = G u) (q : ∀ u, PSsv Z X S (G u) po pb rest (f u)) (hi : Γ[i]? = some (.o d) := by rfl) (hN : X.N[i]? = some x := by rfl) (hv : Vis X.env.scope x := by first | exact Or.inl rfl | exact Or.inr (Or.inl rfl) | exact Or.inr (Or.inr rfl)) (hd : (x == ("__debug__" : Str)) = false := by decide) (hcd : (x == ("__classdict__" : Str)) = false := by decide)
    (h1 : attributeBase (.Name x np) "reverse" X.env (eval (.Name x np) X.env) = eval (.Name x np) X.env := by rfl) (h3 : (apos.endLine == cpos.line) = true := by rfl) (hsw : swapsWith (.Call (.Attribute (.Name x np) "reverse" apos) [] [] cpos) none spos.line X.env = pure false := by rfl) :
    PSsv Z X S Γ po pb (.Expr (.Call (.Attribute (.Name x np) "reverse" apos) [] [] cpos) spos :: rest) (bnS (oReverse d) f) := by
  refine ⟨fun W tk => (pss_cons (ps_expr (pe_bm0 PySem.F.plainAttrs_list PySem.F.slot_list_reverse PySem.F.type_list_reverse mt_reverse (pe_var hN hv hd hcd) h1 h3) hsw) (pss_ex fun u => (q u).run W tk)).weak fun D σ H ⟨F, N, hio, at0, c⟩ => ?_⟩
  obtain ⟨y0, e0, rw0⟩ := pget at0.ok.sl hi
  cases y0 with
  | none => exact (show False from rw0).elim
  | some y0 =>
  cases d <;> first | exact c.elim | skip
  rename_i ds _
  obtain ⟨q0, vs, rfl, nq, hq, rds⟩ := rw0
  exact ⟨.ref q0, e0, .inl ⟨rfl, vs, SqL.of hq⟩, q0, vs, rfl, rfl, hq, .lst ds.reverse, F, N, hio, by rw [← hG]; exact at0.mut hi e0 rds.reverse, c⟩
theorem ixD_ix {n : Nat} {k : Int} : ixD n k = L2.ixN n k := by
  rfl
/-- x[i] = e -/
theorem g_sub (C : CtxOk Z Fs Es Gs k X) (j : Nat) {x : Str} {d : D} {ix : Expr} {ri : R D} {np tpos spos : Pos} {f : D → Fl τ β} {G : D → List Sv} (pe : PEv Z X Γ e r .C) (pi : PEv Z X Γ ix ri c1) (hG : ∀ u, Γ.set j (.o u) = G u) (q : ∀ u, PSsv Z X S (G u) po pb rest (f u)) (hi : Γ[j]? = some (.o d) := by rfl) (hx : LeS Γ S.px := by exact les_n rfl rfl) (hN : X.N[j]? = some x := by rfl) (hv : Vis X.env.scope x := by first | exact Or.inl rfl | exact Or.inr (Or.inl rfl) | exact Or.inr (Or.inr rfl)) (hd : (x == ("__debug__" : Str)) = false := by decide) (hcd : (x == ("__classdict__" : Str)) = false := by decide)
    (hs : ∀ v : Value, assign (.Subscript (.Name x np) ix tpos) X.env v = (do
      let ov ← holding [v] (eval (.Name x np) X.env)
      let iv ← holding [v, ov] (eval ix X.env)
      standAt tpos
      holding [v, ov, iv] (setItem ov iv v)
      release [v, ov, iv] []) := by intro v; rfl)
    (h1 : swapsWithSole [.Subscript (.Name x np) ix tpos] e spos.line X.env = pure false := by rfl) (h2 : swappedStores [.Subscript (.Name x np) ix tpos] e X.env = pure none := by rfl) (h3 : (assignEach [.Subscript (.Name x np) ix tpos] X.env).map (·.2) = [assign (.Subscript (.Name x np) ix tpos) X.env] := by rfl) :
    PSsv Z X S Γ po pb (.Assign [.Subscript (.Name x np) ix tpos] e spos :: rest) (bnS r fun v => bnS ri fun j => bnS (oSetAt d j v) f) := by
  refine ⟨fun W tk => (pss_cons (ps_asg (pe.run W tk) (pg_sub (pe_var hN hv hd hcd) (pi.run W tk) set_list hs) h1 h2 h3) (pss_ex fun u => (q u).run W tk)).weak fun D σ H ⟨F, N, hio, at0, c⟩ => ?_⟩
  refine tV_of (c := .C) at0 hx c fun v y H' g a' qv c => ?_
  obtain ⟨y0, e0, rw0⟩ := pget a'.ok.sl hi
  cases y0 with
  | none => exact (show False from rw0).elim
  | some y0 =>
  refine ⟨y0, e0, ?_⟩
  refine tV_of (c := c1) a' hx c fun j z H2 g2 a2 qj c => ?_
  obtain ⟨m, rfl⟩ : ∃ m, j = .int m := by cases j <;> first | exact c.elim | exact ⟨_, rfl⟩
  obtain ⟨ds, rfl⟩ : ∃ ds, d = .lst ds := by cases d <;> first | exact c.elim | exact ⟨_, rfl⟩
  obtain ⟨q0, vs, rfl, nq, hq, rds⟩ := rw0
  cases (show z = V.int m from qj.re a'.ok.fr)
  unfold oSetAt at c; rw [withL_def] at c; unfold withL' at c
  dsimp only at c
  split at c
  · rename_i jj ej
    rw [ixD_ix, ← RDs.len rds] at ej
    exact ⟨q0, vs, m, jj, rfl, rfl, g2 _ _ hq, ej, .lst (ds.set jj v), F, N, hio, by rw [← hG]; exact a2.mut hi e0 (RDs.set (RD.grow g2 qv) jj (RDs.grow g2 rds)), c⟩
  · exact c.elim

/-- what stays: all within N, and all but the list of slot j -/
structure Kp (N : Addr → Prop) (σ : St) (j : Nat) (H H' : L2.Hp) : Prop where
  k : Keep N H H'
  j : ∀ b o, H b = some o → σ[j]? ≠ some (some (.ref b)) → H' b = some o
theorem Kp.refl {j : Nat} : Kp N σ j H H := ⟨fun _ _ e _ => e, fun _ _ e _ => e⟩
theorem Kp.trans {H2 : L2.Hp} {j : Nat} (a : Kp N σ j H H1) (b : Kp N σ j H1 H2) : Kp N σ j H H2 := ⟨fun p o e k => b.k p o (a.k p o e k) k, fun p o e k => b.j p o (a.j p o e k) k⟩
theorem Grow.kp {j : Nat} (g : Grow H H') : Kp N σ j H H' := ⟨g.keep, fun b o e _ => g b o e⟩
/-! ### expressions that change one list: its value behind goes along -/
noncomputable def tF (Z : Whr) (S : Sh) (Γ : List Sv) (j : Nat) (m : R (D × D)) (W : WX) : TE := fun σ H Q => ∃ F N, (S.io = false → F.A0 = none) ∧ At Z F N Γ σ H ∧ (match m with
  | .ok (u, w) => ∀ x H', Kp N σ j H H' → At Z F N (Γ.set j (.o w)) σ H' → RD Z N H' u x → Q x H'
  | .ex k fs => F.A0 = none ∧ ∀ N H' d, At Z F N S.px σ H' → XD Z k fs H' d → W (.ref (Z.C k)) d σ H'
  | .bad => False)
structure PEf (Z : Whr) (X : Cx) (S : Sh) (Γ : List Sv) (j : Nat) (e : Expr) (m : R (D × D)) : Prop where
  run : ∀ W, Takes X W → PE X e (tF Z S Γ j m W)
noncomputable def tFA (Z : Whr) (S : Sh) (Γ : List Sv) (j : Nat) (m : R (List D × D)) (W : WX) : TA := fun σ H Q => ∃ F N, (S.io = false → F.A0 = none) ∧ At Z F N Γ σ H ∧ (match m with
  | .ok (us, w) => ∀ xs H', Kp N σ j H H' → At Z F N (Γ.set j (.o w)) σ H' → RDs Z N H' us xs → Q xs H'
  | .ex k fs => F.A0 = none ∧ ∀ N H' d, At Z F N S.px σ H' → XD Z k fs H' d → W (.ref (Z.C k)) d σ H'
  | .bad => False)
structure PAf (Z : Whr) (X : Cx) (S : Sh) (Γ : List Sv) (j : Nat) (es : List Expr) (m : R (List D × D)) : Prop where
  run : ∀ W, Takes X W → PA X es (tFA Z S Γ j m W)
theorem set_self {j : Nat} {w : Sv} : ∀ {l : List Sv} {j : Nat}, l[j]? = some w → l.set j w = l
  | _ :: _, 0, h => by simp at h; subst h; rfl
  | _ :: l, j + 1, h => by simp at h; simp only [List.set_cons_succ]; rw [set_self (j := 0) h]
theorem Keep.refl : Keep N H H := fun _ _ e _ => e
theorem Keep.trans {H2 : L2.Hp} (a : Keep N H H1) (b : Keep N H1 H2) : Keep N H H2 := fun p o e k => b p o (a p o e k) k
/-- an expression that changes nothing -/
theorem f_pure (j : Nat) {w : D} (p : PEv Z X Γ e r c1) (hw : Γ[j]? = some (.o w) := by rfl) (hc : c1.le .C = true := by rfl) (hx : LeS Γ S.px := by exact les_n rfl rfl) : PEf Z X S Γ j e (bnd r fun u => .ok (u, w)) := by
  refine ⟨fun W tk => (p.run W tk).weak fun σ H Q ⟨F, N, hio, a, h⟩ => ⟨N, a.ok, ?_⟩⟩
  cases r with
  | bad => exact h
  | ex k fs =>
    intro d H' g xd
    obtain ⟨N', a'⟩ := (a.grow g).le hx (.inl h.1)
    exact h.2 N' H' d a' xd
  | ok u =>
    intro x H' g q
    exact h x H' g.kp (by rw [set_self (j := 0) hw]; exact a.grow g) (q.le a.ok.fr hc)
/-- x.pop() -/
theorem f_pop (C : CtxOk Z Fs Es Gs k X) (j : Nat) {x : Str} {d : D} {np apos cpos : Pos} (hi : Γ[j]? = some (.o d) := by rfl) (hN : X.N[j]? = some x := by rfl) (hv : Vis X.env.scope x := by first | exact Or.inl rfl | exact Or.inr (Or.inl rfl) | exact Or.inr (Or.inr rfl)) (hd : (x == ("__debug__" : Str)) = false := by decide) (hcd : (x == ("__classdict__" : Str)) = false := by decide)
    (h1 : attributeBase (.Name x np) "pop" X.env (eval (.Name x np) X.env) = eval (.Name x np) X.env := by rfl) (h3 : (apos.endLine == cpos.line) = true := by rfl) : PEf Z X S Γ j (.Call (.Attribute (.Name x np) "pop" apos) [] [] cpos) (oPop d) := by
  refine ⟨fun W tk => (pe_bm0 PySem.F.plainAttrs_list PySem.F.slot_list_pop PySem.F.type_list_pop mt_pop (pe_var hN hv hd hcd) h1 h3).weak fun σ H Q ⟨F, N, hio, at0, c⟩ => ?_⟩
  obtain ⟨y0, e0, rw0⟩ := pget at0.ok.sl hi
  cases y0 with
  | none => exact (show False from rw0).elim
  | some y0 =>
  cases d <;> first | exact c.elim | skip
  rename_i ds _
  obtain ⟨q0, vs, rfl, nq, hq, rds⟩ := rw0
  refine ⟨.ref q0, e0, .inl ⟨rfl, vs, SqL.of hq⟩, ?_⟩
  unfold oPop at c; rw [withL_def] at c; unfold withL' at c
  dsimp only at c
  cases eg : ds.getLast? with
  | none => rw [eg] at c; exact c.elim
  | some u =>
    rw [eg] at c
    have eg2 : ds[ds.length - 1]? = some u := by rw [← List.getLast?_eq_getElem?]; exact eg
    obtain ⟨y, ey, ry⟩ := RDs.get rds eg2
    have hl := RDs.len rds
    have rd' : RDs Z N H ds.dropLast vs.dropLast := by rw [List.dropLast_eq_take, List.dropLast_eq_take, hl]; exact rds.take _
    have kp : Keep N H (upd H q0 (.lst vs.dropLast)) := Keep.updD hq nq
    exact ⟨q0, vs, y, rfl, rfl, hq, by rw [hl]; exact ey, c y _ ⟨kp, fun b o e ne => by rw [upd_ne]; exact e; rintro rfl; exact ne e0⟩ (at0.mut hi e0 rd') (RD.keep kp _ _ ry)⟩
theorem fa_nil (j : Nat) {w : D} (hw : Γ[j]? = some (.o w) := by rfl) : PAf Z X S Γ j [] (.ok ([], w)) := ⟨fun W _ => pa_nil.weak fun σ H Q ⟨F, N, hio, a, h⟩ => h [] H Kp.refl (by rw [set_self (j := 0) hw]; exact a) rfl⟩
theorem fa_cons {j : Nat} {es : List Expr} {m : R (D × D)} {A : D → R (List D × D)} (pe : PEf Z X S Γ j e m) (pa : ∀ w, PAf Z X S (Γ.set j (.o w)) j es (A w)) (hs : starEach (e :: es) X.env = (false, eval e X.env) :: starEach es X.env := by rfl) :
    PAf Z X S Γ j (e :: es) (bnd m fun p => bnd (A p.2) fun q => .ok (p.1 :: q.1, q.2)) := by
  refine ⟨fun W tk => (pa_cons (pe.run W tk) (⟨fun pos pins s σ H Q I ⟨w, z⟩ => ((pa w).run W tk).run pos pins s σ H Q I z⟩ : PA X es (fun σ H Q => ∃ w, tFA Z S (Γ.set j (.o w)) j (A w) W σ H Q)) hs).weak fun σ H Q ⟨F, N, hio, a, h⟩ => ⟨F, N, hio, a, ?_⟩⟩
  cases m with
  | bad => exact h
  | ex k fs => exact h
  | ok p =>
    obtain ⟨u, w⟩ := p
    intro x H1 k1 a1 r1
    refine ⟨w, F, N, hio, a1, ?_⟩
    have h : (match bnd (A w) fun q => .ok (u :: q.1, q.2) with
      | .ok (us, w) => ∀ xs H', Kp N σ j H H' → At Z F N (Γ.set j (.o w)) σ H' → RDs Z N H' us xs → Q xs H'
      | .ex k fs => F.A0 = none ∧ ∀ N H' d, At Z F N S.px σ H' → XD Z k fs H' d → W (.ref (Z.C k)) d σ H'
      | .bad => False) := h
    cases eA : A w with
    | bad => rw [eA] at h; exact h
    | ex k fs => rw [eA] at h; exact h
    | ok q =>
      obtain ⟨us, w2⟩ := q
      rw [eA] at h
      intro xs H2 k2 a2 r2
      refine h (x :: xs) H2 (k1.trans k2) (by simpa using a2) ⟨x, xs, rfl, RD.keep k2.k _ _ r1, r2⟩
end
end Qz
/-! Qz: draws within expressions and statements. -/
namespace Qz
open PySem PySem.Spec L2

/-- no error leaves a def with a given list -/
noncomputable def nox (r : R (D × D)) : R (D × D) := match r with
  | .ok p => .ok p
  | _ => .bad
section
variable {τ β : Type} {Z : Whr} {Fs : List DefI} {Es : List (Str × String)} {Gs : List (Str × D)} {X : Cx} {S : Sh} {F : Fx} {k : Nat} {N : Addr → Prop} {H H' H1 : L2.Hp} {Γ Γ' : List Sv} {σ : L2.St} {Q : VK} {E : XK} {W : WX} {po : τ → List Sv} {pb : β → List Sv} {a b c e whole : Expr} {r r1 r2 : R D} {c1 c2 cl : Cl} {p pos : Pos} {rest : List Stmt} {j : Nat} {m m1 : R (D × D)}
/-- a def that changes the list it is given -/
theorem f_callW {G : DW} {ad : Addr} {d : DefI} {es : List Expr} {A : R (List D)} {x t : Str} {w0 : D} {tp : Pos} (hr : Room k X.A) (fa : FnAtW Z X.prog X.w X.K X.mg X.base G cl k ad d) (hdx : d.x = x) (mgf : X.mg d.x = some (.ref ad)) (pa : PAv Z X Γ es A .C) (hcl : cl.le .C = true := by rfl) (hi : Γ[j]? = some (.o w0) := by rfl) (hx : LeS Γ S.px := by exact les_n rfl rfl) (hN : X.N[j]? = some t := by rfl)
    (hv : Vis X.env.scope t := by first | exact Or.inl rfl | exact Or.inr (Or.inl rfl) | exact Or.inr (Or.inr rfl)) (hd : (t == ("__debug__" : Str)) = false := by decide) (hcd : (t == ("__classdict__" : Str)) = false := by decide) (hg : Gl X x := by rfl) (hdb : (x == ("__debug__" : Str)) = false := by decide)
    (he : starEach (.Name t tp :: es) X.env = (false, eval (.Name t tp) X.env) :: starEach es X.env := by rfl) (hpl : (backTo pos (starEach es X.env)).any (·.1) = false := by rfl) : PEf Z X S Γ j (.Call (.Name x p) (.Name t tp :: es) [] pos) (bnd A fun us => asL .bad w0 (nox (G (w0 :: us)))) := by
  subst hdx
  obtain ⟨⟨fd, f, ok, bd⟩, ar⟩ := fa
  refine ⟨fun W tk => (pe_callS (sp := spW Z d.ps.length G cl) (E := WE W) ok hr hg mgf f.kp bd (fun σ => passAt tk σ) (pa_cons (pe_var hN hv hd hcd) (pa.run W tk) he) hdb he hpl).weak fun σ H Q ⟨F, N, hio, at0, c⟩ => ?_⟩
  obtain ⟨y0, e0, rw0⟩ := pget at0.ok.sl hi
  cases y0 with
  | none => exact (show False from rw0).elim
  | some y0 =>
  refine ⟨y0, e0, N, at0.ok, ?_⟩
  cases A with
  | bad => exact c
  | ex k fs =>
    intro d H' g xd
    obtain ⟨N', a'⟩ := (at0.grow g).le hx (.inl c.1)
    exact c.2 N' H' d a' xd
  | ok us =>
    intro ys H1 g rr
    obtain ⟨ds, rfl⟩ : ∃ ds, w0 = .lst ds := by cases w0 <;> first | exact c.elim | exact ⟨_, rfl⟩
    obtain ⟨q0, vs, rfl, nq, hq, rds⟩ := rw0
    have rd := RDs.of rr
    have hlen : (V.ref q0 :: ys).length = d.ps.length := by
      by_cases q : (D.lst ds :: us).length = d.ps.length
      · rw [← q]; simp [RDs.len rd]
      · have z := ar _ q
        have c2 := c
        simp only [bnd, asL, nox] at c2
        rw [z] at c2
        exact c2.elim
    refine ⟨hlen, N, q0, vs, ys, ds, us, rfl, (at0.grow g).ok.fr, nq, g _ _ hq, RDs.grow g rds, rd, ?_⟩
    have c : (match nox (G (.lst ds :: us)) with
      | .ok (u, w) => ∀ x H', Kp N σ j H H' → At Z F N (Γ.set j (.o w)) σ H' → RD Z N H' u x → Q x H'
      | .ex k fs => F.A0 = none ∧ ∀ N H' d, At Z F N S.px σ H' → XD Z k fs H' d → W (.ref (Z.C k)) d σ H'
      | .bad => False) := c
    cases eG : G (.lst ds :: us) with
    | bad => rw [eG] at c; exact c.elim
    | ex k fs =>
      rw [eG] at c; exact c.elim
    | ok pr =>
      obtain ⟨u, w⟩ := pr
      rw [eG] at c
      intro x H2 gb ⟨es', ws, ew, hw, rws⟩ cx
      subst ew
      have a1 := at0.grow g
      have kp : Keep N H1 H2 := gb.keep (g _ _ hq) nq
      exact c x H2 (g.kp.trans ⟨kp, fun b o e ne => gb b o e (by rintro rfl; exact ne e0)⟩) (a1.mutG hi e0 gb hw rws) (cx.le a1.ok.fr hcl)
noncomputable abbrev CtF (Z : Whr) (S : Sh) (F : Fx) (N : Addr → Prop) (Γ : List Sv) (j : Nat) (σ : St) (H : L2.Hp) (m : R (D × D)) (Q : VK) (W : WX) : Prop := match m with
  | .ok (u, w) => ∀ x H', Kp N σ j H H' → At Z F N (Γ.set j (.o w)) σ H' → RD Z N H' u x → Q x H'
  | .ex k fs => F.A0 = none ∧ ∀ N H' d, At Z F N S.px σ H' → XD Z k fs H' d → W (.ref (Z.C k)) d σ H'
  | .bad => False
theorem At.keepL (hx : ∀ us, RD Z N H us = RD Z N H us) : True := trivial
/-- an operation, behind draws -/
theorem f_un {op : D → R D} {rr : V → L2.Hp → VK → Prop} (hp : ∀ ta, PE X a ta → PE X whole (tUn rr ta)) (hs : Snd1 Z op cl rr) (hc : Calm1 op) (hcl : cl.le .C = true) (pa : PEf Z X S Γ j a m) : PEf Z X S Γ j whole (bnd m fun p => bnd (op p.1) fun u => .ok (u, p.2)) := by
  refine ⟨fun W tk => (hp _ (pa.run W tk)).weak fun σ H Q ⟨F, N, hio, a0, h⟩ => ?_⟩
  show tF Z S Γ j m W σ H fun x H1 => rr x H1 Q
  refine ⟨F, N, hio, a0, ?_⟩
  cases m with
  | bad => exact h
  | ex k fs => exact h
  | ok p =>
    obtain ⟨u, w⟩ := p
    intro x H1 k1 a1 r1
    have h : CtF Z S F N Γ j σ H (bnd (op u) fun v => .ok (v, w)) Q W := h
    have f1 := a1.ok.fr
    refine hs N H1 x u Q f1 ((show Cls Z N H1 .C H1 u x from r1).re f1) ?_
    cases e : op u with
    | bad => rw [e] at h; exact h.elim
    | ex k fs => exact (hc _ _ _ e).elim
    | ok v => rw [e] at h; exact fun y H2 g q => h y H2 (k1.trans g.kp) (a1.grow g) (q.le f1 hcl)
theorem f_bin {op : D → D → R D} {rr : R2} {m2 : D → R (D × D)} (hp : ∀ ta tb, PE X a ta → PE X b tb → PE X whole (tOp rr ta tb)) (hs : Snd2 Z op cl rr) (hc : Calm2 op) (hcl : cl.le .C = true) (pa : PEf Z X S Γ j a m) (pb : ∀ w, PEf Z X S (Γ.set j (.o w)) j b (m2 w)) :
    PEf Z X S Γ j whole (bnd m fun p => bnd (m2 p.2) fun q => bnd (op p.1 q.1) fun u => .ok (u, q.2)) := by
  refine ⟨fun W tk => (hp _ _ (pa.run W tk) (pe_ex fun w => (pb w).run W tk)).weak fun σ H Q ⟨F, N, hio, a0, h⟩ => ?_⟩
  show tF Z S Γ j m W σ H fun x H1 => ∃ w, tF Z S (Γ.set j (.o w)) j (m2 w) W σ H1 fun y H2 => rr x y H2 Q
  refine ⟨F, N, hio, a0, ?_⟩
  cases m with
  | bad => exact h
  | ex k fs => exact h
  | ok p =>
    obtain ⟨u, w⟩ := p
    intro x H1 k1 a1 r1
    have h : CtF Z S F N Γ j σ H (bnd (m2 w) fun q => bnd (op u q.1) fun v => .ok (v, q.2)) Q W := h
    refine ⟨w, F, N, hio, a1, ?_⟩
    cases e2 : m2 w with
    | bad => rw [e2] at h; exact h
    | ex k fs => rw [e2] at h; exact h
    | ok q =>
      obtain ⟨v, w2⟩ := q
      rw [e2] at h
      intro y H2 k2 a2 r2
      have a2' : At Z F N (Γ.set j (.o w2)) σ H2 := by simpa using a2
      have h : CtF Z S F N Γ j σ H (bnd (op u v) fun z => .ok (z, w2)) Q W := h
      have f2 := a2.ok.fr
      refine hs N H2 x y u v Q f2 ((show Cls Z N H2 .C H2 u x from RD.keep k2.k _ _ r1).re f2) ((show Cls Z N H2 .C H2 v y from r2).re f2) ?_
      cases e : op u v with
      | bad => rw [e] at h; exact h.elim
      | ex k fs => exact (hc _ _ _ _ e).elim
      | ok z => rw [e] at h; exact fun y H3 g q => h y H3 ((k1.trans k2).trans g.kp) (a2'.grow g) (q.le f2 hcl)
theorem f_add (C : CtxOk Z Fs Es Gs k X) {m2 : D → R (D × D)} (pa : PEf Z X S Γ j a m) (pb : ∀ w, PEf Z X S (Γ.set j (.o w)) j b (m2 w)) : PEf Z X S Γ j (.BinOp a .Add b pos) (bnd m fun p => bnd (m2 p.2) fun q => bnd (oAdd p.1 q.1) fun u => .ok (u, q.2)) := f_bin (fun _ _ p q => pe_op op_addA p q) (by rw [C.hK]; exact snd_add) calm_add rfl pa pb
theorem f_sub (C : CtxOk Z Fs Es Gs k X) {m2 : D → R (D × D)} (pa : PEf Z X S Γ j a m) (pb : ∀ w, PEf Z X S (Γ.set j (.o w)) j b (m2 w)) : PEf Z X S Γ j (.BinOp a .Sub b pos) (bnd m fun p => bnd (m2 p.2) fun q => bnd (oSub p.1 q.1) fun u => .ok (u, q.2)) := f_bin (fun _ _ p q => pe_op op_sub p q) snd_sub calm_sub rfl pa pb
theorem f_mul (C : CtxOk Z Fs Es Gs k X) {m2 : D → R (D × D)} (pa : PEf Z X S Γ j a m) (pb : ∀ w, PEf Z X S (Γ.set j (.o w)) j b (m2 w)) : PEf Z X S Γ j (.BinOp a .Mult b pos) (bnd m fun p => bnd (m2 p.2) fun q => bnd (oMul p.1 q.1) fun u => .ok (u, q.2)) := f_bin (fun _ _ p q => pe_op op_mulA p q) snd_mul calm_mul rfl pa pb
theorem f_mod (C : CtxOk Z Fs Es Gs k X) {m2 : D → R (D × D)} (pa : PEf Z X S Γ j a m) (pb : ∀ w, PEf Z X S (Γ.set j (.o w)) j b (m2 w)) : PEf Z X S Γ j (.BinOp a .Mod b pos) (bnd m fun p => bnd (m2 p.2) fun q => bnd (oMod p.1 q.1) fun u => .ok (u, q.2)) := f_bin (fun _ _ p q => pe_op op_modN p q) snd_mod calm_mod rfl pa pb
theorem f_get (C : CtxOk Z Fs Es Gs k X) {m2 : D → R (D × D)} (pa : PEf Z X S Γ j a m) (pb : ∀ w, PEf Z X S (Γ.set j (.o w)) j b (m2 w)) (hx : PlainIx b := by intro _ _; rfl) : PEf Z X S Γ j (.Subscript a b pos) (bnd m fun p => bnd (m2 p.2) fun q => bnd (oGet p.1 q.1) fun u => .ok (u, q.2)) := f_bin (fun _ _ p q => pe_ix ix_seq p q hx) (by rw [C.hK]; exact snd_get) calm_get rfl pa pb
noncomputable abbrev CtFA (Z : Whr) (S : Sh) (F : Fx) (N : Addr → Prop) (Γ : List Sv) (j : Nat) (σ : St) (H : L2.Hp) (m : R (List D × D)) (Q : List V → L2.Hp → Prop) (W : WX) : Prop := match m with
  | .ok (us, w) => ∀ xs H', Kp N σ j H H' → At Z F N (Γ.set j (.o w)) σ H' → RDs Z N H' us xs → Q xs H'
  | .ex k fs => F.A0 = none ∧ ∀ N H' d, At Z F N S.px σ H' → XD Z k fs H' d → W (.ref (Z.C k)) d σ H'
  | .bad => False
noncomputable def CntF (A : R (List D × D)) (k : Nat) : Prop := ∀ us, A = .ok us → us.1.length = k
theorem cntf_nil {w : D} : CntF (.ok ([], w)) 0 := fun us e => by cases e; rfl
theorem cntf_cons {m : R (D × D)} {A : D → R (List D × D)} {k : Nat} (c : ∀ w, CntF (A w) k) : CntF (bnd m fun p => bnd (A p.2) fun q => .ok (p.1 :: q.1, q.2)) (k + 1) := fun us e => by
  cases m with
  | bad => cases e
  | ex c fs => cases e
  | ok p =>
    have e : (bnd (A p.2) fun q => .ok (p.1 :: q.1, q.2)) = R.ok us := e
    cases eA : A p.2 with
    | bad => rw [eA] at e; cases e
    | ex k fs => rw [eA] at e; cases e
    | ok q => rw [eA] at e; cases e; rw [List.length_cons, c p.2 q eA]
theorem f_tup {es : List Expr} {A : R (List D × D)} {n x1 : Nat} (pa : PAf Z X S Γ j es A) (cn : CntF A n) (hm : n ≤ bigL := by decide) : PEf Z X S Γ j (.Tuple es x1 pos) (bnd A fun q => .ok (.tup q.1, q.2)) := by
  refine ⟨fun W tk => (pe_tup (pa.run W tk)).weak fun σ H Q ⟨F, N, hio, a0, h⟩ => ⟨F, N, hio, a0, ?_⟩⟩
  cases A with
  | bad => exact h
  | ex k fs => exact h
  | ok q =>
    obtain ⟨us, w⟩ := q
    intro xs H1 k1 a1 rd
    have hl := cn (us, w) rfl
    refine ⟨by rw [RDs.len rd, hl]; exact big_line hm, fun p hp => ?_⟩
    exact h _ _ (k1.trans (Grow.upd hp).kp) (a1.grow (Grow.upd hp)) ⟨p, xs, rfl, SqT.of upd_same, RDs.grow (Grow.upd hp) rd⟩
/-- a def of data, behind draws -/
theorem f_call {G : DF} {ad : Addr} {d : DefI} {e : Expr} {es : List Expr} {A : R (List D × D)} {x : Str} (hr : Room k X.A) (fa : FnAt Z X.prog X.w X.K X.mg X.base G cl k ad d) (hdx : d.x = x) (mgf : X.mg d.x = some (.ref ad)) (pa : PAf Z X S Γ j (e :: es) A) (hcl : cl.le .C = true := by rfl) (hx : ∀ w, LeS (Γ.set j (.o w)) S.px := by exact fun _ => les_n rfl rfl) (hg : Gl X x := by rfl) (hdb : (x == ("__debug__" : Str)) = false := by decide)
    (he : starEach (e :: es) X.env = (false, eval e X.env) :: starEach es X.env := by rfl) (hpl : (backTo pos (starEach es X.env)).any (·.1) = false := by rfl) : PEf Z X S Γ j (.Call (.Name x p) (e :: es) [] pos) (bnd A fun q => bnd (G q.1) fun u => .ok (u, q.2)) := by
  subst hdx
  obtain ⟨⟨fd, f, ok, bd⟩, ar⟩ := fa
  refine ⟨fun W tk => (pe_callS (sp := spV Z d.ps.length G cl) (E := WE W) ok hr hg mgf f.kp bd (fun σ => passAt tk σ) (pa.run W tk) hdb he hpl).weak fun σ H Q ⟨F, N, hio, a0, h⟩ => ⟨F, N, hio, a0, ?_⟩⟩
  cases A with
  | bad => exact h
  | ex k fs => exact h
  | ok q =>
    obtain ⟨us, w⟩ := q
    intro xs H1 k1 a1 rd
    have h : CtF Z S F N Γ j σ H (bnd (G us) fun u => .ok (u, w)) Q W := h
    refine spV_of ar a1.ok.fr rd ?_
    cases eG : G us with
    | bad => rw [eG] at h; exact h.elim
    | ex k fs =>
      rw [eG] at h
      intro d' H' g xd
      obtain ⟨N', a'⟩ := (a1.grow g).le (hx w) (.inl h.1)
      exact h.2 N' H' d' a' xd
    | ok u => rw [eG] at h; exact fun y H2 g q => h y H2 (k1.trans g.kp) (a1.grow g) (q.le a1.ok.fr hcl)

/-! ### statements with draws -/
theorem tF_of {f : D × D → Fl τ β} {Dd : Ends} {Q : VK} (hio : S.io = false → F.A0 = none) (a0 : At Z F N Γ σ H) (h : CtS Z F S po pb Dd W (bnS m f)) (ho : ∀ u w x H', Kp N σ j H H' → At Z F N (Γ.set j (.o w)) σ H' → RD Z N H' u x → CtS Z F S po pb Dd W (f (u, w)) → Q x H') : tF Z S Γ j m W σ H Q := by
  refine ⟨F, N, hio, a0, ?_⟩
  cases m with
  | bad => exact h.elim
  | ex k fs => exact ⟨h.1, fun N H' d a xd => h.2 N σ H' d a xd⟩
  | ok p => exact fun x H' k a r => ho p.1 p.2 x H' k a r h
/-- x = e -/
theorem fs_set (i : Nat) {x : Str} {f : D → D → Fl τ β} {G : D → D → List Sv} {pos' : Pos} (nd : X.N.Nodup) (pe : PEf Z X S Γ j e m) (hi : S.io = false ∨ i ≠ 0) (hG : ∀ u w, (Γ.set j (.o w)).set i (.s u) = G u w) (q : ∀ u w, PSsv Z X S (G u w) po pb rest (f u w)) (hN : X.N[i]? = some x := by rfl)
    (hv : Loc X.env.scope x := by first | exact Or.inl rfl | exact Or.inr rfl) (hs : swapsWith e (some (.Name x pos')) pos.line X.env = pure false := by rfl) (hl : X.fn x = true ∨ X.env.scope.names.lookup x = some .local := by first | exact Or.inl rfl | exact Or.inr rfl) :
    PSsv Z X S Γ po pb (.Assign [.Name x pos'] e pos :: rest) (bnS m fun p => f p.1 p.2) := by
  refine ⟨fun W tk => (pss_cons (ps_set nd hN hv (pe.run W tk) hs hl) (pss_ex fun u => pss_ex fun w => (q u w).run W tk)).weak fun D σ H ⟨F, N, hio, a, c'⟩ => ?_⟩
  exact tF_of hio a c' fun u w y H' k1 a' r c'' => ⟨u, w, F, N, hio, by rw [← hG]; exact a'.setS (io_ne hi hio) r, c''⟩
/-- t = e, t a target -/
theorem fs_asg {tg : Expr} {f : D → D → Fl τ β} (pe : PEf Z X S Γ j e m) (t : ∀ w, PTg Z X S (Γ.set j (.o w)) po pb tg rest (f w)) (h1 : swapsWithSole [tg] e pos.line X.env = pure false := by rfl) (h2 : swappedStores [tg] e X.env = pure none := by rfl)
    (h3 : (assignEach [tg] X.env).map (·.2) = [assign tg X.env] := by rfl) : PSsv Z X S Γ po pb (.Assign [tg] e pos :: rest) (bnS m fun p => f p.2 p.1) := by
  have hg := fun s => (t s).run.choose_spec
  refine ⟨fun W tk => ?_⟩
  have hb := fun s => ((hg s).2 W tk).choose_spec
  refine (pss_cons (ps_asg (pe.run W tk) (pg_ex fun s => (hg s).1) h1 h2 h3) (pss_ex fun s => (hb s).1)).weak fun D σ H ⟨F, N, hio, a, c'⟩ => ?_
  exact tF_of hio a c' fun u w y H' k1 a' r c'' => ⟨w, (hb w).2 F N u y σ H' D hio a' r c'' _ fun _ _ z => ⟨w, z⟩⟩
/-- an expression in a statement -/
theorem fs_expr {f : D → Fl τ β} {G : D → List Sv} (pe : PEf Z X S Γ j e m) (hG : ∀ w, Γ.set j (.o w) = G w) (q : ∀ w, PSsv Z X S (G w) po pb rest (f w)) (hs : swapsWith e none pos.line X.env = pure false := by rfl) : PSsv Z X S Γ po pb (.Expr e pos :: rest) (bnS m fun p => f p.2) := by
  refine ⟨fun W tk => (pss_cons (ps_expr (pe.run W tk) hs) (pss_ex fun w => (q w).run W tk)).weak fun D σ H ⟨F, N, hio, a, c'⟩ => ?_⟩
  exact tF_of hio a c' fun u w y H' k1 a' r c'' => ⟨w, F, N, hio, by rw [← hG]; exact a', c''⟩
/-- return e, of a def with a given list -/
theorem fs_retW (pe : PEf Z X S Γ 0 e m) (hw : ∃ w0, Γ[0]? = some (.o w0) := by exact ⟨_, rfl⟩) (hcl : S.cl = .C := by rfl) : PSsv Z X S Γ po pb [.Return (some e) pos] (bnS m fun p => .rt p.1 p.2) := by
  refine ⟨fun W tk => (pss_one (ps_ret (pe.run W tk))).weak fun D σ H ⟨F, N, hio, a, c'⟩ => ?_⟩
  refine ⟨F, N, hio, a, ?_⟩
  cases m with
  | bad => exact c'.elim
  | ex k fs => exact ⟨c'.1, fun N H' d a xd => c'.2 N σ H' d a xd⟩
  | ok p =>
    obtain ⟨u, w⟩ := p
    intro x H' k1 a' r
    have c' : ∀ x H, Ret Z F S.cl u w x H → D.rt x H := c'
    refine c' x H' ⟨?_, a'.rest, a'.live, fun q e ds ew => ?_⟩
    · rw [hcl]; exact RD.sub a'.sub r
    · subst ew
      obtain ⟨w0, hw⟩ := hw
      have e1 : (Γ.set 0 (.o (.lst ds)))[0]? = some (.o (.lst ds)) := by
        cases Γ with
        | nil => simp at hw
        | cons g Γ => rfl
      obtain ⟨vs, n, hp, rs⟩ := a'.ok.liveO e1 (a'.io q e)
      exact ⟨vs, hp, RDs.sub a'.sub rs⟩
/-- x.append(e), e with draws of another list -/
theorem fs_append (C : CtxOk Z Fs Es Gs k X) (i : Nat) {x : Str} {d : D} {np apos cpos spos : Pos} {f : D → D → Fl τ β} {G : D → D → List Sv} (pe : PEf Z X S Γ j e m) (hij : j ≠ i) (hG : ∀ w u, (Γ.set j (.o w)).set i (.o u) = G w u) (q : ∀ w u, PSsv Z X S (G w u) po pb rest (f w u)) (hi : Γ[i]? = some (.o d) := by rfl) (hN : X.N[i]? = some x := by rfl) (hv : Vis X.env.scope x := by first | exact Or.inl rfl | exact Or.inr (Or.inl rfl) | exact Or.inr (Or.inr rfl)) (hd : (x == ("__debug__" : Str)) = false := by decide) (hcd : (x == ("__classdict__" : Str)) = false := by decide)
    (h1 : attributeBase (.Name x np) "append" X.env (eval (.Name x np) X.env) = eval (.Name x np) X.env := by rfl)
    (h2 : ((((backTo cpos (starEach [e] X.env)).all fun x => !x.1) && (backToKw cpos (keywordEach [] X.env)).all fun x => x.1.isSome) && decide ((([e] : List Expr).length + ([] : List Keyword).length + if ([] : List Keyword).isEmpty = true then 0 else 1) < 30)) = true := by rfl)
    (h3 : (apos.endLine == cpos.line) = true := by rfl) (h4 : starEach [e] X.env = (false, eval e X.env) :: starEach [] X.env := by rfl) (h5 : ((backTo cpos (starEach [] X.env)).any fun x => x.1) = false := by rfl) (hsw : swapsWith (.Call (.Attribute (.Name x np) "append" apos) [e] [] cpos) none spos.line X.env = pure false := by rfl) :
    PSsv Z X S Γ po pb (.Expr (.Call (.Attribute (.Name x np) "append" apos) [e] [] cpos) spos :: rest) (asL .bad d (bnS m fun p => bnS (oAppend d p.1) (f p.2))) := by
  have pa : ∀ W, Takes X W → PA X [e] (fun σ H Q => tF Z S Γ j m W σ H fun x H' => Q [x] H') := fun W tk => (pa_cons (pe.run W tk) pa_nil h4).weak fun σ H Q z => z
  refine ⟨fun W tk => (pss_cons (ps_expr (pe_bm PySem.F.plainAttrs_list PySem.F.slot_list_append PySem.F.type_list_append mt_append (pe_var hN hv hd hcd) (pa W tk) h1 h2 h3 h4 h5) hsw) (pss_ex fun w => pss_ex fun u => (q w u).run W tk)).weak fun D σ H ⟨F, N, hio, at0, c⟩ => ?_⟩
  obtain ⟨ds, rfl, c⟩ := ct_asL c
  obtain ⟨y0, e0, rw0⟩ := pget at0.ok.sl hi
  cases y0 with
  | none => exact (show False from rw0).elim
  | some y0 =>
  obtain ⟨q0, vs, rfl, nq, hq, rds⟩ := rw0
  refine ⟨.ref q0, e0, .inl ⟨rfl, vs, SqL.of hq⟩, ?_⟩
  refine tF_of hio at0 c fun u w y H' k1 a' r c'' => ?_
  have hi' : (Γ.set j (.o w))[i]? = some (.o (.lst ds)) := by rw [List.getElem?_set_ne hij]; exact hi
  obtain ⟨vs', nq', hq', rds'⟩ := a'.ok.liveO hi' e0
  obtain ⟨es, eo, c3⟩ := CtS.okd (calm_append _ _) c''
  obtain ⟨es', rfl, ws, rws, kk⟩ := snd_append N H' q0 ds es vs' u y (fun _ H1 => ∃ w u, tGS Z S (G w u) po pb (f w u) W D σ H1) a'.ok.fr hq' rds' r eo
  exact kk ⟨w, .lst es', F, N, hio, by rw [← hG]; exact a'.mut hi' e0 rws, c3⟩
end
end Qz
/-! Qz: a, b = e, f. -/
namespace Qz
open PySem PySem.Spec L2

noncomputable def svk (k : Bool) (d : D) : Sv := match k with
  | true => .o d
  | false => .s d
noncomputable def clk (k : Bool) : Cl := match k with
  | true => .T
  | false => .C
section
variable {τ β : Type} {Z : Whr} {X : Cx} {S : Sh} {F : Fx} {k : Nat} {N : Addr → Prop} {H H' H1 : L2.Hp} {Γ Γ' : List Sv} {σ : L2.St} {Q : VK} {E : XK} {W : WX} {po : τ → List Sv} {pb : β → List Sv} {a b c e whole : Expr} {r r1 r2 r3 : R D} {c1 c2 c3 cl : Cl} {p pos : Pos} {rest : List Stmt} {i j : Nat}
theorem Okv.off {p : Addr} (hp : H p = none) (g : Grow H H1) (hp1 : H1 p ≠ none) (o : Okv Z N Γ σ H) : Okv Z (fun a => N a ∧ a ≠ p) Γ σ H1 :=
  ⟨pimp (fun _ _ q => SvR.grow g (SvR.off hp q)) o.sl, fun a e => ⟨o.fr a (g.back e), fun z => hp1 (by rw [← z]; exact e)⟩⟩
/-- a slot is set; what was there can still be read -/
theorem At.setK {kd : Bool} {d : D} {x : V} {Γ0 : List Sv} {σ0 : St} (hi : F.A0 = none ∨ i ≠ 0) (g : Grow H H1) (r : Cls Z N H (clk kd) H1 d x) (a : At Z F N Γ σ H) (o0 : Okv Z N Γ0 σ0 H) : ∃ N1, At Z F N1 (Γ.set i (svk kd d)) (σ.set i (some x)) H1 ∧ Okv Z N1 Γ0 σ0 H1 := by
  cases kd with
  | false => exact ⟨N, (a.grow g).setS hi r, o0.grow g⟩
  | true =>
    by_cases hd : ∃ ds, d = .lst ds
    · obtain ⟨ds, rfl⟩ := hd
      obtain ⟨p, vs, rfl, hp, hp', rs⟩ := r
      obtain ⟨N1, a1⟩ := a.setO hi g (show Cls Z N H .T H1 (.lst ds) (.ref p) from ⟨p, vs, rfl, hp, hp', rs⟩)
      -- the place is out of N1; N1 is within N otherwise: taken outright
      refine ⟨fun b => N b ∧ b ≠ p, ?_, o0.off hp g (by rw [hp']; simp)⟩
      exact At.setO' hi g hp hp' rs a
    · have hn : ∀ ds, d ≠ .lst ds := fun ds z => hd ⟨ds, z⟩
      have rr : RD Z N H1 d x := by cases d <;> first | exact r | exact absurd rfl (hn _)
      exact ⟨N, At.setO0 hi g hn rr a, o0.grow g⟩
/-- a, b = e, f -/
theorem g_par2 (i j : Nat) {x y : Str} {px py pt pt2 : Pos} {kt k2 : Nat} {kd ke : Bool} {f : D → D → Fl τ β} {G : D → D → List Sv} (hc : X.calm = true) (nd : X.N.Nodup) (p1 : PEv Z X Γ a r1 c1) (p2 : PEv Z X Γ b r2 c2) (hij : i ≠ j) (hi : S.io = false ∨ i ≠ 0) (hj : S.io = false ∨ j ≠ 0) (hG : ∀ u v, (Γ.set i (svk kd u)).set j (svk ke v) = G u v) (q : ∀ u v, PSsv Z X S (G u v) po pb rest (f u v))
    (hc1 : c1.le (clk kd) = true := by rfl) (hc2 : c2.le (clk ke) = true := by rfl) (hx : LeS Γ S.px := by exact les_n rfl rfl) (hNi : X.N[i]? = some x := by rfl) (hNj : X.N[j]? = some y := by rfl) (hxl : X.env.scope.names.lookup x = some .local := by rfl) (hyl : X.env.scope.names.lookup y = some .local := by rfl)
    (hw : swappedStores [.Tuple [.Name x px, .Name y py] kt pt] (.Tuple [a, b] k2 pt2) X.env = pure (some [x, y]) := by rfl) (h1 : swapsWithSole [.Tuple [.Name x px, .Name y py] kt pt] (.Tuple [a, b] k2 pt2) pos.line X.env = pure false := by rfl)
    (hs : starEach [a, b] X.env = (false, eval a X.env) :: starEach [b] X.env := by rfl) (hs2 : starEach [b] X.env = (false, eval b X.env) :: starEach [] X.env := by rfl) :
    PSsv Z X S Γ po pb (.Assign [.Tuple [.Name x px, .Name y py] kt pt] (.Tuple [a, b] k2 pt2) pos :: rest) (bnS r1 fun u => bnS r2 fun v => f u v) := by
  refine ⟨fun W tk => (pss_cons (ps_par hc nd hNi hNj hij hxl hyl (pa_cons (p1.run W tk) (pa_cons (p2.run W tk) pa_nil hs2) hs) hw h1) (pss_ex fun u => pss_ex fun v => (q u v).run W tk)).weak fun D σ H ⟨F, N, hio, a0, c⟩ => ?_⟩
  refine tV_of (c := c1) a0 hx c fun u x1 H1 g1 a1 q1 c => ?_
  obtain ⟨N1, at1, o1⟩ := a0.setK (kd := kd) (io_ne hi hio) g1 (q1.le a0.ok.fr hc1) a0.ok
  refine ⟨N1, o1, ?_⟩
  cases r2 with
  | bad => exact c.elim
  | ex k fs => exact fun d H' g xd => ct_ex a1 hx c g xd
  | ok v =>
    intro y1 H2 g2 q2
    obtain ⟨N2, at2, _⟩ := at1.setK (kd := ke) (io_ne hj hio) g2 (q2.le o1.fr hc2) o1
    exact ⟨x1, y1, rfl, u, v, F, N2, hio, by rw [← hG]; exact at2, c⟩
theorem g_par3 (i j l : Nat) {x y z : Str} {px py pz pt pt2 : Pos} {kt k2 : Nat} {kd ke kf : Bool} {f : D → D → D → Fl τ β} {G : D → D → D → List Sv} (hc : X.calm = true) (nd : X.N.Nodup) (p1 : PEv Z X Γ a r1 c1) (p2 : PEv Z X Γ b r2 c2) (p3 : PEv Z X Γ c r3 c3) (hij : i ≠ j) (hil : i ≠ l) (hjl : j ≠ l) (hi : S.io = false ∨ i ≠ 0) (hj : S.io = false ∨ j ≠ 0) (hm : S.io = false ∨ l ≠ 0) (hG : ∀ u v w, ((Γ.set i (svk kd u)).set j (svk ke v)).set l (svk kf w) = G u v w) (q : ∀ u v w, PSsv Z X S (G u v w) po pb rest (f u v w))
    (hc1 : c1.le (clk kd) = true := by rfl) (hc2 : c2.le (clk ke) = true := by rfl) (hc3 : c3.le (clk kf) = true := by rfl) (hx : LeS Γ S.px := by exact les_n rfl rfl) (hNi : X.N[i]? = some x := by rfl) (hNj : X.N[j]? = some y := by rfl) (hNl : X.N[l]? = some z := by rfl) (hxl : X.env.scope.names.lookup x = some .local := by rfl) (hyl : X.env.scope.names.lookup y = some .local := by rfl) (hzl : X.env.scope.names.lookup z = some .local := by rfl)
    (hw : swappedStores [.Tuple [.Name x px, .Name y py, .Name z pz] kt pt] (.Tuple [a, b, c] k2 pt2) X.env = pure (some [x, y, z]) := by rfl) (h1 : swapsWithSole [.Tuple [.Name x px, .Name y py, .Name z pz] kt pt] (.Tuple [a, b, c] k2 pt2) pos.line X.env = pure false := by rfl)
    (hs : starEach [a, b, c] X.env = (false, eval a X.env) :: starEach [b, c] X.env := by rfl) (hs2 : starEach [b, c] X.env = (false, eval b X.env) :: starEach [c] X.env := by rfl) (hs3 : starEach [c] X.env = (false, eval c X.env) :: starEach [] X.env := by rfl) :
    PSsv Z X S Γ po pb (.Assign [.Tuple [.Name x px, .Name y py, .Name z pz] kt pt] (.Tuple [a, b, c] k2 pt2) pos :: rest) (bnS r1 fun u => bnS r2 fun v => bnS r3 fun w => f u v w) := by
  refine ⟨fun W tk => (pss_cons (ps_par3 hc nd hNi hNj hNl hij hil hjl hxl hyl hzl (pa_cons (p1.run W tk) (pa_cons (p2.run W tk) (pa_cons (p3.run W tk) pa_nil hs3) hs2) hs) hw h1) (pss_ex fun u => pss_ex fun v => pss_ex fun w => (q u v w).run W tk)).weak fun D σ H ⟨F, N, hio, a0, c⟩ => ?_⟩
  refine tV_of (c := c1) a0 hx c fun u x1 H1 g1 a1 q1 c => ?_
  obtain ⟨N1, at1, o1⟩ := a0.setK (kd := kd) (io_ne hi hio) g1 (q1.le a0.ok.fr hc1) a0.ok
  refine ⟨N1, o1, ?_⟩
  cases r2 with
  | bad => exact c.elim
  | ex k fs => exact fun d H' g xd => ct_ex a1 hx c g xd
  | ok v =>
    intro y1 H2 g2 q2
    obtain ⟨N2, at2, o2⟩ := at1.setK (kd := ke) (io_ne hj hio) g2 (q2.le o1.fr hc2) o1
    refine ⟨N2, o2, ?_⟩
    cases r3 with
    | bad => exact c.elim
    | ex k fs => exact fun d H' g xd => ct_ex (a1.grow g2) hx c g xd
    | ok w =>
      intro z1 H3 g3 q3
      obtain ⟨N3, at3, _⟩ := at2.setK (kd := kf) (io_ne hm hio) g3 (q3.le o2.fr hc3) o2
      exact ⟨x1, y1, z1, rfl, u, v, w, F, N3, hio, by rw [← hG]; exact at3, c⟩
/-- .. with draws -/
theorem fs_par2 (i j : Nat) {l : Nat} {x y : Str} {px py pt pt2 : Pos} {kt k2 : Nat} {m : R (D × D)} {m2 : D → R (D × D)} {f : D → D → D → Fl τ β} {G : D → D → D → List Sv} (hc : X.calm = true) (nd : X.N.Nodup) (p1 : PEf Z X S Γ l a m) (p2 : ∀ w, PEf Z X S (Γ.set l (.o w)) l b (m2 w)) (hij : i ≠ j) (hi : S.io = false ∨ i ≠ 0) (hj : S.io = false ∨ j ≠ 0) (hG : ∀ u v w, ((Γ.set l (.o w)).set i (.s u)).set j (.s v) = G u v w) (q : ∀ u v w, PSsv Z X S (G u v w) po pb rest (f u v w))
    (hNi : X.N[i]? = some x := by rfl) (hNj : X.N[j]? = some y := by rfl) (hxl : X.env.scope.names.lookup x = some .local := by rfl) (hyl : X.env.scope.names.lookup y = some .local := by rfl)
    (hw : swappedStores [.Tuple [.Name x px, .Name y py] kt pt] (.Tuple [a, b] k2 pt2) X.env = pure (some [x, y]) := by rfl) (h1 : swapsWithSole [.Tuple [.Name x px, .Name y py] kt pt] (.Tuple [a, b] k2 pt2) pos.line X.env = pure false := by rfl)
    (hs : starEach [a, b] X.env = (false, eval a X.env) :: starEach [b] X.env := by rfl) (hs2 : starEach [b] X.env = (false, eval b X.env) :: starEach [] X.env := by rfl) :
    PSsv Z X S Γ po pb (.Assign [.Tuple [.Name x px, .Name y py] kt pt] (.Tuple [a, b] k2 pt2) pos :: rest) (bnS m fun p => bnS (m2 p.2) fun q => f p.1 q.1 q.2) := by
  refine ⟨fun W tk => (pss_cons (ps_par hc nd hNi hNj hij hxl hyl (pa_cons (p1.run W tk) (pa_cons (pe_ex fun w => (p2 w).run W tk) pa_nil hs2) hs) hw h1) (pss_ex fun u => pss_ex fun v => pss_ex fun w => (q u v w).run W tk)).weak fun D σ H ⟨F, N, hio, a0, c⟩ => ?_⟩
  refine tF_of hio a0 c fun u w x1 H1 k1 a1 r1 c => ?_
  refine ⟨w, ?_⟩
  refine tF_of (m := m2 w) (f := fun q => f u q.1 q.2) hio a1 c fun v w2 y1 H2 k2 a2 r2 c => ?_
  have a2' : At Z F N (Γ.set l (.o w2)) σ H2 := by simpa using a2
  exact ⟨x1, y1, rfl, u, v, w2, F, N, hio, by rw [← hG]; exact (a2'.setS (io_ne hi hio) (RD.keep k2.k _ _ r1)).setS (io_ne hj hio) r2, c⟩
/-- one place less -/
theorem At.off {q : Addr} {vs : List V} (g : Grow H H1) (hq : H q = none) (hq1 : H1 q = some (.lst vs)) (a : At Z F N Γ σ H) : At Z F (fun b => N b ∧ b ≠ q) Γ σ H1 :=
  ⟨a.ok.off hq g (by rw [hq1]; simp), a.ap, a.ow, RDs.grow g (a.hd.off hq), a.f0, fun b z => a.sub b z.1, fun b o e n => g _ _ (a.rest b o e n), fun b o e => by obtain ⟨o', z⟩ := a.live b o e; exact ⟨o', g _ _ z⟩, a.io⟩
/-- a list of one's own gets a slot -/
theorem At.addO {q : Addr} {vs : List V} {ds : List D} (hi : F.A0 = none ∨ i ≠ 0) (n : ¬ N q) (hq : H q = some (.lst vs)) (rs : RDs Z N H ds vs) (h0 : F.H0 q = none) (far : ∀ (l : Nat) (e : List D), Γ[l]? = some (.o (.lst e)) → σ[l]? ≠ some (some (.ref q))) (a : At Z F N Γ σ H) : At Z F N (Γ.set i (.o (.lst ds))) (σ.set i (some (.ref q))) H := by
  have old : ∀ {j : Nat} {e : List D}, (Γ.set i (.o (.lst ds)))[j]? = some (.o (.lst e)) → i = j ∨ (i ≠ j ∧ Γ[j]? = some (.o (.lst e))) := fun {j e} z => by
    rcases get_set z with ⟨z, _⟩ | z
    · exact .inl z
    · exact .inr z
  have hil : ∀ {b : Addr}, (σ.set i (some (V.ref q)))[i]? = some (some (.ref b)) → b = q := fun {b} e => by
    rcases get_set e with ⟨_, z⟩ | ⟨z, _⟩
    · cases z; rfl
    · exact absurd rfl z
  refine ⟨⟨pset (F := SvR Z N H) (a := .o (.lst ds)) (b := some (.ref q)) ⟨q, vs, rfl, n, hq, rs⟩ i a.ok.sl, a.ok.fr⟩, fun j k e e' b ne q1 q2 q3 q4 => ?_, fun j e b q1 q2 => ?_, a.hd, a.f0, a.sub, a.rest, a.live, fun b e => ?_⟩
  · rcases old q1 with rfl | ⟨z1, z2⟩ <;> rcases old q2 with rfl | ⟨z3, z4⟩
    · exact ne rfl
    · rw [List.getElem?_set_ne z3] at q4
      rw [hil q3] at q4
      exact far _ _ z4 q4
    · rw [List.getElem?_set_ne z1] at q3
      rw [hil q4] at q3
      exact far _ _ z2 q3
    · rw [List.getElem?_set_ne z1] at q3
      rw [List.getElem?_set_ne z3] at q4
      exact a.ap j k e e' b ne z2 z4 q3 q4
  · rcases old q1 with rfl | ⟨z1, z2⟩
    · rw [hil q2]
      exact ⟨fun _ => h0, .inl h0⟩
    · rw [List.getElem?_set_ne z1] at q2
      exact a.ow j e b z2 q2
  · rcases hi with hi | hi
    · rw [hi] at e; cases e
    · rw [List.getElem?_set_ne hi]; exact a.io b e
/-- a, b = [..], e with draws -/
theorem fs_parO (i j : Nat) {l : Nat} {x y : Str} {px py pt pt2 : Pos} {kt k2 : Nat} {w0 : D} {m2 : R (D × D)} {f : D → D → D → Fl τ β} {G : D → D → D → List Sv} (hc : X.calm = true) (nd : X.N.Nodup) (p1 : PEv Z X Γ a r1 c1) (p2 : PEf Z X S Γ l b m2) (hij : i ≠ j) (hil : l ≠ i) (hjl : l ≠ j) (hi : S.io = false ∨ i ≠ 0) (hj : S.io = false ∨ j ≠ 0) (hG : ∀ u v w, ((Γ.set l (.o w)).set i (.o u)).set j (.s v) = G u v w) (q : ∀ u v w, PSsv Z X S (G u v w) po pb rest (f u v w))
    (hw0 : Γ[l]? = some (.o w0) := by rfl) (hc1 : c1.le .T = true := by rfl) (hx : LeS Γ S.px := by exact les_n rfl rfl) (hNi : X.N[i]? = some x := by rfl) (hNj : X.N[j]? = some y := by rfl) (hxl : X.env.scope.names.lookup x = some .local := by rfl) (hyl : X.env.scope.names.lookup y = some .local := by rfl)
    (hw : swappedStores [.Tuple [.Name x px, .Name y py] kt pt] (.Tuple [a, b] k2 pt2) X.env = pure (some [x, y]) := by rfl) (h1 : swapsWithSole [.Tuple [.Name x px, .Name y py] kt pt] (.Tuple [a, b] k2 pt2) pos.line X.env = pure false := by rfl)
    (hs : starEach [a, b] X.env = (false, eval a X.env) :: starEach [b] X.env := by rfl) (hs2 : starEach [b] X.env = (false, eval b X.env) :: starEach [] X.env := by rfl) :
    PSsv Z X S Γ po pb (.Assign [.Tuple [.Name x px, .Name y py] kt pt] (.Tuple [a, b] k2 pt2) pos :: rest) (bnS r1 fun u => asL .bad w0 (asL .bad u (bnS m2 fun q => f u q.1 q.2))) := by
  refine ⟨fun W tk => (pss_cons (ps_par hc nd hNi hNj hij hxl hyl (pa_cons (p1.run W tk) (pa_cons (p2.run W tk) pa_nil hs2) hs) hw h1) (pss_ex fun u => pss_ex fun v => pss_ex fun w => (q u v w).run W tk)).weak fun D σ H ⟨F, N, hio, a0, c⟩ => ?_⟩
  refine tV_of (c := c1) a0 hx c fun u x1 H1 g1 a1 q1 c => ?_
  obtain ⟨es, ew, c⟩ := ct_asL c
  obtain ⟨us, eu, c⟩ := ct_asL c
  subst ew
  subst eu
  have q1 := q1.le a0.ok.fr hc1
  obtain ⟨p, vs, rfl, hp, hp1, rs⟩ := q1
  have a2 := a0.off g1 hp hp1
  obtain ⟨y0, e0, rw0⟩ := pget a0.ok.sl hw0
  cases y0 with
  | none => exact (show False from rw0).elim
  | some y0 =>
  obtain ⟨q0, vs0, rfl, nq, hq, _⟩ := rw0
  have hpq : p ≠ q0 := fun z => by rw [z, hq] at hp; cases hp
  refine tF_of (m := m2) (f := fun q => f (.lst us) q.1 q.2) hio a2 c fun v w y1 H2 k2 a3 r2 c => ?_
  have hp2 : H2 p = some (.lst vs) := k2.j p _ hp1 (by rw [e0]; intro z; cases z; exact hpq rfl)
  have h0 : F.H0 p = none := by
    cases z : F.H0 p with
    | none => rfl
    | some o => obtain ⟨o', z'⟩ := a0.live p o z; rw [hp] at z'; cases z'
  have a4 := a3.addO (i := i) (q := p) (vs := vs) (ds := us) (io_ne hi hio) (fun z => z.2 rfl) hp2 (RDs.keep k2.k _ _ rs) h0 fun m e q1 q2 => by
    rcases get_set q1 with ⟨rfl, _⟩ | ⟨z1, z2⟩
    · rw [e0] at q2; cases q2; exact hpq rfl
    · obtain ⟨us', _, z3, _⟩ := a0.ok.liveO z2 q2
      rw [hp] at z3; cases z3
  exact ⟨.ref p, y1, rfl, .lst us, v, w, F, _, hio, by rw [← hG]; exact a4.setS (io_ne hj hio) r2, c⟩
/-- (a, b) = (e, f), by a tuple -/
theorem g_tup2 (i j : Nat) {x y : Str} {px py pt pt2 : Pos} {kt k2 : Nat} {kd ke : Bool} {f : D → D → Fl τ β} {G : D → D → List Sv} (hc : X.calm = true) (nd : X.N.Nodup) (p1 : PEv Z X Γ a r1 c1) (p2 : PEv Z X Γ b r2 c2) (hi : S.io = false ∨ i ≠ 0) (hj : S.io = false ∨ j ≠ 0) (hG : ∀ u v, (Γ.set i (svk kd u)).set j (svk ke v) = G u v) (q : ∀ u v, PSsv Z X S (G u v) po pb rest (f u v))
    (hc1 : c1.le (clk kd) = true := by rfl) (hc2 : c2.le (clk ke) = true := by rfl) (hx : LeS Γ S.px := by exact les_n rfl rfl) (hN : X.N[i]? = some x := by rfl) (hv : Loc X.env.scope x := by first | exact Or.inl rfl | exact Or.inr rfl)
    (hl : X.fn x = true ∨ X.env.scope.names.lookup x = some .local := by first | exact Or.inl rfl | exact Or.inr rfl) (hN2 : X.N[j]? = some y := by rfl) (hy : Loc X.env.scope y := by first | exact Or.inl rfl | exact Or.inr rfl) (hl2 : X.fn y = true ∨ X.env.scope.names.lookup y = some .local := by first | exact Or.inl rfl | exact Or.inr rfl)
    (h1 : (assignEach [.Name x px, .Name y py] X.env).map (·.2) = assign (.Name x px) X.env :: (assignEach [.Name y py] X.env).map (·.2) := by rfl) (h2 : (assignEach [.Name y py] X.env).map (·.2) = assign (.Name y py) X.env :: (assignEach [] X.env).map (·.2) := by rfl)
    (hn : (assignEach [.Name x px, .Name y py] X.env).length = 2 := by rfl) (hst : (assignEach [.Name x px, .Name y py] X.env).findIdx? (·.1) = none := by rfl)
    (g1 : swapsWithSole [.Tuple [.Name x px, .Name y py] kt pt] (.Tuple [a, b] k2 pt2) pos.line X.env = pure false := by rfl) (g2 : swappedStores [.Tuple [.Name x px, .Name y py] kt pt] (.Tuple [a, b] k2 pt2) X.env = pure none := by rfl)
    (g3 : (assignEach [.Tuple [.Name x px, .Name y py] kt pt] X.env).map (·.2) = [assign (.Tuple [.Name x px, .Name y py] kt pt) X.env] := by rfl)
    (hs : starEach [a, b] X.env = (false, eval a X.env) :: starEach [b] X.env := by rfl) (hs2 : starEach [b] X.env = (false, eval b X.env) :: starEach [] X.env := by rfl) :
    PSsv Z X S Γ po pb (.Assign [.Tuple [.Name x px, .Name y py] kt pt] (.Tuple [a, b] k2 pt2) pos :: rest) (bnS r1 fun u => bnS r2 fun v => f u v) := by
  refine ⟨fun W tk => (pss_cons (ps_asg (pe_tup (pa_cons (p1.run W tk) (pa_cons (p2.run W tk) pa_nil hs2) hs)) (pg_tup hc (pgs_cons (pg_name nd hN hv hl) (pgs_cons (pg_name nd hN2 hy hl2) pgs_nil h2) h1) hn hst) g1 g2 g3) (pss_ex fun u => pss_ex fun v => (q u v).run W tk)).weak fun D σ H ⟨F, N, hio, a0, c⟩ => ?_⟩
  refine tV_of (c := c1) a0 hx c fun u x1 H1 g1 a1 q1 c => ?_
  obtain ⟨N1, at1, o1⟩ := a0.setK (kd := kd) (io_ne hi hio) g1 (q1.le a0.ok.fr hc1) a0.ok
  refine ⟨N1, o1, ?_⟩
  cases r2 with
  | bad => exact c.elim
  | ex k fs => exact fun d H' g xd => ct_ex a1 hx c g xd
  | ok v =>
    intro y1 H2 g2 q2
    obtain ⟨N2, at2, _⟩ := at1.setK (kd := ke) (io_ne hj hio) g2 (q2.le o1.fr hc2) o1
    refine ⟨by simp [sizeLine_eq], fun t ht => ?_⟩
    exact ⟨t, [x1, y1], rfl, SqT.of upd_same, rfl, x1, [y1], rfl, y1, [], rfl, rfl, u, v, F, N2, hio, by rw [← hG]; exact at2.grow (Grow.upd ht), c⟩
end
end Qz
/-! Qz: what the program's top has left; the tables by levels. -/
namespace Qz
open PySem PySem.Spec L2

noncomputable def whr (K : PySem.W.Frag) (Fs : List DefI) (Es : List (Str × String)) : Whr where
  K := K
  G := fun i => He.fAd K (match Fs[i]? with | some d => (d.x, none) | none => (Str.empty, none))
  C := fun c => He.ga K (match Es[c]? with | some e => e.1 | none => Str.empty)
  F := fun _ => none
mutual
noncomputable def valB (K : PySem.W.Frag) : D → Value → Bool
  | .non, v => decide (v = .none)
  | .bl b, v => decide (v = .bool b)
  | .int i, v => (match v with | .int j _ => decide (i = j) | _ => false)
  | .str x, v => (match v with | .str y _ => decide (x = y) | _ => false)
  | .tup ds, v => (match v with
    | .ref a => (match K.lookup a with
      | some ⟨.type T, _, .seq its _, _⟩ => decide (T = "tuple") && decide (its.size ≤ bigL) && valsB K ds its.toList
      | _ => false)
    | _ => false)
  | _, _ => false
noncomputable def valsB (K : PySem.W.Frag) : List D → List Value → Bool
  | [], us => us.isEmpty
  | d :: ds, us => (match us with | u :: us => valB K d u && valsB K ds us | [] => false)
end
mutual
theorem valB_ok {Z : Whr} : ∀ (d : D) (u : Value), valB Z.K d u = true → ∃ v, RelV v u ∧ ∀ H, RD Z (fun _ => False) H d v
  | .non, u, e => by
    unfold valB at e
    have e := of_decide_eq_true e
    subst e
    exact ⟨.non, rfl, fun _ => rfl⟩
  | .bl b, u, e => by
    unfold valB at e
    have e := of_decide_eq_true e
    subst e
    exact ⟨.bl b, rfl, fun _ => rfl⟩
  | .int i, u, e => by
    unfold valB at e
    split at e
    · have e := of_decide_eq_true e
      subst e
      exact ⟨.int i, ⟨_, rfl⟩, fun _ => rfl⟩
    · cases e
  | .str x, u, e => by
    unfold valB at e
    split at e
    · have e := of_decide_eq_true e
      subst e
      exact ⟨.str x, ⟨_, rfl⟩, fun _ => rfl⟩
    · cases e
  | .tup ds, u, e => by
    unfold valB at e
    split at e
    · rename_i a
      split at e
      · rename_i T dd its n sl hl
        rw [Bool.and_eq_true, Bool.and_eq_true] at e
        have eT := of_decide_eq_true e.1.1
        have eS := of_decide_eq_true e.1.2
        subst eT
        obtain ⟨vs, rv, k⟩ := valsB_ok ds its.toList e.2
        exact ⟨.ref a, rfl, fun H => ⟨a, vs, rfl, .inr ⟨_, its, n, hl, rfl, rfl, big_line eS, rv⟩, k H⟩⟩
      · cases e
    · cases e
  | .fn i, u, e => by cases e
  | .lst _, u, e => by cases e
  | .rol _, u, e => by cases e
  | .dct _ _, u, e => by cases e
  | .set _, u, e => by cases e
theorem valsB_ok {Z : Whr} : ∀ (ds : List D) (us : List Value), valsB Z.K ds us = true → ∃ vs, Vals vs us ∧ ∀ H, RDs Z (fun _ => False) H ds vs
  | [], us, e => by
    unfold valsB at e
    cases us with
    | nil => exact ⟨[], .nil, fun _ => rfl⟩
    | cons u us => cases e
  | d :: ds, us, e => by
    unfold valsB at e
    split at e
    · rename_i u us
      rw [Bool.and_eq_true] at e
      obtain ⟨v, r, k⟩ := valB_ok d u e.1
      obtain ⟨vs, rs, ks⟩ := valsB_ok ds us e.2
      exact ⟨v :: vs, .cons r rs, fun H => ⟨v, vs, rfl, k H, ks H⟩⟩
    · cases e
end
noncomputable def bmVE : List Value := [Value.type "ValueError", Value.type "Exception", Value.type "BaseException", Value.type "object"]
noncomputable def bmLE : List Value := [Value.type "LookupError", Value.type "Exception", Value.type "BaseException", Value.type "object"]
/-- a class of errors as it should stand -/
noncomputable def excB (K : PySem.W.Frag) (e : Str × String) : Bool :=
  He.eqO (PySem.W.nsIn K mainGlobals e.1) (some (some (.ref (He.ga K e.1)))) &&
  ((decide (e.2 = "ValueError") && PySem.W.excIn K (He.ga K e.1) bmVE "ValueError.__new__") || (decide (e.2 = "LookupError") && PySem.W.excIn K (He.ga K e.1) bmLE "LookupError.__new__")) &&
  PySem.W.keepIn K (.ref (He.ga K e.1)) &&
  decide (PySem.W.subIn K (.ref (He.ga K e.1)) (.type "BaseException") = some true) &&
  decide (PySem.W.typeIn K (.ref (He.ga K e.1)) = some (.type "type")) &&
  decide (PySem.W.findIn K (.ref (He.ga K e.1)) "__getattribute__" = some (some (.builtin "BaseException.__getattribute__"))) &&
  decide (PySem.W.findIn K (.ref (He.ga K e.1)) "__getattr__" = some none) &&
  PySem.W.hasDictIn K (He.ga K e.1) &&
  decide (PySem.W.findIn K (.ref (He.ga K e.1)) "__class__" = some (some (.builtin "object.__class__"))) &&
  decide (PySem.W.specialIn K (.builtin "object.__class__") "__get__" = some (some (.builtin "getset_descriptor.__get__"))) &&
  decide (PySem.W.takesIn K (.builtin "object.__class__") = some true) &&
  decide (PySem.W.mroIn K (He.ga K e.1) (.type "object") = some true) &&
  ["ValueError", "LookupError"].all (fun T => decide (PySem.W.kitOne K (.ref (He.ga K e.1)) (.type T) = some (T == e.2)))
noncomputable def pairB (K : PySem.W.Frag) (Es : List (Str × String)) : Bool := (List.range Es.length).all fun c => (List.range Es.length).all fun d =>
  decide (PySem.W.exmOne K (.ref ((whr K [] Es).C c)) (.ref ((whr K [] Es).C d)) = some (c == d))
/-- what the top should have left -/
noncomputable def exB (ns : List Str) (Es : List (Str × String)) (Gs : List (Str × D)) (K : PySem.W.Frag) : Bool :=
  ns.all (fun x => He.eqO (PySem.W.nsIn K mainGlobals x) (some (some (.ref (He.fAd K (x, none)))))) &&
  bltNames.all (fun x => He.eqO (PySem.W.nsIn K mainGlobals x) (some none)) &&
  Gs.all (fun g => match PySem.W.nsIn K mainGlobals g.1 with | some (some v) => valB K g.2 v | _ => false) &&
  Es.all (excB K) && pairB K Es
section
variable {K : PySem.W.Frag} {h : Heap} {mg : Str → Option Value} {Fs : List DefI} {Es : List (Str × String)} {Gs : List (Str × D)} {P : Program} {w : World} {base : Heap} {k : Nat}
theorem eqO_iff {a b : Option (Option Value)} (e : He.eqO a b = true) : a = b := of_decide_eq_true e
/-- the facts of a context that no def changes -/
structure Top (K : PySem.W.Frag) (mg : Str → Option Value) (Fs : List DefI) (Es : List (Str × String)) (Gs : List (Str × D)) : Prop where
  at' : ∀ (i : Nat) (d : DefI), Fs[i]? = some d → mg d.x = some (.ref ((whr K Fs Es).G i))
  exs : ExAll (whr K Fs Es) K mg Es
  blt : ∀ x ∈ bltNames, mg x = none
  glo : ∀ (i : Nat) (x : Str) (d : D), Gs[i]? = some (x, d) → ∃ v u, mg x = some u ∧ RelV v u ∧ ∀ H, RD (whr K Fs Es) (fun _ => False) H d v
theorem free_of (X : K.In h) (G : h.Ns mainGlobals mg) {x : Str} (e : PySem.W.nsIn K mainGlobals x = some none) : mg x = none :=
  He.free_ok X G (by show He.eqO _ _ = true; unfold He.eqO; exact decide_eq_true e)
theorem top_of (X : K.In h) (G : h.Ns mainGlobals mg) (e : exB (Fs.map (·.x)) Es Gs K = true) : Top K mg Fs Es Gs := by
  unfold exB at e
  simp only [Bool.and_eq_true] at e
  obtain ⟨⟨⟨⟨e1, e2⟩, e3⟩, e4⟩, e5⟩ := e
  have mgC : ∀ c e, Es[c]? = some e → excB K e = true ∧ (whr K Fs Es).C c = He.ga K e.1 := fun c e q => by
    refine ⟨List.all_eq_true.mp e4 e (List.mem_of_getElem? q), ?_⟩
    show He.ga K (match Es[c]? with | some e => e.1 | none => Str.empty) = _
    rw [q]
  refine ⟨fun i d q => ?_, ⟨fun c e q => ?_, fun c d hc hd => ?_, fun c e q T hT => ?_⟩, fun x hx => free_of X G (eqO_iff (List.all_eq_true.mp e2 x hx)), fun i x d q => ?_⟩
  · have z := List.all_eq_true.mp e1 d.x (List.mem_map.mpr ⟨d, List.mem_of_getElem? q, rfl⟩)
    have z := PySem.W.mg_of X G (eqO_iff z)
    rw [z]
    show _ = some (Value.ref (He.fAd K (match Fs[i]? with | some d => (d.x, none) | none => (Str.empty, none))))
    rw [q]
  · obtain ⟨z, zc⟩ := mgC c e q
    unfold excB at z
    simp only [Bool.and_eq_true] at z
    obtain ⟨⟨⟨⟨⟨⟨⟨⟨⟨⟨⟨⟨z1, z2⟩, z3⟩, z4⟩, z5⟩, z6⟩, z7⟩, z8⟩, z9⟩, z10⟩, z11⟩, z12⟩, z13⟩ := z
    have d4 := of_decide_eq_true z4
    refine ⟨by rw [zc]; exact PySem.W.mg_of X G (eqO_iff z1), ?_, by rw [zc]; exact z3, by rw [zc]; exact d4, by rw [zc]; exact of_decide_eq_true z5, by rw [zc]; exact ⟨of_decide_eq_true z6, of_decide_eq_true z7, d4, z8, of_decide_eq_true z9, of_decide_eq_true z10, of_decide_eq_true z11, of_decide_eq_true z12⟩, rfl⟩
    rw [zc]
    rcases Bool.or_eq_true_iff.mp z2 with z2 | z2
    · rw [Bool.and_eq_true] at z2
      exact ⟨bmVE, "ValueError", "ValueError.__new__", "ValueError.__init__", PySem.F.excBase_ValueError, z2.2⟩
    · rw [Bool.and_eq_true] at z2
      exact ⟨bmLE, "LookupError", "LookupError.__new__", "LookupError.__init__", PySem.F.excBase_LookupError, z2.2⟩
  · have z := List.all_eq_true.mp (List.all_eq_true.mp e5 c (List.mem_range.mpr hc)) d (List.mem_range.mpr hd)
    exact of_decide_eq_true z
  · obtain ⟨z, zc⟩ := mgC c e q
    unfold excB at z
    simp only [Bool.and_eq_true] at z
    rw [zc]
    exact of_decide_eq_true (List.all_eq_true.mp z.2 T hT)
  · have z := List.all_eq_true.mp e3 (x, d) (List.mem_of_getElem? q)
    dsimp only at z
    split at z
    · rename_i u eu
      obtain ⟨v, r, k⟩ := valB_ok (Z := whr K Fs Es) d u z
      exact ⟨v, u, PySem.W.mg_of X G eu, r, k⟩
    · cases z
/-- the context of a def's body -/
theorem Top.ctx (t : Top K mg Fs Es Gs) {N : List Str} {qual : Str} {sc : Scope} {a : Addr} {cdv : Value} {A : Around} {outer : List Env} {s : Shared} {H : L2.Hp} {E : XK} (nd : N.Nodup) (hr : Room k (A.deeper (PyProof.Rows.envOfC qual sc s.heap.objs.size a cdv))) :
    CtxOk (whr K Fs Es) Fs Es Gs k (cxOf (L2.CX P w) P w K mg base N qual sc a cdv A outer s H E) :=
  ⟨rfl, rfl, hr, nd, passes_of rfl, t.at', t.exs, t.blt, t.glo⟩
/-- what the promises rest on: the program's top, each def where it stands -/
structure All (P : Program) (w : World) (K : PySem.W.Frag) (mg : Str → Option Value) (base : Heap) (Fs : List DefI) (Es : List (Str × String)) (Gs : List (Str × D)) : Prop where
  t : Top K mg Fs Es Gs
  f : ∀ (i : Nat) (d : DefI), Fs[i]? = some d → ∃ fd, FunD K d.x d.x (defArgs d.st) (defBody d.st) (defScope d.st) [] [] ((whr K Fs Es).G i) fd
noncomputable abbrev Fat (P : Program) (w : World) (K : PySem.W.Frag) (mg : Str → Option Value) (base : Heap) (Fs : List DefI) (Es : List (Str × String)) (F : DF) (cl : Cl) (k i : Nat) (d : DefI) : Prop := FnAt (whr K Fs Es) P w K mg base F cl k ((whr K Fs Es).G i) d
noncomputable abbrev FatW (P : Program) (w : World) (K : PySem.W.Frag) (mg : Str → Option Value) (base : Heap) (Fs : List DefI) (Es : List (Str × String)) (F : DW) (cl : Cl) (k i : Nat) (d : DefI) : Prop := FnAtW (whr K Fs Es) P w K mg base F cl k ((whr K Fs Es).G i) d
noncomputable abbrev BindOk (d : DefI) : Prop := ∀ (kV doc pm : Value) (an : Option Addr) (cdv ct : Value) (us : List Value), us.length = d.ps.length → bindArgs (PySem.W.fnOf d.x d.x (defArgs d.st) (defBody d.st) (defScope d.st) Value.none kV doc pm an cdv ct) { pos := us } = pure (d.ps.zip us)
/-- a def's promise from its derivation -/
theorem fat_of (T : All P w K mg base Fs Es Gs) (i : Nat) {d : DefI} (hd : Fs[i]? = some d) {F : DF} {cl : Cl} {NN : List Str} {nl : Nat} (bi : BindOk d) (sc : FnScope NN d.ps (defScope d.st)) (hn : NN.length = d.ps.length + nl) (ar : ∀ ds, ds.length ≠ d.ps.length → F ds = .bad)
    (body : ∀ (cdv : Value) (A : Around) (outer : List Env) (s : Shared) (H : L2.Hp) (E : XK) (X : Cx), X = cxOf (L2.CX P w) P w K mg base NN d.x (defScope d.st) ((whr K Fs Es).G i) cdv A outer s H E → CtxOk (whr K Fs Es) Fs Es Gs k (cxOf (L2.CX P w) P w K mg base NN d.x (defScope d.st) ((whr K Fs Es).G i) cdv A outer s H E) → ∀ ds : List D, ds.length = d.ps.length →
      ∃ m : Fl Unit Unit, F ds = retV m ∧ PSsv (whr K Fs Es) (cxOf (L2.CX P w) P w K mg base NN d.x (defScope d.st) ((whr K Fs Es).G i) cdv A outer s H E) ⟨cl, false, List.replicate NN.length .n⟩ (g0 ds nl) (fun _ => List.replicate NN.length .n) noB (defBody d.st) m) :
    Fat P w K mg base Fs Es F cl (k + 1) i d := by
  obtain ⟨fd, f⟩ := T.f i d hd
  exact def_ok f bi sc hn ar fun cdv A outer s H E hr ds hl => body cdv A outer s H E _ rfl (T.t.ctx sc.nd hr) ds hl
theorem fatW_of (T : All P w K mg base Fs Es Gs) (i : Nat) {d : DefI} (hd : Fs[i]? = some d) {F : DW} {cl : Cl} {NN : List Str} {nl : Nat} (bi : BindOk d) (sc : FnScope NN d.ps (defScope d.st)) (hn : NN.length = d.ps.length + nl) (ar : ∀ ds, ds.length ≠ d.ps.length → F ds = .bad)
    (body : ∀ (cdv : Value) (A : Around) (outer : List Env) (s : Shared) (H : L2.Hp) (E : XK) (X : Cx), X = cxOf (L2.CX P w) P w K mg base NN d.x (defScope d.st) ((whr K Fs Es).G i) cdv A outer s H E → CtxOk (whr K Fs Es) Fs Es Gs k (cxOf (L2.CX P w) P w K mg base NN d.x (defScope d.st) ((whr K Fs Es).G i) cdv A outer s H E) → ∀ es ds : List D, ds.length + 1 = d.ps.length →
      ∃ m : Fl D Unit, F (.lst es :: ds) = retW m ∧ PSsv (whr K Fs Es) (cxOf (L2.CX P w) P w K mg base NN d.x (defScope d.st) ((whr K Fs Es).G i) cdv A outer s H E) ⟨cl, true, List.replicate NN.length .n⟩ (g0W es ds nl) (fun w => .o w :: List.replicate (NN.length - 1) .n) noB (defBody d.st) m) :
    FatW P w K mg base Fs Es F cl (k + 1) i d := by
  obtain ⟨fd, f⟩ := T.f i d hd
  exact def_okW f bi sc hn ar fun cdv A outer s H E hr es ds hl => body cdv A outer s H E _ rfl (T.t.ctx sc.nd hr) es ds hl
/-- the lowest level of a def that calls itself: no promise -/
theorem fat_bad (T : All P w K mg base Fs Es Gs) (i : Nat) {d : DefI} (hd : Fs[i]? = some d) {cl : Cl} (bi : BindOk d) : Fat P w K mg base Fs Es (fun _ => .bad) cl k i d := by
  obtain ⟨fd, f⟩ := T.f i d hd
  exact ⟨⟨fd, f, ⟨fun vs H Q E h => h.1, fun A outer s H args us vs Q E _ _ _ _ h => h.2.elim fun _ ⟨_, _, _, c⟩ => c.elim⟩, f.bindsN bi⟩, fun _ _ => rfl⟩
/-- the script, as it is given -/
theorem SqF.of_only {H : L2.Hp} {a : Addr} {xs : List V} (o : Only H) (q : SqL K H a xs) : SqF K H a xs := by
  rcases q with (q | ⟨u, q⟩) | q
  · rcases o a with z | ⟨u, ys, z⟩
    · rw [z] at q; cases q
    · rw [z] at q; cases q
  · exact .inl ⟨u, q⟩
  · exact .inr q
theorem ints_RDs {Z : Whr} {N : Addr → Prop} {H : L2.Hp} : ∀ (ns : List Int), RDs Z N H (ns.map .int) (ns.map V.int)
  | [] => rfl
  | n :: ns => ⟨_, _, rfl, rfl, ints_RDs ns⟩
theorem law_sp {Z : Whr} (hK : Z.K = K) {F : DF} {cl : Cl} {ns : List Int} (e : F [.rol (ns.map .int)] = .ok (.bl true)) {H : L2.Hp} {a : Addr} (o : Only H) (q : SqL K H a (ns.map V.int)) : spV Z 1 F cl [V.ref a] H (fun v _ => v = V.bl true) fun _ _ _ => False := by
  refine ⟨rfl, fun _ => True, [.rol (ns.map .int)], fun _ _ => trivial, ⟨.ref a, [], rfl, ⟨a, _, rfl, by rw [hK]; exact SqF.of_only o q, ints_RDs ns⟩, rfl⟩, ?_⟩
  rw [e]
  intro x H' g c
  cases cl with
  | S => exact c.2
  | _ => exact c
/-- no error leaves -/
theorem fn_calm {Z : Whr} {a : Addr} {fd : FuncData} {ps : List Str} {m : Nat} {F : DF} {cl : Cl} (f : FnOk P w K mg base (L2.CX P w) k a fd ps (spV Z m F cl)) : FnOk P w K mg base L2.CX0 k a fd ps (fun vs H Q _ => spV Z m F cl vs H Q fun _ _ _ => False) := by
  refine ⟨fun vs H Q E h => f.len vs H Q _ h, fun A outer s H args us vs Q E hr e0 bt rv h => codeAny_mono (f.run A outer s H args us vs Q _ hr e0 bt rv h) fun r s' q => ?_⟩
  cases r with
  | error e =>
    obtain ⟨a, B, H', cls, d, _, _, _, _, _, _, _, z⟩ := q
    exact z.elim
  | ok fl =>
    cases fl <;> exact q
noncomputable def toD (d : DefI) : He.DefD := ⟨(d.x, none), d.x, d.x, defArgs d.st, defBody d.st, defScope d.st, [], []⟩
theorem fun_of (c : He.SaysD [] (Fs.map toD) K) (i : Nat) (d : DefI) (hd : Fs[i]? = some d) : ∃ fd, FunD K d.x d.x (defArgs d.st) (defBody d.st) (defScope d.st) [] [] ((whr K Fs Es).G i) fd := by
  have z := c.defs (d := toD d) (List.mem_map.mpr ⟨d, List.mem_of_getElem? hd, rfl⟩)
  have e : (whr K Fs Es).G i = He.fAd K (d.x, none) := by
    show He.fAd K (match Fs[i]? with | some d => (d.x, none) | none => (Str.empty, none)) = _
    rw [hd]
  rw [e]
  exact z
noncomputable abbrev hkP (Fs : List DefI) (Es : List (Str × String)) (Gs : List (Str × D)) : PySem.W.Hook := He.hookX 4 [] (Fs.map toD) [] [] (exB (Fs.map (·.x)) Es Gs)
noncomputable def obP (Fs : List DefI) (Es : List (Str × String)) (Gs : List (Str × D)) (s : PySem.W.SharedT) : He.AlX := He.obsX 4 [] (Fs.map toD) [] [] (exB (Fs.map (·.x)) Es Gs) (HandSHeadRun.getT s)
theorem obP_eq {Fs : List DefI} {Es : List (Str × String)} {Gs : List (Str × D)} (s : PySem.W.SharedT) : obP Fs Es Gs s = (hkP Fs Es Gs).obs s.abs := He.obsX_eq (HandSHeadRun.getT_eq s)
/-- the law's def, from what the head says -/
theorem facts {F : DF} {cl : Cl} (n il : Nat) {d : DefI} (hd : Fs[il]? = some d) {p : Str} (hp : d.ps = [p]) (bi : BindOk d) (fat : ∀ base : Heap, All P w K mg base Fs Es Gs → Fat P w K mg base Fs Es F cl n il d)
    (X : K.In h) (G : h.Ns mainGlobals mg) {f : Addr} (hf : mg d.x = some (.ref f)) (c : He.SaysX [] (Fs.map toD) [] [] (exB (Fs.map (·.x)) Es Gs) w h K) :
    ∃ fd : FuncData, (∀ (s : Shared) (v : Value), BindsTo s fd { pos := [v] } [(p, v)]) ∧ ∀ base : Heap, K.In base → base.Ns mainGlobals mg → FnOk P w K mg base L2.CX0 n f fd [p] (fun vs H Q _ => spV (whr K Fs Es) 1 F cl vs H Q fun _ _ _ => False) := by
  have t : Top K mg Fs Es Gs := top_of X G c.more
  have cd : He.SaysD [] (Fs.map toD) K := congrArg Prod.fst c.t
  have eg := t.at' il d hd
  rw [hf] at eg
  cases eg
  obtain ⟨fd, f⟩ := fun_of (Es := Es) cd il d hd
  refine ⟨fd, fun s v => ?_, fun base _ _ => ?_⟩
  · have b := FunD.bindsA f bi s [v] (by rw [hp]; rfl)
    rw [hp] at b
    exact b
  · obtain ⟨⟨fd', f', ok, _⟩, _⟩ := fat base ⟨t, fun i d hd => fun_of (Es := Es) cd i d hd⟩
    have e : fd' = fd := by
      obtain ⟨oc, od, dV, kV, doc, pm, an, cdv, ct, osl, rfl, lk, _⟩ := f.ex
      obtain ⟨oc', od', dV', kV', doc', pm', an', cdv', ct', osl', rfl, lk', _⟩ := f'.ex
      rw [lk] at lk'
      cases lk'
      rfl
    subst e
    have ok' := fn_calm ok
    rw [hp] at ok'
    exact ok'
end
end Qz
/-! Qz: fractions in lowest terms: what `made` computes, at once. -/
namespace Qz
noncomputable section
theorem whl_no {σ β : Type} {t : σ → R Bool} {b : σ → Fl σ σ} {s : σ} (h : t s = .ok false) : ∀ n, whlL (β := β) t b n s = .nx s := by
  intro n
  rw [whlL_def]
  cases n <;> (unfold whlL'; rw [h])
theorem whl_go {σ β : Type} {t : σ → R Bool} {b : σ → Fl σ σ} {s s' : σ} (h : t s = .ok true) (hb : b s = .nx s') (n : Nat) : whlL (β := β) t b (n + 1) s = whlL t b n s' := by
  rw [whlL_def]
  conv => lhs; unfold whlL'
  rw [h, hb]
def gT : D × D → R Bool := fun s => o2 oGt (.ok s.2) (.ok (D.int 0))
def gB : D × D → Fl (D × D) (D × D) := fun s => bnS (.ok s.2) fun one => bnS (o2 oMod (.ok s.1) (.ok s.2)) fun other => Fl.nx (one, other)
theorem gT_no {a : D} : gT (a, .int 0) = .ok false := rfl
theorem gT_go {a : D} {b : Nat} (h : 0 < b) : gT (a, .int b) = .ok true := by
  show oGt (.int b) (.int 0) = _
  rw [oGt_def]
  show R.ok (decide ((0 : Int) < (b : Int))) = _
  rw [decide_eq_true (by omega)]
theorem gB_go {a b : Nat} (h : 0 < b) : gB (.int a, .int b) = .nx (.int b, .int (a % b : Nat)) := by
  show bnS (oMod (.int a) (.int b)) _ = _
  rw [oMod_def]
  show bnS (if (b : Int) ≠ 0 then R.ok (D.int ((a : Int).fmod (b : Int))) else R.bad) _ = _
  rw [if_pos (by omega), ← Int.ofNat_fmod]
  rfl
theorem whl_gcd {β : Type} {t : D × D → R Bool} (hno : ∀ a, t (a, .int 0) = .ok false) (hgo : ∀ (a : D) (b : Nat), 0 < b → t (a, .int b) = .ok true) : ∀ (k n a b : Nat), 2 * k ≤ n → b < 2 ^ k → whlL (β := β) t gB n (.int a, .int b) = .nx (.int (Nat.gcd a b), .int 0)
  | 0, n, a, b, _, hb => by
    have : b = 0 := by simpa using hb
    subst this
    rw [Nat.gcd_zero_right]
    exact whl_no (hno _) n
  | k + 1, n, a, b, hn, hb => by
    by_cases h : b = 0
    · subst h
      rw [Nat.gcd_zero_right]
      exact whl_no (hno _) n
    obtain ⟨m, rfl⟩ : ∃ m, n = m + 2 := ⟨n - 2, by omega⟩
    have h : 0 < b := by omega
    rw [whl_go (hgo _ _ h) (gB_go h) (m + 1)]
    have hl : a % b < b := Nat.mod_lt _ h
    have e1 : Nat.gcd a b = Nat.gcd b (a % b) := by rw [Nat.gcd_comm a b, Nat.gcd_rec b a, Nat.gcd_comm]
    by_cases r : a % b = 0
    · rw [e1, r, Nat.gcd_zero_right]
      exact whl_no (hno _) _
    have r : 0 < a % b := by omega
    rw [whl_go (hgo _ _ r) (gB_go r) m, e1, Nat.gcd_comm b, Nat.gcd_rec (a % b) b, Nat.gcd_comm]
    refine whl_gcd hno hgo k m _ _ (by omega) ?_
    have hp : 2 ^ (k + 1) = 2 * 2 ^ k := by rw [Nat.pow_succ]; omega
    generalize ec : a % b = c at *
    have h2 : b % c < c := Nat.mod_lt _ r
    have h3 := Nat.div_add_mod b c
    have h4 : 1 ≤ b / c := Nat.div_pos (by omega) r
    have h5 : c * 1 ≤ c * (b / c) := Nat.mul_le_mul_left c h4
    omega
def qD (q : Rat) : D := .tup [.int q.num, .int q.den]
/-- a part of a, exactly -/
def xdiv (i : Int) (g : Nat) : Int := @Int.rec (fun _ => Int) (fun m => .ofNat (Nat.div m g)) (fun m => .negSucc (Nat.pred (Nat.div (Nat.succ m) g))) i
theorem xdiv_eq {i : Int} {g : Nat} (hg : 0 < g) (h : g ∣ i.natAbs) : xdiv i g = i / g := by
  cases i with
  | ofNat m => rfl
  | negSucc m =>
    obtain ⟨c, hc⟩ := h
    have hc : m + 1 = g * c := hc
    show Int.negSucc ((m + 1) / g - 1) = _
    rw [hc, Nat.mul_div_cancel_left _ hg]
    have e : Int.negSucc m = g * (-(c : Int)) := by rw [Int.mul_neg, ← Int.natCast_mul, ← hc]; omega
    rw [e, Int.mul_ediv_cancel_left _ (by omega)]
    have : 0 < c := by
      rcases Nat.eq_zero_or_pos c with z | z
      · subst z; omega
      · exact z
    omega
theorem xdiv_f {i : Int} {g : Nat} (hg : 0 < g) (h : g ∣ i.natAbs) : xdiv i g = i.fdiv g := by
  rw [xdiv_eq hg h, Int.fdiv_eq_ediv_of_nonneg _ (by omega)]
theorem okDiv_nat {g : Nat} (hg : 0 < g) (h : g < 2 ^ 8000) : okDiv (g : Int) = true := by
  unfold okDiv
  rw [Bool.or_eq_true]
  exact .inr (decide_eq_true ⟨by omega, by simpa using h⟩)
theorem made_runG {t : D × D → R Bool} (hno : ∀ a, t (a, .int 0) = .ok false) (hgo : ∀ (a : D) (b : Nat), 0 < b → t (a, .int b) = .ok true) {i : Int} {b : Nat} (hb : 0 < b) (h : b < 2 ^ 4000) :
    retV (β := Unit) (bnS (o1 oAbs (.ok (.int i))) fun one_3 => bnS (.ok (.int b)) fun other_4 => thnS (whlL t (fun s_5 => bnS (.ok s_5.2) fun one_6 => bnS (o2 oMod (.ok s_5.1) (.ok s_5.2)) fun other_7 => Fl.nx (one_6, other_7)) 100000 (one_3, other_4)) fun (s_5 : D × D) => bnS (bnd (bnd (o2 oFdiv (.ok (.int i)) (.ok s_5.1)) fun u => bnd (bnd (o2 oFdiv (.ok (.int b)) (.ok s_5.1)) fun u => bnd (.ok []) fun us => .ok (u :: us)) fun us => .ok (u :: us)) mkT) fun u_8 => .rt u_8 .non)
      = .ok (.tup [.int (xdiv i (Nat.gcd i.natAbs b)), .int (.ofNat (Nat.div b (Nat.gcd i.natAbs b)))]) := by
  have ea : oAbs (.int i) = .ok (.int i.natAbs) := by
    show R.ok (D.int (if i < 0 then -i else i)) = _
    congr 2
    omega
  show retV (bnS (oAbs (.int i)) fun one_3 => thnS (whlL t gB 100000 (one_3, .int b)) _) = _
  rw [ea]
  show retV (thnS (whlL t gB 100000 (.int i.natAbs, .int b)) _) = _
  rw [whl_gcd hno hgo 4000 100000 i.natAbs b (by omega) h]
  have hg : 0 < Nat.gcd i.natAbs b := Nat.gcd_pos_of_pos_right _ hb
  have hg2 : Nat.gcd i.natAbs b < 2 ^ 8000 := by
    have h1 : Nat.gcd i.natAbs b ≤ b := Nat.gcd_le_right _ hb
    have h2 : (2 : Nat) ^ 4000 ≤ 2 ^ 8000 := Nat.pow_le_pow_right (by omega) (by omega)
    omega
  have d1 : Nat.gcd i.natAbs b ∣ i.natAbs := Nat.gcd_dvd_left _ _
  generalize Nat.gcd i.natAbs b = g at *
  have e1 : oFdiv (.int i) (.int g) = .ok (.int (xdiv i g)) := by
    rw [oFdiv_def]
    show (if okDiv (g : Int) then R.ok (D.int (i.fdiv g)) else R.bad) = _
    rw [if_pos (okDiv_nat hg hg2), xdiv_f hg d1]
  have e2 : oFdiv (.int b) (.int g) = .ok (.int (.ofNat (Nat.div b g))) := by
    rw [oFdiv_def]
    show (if okDiv (g : Int) then R.ok (D.int ((b : Int).fdiv g)) else R.bad) = _
    rw [if_pos (okDiv_nat hg hg2), ← Int.ofNat_fdiv]; rfl
  show retV (bnS (bnd (bnd (oFdiv (.int i) (.int g)) fun u => bnd (bnd (oFdiv (.int b) (.int g)) fun u => bnd (.ok []) fun us => .ok (u :: us)) fun us => .ok (u :: us)) mkT) fun u_8 => .rt u_8 .non) = _
  rw [e1, e2]
  rfl
def gU : D × D → R Bool := fun s => o2 oNe (.ok s.2) (.ok (D.int 0))
theorem gU_no {a : D} : gU (a, .int 0) = .ok false := rfl
theorem gU_go {a : D} {b : Nat} (h : 0 < b) : gU (a, .int b) = .ok true := by
  show oNe (.int b) (.int 0) = _
  unfold oNe
  rw [oEq_def]
  show R.ok (!((b : Int) == 0)) = _
  have : ((b : Int) == 0) = false := by simp; omega
  rw [this]; rfl
/-- made, at once where quickly told -/
def madeF (slow : R D) (i : Int) (b : Int) : R D := @Int.rec (fun _ => R D) (fun n => @Nat.rec (fun _ => R D) slow (fun _ _ => ifB (Nat.ble (Nat.log2 n) (nat_lit 3000)) ((fun g => .ok (.tup [.int (xdiv i g), .int (.ofNat (Nat.div n g))])) (Nat.gcd i.natAbs n)) slow) n) (fun _ => slow) b
def madeQ (slow : DF) : DF := fun ds => @List.rec D (fun _ => R D) (slow ds) (fun x xs _ => @List.rec D (fun _ => R D) (slow ds) (fun y xs _ => @List.rec D (fun _ => R D) (asI (slow ds) x fun i => asI (slow ds) y fun b => madeF (slow ds) i b) (fun _ _ _ => slow ds) xs) xs) ds
theorem madeQ_eq {slow : DF} (h : ∀ (i : Int) (b : Nat), 0 < b → b < 2 ^ 4000 → slow [.int i, .int b] = .ok (.tup [.int (xdiv i (Nat.gcd i.natAbs b)), .int (.ofNat (Nat.div b (Nat.gcd i.natAbs b)))])) : madeQ slow = slow := by
  funext ds
  match ds with
  | [] => rfl
  | [_] => rfl
  | _ :: _ :: _ :: _ => rfl
  | [x, y] =>
    cases x with
    | int i => cases y with
      | int b => cases b with
        | ofNat n => cases n with
          | zero => rfl
          | succ n =>
            show ifB (Nat.ble (Nat.log2 (n + 1)) 3000) (.ok (.tup [.int (xdiv i (Nat.gcd i.natAbs (n + 1))), .int (.ofNat (Nat.div (n + 1) (Nat.gcd i.natAbs (n + 1))))])) (slow [.int i, .int (Int.ofNat (n + 1))]) = _
            rw [ifB_ble]
            split
            · rename_i q
              refine (h i (n + 1) (by omega) ?_).symm
              have h1 : n + 1 < 2 ^ (Nat.log2 (n + 1) + 1) := Nat.lt_log2_self
              have h2 : 2 ^ (Nat.log2 (n + 1) + 1) ≤ 2 ^ 4000 := Nat.pow_le_pow_right (by omega) (by omega)
              omega
            · rfl
        | negSucc n => rfl
      | _ => rfl
    | _ => rfl
/-- what `made` answers is the fraction in lowest terms -/
theorem made_rat {i : Int} {b : Nat} (hb : b ≠ 0) : (D.tup [.int (xdiv i (Nat.gcd i.natAbs b)), .int (.ofNat (Nat.div b (Nat.gcd i.natAbs b)))]) = qD (Rat.normalize i b hb) := by
  rw [Rat.normalize_eq, xdiv_eq (Nat.gcd_pos_of_pos_right _ (by omega)) (Nat.gcd_dvd_left _ _)]
  rfl
end
end Qz
/-! Qz: what the laws' own drawing defs compute. -/
namespace Qz
noncomputable section
@[reducible] def an0 : R (List D) := .ok []
@[reducible] def ac0 (r : R D) (A : R (List D)) : R (List D) := bnd r fun u => bnd A fun us => .ok (u :: us)
/-- _law_cells -/
def cellsB (script_1 most_so_2 : D) : Fl Unit Unit := bnS (vOr (o1 oList (slc (.ok script_1) (.ok none) (optI (.ok most_so_2)))) (bnd (ac0 (.ok (D.int 0)) an0) mkLs)) fun cells_so_3 => bnS (bnd (slc (.ok script_1) (optI (.ok most_so_2)) (optI (.ok (D.int 63)))) wEnum) fun xs_14 => thnS (forL (fun (s_4 : D) => (fun d_11 => upk2 .bad d_11 fun k_5 bit_so_6 => bnS (o2 oMod (o1 oInt (.ok k_5)) (.ok most_so_2)) fun at_so_7 => bnS (o2 oAdd (o2 oGet (.ok s_4) (.ok at_so_7)) (o2 oMul (.ok bit_so_6) (o2 oAdd (.ok k_5) (.ok (D.int 2))))) fun u_9 => bnS (.ok at_so_7) fun w_10 => bnS (oSetAt s_4 w_10 u_9) fun cells_so_8 => Fl.nx cells_so_8)) xs_14 cells_so_3) fun (s_4 : D) => bnS (.ok s_4) fun u_13 => .rt u_13 .non
def cellsG : DF := fun ds => match ds with
  | [script_1, most_so_2] => retV (cellsB script_1 most_so_2)
  | _ => .bad
/-- _law_box -/
def boxB (script_1 k_2 : D) : Fl Unit Unit := bnS (vIf (o2 oLt (.ok k_2) (o1 oLen (.ok script_1))) (o2 oGet (.ok script_1) (.ok k_2)) (.ok (D.int 0))) fun bit_so_3 => bnS (bnd (ac0 (o2 oMul (o1 oAbs (.ok bit_so_3)) (o1 oInt (vB (o2 oGe (o1 oAbs (.ok bit_so_3)) (o2 oPow (.ok (D.int 10)) (.ok (D.int 18))))))) (ac0 (o2 oAdd (o2 oAdd (o2 oMod (o1 oInt (.ok bit_so_3)) (.ok (D.int 2305843009213693951))) (o2 oMul (.ok (D.int 39373)) (.ok k_2))) (.ok (D.int 3175068))) (ac0 (.ok (D.int 0)) an0))) mkLs) fun u_4 => .rt u_4 .non
def boxG : DF := fun ds => match ds with
  | [script_1, k_2] => retV (boxB script_1 k_2)
  | _ => .bad
/-- _law_take -/
def takeB (tin_1 below_so_2 : D) : Fl D Unit := thnS (tst (o2 oGt (o2 oGet (.ok tin_1) (.ok (D.int 0))) (.ok (D.int 0))) (bnS (o2 oMod (o1 oInt (o2 oGet (.ok tin_1) (.ok (D.int 0)))) (.ok below_so_2)) fun drawn_4 => bnS (o2 oFdiv (o2 oGet (.ok tin_1) (.ok (D.int 0))) (.ok below_so_2)) fun u_7 => bnS (.ok (D.int 0)) fun w_8 => bnS (oSetAt tin_1 w_8 u_7) fun tin_5 => bnS (.ok drawn_4) fun u_6 => .rt u_6 tin_5) (Fl.nx ())) fun (s_3 : Unit) => bnS (o2 oAdd (o2 oGet (.ok tin_1) (.ok (D.int 2))) (.ok (D.int 1))) fun u_14 => bnS (.ok (D.int 2)) fun w_15 => bnS (oSetAt tin_1 w_15 u_14) fun tin_9 => bnS (o2 oMod (o1 oInt (o2 oMul (o2 oAdd (o2 oGet (.ok tin_9) (.ok (D.int 1))) (o2 oMul (.ok (D.int 48271)) (o2 oGet (.ok tin_9) (.ok (D.int 2))))) (o2 oAdd (.ok (D.int 39373)) (o2 oGet (.ok tin_9) (.ok (D.int 2)))))) (.ok (D.int 2147483647))) fun once_so_10 => bnS (o2 oAdd (o2 oMod (o1 oInt (.ok once_so_10)) (.ok (D.int 40009))) (.ok (D.int 7))) fun wide_so_11 => bnS (o2 oMod (o1 oInt (o2 oMul (o2 oAdd (o2 oAdd (.ok once_so_10) (o2 oGet (.ok tin_9) (.ok (D.int 2)))) (o2 oFdiv (o2 oGet (.ok tin_9) (.ok (D.int 1))) (.ok (D.int 1000003)))) (.ok wide_so_11))) (.ok (D.int 2147483629))) fun twice_so_12 => bnS (o2 oMod (o1 oInt (o2 oFdiv (o2 oMod (o1 oInt (o2 oAdd (o2 oMul (.ok twice_so_12) (.ok (D.int 48271))) (.ok once_so_10))) (.ok (D.int 2147483587))) (.ok (D.int 64)))) (.ok below_so_2)) fun u_13 => .rt u_13 tin_9
def takeG : DW := fun ds => match ds with
  | [tin_1, below_so_2] => retW (takeB tin_1 below_so_2)
  | _ => .bad
/-- _law_pile -/
def pileB (tin_1 most_so_2 : D) : Fl D Unit := bnS (bnd an0 mkLs) fun found_3 => asL .bad tin_1 (asL .bad found_3 (bnS (bnd (ac0 (o2 oAdd (.ok most_so_2) (.ok (D.int 1))) an0) fun us_5 => asL .bad tin_1 (nox (takeG (tin_1 :: us_5)))) fun q_6 => (fun found_3 left_so_4 w_7 => thnS (whlL (fun (s_8 : D × D × D) => (o2 oGt (.ok s_8.2.2) (.ok (D.int 0)))) (fun s_8 => bnS (vIf (o2 oNe (.ok s_8.2.1) (bnd an0 mkLs)) (o2 oMin2 (.ok s_8.2.2) (o2 oGet (.ok s_8.2.1) (o1 oNeg (.ok (D.int 1))))) (.ok s_8.2.2)) fun top_so_9 => asL .bad s_8.2.1 (bnS (bnd (bnd (.ok (D.int 1)) fun u_15 => .ok (u_15, s_8.1)) fun p_11 => bnd (bnd (ac0 (.ok top_so_9) an0) fun us_16 => asL .bad p_11.2 (nox (takeG (p_11.2 :: us_16)))) fun q_12 => bnd (oAdd p_11.1 q_12.1) fun u_13 => .ok (u_13, q_12.2)) fun p_20 => bnS (oAppend s_8.2.1 p_20.1) ((fun w_18 found_10 => bnS (o2 oSub (.ok s_8.2.2) (o2 oGet (.ok found_10) (o1 oNeg (.ok (D.int 1))))) fun left_so_19 => Fl.nx (w_18, found_10, left_so_19)) p_20.2))) 100000 (w_7, found_3, left_so_4)) fun (s_8 : D × D × D) => bnS (o1 oTuple (.ok s_8.2.1)) fun u_21 => .rt u_21 s_8.1) found_3 q_6.1 q_6.2))
def pileG : DW := fun ds => match ds with
  | [tin_1, most_so_2] => retW (pileB tin_1 most_so_2)
  | _ => .bad
section
variable {α β σ τ : Type}
theorem bnd_ok {a : α} {k : α → R β} : bnd (.ok a) k = k a := rfl
theorem bnS_ok {a : α} {k : α → Fl σ β} : bnS (.ok a) k = k a := rfl
theorem thnS_nx {s : σ} {k : σ → Fl τ β} : thnS (.nx s) k = k s := rfl
theorem thnS_rt {u w : D} {k : σ → Fl τ β} : thnS (.rt u w) k = .rt u w := rfl
theorem tst_t {a b : Fl σ β} : tst (.ok true) a b = a := rfl
theorem tst_f {a b : Fl σ β} : tst (.ok false) a b = b := rfl
theorem asL_l {b : α} {xs : List D} {m : α} : asL b (.lst xs) m = m := rfl
theorem upk2_2 {bad : α} {x y : D} {k : D → D → α} : upk2 bad (.tup [x, y]) k = k x y := rfl
theorem upk3_3 {bad : α} {x y z : D} {k : D → D → D → α} : upk3 bad (.tup [x, y, z]) k = k x y z := rfl
theorem retV_rt {u w : D} : retV (β := β) (.rt u w) = .ok u := rfl
theorem retW_rt {u : D} {xs : List D} : retW (β := β) (.rt u (.lst xs)) = .ok (u, .lst xs) := rfl
end
theorem oAdd_i {i j : Int} : oAdd (.int i) (.int j) = .ok (.int (i + j)) := by rw [oAdd_def]; rfl
theorem oSub_i {i j : Int} : oSub (.int i) (.int j) = .ok (.int (i - j)) := by rw [oSub_def]; rfl
theorem oMul_i {i j : Int} (h : okMul i j = true) : oMul (.int i) (.int j) = .ok (.int (i * j)) := by rw [oMul_def]; show (if okMul i j = true then R.ok (D.int (i * j)) else R.bad) = _; rw [if_pos h]
theorem oMod_i {i j : Int} (h : 0 < j) : oMod (.int i) (.int j) = .ok (.int (i % j)) := by
  rw [oMod_def]; show (if j ≠ 0 then R.ok (D.int (i.fmod j)) else R.bad) = _; rw [if_pos (by omega), Int.fmod_eq_emod_of_nonneg _ (by omega)]
theorem okDiv_s {j : Int} (h : 0 < j) (h2 : j < 1073741824) : okDiv j = true := by
  unfold okDiv; rw [Bool.or_eq_true]; exact .inl (decide_eq_true ⟨by omega, by omega⟩)
theorem oFdiv_i {i j : Int} (h : 0 < j) (h2 : j < 1073741824) : oFdiv (.int i) (.int j) = .ok (.int (i / j)) := by
  rw [oFdiv_def]; show (if okDiv j = true then R.ok (D.int (i.fdiv j)) else R.bad) = _; rw [if_pos (okDiv_s h h2), Int.fdiv_eq_ediv_of_nonneg _ (by omega)]
theorem oGt_i {i j : Int} : oGt (.int i) (.int j) = .ok (decide (j < i)) := by rw [oGt_def]; rfl
theorem oLt_i {i j : Int} : oLt (.int i) (.int j) = .ok (decide (i < j)) := by rw [oLt_def]; rfl
theorem oGe_i {i j : Int} : oGe (.int i) (.int j) = .ok (decide (j ≤ i)) := by rw [oGe_def]; rfl
theorem oLe_i {i j : Int} : oLe (.int i) (.int j) = .ok (decide (i ≤ j)) := by rw [oLe_def]; rfl
theorem okMul_r {i j : Int} (h : -(2 ^ 64) < j) (h2 : j < 2 ^ 64) : okMul i j = true := by
  unfold okMul; rw [Bool.or_eq_true, Bool.or_eq_true]; exact .inl (.inr (decide_eq_true ⟨h, h2⟩))
theorem okMul_l {i j : Int} (h : -(2 ^ 64) < i) (h2 : i < 2 ^ 64) : okMul i j = true := by
  unfold okMul; rw [Bool.or_eq_true, Bool.or_eq_true]; exact .inl (.inl (decide_eq_true ⟨h, h2⟩))
theorem oInt_i {i : Int} : oInt (.int i) = .ok (.int i) := rfl
theorem get3_0 {a b c : D} : oGet (.lst [a, b, c]) (.int 0) = .ok a := rfl
theorem get3_1 {a b c : D} : oGet (.lst [a, b, c]) (.int 1) = .ok b := rfl
theorem get3_2 {a b c : D} : oGet (.lst [a, b, c]) (.int 2) = .ok c := rfl
theorem set3_0 {a b c d : D} : oSetAt (.lst [a, b, c]) (.int 0) d = .ok (.lst [d, b, c]) := rfl
theorem set3_2 {a b c d : D} : oSetAt (.lst [a, b, c]) (.int 2) d = .ok (.lst [a, b, d]) := rfl
/-- a drawing box -/
def Box (m : Int) (d : D) : Prop := ∃ x y z : Int, d = .lst [.int x, .int y, .int z] ∧ 0 ≤ z ∧ z ≤ m
theorem take_ok {d : D} {m n : Int} (h : Box m d) (hm : m < 2 ^ 50) (hn : 0 < n) (hn2 : n < 1073741824) : ∃ (r : Int) (e : D), takeG [d, .int n] = .ok (.int r, e) ∧ 0 ≤ r ∧ r < n ∧ Box (m + 1) e := by
  obtain ⟨x, y, z, rfl, hz, hz2⟩ := h
  show ∃ r e, retW (takeB (.lst [.int x, .int y, .int z]) (.int n)) = _ ∧ _
  unfold takeB
  simp only [o1, o2, bnd_ok, bnS_ok, get3_0, get3_1, get3_2, oGt_i]
  by_cases hx : 0 < x
  · rw [decide_eq_true hx]
    simp only [tst_t, oInt_i, bnd_ok, bnS_ok, oMod_i hn, oFdiv_i hn hn2, set3_0, thnS_rt, retW_rt]
    exact ⟨_, _, rfl, Int.emod_nonneg _ (by omega), Int.emod_lt_of_pos _ hn, _, _, _, rfl, hz, by omega⟩
  · rw [decide_eq_false hx]
    simp only [tst_f, thnS_nx, oInt_i, bnd_ok, bnS_ok, oAdd_i, set3_2, get3_0, get3_1, get3_2]
    rw [oMul_i (okMul_l (by omega) (by omega))]
    simp only [bnd_ok, bnS_ok, oAdd_i]
    rw [oMul_i (okMul_r (by omega) (by omega))]
    simp only [bnd_ok, bnS_ok, oInt_i]
    rw [oMod_i (by omega)]
    simp only [bnd_ok, bnS_ok, oInt_i]
    generalize hq : (y + 48271 * (z + 1)) * (39373 + (z + 1)) % 2147483647 = q
    rw [oMod_i (by omega)]
    simp only [bnd_ok, bnS_ok, oInt_i, oAdd_i]
    rw [oFdiv_i (by omega) (by omega)]
    simp only [bnd_ok, bnS_ok, oInt_i, oAdd_i]
    rw [oMul_i (okMul_r (by omega) (by omega))]
    simp only [bnd_ok, bnS_ok, oInt_i, oAdd_i]
    rw [oMod_i (by omega)]
    simp only [bnd_ok, bnS_ok, oInt_i, oAdd_i]
    rw [oMul_i (okMul_r (by omega) (by omega))]
    simp only [bnd_ok, bnS_ok, oInt_i, oAdd_i]
    rw [oMod_i (by omega)]
    simp only [bnd_ok, bnS_ok, oInt_i, oAdd_i]
    rw [oFdiv_i (by omega) (by omega)]
    simp only [bnd_ok, bnS_ok, oInt_i, oAdd_i]
    rw [oMod_i hn]
    simp only [bnd_ok, bnS_ok, oInt_i, retW_rt]
    exact ⟨_, _, rfl, Int.emod_nonneg _ (by omega), Int.emod_lt_of_pos _ hn, _, _, _, rfl, by omega, by omega⟩
theorem cut_map {α β : Type} (f : α → β) (xs : List α) (lo hi : Option Int) : cut (xs.map f) lo hi = (cut xs lo hi).map f := by
  rw [cut_def]; unfold cut'; simp only [List.length_map, List.map_take, List.map_drop]
theorem cut_len {α : Type} (xs : List α) (lo hi : Option Int) : (cut xs lo hi).length ≤ xs.length := by
  rw [cut_def]; unfold cut'; simp only [List.length_take, List.length_drop]; omega
theorem forL_cons {σ β : Type} {b : σ → D → Fl σ σ} {x : D} {xs : List D} {s s' : σ} (h : b s x = .nx s') : forL (β := β) b (x :: xs) s = forL b xs s' := by
  rw [forL_def]; conv => lhs; unfold forL'
  rw [h]
theorem forL_nil {σ β : Type} {b : σ → D → Fl σ σ} {s : σ} : forL (β := β) b [] s = .nx s := rfl
theorem cells_ok (ns : List Int) (hl : ns.length ≤ 63) : ∃ c : Int, cellsG [.rol (ns.map .int), .int 1] = .ok (.lst [.int c]) := by
  show ∃ c, retV (cellsB (.rol (ns.map .int)) (.int 1)) = _
  unfold cellsB
  obtain ⟨c0, e0⟩ : ∃ c0 : Int, vOr (o1 oList (slc (.ok (.rol (ns.map .int))) (.ok none) (optI (.ok (.int 1))))) (bnd (ac0 (.ok (.int 0)) an0) mkLs) = .ok (.lst [.int c0]) := by
    cases ns with
    | nil => exact ⟨0, rfl⟩
    | cons n ns =>
      refine ⟨n, ?_⟩
      have e : cut ((n :: ns).map D.int) none (some 1) = [.int n] := by
        rw [cut_def]; unfold cut'; rw [cutI_def]; unfold cutI'; simp
      show vOr (o1 oList (.ok (.lst (cut ((n :: ns).map D.int) none (some 1))))) _ = _
      rw [e]; rfl
  rw [e0, bnS_ok]
  have e1 : bnd (slc (.ok (.rol (ns.map .int))) (optI (.ok (.int 1))) (optI (.ok (.int 63)))) wEnum = .ok (enumD 0 ((cut ns (some 1) (some 63)).map .int)) := by
    rw [← cut_map]; rfl
  rw [e1, bnS_ok]
  have hL := cut_len ns (some 1) (some 63)
  generalize cut ns (some 1) (some 63) = L at *
  have loop : ∀ (L : List Int) (k c : Int), 0 ≤ k → k + L.length ≤ 63 → ∃ c' : Int, forL (β := Unit) (fun (s_4 : D) => (fun d_11 => upk2 .bad d_11 fun k_5 bit_so_6 => bnS (o2 oMod (o1 oInt (.ok k_5)) (.ok (.int 1))) fun at_so_7 => bnS (o2 oAdd (o2 oGet (.ok s_4) (.ok at_so_7)) (o2 oMul (.ok bit_so_6) (o2 oAdd (.ok k_5) (.ok (D.int 2))))) fun u_9 => bnS (.ok at_so_7) fun w_10 => bnS (oSetAt s_4 w_10 u_9) fun cells_so_8 => Fl.nx cells_so_8)) (enumD k (L.map .int)) (.lst [.int c]) = .nx (.lst [.int c']) := by
    intro L
    induction L with
    | nil => intro k c _ _; exact ⟨c, rfl⟩
    | cons b L ih =>
      intro k c hk hk2
      rw [List.length_cons] at hk2
      obtain ⟨c', e⟩ := ih (k + 1) (c + b * (k + 2)) (by omega) (by omega)
      refine ⟨c', ?_⟩
      rw [List.map_cons, enumD_cons, forL_cons (s' := .lst [.int (c + b * (k + 2))]) ?_]
      · exact e
      rw [upk2_2]
      simp only [o1, o2, bnd_ok, oInt_i]
      rw [oMod_i (by omega), Int.emod_one]
      simp only [bnS_ok, bnd_ok, oAdd_i]
      have g0 : oGet (.lst [.int c]) (.int 0) = .ok (.int c) := rfl
      have s0 : ∀ d, oSetAt (.lst [.int c]) (.int 0) d = .ok (.lst [d]) := fun _ => rfl
      rw [oMul_i (okMul_r (by omega) (by omega)), g0]
      simp only [bnS_ok, bnd_ok, oAdd_i, s0]
  obtain ⟨c, e⟩ := loop L 0 c0 (by omega) (by omega)
  rw [e]
  exact ⟨c, rfl⟩
theorem box_ok (c : Int) : ∃ e, boxG [.lst [.int c], .int 0] = .ok e ∧ Box 0 e := by
  show ∃ e, retV (boxB (.lst [.int c]) (.int 0)) = _ ∧ _
  unfold boxB
  have e1 : vIf (o2 oLt (.ok (D.int 0)) (o1 oLen (.ok (.lst [.int c])))) (o2 oGet (.ok (.lst [.int c])) (.ok (.int 0))) (.ok (D.int 0)) = .ok (.int c) := rfl
  rw [e1, bnS_ok]
  have e2 : oAbs (.int c) = .ok (.int (if c < 0 then -c else c)) := rfl
  have e3 : o2 oPow (.ok (D.int 10)) (.ok (D.int 18)) = .ok (.int 1000000000000000000) := by
    show (if okPow 10 18 then R.ok (D.int (10 ^ (18 : Int).toNat)) else R.bad) = _
    rw [if_pos (by decide)]; rfl
  rw [e3]
  simp only [o1, o2, bnd_ok, e2, oGe_i, vB]
  obtain ⟨b, e4⟩ : ∃ b : Int, oInt (.bl (decide (1000000000000000000 ≤ if c < 0 then -c else c))) = .ok (.int b) ∧ 0 ≤ b ∧ b ≤ 1 := by
    cases decide (1000000000000000000 ≤ if c < 0 then -c else c)
    · exact ⟨0, rfl, by omega, by omega⟩
    · exact ⟨1, rfl, by omega, by omega⟩
  rw [e4.1]
  simp only [bnd_ok, oInt_i]
  rw [oMul_i (okMul_r (by omega) (by omega)), oMod_i (by omega)]
  simp only [bnd_ok, oInt_i]
  rw [oMul_i (okMul_r (by omega) (by omega))]
  simp only [bnd_ok, oAdd_i]
  exact ⟨_, rfl, _, _, _, rfl, by omega, by omega⟩
/-- a pile: parts that don't grow -/
def Fits : Int → List Int → Prop
  | _, [] => True
  | t, y :: ys => 1 ≤ y ∧ y ≤ t ∧ Fits y ys
abbrev tI (xs : List Int) : D := .tup (xs.map .int)
abbrev lI (xs : List Int) : D := .lst (xs.map .int)
def pT : D × D × D → R Bool := fun s_8 => (o2 oGt (.ok s_8.2.2) (.ok (D.int 0)))
def pB : D × D × D → Fl (D × D × D) (D × D × D) := fun s_8 => bnS (vIf (o2 oNe (.ok s_8.2.1) (bnd an0 mkLs)) (o2 oMin2 (.ok s_8.2.2) (o2 oGet (.ok s_8.2.1) (o1 oNeg (.ok (D.int 1))))) (.ok s_8.2.2)) fun top_so_9 => asL .bad s_8.2.1 (bnS (bnd (bnd (.ok (D.int 1)) fun u_15 => .ok (u_15, s_8.1)) fun p_11 => bnd (bnd (ac0 (.ok top_so_9) an0) fun us_16 => asL .bad p_11.2 (nox (takeG (p_11.2 :: us_16)))) fun q_12 => bnd (oAdd p_11.1 q_12.1) fun u_13 => .ok (u_13, q_12.2)) fun p_20 => bnS (oAppend s_8.2.1 p_20.1) ((fun w_18 found_10 => bnS (o2 oSub (.ok s_8.2.2) (o2 oGet (.ok found_10) (o1 oNeg (.ok (D.int 1))))) fun left_so_19 => Fl.nx (w_18, found_10, left_so_19)) p_20.2))
theorem dats_ints {n : Nat} : ∀ xs : List Int, D.dats n (xs.map .int) = true
  | [] => by unfold D.dats; rfl
  | x :: xs => by rw [List.map_cons]; unfold D.dats; rw [dats_ints xs]; unfold D.dat; rfl
theorem oNe_lI {xs : List Int} : oNe (lI xs) (.lst []) = .ok (!xs.isEmpty) := by
  unfold oNe; rw [oEq_def]
  have : oEq' (lI xs) (.lst []) = .ok xs.isEmpty := by
    show (if D.dat 60 (lI xs) && D.dat 60 (.lst []) then R.ok (D.eqv (lI xs) (.lst [])) else R.bad) = _
    have h1 : D.dat 60 (lI xs) = true := by unfold D.dat; exact dats_ints xs
    have h2 : D.dat 60 (.lst []) = true := by unfold D.dat D.dats; rfl
    rw [h1, h2]
    cases xs <;> (unfold D.eqv D.eqvs; rfl)
  rw [this]; rfl
theorem oGet_last {zs : List Int} {l : Int} : oGet (lI (zs ++ [l])) (.int (-1)) = .ok (.int l) := by
  rw [oGet_def]
  show (withI (lI (zs ++ [l])) fun xs => ofO (atD xs (-1))) = _
  show ofO (atD ((zs ++ [l]).map D.int) (-1)) = _
  rw [atD_def]; unfold atD'
  have hlen : (((zs ++ [l]).map D.int).length : Int) = zs.length + 1 := by simp
  rw [if_neg (by omega), if_pos (by omega)]
  have : ((((zs ++ [l]).map D.int).length : Int) + -1).toNat = zs.length := by omega
  rw [this]
  simp
  rfl
theorem oAppend_lI {xs : List Int} {y : Int} (h : xs.length < 1000000) : oAppend (lI xs) (.int y) = .ok (lI (xs ++ [y])) := by
  rw [oAppend_def]
  show (if (xs.map D.int).length < bigL then R.ok (D.lst (xs.map D.int ++ [.int y])) else R.bad) = _
  rw [if_pos (by rw [List.length_map]; exact h)]; show _ = R.ok (D.lst ((xs ++ [y]).map D.int)); rw [List.map_append]; rfl
theorem nox_ok {p : D × D} : nox (.ok p) = .ok p := rfl
theorem Box.lst {m : Int} {d : D} (h : Box m d) : ∃ xs, d = .lst xs := by obtain ⟨x, y, z, rfl, _⟩ := h; exact ⟨_, rfl⟩
theorem pile_loop : ∀ (n : Nat) (left : Int) (xs : List Int) (top : Int) (w : D) (m : Int) (fuel : Nat), 0 ≤ left → left ≤ n → ((xs = [] ∧ top = left) ∨ (∃ zs, xs = zs ++ [top] ∧ 1 ≤ top)) → xs.length + left ≤ 1000 → Box m w → m + left < 2 ^ 50 → n ≤ fuel →
    ∃ ys w', whlL (β := Unit) pT pB fuel (w, lI xs, .int left) = .nx (w', lI (xs ++ ys), .int 0) ∧ Fits top ys ∧ ys.sum = left ∧ Box (m + left) w' := by
  intro n
  induction n with
  | zero =>
    intro left xs top w m fuel h0 h1 _ _ hb _ _
    have : left = 0 := by omega
    subst this
    refine ⟨[], w, ?_, trivial, rfl, by simpa using hb⟩
    rw [List.append_nil]
    exact whl_no (show pT (w, lI xs, .int 0) = .ok false from rfl) fuel
  | succ n ih =>
    intro left xs top w m fuel h0 h1 hx hl hb hm hf
    by_cases hz : left = 0
    · subst hz
      refine ⟨[], w, ?_, trivial, rfl, by simpa using hb⟩
      rw [List.append_nil]
      exact whl_no (show pT (w, lI xs, .int 0) = .ok false from rfl) fuel
    obtain ⟨fuel, rfl⟩ : ∃ f, fuel = f + 1 := ⟨fuel - 1, by omega⟩
    have eT : pT (w, lI xs, .int left) = .ok true := by
      show oGt (.int left) (.int 0) = _
      rw [oGt_i, decide_eq_true (by omega)]
    obtain ⟨tv, ev, ht1, ht2, ht3⟩ : ∃ tv : Int, vIf (o2 oNe (.ok (lI xs)) (bnd an0 mkLs)) (o2 oMin2 (.ok (.int left)) (o2 oGet (.ok (lI xs)) (o1 oNeg (.ok (D.int 1))))) (.ok (.int left)) = .ok (.int tv) ∧ 1 ≤ tv ∧ tv ≤ left ∧ tv ≤ top := by
      have e0 : o2 oNe (.ok (lI xs)) (bnd an0 mkLs) = .ok (!xs.isEmpty) := by
        show oNe (lI xs) (.lst []) = _
        exact oNe_lI
      rw [e0]
      rcases hx with ⟨rfl, rfl⟩ | ⟨zs, rfl, ht⟩
      · exact ⟨top, rfl, by omega, by omega, by omega⟩
      · have e1 : (!(zs ++ [top]).isEmpty) = true := by cases zs <;> rfl
        rw [e1]
        show ∃ tv, o2 oMin2 (.ok (.int left)) (oGet (lI (zs ++ [top])) (.int (-1))) = _ ∧ _
        rw [oGet_last]
        refine ⟨if top < left then top else left, ?_, ?_⟩
        · show oMin2 (.int left) (.int top) = _
          rw [oMin2_def]; rfl
        · split <;> omega
    obtain ⟨r, e, et, hr0, hr1, hbe⟩ := take_ok (n := tv) hb (by omega) (by omega) (by omega)
    have eB : pB (w, lI xs, .int left) = .nx (e, lI (xs ++ [1 + r]), .int (left - (1 + r))) := by
      unfold pB
      dsimp only
      rw [ev, bnS_ok, asL_l]
      obtain ⟨wl, rfl⟩ := hb.lst
      simp only [bnd_ok, asL_l, et, nox_ok, oAdd_i, bnS_ok]
      rw [oAppend_lI (by omega)]
      simp only [o1, o2, bnd_ok, bnS_ok]
      have en : oNeg (.int 1) = .ok (.int (-1)) := rfl
      rw [en, bnd_ok, oGet_last]
      simp only [bnd_ok, oSub_i, bnS_ok]
    rw [whl_go eT eB]
    obtain ⟨ys, w', h2, h3, h4, h5⟩ := ih (left - (1 + r)) (xs ++ [1 + r]) (1 + r) e (m + 1) fuel (by omega) (by omega) (.inr ⟨xs, rfl, by omega⟩) (by rw [List.length_append]; simp; omega) hbe (by omega) (by omega)
    refine ⟨(1 + r) :: ys, w', ?_, ⟨by omega, by omega, h3⟩, by rw [List.sum_cons]; omega, ?_⟩
    · rw [h2, List.append_assoc]; rfl
    · obtain ⟨x, y, z, rfl, hz1, hz2⟩ := h5
      exact ⟨x, y, z, rfl, hz1, by omega⟩
theorem pile_ok {d : D} {m n : Int} (h : Box m d) (hm : m < 2 ^ 40) (hn : 0 ≤ n) (hn2 : n < 900) : ∃ (ys : List Int) (e : D), pileG [d, .int n] = .ok (tI ys, e) ∧ 0 ≤ ys.sum ∧ ys.sum ≤ n ∧ Fits ys.sum ys ∧ Box (m + 1 + n) e := by
  obtain ⟨r, e, et, hr0, hr1, hbe⟩ := take_ok (n := n + 1) h (by omega) (by omega) (by omega)
  obtain ⟨ys, w', h2, h3, h4, h5⟩ := pile_loop r.toNat r [] r e (m + 1) 100000 hr0 (by omega) (.inl ⟨rfl, rfl⟩) (by simp; omega) hbe (by omega) (by omega)
  obtain ⟨wl, rfl⟩ := h.lst
  obtain ⟨x', y', z', rfl, z1, z2⟩ := h5
  refine ⟨ys, _, ?_, by omega, by omega, by rw [h4]; exact h3, ⟨x', y', z', rfl, z1, by omega⟩⟩
  show retW (pileB (.lst wl) (.int n)) = _
  unfold pileB
  simp only [an0, ac0, mkLs, bnd_ok, bnS_ok, asL_l, o1, o2, oAdd_i, et, nox_ok]
  have q : whlL (β := Unit) pT pB 100000 (e, lI [], D.int r) = _ := h2
  unfold pT pB at q
  simp only [an0, ac0, mkLs, bnd_ok, bnS_ok, asL_l, o1, o2, oAdd_i, nox_ok] at q
  show retW (thnS (whlL (β := Unit) _ _ 100000 (e, lI [], D.int r)) _) = _
  rw [q]
  rfl
def pilesF : Nat → Nat → Nat → List (List Int)
  | 0, _, left => if left = 0 then [[]] else []
  | f + 1, top, left => if left = 0 then [[]] else (List.range (min top left)).flatMap fun k => (pilesF f (k + 1) (left - (k + 1))).map fun ys => Int.ofNat (k + 1) :: ys
def allPiles (n : Nat) : List (List Int) := (List.range (n + 1)).flatMap fun s => pilesF s s s
theorem Fits.sum_nn : ∀ {t : Int} {ys : List Int}, Fits t ys → 0 ≤ ys.sum
  | _, [], _ => by simp
  | _, y :: ys, h => by have := h.2.2.sum_nn; rw [List.sum_cons]; have := h.1; omega
theorem mem_pilesF : ∀ (f top left : Nat) (ys : List Int), Fits top ys → ys.sum = left → left ≤ f → ys ∈ pilesF f top left
  | f, top, left, [], _, hs, _ => by
    have : left = 0 := by simpa using hs.symm
    subst this
    cases f <;> simp [pilesF]
  | 0, top, left, y :: ys, h, hs, hl => by
    have := h.2.2.sum_nn; have := h.1
    rw [List.sum_cons] at hs
    omega
  | f + 1, top, left, y :: ys, h, hs, hl => by
    obtain ⟨h1, h2, h3⟩ := h
    have h4 := h3.sum_nn
    rw [List.sum_cons] at hs
    unfold pilesF
    rw [if_neg (by omega), List.mem_flatMap]
    obtain ⟨k, rfl⟩ : ∃ k : Nat, y = Int.ofNat (k + 1) := ⟨(y - 1).toNat, by rw [Int.ofNat_eq_natCast]; omega⟩
    rw [Int.ofNat_eq_natCast] at hs h2
    refine ⟨k, List.mem_range.2 (by omega), List.mem_map.2 ⟨ys, mem_pilesF f (k + 1) (left - (k + 1)) ys h3 (by omega) (by omega), rfl⟩⟩
theorem mem_allPiles {n : Nat} {ys : List Int} (h : Fits ys.sum ys) (h2 : ys.sum ≤ n) : ys ∈ allPiles n := by
  have h0 := h.sum_nn
  unfold allPiles
  rw [List.mem_flatMap]
  refine ⟨ys.sum.toNat, List.mem_range.2 (by omega), mem_pilesF _ _ _ _ (by rw [Int.toNat_of_nonneg h0]; exact h) (by omega) (Nat.le_refl _)⟩
end
end Qz
/-! Qz: sums and products of fractions, as the program and the laws write them. -/
namespace Qz
noncomputable section
abbrev MadeOk (M : DF) : Prop := ∀ (i : Int) (b : Nat), 0 < b → b < 2 ^ 4000 → M [.int i, .int b] = .ok (.tup [.int (xdiv i (Nat.gcd i.natAbs b)), .int (.ofNat (Nat.div b (Nat.gcd i.natAbs b)))])
theorem MadeOk.rat {M : DF} (h : MadeOk M) {i : Int} {b : Nat} (hb : b ≠ 0) (h2 : b < 2 ^ 4000) : M [.int i, .int b] = .ok (qD (Rat.normalize i b hb)) := by
  rw [h i b (by omega) h2, made_rat hb]
/-- not too wide -/
def Sm (a : Nat) (q : Rat) : Prop := q.num.natAbs ≤ 2 ^ a ∧ q.den ≤ 2 ^ a
theorem Sm.mono {a b : Nat} {q : Rat} (h : Sm a q) (hab : a ≤ b) : Sm b q :=
  ⟨Nat.le_trans h.1 (Nat.pow_le_pow_right (by omega) hab), Nat.le_trans h.2 (Nat.pow_le_pow_right (by omega) hab)⟩
theorem sm_normalize {a : Nat} {i : Int} {b : Nat} {hb : b ≠ 0} (h1 : i.natAbs ≤ 2 ^ a) (h2 : b ≤ 2 ^ a) : Sm a (Rat.normalize i b hb) := by
  rw [Rat.normalize_eq]
  have hg : 0 < Nat.gcd i.natAbs b := Nat.gcd_pos_of_pos_right _ (by omega)
  refine ⟨?_, Nat.le_trans (Nat.div_le_self _ _) h2⟩
  show (i / (Nat.gcd i.natAbs b : Int)).natAbs ≤ _
  have hd : (Nat.gcd i.natAbs b : Int) ∣ i := Int.ofNat_dvd_left.2 (Nat.gcd_dvd_left _ _)
  rw [Int.natAbs_ediv_of_dvd hd]
  exact Nat.le_trans (Nat.div_le_self _ _) h1
theorem okMul_big {i j : Int} (h : i.natAbs ≤ 2 ^ 3999) (h2 : j.natAbs ≤ 2 ^ 3999) : okMul i j = true := by
  unfold okMul
  rw [Bool.or_eq_true]
  right
  rw [Bool.and_eq_true]
  exact ⟨decide_eq_true (Nat.lt_of_le_of_lt h (Nat.pow_lt_pow_right (by omega) (by omega))), decide_eq_true (Nat.lt_of_le_of_lt h2 (Nat.pow_lt_pow_right (by omega) (by omega)))⟩
theorem natAbs_mul_le {i j : Int} {a b : Nat} (h : i.natAbs ≤ 2 ^ a) (h2 : j.natAbs ≤ 2 ^ b) : (i * j).natAbs ≤ 2 ^ (a + b) := by
  rw [Int.natAbs_mul, Nat.pow_add]; exact Nat.mul_le_mul h h2
theorem le_big {n a : Nat} (h : n ≤ 2 ^ a) (ha : a ≤ 3999) : n ≤ 2 ^ 3999 := Nat.le_trans h (Nat.pow_le_pow_right (by omega) ha)
theorem lt_big {n a : Nat} (h : n ≤ 2 ^ a) (ha : a ≤ 3999) : n < 2 ^ 4000 := Nat.lt_of_le_of_lt h (Nat.pow_lt_pow_right (by omega) (by omega))
/-- the product of two pairs, by M -/
def tmB (M : DF) (one two : D) : Fl Unit Unit := bnS (bnd (ac0 (o2 oMul (o2 oGet (.ok one) (.ok (D.int 0))) (o2 oGet (.ok two) (.ok (D.int 0)))) (ac0 (o2 oMul (o2 oGet (.ok one) (.ok (D.int 1))) (o2 oGet (.ok two) (.ok (D.int 1)))) an0)) M) fun u_3 => .rt u_3 .non
def plB (M : DF) (one_1 other_2 : D) : Fl Unit Unit := bnS (bnd (ac0 (o2 oAdd (o2 oMul (o2 oGet (.ok one_1) (.ok (D.int 0))) (o2 oGet (.ok other_2) (.ok (D.int 1)))) (o2 oMul (o2 oGet (.ok other_2) (.ok (D.int 0))) (o2 oGet (.ok one_1) (.ok (D.int 1))))) (ac0 (o2 oMul (o2 oGet (.ok one_1) (.ok (D.int 1))) (o2 oGet (.ok other_2) (.ok (D.int 1)))) an0)) M) fun u_3 => .rt u_3 .non
theorem get2_0 {a b : D} : oGet (.tup [a, b]) (.int 0) = .ok a := rfl
theorem get2_1 {a b : D} : oGet (.tup [a, b]) (.int 1) = .ok b := rfl
theorem tm_raw {M : DF} (hM : MadeOk M) {i j : Int} {b d : Nat} {x y : Nat} (h1 : i.natAbs ≤ 2 ^ x) (h2 : b ≤ 2 ^ x) (h3 : j.natAbs ≤ 2 ^ y) (h4 : d ≤ 2 ^ y) (hxy : x + y ≤ 3000) (hb : b ≠ 0) (hd : d ≠ 0) :
    retV (tmB M (.tup [.int i, .int b]) (.tup [.int j, .int d])) = .ok (qD (Rat.normalize (i * j) (b * d) (Nat.mul_ne_zero hb hd))) ∧ Sm (x + y) (Rat.normalize (i * j) (b * d) (Nat.mul_ne_zero hb hd)) := by
  have hbd : b * d ≤ 2 ^ (x + y) := by rw [Nat.pow_add]; exact Nat.mul_le_mul h2 h4
  refine ⟨?_, sm_normalize (natAbs_mul_le h1 h3) hbd⟩
  unfold tmB
  simp only [ac0, an0, o2, bnd_ok, get2_0, get2_1]
  rw [oMul_i (okMul_big (le_big h1 (by omega)) (le_big h3 (by omega))), oMul_i (okMul_big (le_big (a := x) (by simpa using h2) (by omega)) (le_big (a := y) (by simpa using h4) (by omega)))]
  simp only [bnd_ok]
  have e : ((b : Int) * (d : Int)) = ((b * d : Nat) : Int) := by rw [Int.natCast_mul]
  rw [e, hM.rat (Nat.mul_ne_zero hb hd) (lt_big hbd (by omega))]
  rfl
theorem pl_raw {M : DF} (hM : MadeOk M) {i j : Int} {b d : Nat} {x y : Nat} (h1 : i.natAbs ≤ 2 ^ x) (h2 : b ≤ 2 ^ x) (h3 : j.natAbs ≤ 2 ^ y) (h4 : d ≤ 2 ^ y) (hxy : x + y ≤ 3000) (hb : b ≠ 0) (hd : d ≠ 0) :
    retV (plB M (.tup [.int i, .int b]) (.tup [.int j, .int d])) = .ok (qD (Rat.normalize (i * d + j * b) (b * d) (Nat.mul_ne_zero hb hd))) ∧ Sm (x + y + 1) (Rat.normalize (i * d + j * b) (b * d) (Nat.mul_ne_zero hb hd)) := by
  have hbd : b * d ≤ 2 ^ (x + y) := by rw [Nat.pow_add]; exact Nat.mul_le_mul h2 h4
  have k2 : (b : Int).natAbs ≤ 2 ^ x := by simpa using h2
  have k4 : (d : Int).natAbs ≤ 2 ^ y := by simpa using h4
  refine ⟨?_, sm_normalize ?_ (Nat.le_trans hbd (Nat.pow_le_pow_right (by omega) (by omega)))⟩
  · unfold plB
    simp only [ac0, an0, o2, bnd_ok, get2_0, get2_1]
    rw [oMul_i (okMul_big (le_big h1 (by omega)) (le_big k4 (by omega))), oMul_i (okMul_big (le_big h3 (by omega)) (le_big k2 (by omega))), oMul_i (okMul_big (le_big k2 (by omega)) (le_big k4 (by omega)))]
    simp only [bnd_ok, oAdd_i]
    have e : ((b : Int) * (d : Int)) = ((b * d : Nat) : Int) := by rw [Int.natCast_mul]
    rw [e, hM.rat (Nat.mul_ne_zero hb hd) (lt_big hbd (by omega))]
    rfl
  · have a1 := natAbs_mul_le h1 k4
    have a2 := natAbs_mul_le h3 k2
    rw [Nat.add_comm y x] at a2
    have a3 := Int.natAbs_add_le (i * d) (j * b)
    rw [Nat.pow_succ]
    omega
theorem tm_q {M : DF} (hM : MadeOk M) {p q : Rat} {x y : Nat} (h1 : Sm x p) (h2 : Sm y q) (hxy : x + y ≤ 3000) : retV (tmB M (qD p) (qD q)) = .ok (qD (p * q)) ∧ Sm (x + y) (p * q) := by
  rw [Rat.mul_def]
  exact tm_raw hM h1.1 h1.2 h2.1 h2.2 hxy p.den_nz q.den_nz
theorem pl_q {M : DF} (hM : MadeOk M) {p q : Rat} {x y : Nat} (h1 : Sm x p) (h2 : Sm y q) (hxy : x + y ≤ 3000) : retV (plB M (qD p) (qD q)) = .ok (qD (p + q)) ∧ Sm (x + y + 1) (p + q) := by
  rw [Rat.add_def]
  exact pl_raw hM h1.1 h1.2 h2.1 h2.2 hxy p.den_nz q.den_nz
theorem qD_one : qD 1 = .tup [.int 1, .int 1] := rfl
theorem qD_zero : qD 0 = .tup [.int 0, .int 1] := rfl
theorem sm_one {a : Nat} : Sm a 1 := ⟨Nat.one_le_two_pow, Nat.one_le_two_pow⟩
end
end Qz
/-! Qz: the laws' own comparing: alike to itself. -/
namespace Qz
noncomputable section
def sameB (self : DF) (got_1 due_2 : D) : Fl Unit Unit := thnS (tst (o1 tru (vB (o1 (oIsi [.list, .tuple]) (.ok due_2)))) (thnS (tst (Qz.tOr (o2 oNe (vB (o1 (oIsi [.list]) (.ok got_1))) (vB (o1 (oIsi [.list]) (.ok due_2)))) (o2 oNe (vB (o1 (oIsi [.tuple]) (.ok got_1))) (vB (o1 (oIsi [.tuple]) (.ok due_2))))) (bnS (.ok (D.bl false)) fun u_5 => .rt u_5 .non) (Fl.nx ())) fun (s_4 : Unit) => bnS (vAnd (vB (o2 oEq (o1 oLen (.ok got_1)) (o1 oLen (.ok due_2)))) (vB (o1 oAll (cmp (bnd (.ok got_1) fun u => bnd (.ok due_2) fun w => wZip u w) (fun d => U2 d _ fun p_6 => (.ok true)) (fun d => U2 d _ fun p_6 => (bnd (ac0 (.ok p_6.1) (ac0 (.ok p_6.2) an0)) self)))))) fun u_7 => .rt u_7 .non) (Fl.nx ())) fun (s_3 : Unit) => thnS (tst (Qz.tOr (o1 oIsN (.ok due_2)) (o1 tru (vB (o1 (oIsi [.bool, .str]) (.ok due_2))))) (bnS (vAnd (vB (o2 oEq (.ok got_1) (.ok due_2))) (vAnd (vB (o2 oEq (vB (o1 (oIsi [.bool]) (.ok got_1))) (vB (o1 (oIsi [.bool]) (.ok due_2))))) (vB (o2 oEq (vB (o1 oIsN (.ok got_1))) (vB (o1 oIsN (.ok due_2))))))) fun u_9 => .rt u_9 .non) (Fl.nx ())) fun (s_8 : Unit) => bnS (vAnd (vB (o1 (oIsi [.int]) (.ok got_1))) (vAnd (vB (Qz.tNot (o1 tru (vB (o1 (oIsi [.bool]) (.ok got_1)))))) (vB (o2 oEq (.ok got_1) (.ok due_2))))) fun u_10 => .rt u_10 .non
def sameN : Nat → DF
  | 0 => fun _ => .bad
  | n + 1 => fun ds => match ds with
    | [got_1, due_2] => retV (sameB (sameN n) got_1 due_2)
    | _ => .bad
def Scal : D → Prop
  | .non => True
  | .bl _ => True
  | .int _ => True
  | .str _ => True
  | _ => False
/-- plain data, n deep at most -/
def Pl : Nat → D → Prop
  | 0, d => Scal d
  | n + 1, d => Scal d ∨ ∃ xs, (d = .tup xs ∨ d = .lst xs) ∧ xs.length ≤ bigL ∧ ∀ x ∈ xs, Pl n x
theorem oEq_int {i j : Int} : oEq (.int i) (.int j) = .ok (i == j) := by rw [oEq_def]; rfl
theorem oEq_str {x : PySem.Str} : oEq (.str x) (.str x) = .ok true := by
  rw [oEq_def]
  show (if D.dat 60 (.str x) && D.dat 60 (.str x) then R.ok (D.eqv (.str x) (.str x)) else R.bad) = _
  have h1 : D.dat 60 (.str x) = true := by unfold D.dat; rfl
  have h2 : D.eqv (.str x) (.str x) = true := by unfold D.eqv; exact beq_self_eq_true x
  rw [h1, h2]; rfl
theorem oEq_bl {b c : Bool} : oEq (.bl b) (.bl c) = .ok (b == c) := by cases b <;> cases c <;> rfl
theorem oEq_non : oEq .non .non = .ok true := by
  rw [oEq_def]
  show (if D.dat 60 .non && D.dat 60 .non then R.ok (D.eqv .non .non) else R.bad) = _
  have h1 : D.dat 60 .non = true := by unfold D.dat; rfl
  have h2 : D.eqv .non .non = true := by unfold D.eqv; rfl
  rw [h1, h2]; rfl
theorem same_scal {f : DF} {d : D} (h : Scal d) : retV (sameB f d d) = .ok (.bl true) := by
  cases d with
  | non =>
    unfold sameB
    have i1 : ∀ ts, oIsi ts .non = .ok (ts.any (isA .none)) := fun ts => by rw [oIsi_def]; rfl
    simp only [o1, o2, bnd_ok, i1, vB, oEq_non]
    rfl
  | bl b =>
    unfold sameB
    have i1 : ∀ ts, oIsi ts (.bl b) = .ok (ts.any (isA .bool)) := fun ts => by rw [oIsi_def]; rfl
    have e : oEq (.bl b) (.bl b) = .ok true := by rw [oEq_bl]; cases b <;> rfl
    simp only [o1, o2, bnd_ok, i1, vB, e]
    rfl
  | int i =>
    unfold sameB
    have i1 : ∀ ts, oIsi ts (.int i) = .ok (ts.any (isA .int)) := fun ts => by rw [oIsi_def]; rfl
    have e : oEq (.int i) (.int i) = .ok true := by rw [oEq_int, beq_self_eq_true]
    simp only [o1, o2, bnd_ok, i1, vB, e]
    rfl
  | str x =>
    unfold sameB
    have i1 : ∀ ts, oIsi ts (.str x) = .ok (ts.any (isA .str)) := fun ts => by rw [oIsi_def]; rfl
    simp only [o1, o2, bnd_ok, i1, vB, oEq_str]
    rfl
  | _ => exact h.elim
theorem same_zip {f : DF} : ∀ {xs : List D}, (∀ x ∈ xs, f [x, x] = .ok (.bl true)) → cmpL (fun d => U2 d _ fun p_6 => (.ok true)) (fun d => U2 d _ fun p_6 => (bnd (ac0 (.ok p_6.1) (ac0 (.ok p_6.2) an0)) f)) (zipD xs xs) = .ok (List.replicate xs.length (.bl true))
  | [], _ => rfl
  | x :: xs, h => by
    have ih := same_zip (xs := xs) fun y hy => h y (List.mem_cons_of_mem _ hy)
    have e := h x (List.mem_cons_self ..)
    rw [zipD_cons, cmpL_def]
    unfold cmpL'
    rw [← cmpL_def, ih]
    show (match f [x, x] with | .ok v => _ | _ => _) = _
    rw [e]; rfl
theorem blsD_rep : ∀ n, blsD (List.replicate n (D.bl true)) = some (List.replicate n true)
  | 0 => rfl
  | n + 1 => by
    rw [List.replicate_succ, blsD_def]; unfold blsD'; rw [← blsD_def, blsD_rep n]; rfl
theorem oAll_rep {n : Nat} : oAll (.lst (List.replicate n (D.bl true))) = .ok true := by
  show (bnd (ofO (blsD (List.replicate n (D.bl true)))) fun bs => R.ok (bs.all id)) = _
  rw [blsD_rep]
  show R.ok ((List.replicate n true).all id) = _
  congr 1
  rw [List.all_eq_true]
  intro x hx
  rw [(List.mem_replicate.1 hx).2]; rfl
theorem same_list {f : DF} {d : D} {xs : List D} (hd : d = .tup xs ∨ d = .lst xs) (hl : xs.length ≤ bigL) (h : ∀ x ∈ xs, f [x, x] = .ok (.bl true)) : retV (sameB f d d) = .ok (.bl true) := by
  have z : cmp (.ok (zipD xs xs)) (fun d => U2 d _ fun p_6 => (.ok true)) (fun d => U2 d _ fun p_6 => (bnd (ac0 (.ok p_6.1) (ac0 (.ok p_6.2) an0)) f)) = .ok (.lst (List.replicate xs.length (.bl true))) := by
    rw [cmp_def]; unfold cmp'
    rw [bnd_ok, same_zip h, bnd_ok, if_pos (by rw [List.length_replicate]; exact hl)]
  have z : cmp (.ok (zipD xs xs)) (fun d => U2 d _ fun p_6 => (.ok true)) (fun d => U2 d _ fun p_6 => f [p_6.1, p_6.2]) = .ok (.lst (List.replicate xs.length (.bl true))) := z
  have ln : oLen d = .ok (.int xs.length) := by
    rcases hd with rfl | rfl
    · rw [oLen_def]; rfl
    · rw [oLen_def]; rfl
  have wz : wZip d d = .ok (zipD xs xs) := by rcases hd with rfl | rfl <;> rfl
  have e : oEq (.int xs.length) (.int xs.length) = .ok true := by rw [oEq_int, beq_self_eq_true]
  unfold sameB
  rcases hd with rfl | rfl
  · have i1 : ∀ ts, oIsi ts (.tup xs) = .ok (ts.any (isA .tuple)) := fun ts => by rw [oIsi_def]; rfl
    simp only [o1, o2, bnd_ok, i1, vB, ln, e, wz, z, oAll_rep]
    rfl
  · have i1 : ∀ ts, oIsi ts (.lst xs) = .ok (ts.any (isA .list)) := fun ts => by rw [oIsi_def]; rfl
    simp only [o1, o2, bnd_ok, i1, vB, ln, e, wz, z, oAll_rep]
    rfl
theorem same_refl : ∀ (n m : Nat) (d : D), Pl n d → n < m → sameN m [d, d] = .ok (.bl true)
  | 0, m + 1, d, h, _ => same_scal h
  | n + 1, m + 1, d, h, hm => by
    rcases h with h | ⟨xs, hd, hl, h⟩
    · exact same_scal h
    · exact same_list hd hl fun x hx => same_refl n m x (h x hx) (by omega)
end
end Qz
namespace QzG
noncomputable section
open PySem PySem.Spec L2 Qz
@[reducible] def an : R (List D) := .ok []
@[reducible] def ac (r : R D) (A : R (List D)) : R (List D) := bnd r fun u => bnd A fun us => .ok (u :: us)
def top (i : Nat) : Stmt := PySem.Challenge.pw_stairlaid_k78_whole_sums_over_hooks.main.body.getD i (.Pass ⟨0, 0, 0, 0⟩)
def f0 : DefI := ⟨"is_number", ["thing"], top 4⟩
def f1 : DefI := ⟨"is_from", ["thing", "least"], top 5⟩
def f2 : DefI := ⟨"is_within", ["thing", "least", "most"], top 6⟩
def f3 : DefI := ⟨"is_long", ["thing", "length"], top 7⟩
def f4 : DefI := ⟨"tupled", ["value"], top 8⟩
def f5 : DefI := ⟨"sure_size", ["size"], top 10⟩
def f6 : DefI := ⟨"is_stack_in", ["thing"], top 12⟩
def f7 : DefI := ⟨"sure_stack", ["stack"], top 13⟩
def f8 : DefI := ⟨"turned_in", ["stack"], top 14⟩
def f9 : DefI := ⟨"hook_in", ["stack", "turned", "cell"], top 15⟩
def f10 : DefI := ⟨"all_in", ["number"], top 16⟩
def f11 : DefI := ⟨"sure_pair", ["stack", "size"], top 18⟩
def f12 : DefI := ⟨"made", ["above", "below"], top 23⟩
def f13 : DefI := ⟨"times", ["one", "other"], top 24⟩
def f14 : DefI := ⟨"plus", ["one", "other"], top 25⟩
def f15 : DefI := ⟨"less", ["one", "other"], top 26⟩
def f16 : DefI := ⟨"hooks_by", ["stack"], top 27⟩
def f17 : DefI := ⟨"product_in", ["stack", "size", "number"], top 28⟩
def f18 : DefI := ⟨"sum_in", ["size", "many", "number"], top 29⟩
def f19 : DefI := ⟨"power_row", ["step", "most", "power"], top 30⟩
def f20 : DefI := ⟨"row_product", ["one", "other"], top 31⟩
def f21 : DefI := ⟨"part_in", ["size", "many", "number"], top 32⟩
def f22 : DefI := ⟨"is_fraction_in", ["thing"], top 33⟩
def f23 : DefI := ⟨"sure_asked", ["size", "many", "number"], top 34⟩
def f24 : DefI := ⟨"hook_product", ["stack", "size", "number"], top 35⟩
def f25 : DefI := ⟨"hook_sum", ["size", "many", "number"], top 36⟩
def f26 : DefI := ⟨"power_part", ["size", "many", "number"], top 37⟩
def f27 : DefI := ⟨"power_parts", ["step", "most", "power"], top 38⟩
def f28 : DefI := ⟨"hook_squares", ["stack"], top 39⟩
def f29 : DefI := ⟨"_law_box", ["script", "k"], top 41⟩
def f30 : DefI := ⟨"_law_take", ["tin", "below_so"], top 42⟩
def f31 : DefI := ⟨"_law_cells", ["script", "most_so"], top 43⟩
def f32 : DefI := ⟨"_law_lists", ["matter"], top 44⟩
def f33 : DefI := ⟨"_law_same", ["got", "due"], top 45⟩
def f34 : DefI := ⟨"_law_unmarked", ["told_so"], top 46⟩
def f35 : DefI := ⟨"_law_call", ["door", "goods_so"], top 47⟩
def f36 : DefI := ⟨"_law_parts", ["number_so"], top 48⟩
def f37 : DefI := ⟨"_law_spots", ["pile_so"], top 49⟩
def f38 : DefI := ⟨"_law_hook", ["pile_so", "x", "row_so"], top 50⟩
def f39 : DefI := ⟨"_law_pile", ["tin", "most_so"], top 51⟩
def f40 : DefI := ⟨"_law_heard", ["door", "goods_so"], top 52⟩
def f41 : DefI := ⟨"_law_pair", ["upper_so", "below_so"], top 53⟩
def f42 : DefI := ⟨"_law_plus", ["one_so", "two"], top 54⟩
def f43 : DefI := ⟨"_law_times", ["one_so", "two"], top 55⟩
def f44 : DefI := ⟨"_law_product", ["pile_so", "size_so", "share_so"], top 56⟩
def f45 : DefI := ⟨"_law_multiplied", ["one_so", "two"], top 57⟩
def f46 : DefI := ⟨"_law_power", ["step_so", "most_so", "share_so"], top 58⟩
def f47 : DefI := ⟨"law", ["script"], top 59⟩
def Fs : List DefI := [f0, f1, f2, f3, f4, f5, f6, f7, f8, f9, f10, f11, f12, f13, f14, f15, f16, f17, f18, f19, f20, f21, f22, f23, f24, f25, f26, f27, f28, f29, f30, f31, f32, f33, f34, f35, f36, f37, f38, f39, f40, f41, f42, f43, f44, f45, f46, f47]
def Es : List (Str × String) := [("TooMany", "ValueError"), ("Unfit", "ValueError")]
def Gs : List (Str × D) := [("MOST_CELLS", (D.int 16)), ("NOUGHT", (D.tup [(D.int 0), (D.int 1)])), ("ONE", (D.tup [(D.int 1), (D.int 1)]))]
/-- is_number: 0=thing -/
def b0 (thing_1 : D) : Fl Unit Unit := bnS (vAnd (vB (o1 (oIsi [.int]) (.ok thing_1))) (vB (Qz.tNot (o1 tru (vB (o1 (oIsi [.bool]) (.ok thing_1))))))) fun u_2 => .rt u_2 .non
def g0 : DF := fun ds => match ds with
  | [thing_1] => retV (b0 thing_1)
  | _ => .bad
/-- is_from: 0=thing 1=least -/
def b1 (thing_1 least_2 : D) : Fl Unit Unit := bnS (vAnd (bnd (ac (.ok thing_1) an) g0) (vB (o2 oGe (.ok thing_1) (.ok least_2)))) fun u_3 => .rt u_3 .non
def g1 : DF := fun ds => match ds with
  | [thing_1, least_2] => retV (b1 thing_1 least_2)
  | _ => .bad
/-- is_within: 0=thing 1=least 2=most -/
def b2 (thing_1 least_2 most_3 : D) : Fl Unit Unit := bnS (vAnd (bnd (ac (.ok thing_1) an) g0) (vB (chn oLe oLe (.ok least_2) (.ok thing_1) (.ok most_3)))) fun u_4 => .rt u_4 .non
def g2 : DF := fun ds => match ds with
  | [thing_1, least_2, most_3] => retV (b2 thing_1 least_2 most_3)
  | _ => .bad
/-- is_long: 0=thing 1=length -/
def b3 (thing_1 length_2 : D) : Fl Unit Unit := bnS (vAnd (vB (o1 (oIsi [.tuple]) (.ok thing_1))) (vB (o2 oEq (o1 oLen (.ok thing_1)) (.ok length_2)))) fun u_3 => .rt u_3 .non
def g3 : DF := fun ds => match ds with
  | [thing_1, length_2] => retV (b3 thing_1 length_2)
  | _ => .bad
/-- tupled: 0=value 1=own -/
def b4 (self : DF) (value_1 : D) : Fl Unit Unit := bnS (vIf (o1 tru (vB (o1 (oIsi [.list, .tuple]) (.ok value_1)))) (o1 oTuple (cmp (bnd (.ok value_1) wSeq) (fun d => U1 d _ fun p_2 => (.ok true)) (fun d => U1 d _ fun p_2 => (bnd (ac (.ok p_2) an) self)))) (.ok value_1)) fun u_3 => .rt u_3 .non
def g4n : Nat → DF
  | 0 => fun _ => .bad
  | n + 1 => fun ds => match ds with
    | [value_1] => retV (b4 (g4n n) value_1)
    | _ => .bad
def g4 : DF := g4n 12
/-- sure_size: 0=size -/
def b5 (size_1 : D) : Fl Unit Unit := thnS (tst (Qz.tNot (o1 tru (bnd (ac (.ok size_1) (ac (.ok (D.int 1)) an)) g1))) (.ex 1 []) (Fl.nx ())) fun (s_2 : Unit) => bnS (.ok size_1) fun u_3 => .rt u_3 .non
def g5 : DF := fun ds => match ds with
  | [size_1] => retV (b5 size_1)
  | _ => .bad
/-- is_stack_in: 0=thing 1=k 2=own -/
def b6 (thing_1 : D) : Fl Unit Unit := thnS (tst (Qz.tOr (Qz.tNot (o1 tru (vB (o1 (oIsi [.tuple]) (.ok thing_1))))) (Qz.tNot (o1 tru (vB (o1 oAll (cmp (bnd (.ok thing_1) wSeq) (fun d => U1 d _ fun p_2 => (.ok true)) (fun d => U1 d _ fun p_2 => (bnd (ac (.ok p_2) (ac (.ok (D.int 1)) an)) g1)))))))) (bnS (.ok (D.bl false)) fun u_4 => .rt u_4 .non) (Fl.nx ())) fun (s_3 : Unit) => bnS (vB (o1 oAll (cmp (bnd (o2 oSub (o1 oLen (.ok thing_1)) (.ok (D.int 1))) wRange1) (fun d => U1 d _ fun p_5 => (.ok true)) (fun d => U1 d _ fun p_5 => (vB (o2 oGe (o2 oGet (.ok thing_1) (.ok p_5)) (o2 oGet (.ok thing_1) (o2 oAdd (.ok p_5) (.ok (D.int 1)))))))))) fun u_6 => .rt u_6 .non
def g6 : DF := fun ds => match ds with
  | [thing_1] => retV (b6 thing_1)
  | _ => .bad
/-- sure_stack: 0=stack 1=own -/
def b7 (stack_1 : D) : Fl Unit Unit := bnS (bnd (ac (.ok stack_1) an) g4) fun own_2 => thnS (tst (Qz.tNot (o1 tru (bnd (ac (.ok own_2) an) g6))) (.ex 1 []) (Fl.nx ())) fun (s_3 : Unit) => bnS (.ok own_2) fun u_4 => .rt u_4 .non
def g7 : DF := fun ds => match ds with
  | [stack_1] => retV (b7 stack_1)
  | _ => .bad
/-- turned_in: 0=stack 1=wide 2=place 3=own -/
def b8 (stack_1 : D) : Fl Unit Unit := bnS (vIf (o2 oNe (.ok stack_1) (bnd an mkT)) (o2 oGet (.ok stack_1) (.ok (D.int 0))) (.ok (D.int 0))) fun wide_2 => bnS (o1 oTuple (cmp (bnd (.ok wide_2) wRange1) (fun d => U1 d _ fun p_3 => (.ok true)) (fun d => U1 d _ fun p_3 => (o1 oLen (cmp (bnd (.ok stack_1) wSeq) (fun d => U1 d _ fun p_4 => (o2 oGt (.ok p_4) (.ok p_3))) (fun d => U1 d _ fun p_4 => (.ok p_4))))))) fun u_5 => .rt u_5 .non
def g8 : DF := fun ds => match ds with
  | [stack_1] => retV (b8 stack_1)
  | _ => .bad
/-- hook_in: 0=stack 1=turned 2=cell 3=place 4=row -/
def b9 (stack_1 turned_2 cell_3 : D) : Fl Unit Unit := bnS (o2 oGet (.ok cell_3) (.ok (D.int 0))) fun place_4 => bnS (o1 oNeg (o2 oGet (.ok cell_3) (.ok (D.int 1)))) fun row_5 => bnS (o2 oSub (o2 oSub (o2 oAdd (o2 oSub (o2 oGet (.ok stack_1) (.ok row_5)) (.ok place_4)) (o2 oGet (.ok turned_2) (.ok place_4))) (.ok row_5)) (.ok (D.int 1))) fun u_6 => .rt u_6 .non
def g9 : DF := fun ds => match ds with
  | [stack_1, turned_2, cell_3] => retV (b9 stack_1 turned_2 cell_3)
  | _ => .bad
/-- all_in: 0=number 1=found 2=told 3=long 4=own 5=left -/
def b10 (number_1 : D) : Fl Unit Unit := bnS (bnd (ac (bnd (ac (bnd an mkT) (ac (.ok number_1) an)) mkT) an) mkLs) fun found_2 => bnS (bnd an mkLs) fun told_3 => thnS (whlL (fun (s_4 : D × D) => (o2 oNe (.ok s_4.1) (bnd an mkLs))) (fun s_4 => bnS (oPop s_4.1) fun p_18 => (fun w_5 => (fun d_17 => upk2 .bad d_17 fun own_6 left_7 => thnS (tst (o2 oEq (.ok left_7) (.ok (D.int 0))) (asL .bad s_4.2 (bnS (.ok own_6) fun u_10 => bnS (oAppend s_4.2 u_10) fun told_9 => Fl.nx told_9)) (Fl.nx s_4.2)) fun (s_8 : D) => bnS (bnd (.ok (D.int 1)) fun u => bnd (o2 oAdd (o2 oMin2 (.ok left_7) (vIf (o2 oNe (.ok own_6) (bnd an mkT)) (o2 oGet (.ok own_6) (o1 oNeg (.ok (D.int 1)))) (.ok left_7))) (.ok (D.int 1))) fun w => wRange2 u w) fun xs_16 => thnS (forL (fun (s_11 : D) => (fun long_12 => asL .bad s_11 (bnS (bnd (ac (o2 oAdd (.ok own_6) (bnd (ac (.ok long_12) an) mkT)) (ac (o2 oSub (.ok left_7) (.ok long_12)) an)) mkT) fun u_14 => bnS (oAppend s_11 u_14) fun found_13 => Fl.nx found_13))) xs_16 w_5) fun (s_11 : D) => Fl.nx (s_11, s_8))) p_18.2 p_18.1) 100000 (found_2, told_3)) fun (s_4 : D × D) => bnS (o1 oSorted (.ok s_4.2)) fun u_19 => .rt u_19 .non
def g10 : DF := fun ds => match ds with
  | [number_1] => retV (b10 number_1)
  | _ => .bad
/-- sure_pair: 0=stack 1=size 2=own -/
def b11 (stack_1 size_2 : D) : Fl Unit Unit := bnS (bnd (ac (.ok stack_1) an) g7) fun own_3 => bnS (bnd (ac (.ok own_3) (ac (bnd (ac (.ok size_2) an) g5) an)) mkT) fun u_4 => .rt u_4 .non
def g11 : DF := fun ds => match ds with
  | [stack_1, size_2] => retV (b11 stack_1 size_2)
  | _ => .bad
/-- made: 0=above 1=below 2=one 3=other -/
def b12 (above_1 below_2 : D) : Fl Unit Unit := bnS (o1 oAbs (.ok above_1)) fun one_3 => bnS (.ok below_2) fun other_4 => thnS (whlL (fun (s_5 : D × D) => (o2 oGt (.ok s_5.2) (.ok (D.int 0)))) (fun s_5 => bnS (.ok s_5.2) fun one_6 => bnS (o2 oMod (.ok s_5.1) (.ok s_5.2)) fun other_7 => Fl.nx (one_6, other_7)) 100000 (one_3, other_4)) fun (s_5 : D × D) => bnS (bnd (ac (o2 oFdiv (.ok above_1) (.ok s_5.1)) (ac (o2 oFdiv (.ok below_2) (.ok s_5.1)) an)) mkT) fun u_8 => .rt u_8 .non
def g12s : DF := fun ds => match ds with
  | [above_1, below_2] => retV (b12 above_1 below_2)
  | _ => .bad
def g12 : DF := madeQ g12s
theorem gq12 : g12 = g12s := madeQ_eq fun _ _ h h2 => made_runG (t := gT) (fun _ => gT_no) (fun _ _ => gT_go) h h2
/-- times: 0=one 1=other -/
def b13 (one_1 other_2 : D) : Fl Unit Unit := bnS (bnd (ac (o2 oMul (o2 oGet (.ok one_1) (.ok (D.int 0))) (o2 oGet (.ok other_2) (.ok (D.int 0)))) (ac (o2 oMul (o2 oGet (.ok one_1) (.ok (D.int 1))) (o2 oGet (.ok other_2) (.ok (D.int 1)))) an)) g12) fun u_3 => .rt u_3 .non
def g13 : DF := fun ds => match ds with
  | [one_1, other_2] => retV (b13 one_1 other_2)
  | _ => .bad
/-- plus: 0=one 1=other -/
def b14 (one_1 other_2 : D) : Fl Unit Unit := bnS (bnd (ac (o2 oAdd (o2 oMul (o2 oGet (.ok one_1) (.ok (D.int 0))) (o2 oGet (.ok other_2) (.ok (D.int 1)))) (o2 oMul (o2 oGet (.ok other_2) (.ok (D.int 0))) (o2 oGet (.ok one_1) (.ok (D.int 1))))) (ac (o2 oMul (o2 oGet (.ok one_1) (.ok (D.int 1))) (o2 oGet (.ok other_2) (.ok (D.int 1)))) an)) g12) fun u_3 => .rt u_3 .non
def g14 : DF := fun ds => match ds with
  | [one_1, other_2] => retV (b14 one_1 other_2)
  | _ => .bad
/-- less: 0=one 1=other -/
def b15 (one_1 other_2 : D) : Fl Unit Unit := bnS (bnd (ac (.ok one_1) (ac (bnd (ac (o2 oSub (.ok (D.int 0)) (o2 oGet (.ok other_2) (.ok (D.int 0)))) (ac (o2 oGet (.ok other_2) (.ok (D.int 1))) an)) mkT) an)) g14) fun u_3 => .rt u_3 .non
def g15 : DF := fun ds => match ds with
  | [one_1, other_2] => retV (b15 one_1 other_2)
  | _ => .bad
/-- hooks_by: 0=stack 1=turned 2=found 3=row 4=wide 5=place -/
def b16 (stack_1 : D) : Fl Unit Unit := bnS (bnd (ac (.ok stack_1) an) g8) fun turned_2 => bnS (bnd an mkLs) fun found_3 => bnS (bnd (.ok stack_1) wEnum) fun xs_13 => thnS (forL (fun (s_4 : D) => (fun d_10 => upk2 .bad d_10 fun row_5 wide_6 => asL .bad s_4 (bnS (cmp (bnd (.ok wide_6) wRange1) (fun d => U1 d _ fun p_8 => (.ok true)) (fun d => U1 d _ fun p_8 => (bnd (ac (.ok stack_1) (ac (.ok turned_2) (ac (bnd (ac (.ok p_8) (ac (o1 oNeg (.ok row_5)) an)) mkT) an))) g9))) fun u_9 => bnS (oExtend s_4 u_9) fun found_7 => Fl.nx found_7))) xs_13 found_3) fun (s_4 : D) => bnS (.ok s_4) fun u_12 => .rt u_12 .non
def g16 : DF := fun ds => match ds with
  | [stack_1] => retV (b16 stack_1)
  | _ => .bad
/-- product_in: 0=stack 1=size 2=number 3=found 4=own -/
def b17 (stack_1 size_2 number_3 : D) : Fl Unit Unit := bnS (.ok (D.tup [(D.int 1), (D.int 1)])) fun found_4 => bnS (bnd (bnd (ac (.ok stack_1) an) g16) wSeq) fun xs_11 => thnS (forL (fun (s_5 : D) => (fun own_6 => thnS (tst (o2 oEq (o2 oMod (.ok own_6) (.ok size_2)) (.ok (D.int 0))) (bnS (bnd (ac (.ok s_5) (ac (bnd (ac (.ok (D.tup [(D.int 1), (D.int 1)])) (ac (bnd (ac (bnd (ac (.ok size_2) (ac (o2 oMul (.ok own_6) (.ok own_6)) an)) mkT) (ac (.ok number_3) an)) g13) an)) g15) an)) g13) fun found_8 => Fl.nx found_8) (Fl.nx s_5)) fun (s_7 : D) => Fl.nx s_7)) xs_11 found_4) fun (s_5 : D) => bnS (.ok s_5) fun u_10 => .rt u_10 .non
def g17 : DF := fun ds => match ds with
  | [stack_1, size_2, number_3] => retV (b17 stack_1 size_2 number_3)
  | _ => .bad
/-- sum_in: 0=size 1=many 2=number 3=found 4=stack -/
def b18 (size_1 many_2 number_3 : D) : Fl Unit Unit := bnS (.ok (D.tup [(D.int 0), (D.int 1)])) fun found_4 => bnS (bnd (bnd (ac (.ok many_2) an) g10) wSeq) fun xs_10 => thnS (forL (fun (s_5 : D) => (fun stack_6 => bnS (bnd (ac (.ok s_5) (ac (bnd (ac (.ok stack_6) (ac (.ok size_1) (ac (.ok number_3) an))) g17) an)) g14) fun found_7 => Fl.nx found_7)) xs_10 found_4) fun (s_5 : D) => bnS (.ok s_5) fun u_9 => .rt u_9 .non
def g18 : DF := fun ds => match ds with
  | [size_1, many_2, number_3] => retV (b18 size_1 many_2 number_3)
  | _ => .bad
/-- power_row: 0=step 1=most 2=power 3=found 4=place 5=whole 6=own 7=shares 8=number -/
def b19 (step_1 most_2 power_3 : D) : Fl Unit Unit := bnS (o2 oAdd (bnd (ac (.ok (D.tup [(D.int 1), (D.int 1)])) an) mkLs) (o2 oMul (bnd (ac (.ok (D.tup [(D.int 0), (D.int 1)])) an) mkLs) (.ok most_2))) fun found_4 => bnS (bnd (.ok (D.int 1)) fun u => bnd (o2 oAdd (.ok most_2) (.ok (D.int 1))) fun w => wRange2 u w) fun xs_20 => thnS (forL (fun (s_5 : D) => (fun place_6 => bnS (.ok (D.tup [(D.int 0), (D.int 1)])) fun whole_7 => bnS (bnd (.ok step_1) fun u => bnd (o2 oAdd (.ok place_6) (.ok (D.int 1))) fun w => bnd (.ok step_1) fun z => wRange3 u w z) fun xs_17 => thnS (forL (fun (s_8 : D) => (fun own_9 => bnS (o2 oMul (o1 oSum (cmp (bnd (.ok (D.int 1)) fun u => bnd (o2 oAdd (o2 oFdiv (.ok own_9) (.ok step_1)) (.ok (D.int 1))) fun w => wRange2 u w) (fun d => U1 d _ fun p_11 => (o2 oEq (o2 oMod (o2 oFdiv (.ok own_9) (.ok step_1)) (.ok p_11)) (.ok (D.int 0)))) (fun d => U1 d _ fun p_11 => (.ok p_11)))) (.ok step_1)) fun shares_10 => bnS (bnd (ac (.ok s_8) (ac (bnd (ac (bnd (ac (.ok shares_10) (ac (.ok (D.int 1)) an)) mkT) (ac (o2 oGet (.ok s_5) (o2 oSub (.ok place_6) (.ok own_9))) an)) g13) an)) g14) fun whole_12 => Fl.nx whole_12)) xs_17 whole_7) fun (s_8 : D) => bnS (bnd (ac (bnd (ac (bnd (ac (o2 oSub (.ok (D.int 0)) (o2 oGet (.ok power_3) (.ok (D.int 0)))) (ac (o2 oGet (.ok power_3) (.ok (D.int 1))) an)) mkT) (ac (.ok s_8) an)) g13) (ac (bnd (ac (.ok (D.int 1)) (ac (.ok place_6) an)) mkT) an)) g13) fun u_15 => bnS (.ok place_6) fun w_16 => bnS (oSetAt s_5 w_16 u_15) fun found_14 => Fl.nx found_14)) xs_20 found_4) fun (s_5 : D) => bnS (.ok s_5) fun u_19 => .rt u_19 .non
def g19 : DF := fun ds => match ds with
  | [step_1, most_2, power_3] => retV (b19 step_1 most_2 power_3)
  | _ => .bad
/-- row_product: 0=one 1=other 2=found 3=place 4=whole 5=own -/
def b20 (one_1 other_2 : D) : Fl Unit Unit := bnS (bnd an mkLs) fun found_3 => bnS (bnd (o1 oLen (.ok one_1)) wRange1) fun xs_16 => thnS (forL (fun (s_4 : D) => (fun place_5 => bnS (.ok (D.tup [(D.int 0), (D.int 1)])) fun whole_6 => bnS (bnd (o2 oAdd (.ok place_5) (.ok (D.int 1))) wRange1) fun xs_13 => thnS (forL (fun (s_7 : D) => (fun own_8 => bnS (bnd (ac (.ok s_7) (ac (bnd (ac (o2 oGet (.ok one_1) (.ok own_8)) (ac (o2 oGet (.ok other_2) (o2 oSub (.ok place_5) (.ok own_8))) an)) g13) an)) g14) fun whole_9 => Fl.nx whole_9)) xs_13 whole_6) fun (s_7 : D) => asL .bad s_4 (bnS (.ok s_7) fun u_12 => bnS (oAppend s_4 u_12) fun found_11 => Fl.nx found_11))) xs_16 found_3) fun (s_4 : D) => bnS (.ok s_4) fun u_15 => .rt u_15 .non
def g20 : DF := fun ds => match ds with
  | [one_1, other_2] => retV (b20 one_1 other_2)
  | _ => .bad
/-- part_in: 0=size 1=many 2=number -/
def b21 (size_1 many_2 number_3 : D) : Fl Unit Unit := bnS (o2 oGet (bnd (ac (bnd (ac (.ok size_1) (ac (.ok many_2) (ac (.ok number_3) an))) g19) (ac (bnd (ac (.ok (D.int 1)) (ac (.ok many_2) (ac (bnd (ac (o1 oNeg (.ok (D.int 1))) (ac (.ok (D.int 1)) an)) mkT) an))) g19) an)) g20) (.ok many_2)) fun u_4 => .rt u_4 .non
def g21 : DF := fun ds => match ds with
  | [size_1, many_2, number_3] => retV (b21 size_1 many_2 number_3)
  | _ => .bad
/-- is_fraction_in: 0=thing -/
def b22 (thing_1 : D) : Fl Unit Unit := thnS (tst (Qz.tOr (Qz.tNot (o1 tru (bnd (ac (.ok thing_1) (ac (.ok (D.int 2)) an)) g3))) (Qz.tOr (Qz.tNot (o1 tru (bnd (ac (o2 oGet (.ok thing_1) (.ok (D.int 0))) an) g0))) (Qz.tNot (o1 tru (bnd (ac (o2 oGet (.ok thing_1) (.ok (D.int 1))) (ac (.ok (D.int 1)) an)) g1))))) (bnS (.ok (D.bl false)) fun u_3 => .rt u_3 .non) (Fl.nx ())) fun (s_2 : Unit) => bnS (vB (o2 oEq (bnd (ac (o2 oGet (.ok thing_1) (.ok (D.int 0))) (ac (o2 oGet (.ok thing_1) (.ok (D.int 1))) an)) g12) (.ok thing_1))) fun u_4 => .rt u_4 .non
def g22 : DF := fun ds => match ds with
  | [thing_1] => retV (b22 thing_1)
  | _ => .bad
/-- sure_asked: 0=size 1=many 2=number 3=long 4=own -/
def b23 (size_1 many_2 number_3 : D) : Fl Unit Unit := bnS (bnd (ac (.ok size_1) an) g5) fun long_4 => bnS (bnd (ac (.ok number_3) an) g4) fun own_5 => thnS (tst (Qz.tOr (Qz.tNot (o1 tru (bnd (ac (.ok many_2) (ac (.ok (D.int 0)) an)) g1))) (Qz.tNot (o1 tru (bnd (ac (.ok own_5) an) g22)))) (.ex 1 []) (Fl.nx ())) fun (s_6 : Unit) => thnS (tst (o2 oGt (.ok many_2) (.ok (D.int 16))) (.ex 0 []) (Fl.nx ())) fun (s_7 : Unit) => bnS (bnd (ac (.ok long_4) (ac (.ok many_2) (ac (.ok own_5) an))) mkT) fun u_8 => .rt u_8 .non
def g23 : DF := fun ds => match ds with
  | [size_1, many_2, number_3] => retV (b23 size_1 many_2 number_3)
  | _ => .bad
/-- hook_product: 0=stack 1=size 2=number 3=told 4=own 5=long -/
def b24 (stack_1 size_2 number_3 : D) : Fl Unit Unit := bnS (bnd (ac (.ok stack_1) (ac (.ok size_2) an)) g11) (fun d_9 => upk2 .bad d_9 fun own_4 long_5 => bnS (bnd (ac (.ok number_3) an) g4) fun told_6 => thnS (tst (Qz.tNot (o1 tru (bnd (ac (.ok told_6) an) g22))) (.ex 1 []) (Fl.nx ())) fun (s_7 : Unit) => bnS (bnd (ac (.ok own_4) (ac (.ok long_5) (ac (.ok told_6) an))) g17) fun u_8 => .rt u_8 .non)
def g24 : DF := fun ds => match ds with
  | [stack_1, size_2, number_3] => retV (b24 stack_1 size_2 number_3)
  | _ => .bad
/-- hook_sum: 0=size 1=many 2=number 3=long 4=own 5=told -/
def b25 (size_1 many_2 number_3 : D) : Fl Unit Unit := bnS (bnd (ac (.ok size_1) (ac (.ok many_2) (ac (.ok number_3) an))) g23) (fun d_8 => upk3 .bad d_8 fun long_4 own_5 told_6 => bnS (bnd (ac (.ok long_4) (ac (.ok own_5) (ac (.ok told_6) an))) g18) fun u_7 => .rt u_7 .non)
def g25 : DF := fun ds => match ds with
  | [size_1, many_2, number_3] => retV (b25 size_1 many_2 number_3)
  | _ => .bad
/-- power_part: 0=size 1=many 2=number 3=long 4=own 5=told -/
def b26 (size_1 many_2 number_3 : D) : Fl Unit Unit := bnS (bnd (ac (.ok size_1) (ac (.ok many_2) (ac (.ok number_3) an))) g23) (fun d_8 => upk3 .bad d_8 fun long_4 own_5 told_6 => bnS (bnd (ac (.ok long_4) (ac (.ok own_5) (ac (.ok told_6) an))) g21) fun u_7 => .rt u_7 .non)
def g26 : DF := fun ds => match ds with
  | [size_1, many_2, number_3] => retV (b26 size_1 many_2 number_3)
  | _ => .bad
/-- power_parts: 0=step 1=most 2=power 3=long 4=told -/
def b27 (step_1 most_2 power_3 : D) : Fl Unit Unit := bnS (bnd (ac (.ok step_1) an) g5) fun long_4 => bnS (bnd (ac (.ok power_3) an) g4) fun told_5 => thnS (tst (Qz.tOr (Qz.tNot (o1 tru (bnd (ac (.ok most_2) (ac (.ok (D.int 0)) (ac (.ok (D.int 60)) an))) g2))) (Qz.tNot (o1 tru (bnd (ac (.ok told_5) an) g22)))) (.ex 1 []) (Fl.nx ())) fun (s_6 : Unit) => bnS (o1 oTuple (bnd (ac (.ok long_4) (ac (.ok most_2) (ac (.ok told_5) an))) g19)) fun u_7 => .rt u_7 .non
def g27 : DF := fun ds => match ds with
  | [step_1, most_2, power_3] => retV (b27 step_1 most_2 power_3)
  | _ => .bad
/-- hook_squares: 0=stack -/
def b28 (stack_1 : D) : Fl Unit Unit := bnS (o1 oTuple (o1 oSorted (bnd (ac (o2 oGet (bnd (ac (.ok stack_1) (ac (.ok (D.int 1)) an)) g11) (.ok (D.int 0))) an) g16))) fun u_2 => .rt u_2 .non
def g28 : DF := fun ds => match ds with
  | [stack_1] => retV (b28 stack_1)
  | _ => .bad
/-- _law_box: 0=script 1=k 2=bit_so -/
def b29 (script_1 k_2 : D) : Fl Unit Unit := bnS (vIf (o2 oLt (.ok k_2) (o1 oLen (.ok script_1))) (o2 oGet (.ok script_1) (.ok k_2)) (.ok (D.int 0))) fun bit_so_3 => bnS (bnd (ac (o2 oMul (o1 oAbs (.ok bit_so_3)) (o1 oInt (vB (o2 oGe (o1 oAbs (.ok bit_so_3)) (o2 oPow (.ok (D.int 10)) (.ok (D.int 18))))))) (ac (o2 oAdd (o2 oAdd (o2 oMod (o1 oInt (.ok bit_so_3)) (.ok (D.int 2305843009213693951))) (o2 oMul (.ok (D.int 39373)) (.ok k_2))) (.ok (D.int 3175068))) (ac (.ok (D.int 0)) an))) mkLs) fun u_4 => .rt u_4 .non
def g29 : DF := fun ds => match ds with
  | [script_1, k_2] => retV (b29 script_1 k_2)
  | _ => .bad
/-- _law_take: 0=tin 1=below_so 2=once_so 3=wide_so 4=twice_so 5=drawn -/
def b30 (tin_1 below_so_2 : D) : Fl D Unit := thnS (tst (o2 oGt (o2 oGet (.ok tin_1) (.ok (D.int 0))) (.ok (D.int 0))) (bnS (o2 oMod (o1 oInt (o2 oGet (.ok tin_1) (.ok (D.int 0)))) (.ok below_so_2)) fun drawn_4 => bnS (o2 oFdiv (o2 oGet (.ok tin_1) (.ok (D.int 0))) (.ok below_so_2)) fun u_7 => bnS (.ok (D.int 0)) fun w_8 => bnS (oSetAt tin_1 w_8 u_7) fun tin_5 => bnS (.ok drawn_4) fun u_6 => .rt u_6 tin_5) (Fl.nx ())) fun (s_3 : Unit) => bnS (o2 oAdd (o2 oGet (.ok tin_1) (.ok (D.int 2))) (.ok (D.int 1))) fun u_14 => bnS (.ok (D.int 2)) fun w_15 => bnS (oSetAt tin_1 w_15 u_14) fun tin_9 => bnS (o2 oMod (o1 oInt (o2 oMul (o2 oAdd (o2 oGet (.ok tin_9) (.ok (D.int 1))) (o2 oMul (.ok (D.int 48271)) (o2 oGet (.ok tin_9) (.ok (D.int 2))))) (o2 oAdd (.ok (D.int 39373)) (o2 oGet (.ok tin_9) (.ok (D.int 2)))))) (.ok (D.int 2147483647))) fun once_so_10 => bnS (o2 oAdd (o2 oMod (o1 oInt (.ok once_so_10)) (.ok (D.int 40009))) (.ok (D.int 7))) fun wide_so_11 => bnS (o2 oMod (o1 oInt (o2 oMul (o2 oAdd (o2 oAdd (.ok once_so_10) (o2 oGet (.ok tin_9) (.ok (D.int 2)))) (o2 oFdiv (o2 oGet (.ok tin_9) (.ok (D.int 1))) (.ok (D.int 1000003)))) (.ok wide_so_11))) (.ok (D.int 2147483629))) fun twice_so_12 => bnS (o2 oMod (o1 oInt (o2 oFdiv (o2 oMod (o1 oInt (o2 oAdd (o2 oMul (.ok twice_so_12) (.ok (D.int 48271))) (.ok once_so_10))) (.ok (D.int 2147483587))) (.ok (D.int 64)))) (.ok below_so_2)) fun u_13 => .rt u_13 tin_9
def g30 : DW := fun ds => match ds with
  | [tin_1, below_so_2] => retW (b30 tin_1 below_so_2)
  | _ => .bad
/-- _law_cells: 0=script 1=most_so 2=cells_so 3=k 4=bit_so 5=at_so -/
def b31 (script_1 most_so_2 : D) : Fl Unit Unit := bnS (vOr (o1 oList (slc (.ok script_1) (.ok none) (optI (.ok most_so_2)))) (bnd (ac (.ok (D.int 0)) an) mkLs)) fun cells_so_3 => bnS (bnd (slc (.ok script_1) (optI (.ok most_so_2)) (optI (.ok (D.int 63)))) wEnum) fun xs_14 => thnS (forL (fun (s_4 : D) => (fun d_11 => upk2 .bad d_11 fun k_5 bit_so_6 => bnS (o2 oMod (o1 oInt (.ok k_5)) (.ok most_so_2)) fun at_so_7 => bnS (o2 oAdd (o2 oGet (.ok s_4) (.ok at_so_7)) (o2 oMul (.ok bit_so_6) (o2 oAdd (.ok k_5) (.ok (D.int 2))))) fun u_9 => bnS (.ok at_so_7) fun w_10 => bnS (oSetAt s_4 w_10 u_9) fun cells_so_8 => Fl.nx cells_so_8)) xs_14 cells_so_3) fun (s_4 : D) => bnS (.ok s_4) fun u_13 => .rt u_13 .non
def g31 : DF := fun ds => match ds with
  | [script_1, most_so_2] => retV (b31 script_1 most_so_2)
  | _ => .bad
/-- _law_lists: 0=matter 1=bit -/
def b32 (self : DF) (matter_1 : D) : Fl Unit Unit := bnS (vIf (o1 tru (vB (o1 (oIsi [.list, .tuple]) (.ok matter_1)))) (cmp (bnd (.ok matter_1) wSeq) (fun d => U1 d _ fun p_2 => (.ok true)) (fun d => U1 d _ fun p_2 => (bnd (ac (.ok p_2) an) self))) (.ok matter_1)) fun u_3 => .rt u_3 .non
def g32n : Nat → DF
  | 0 => fun _ => .bad
  | n + 1 => fun ds => match ds with
    | [matter_1] => retV (b32 (g32n n) matter_1)
    | _ => .bad
def g32 : DF := g32n 12
/-- _law_same: 0=got 1=due 2=mine 3=its -/
def b33 (self : DF) (got_1 due_2 : D) : Fl Unit Unit := thnS (tst (o1 tru (vB (o1 (oIsi [.list, .tuple]) (.ok due_2)))) (thnS (tst (Qz.tOr (o2 oNe (vB (o1 (oIsi [.list]) (.ok got_1))) (vB (o1 (oIsi [.list]) (.ok due_2)))) (o2 oNe (vB (o1 (oIsi [.tuple]) (.ok got_1))) (vB (o1 (oIsi [.tuple]) (.ok due_2))))) (bnS (.ok (D.bl false)) fun u_5 => .rt u_5 .non) (Fl.nx ())) fun (s_4 : Unit) => bnS (vAnd (vB (o2 oEq (o1 oLen (.ok got_1)) (o1 oLen (.ok due_2)))) (vB (o1 oAll (cmp (bnd (.ok got_1) fun u => bnd (.ok due_2) fun w => wZip u w) (fun d => U2 d _ fun p_6 => (.ok true)) (fun d => U2 d _ fun p_6 => (bnd (ac (.ok p_6.1) (ac (.ok p_6.2) an)) self)))))) fun u_7 => .rt u_7 .non) (Fl.nx ())) fun (s_3 : Unit) => thnS (tst (Qz.tOr (o1 oIsN (.ok due_2)) (o1 tru (vB (o1 (oIsi [.bool, .str]) (.ok due_2))))) (bnS (vAnd (vB (o2 oEq (.ok got_1) (.ok due_2))) (vAnd (vB (o2 oEq (vB (o1 (oIsi [.bool]) (.ok got_1))) (vB (o1 (oIsi [.bool]) (.ok due_2))))) (vB (o2 oEq (vB (o1 oIsN (.ok got_1))) (vB (o1 oIsN (.ok due_2))))))) fun u_9 => .rt u_9 .non) (Fl.nx ())) fun (s_8 : Unit) => bnS (vAnd (vB (o1 (oIsi [.int]) (.ok got_1))) (vAnd (vB (Qz.tNot (o1 tru (vB (o1 (oIsi [.bool]) (.ok got_1)))))) (vB (o2 oEq (.ok got_1) (.ok due_2))))) fun u_10 => .rt u_10 .non
def g33n : Nat → DF
  | 0 => fun _ => .bad
  | n + 1 => fun ds => match ds with
    | [got_1, due_2] => retV (b33 (g33n n) got_1 due_2)
    | _ => .bad
def g33 : DF := g33n 12
/-- _law_unmarked: 0=told_so -/
def b34 (told_so_1 : D) : Fl Unit Unit := bnS (vIf (Qz.tAnd (o1 tru (vB (o1 (oIsi [.list]) (.ok told_so_1)))) (Qz.tAnd (o2 oGt (o1 oLen (.ok told_so_1)) (.ok (D.int 0))) (o1 tru (vB (o1 (oIsi [.str]) (o2 oGet (.ok told_so_1) (.ok (D.int 0)))))))) (bnd (ac (.ok (D.str "told")) (ac (.ok (D.str "a mark")) an)) mkLs) (.ok told_so_1)) fun u_2 => .rt u_2 .non
def g34 : DF := fun ds => match ds with
  | [told_so_1] => retV (b34 told_so_1)
  | _ => .bad
/-- _law_call: 0=door 1=goods_so -/
def b35 (tb : Nat → DF) (door_1 goods_so_2 : D) : Fl Unit Unit := thnS (tst (o2 oLt (o1 oLen (.ok goods_so_2)) (.ok (D.int 3))) (bnS (vIf (o2 oEq (o1 oLen (.ok goods_so_2)) (.ok (D.int 1))) (doorA 48 tb door_1 (ac (o2 oGet (.ok goods_so_2) (.ok (D.int 0))) an)) (doorA 48 tb door_1 (ac (o2 oGet (.ok goods_so_2) (.ok (D.int 0))) (ac (o2 oGet (.ok goods_so_2) (.ok (D.int 1))) an)))) fun u_4 => .rt u_4 .non) (Fl.nx ())) fun (s_3 : Unit) => thnS (tst (o2 oEq (o1 oLen (.ok goods_so_2)) (.ok (D.int 3))) (bnS (doorA 48 tb door_1 (ac (o2 oGet (.ok goods_so_2) (.ok (D.int 0))) (ac (o2 oGet (.ok goods_so_2) (.ok (D.int 1))) (ac (o2 oGet (.ok goods_so_2) (.ok (D.int 2))) an)))) fun u_6 => .rt u_6 .non) (Fl.nx ())) fun (s_5 : Unit) => bnS (doorA 48 tb door_1 (ac (o2 oGet (.ok goods_so_2) (.ok (D.int 0))) (ac (o2 oGet (.ok goods_so_2) (.ok (D.int 1))) (ac (o2 oGet (.ok goods_so_2) (.ok (D.int 2))) (ac (o2 oGet (.ok goods_so_2) (.ok (D.int 3))) an))))) fun u_7 => .rt u_7 .non
def tb35 (i : Nat) : DF := match i with
  | 24 => g24
  | 25 => g25
  | 26 => g26
  | 27 => g27
  | 28 => g28
  | _ => fun _ => .bad
def g35 : DF := fun ds => match ds with
  | [door_1, goods_so_2] => retV (b35 tb35 door_1 goods_so_2)
  | _ => .bad
/-- _law_parts: 0=number_so 1=found 2=done_so 3=top_so 4=own 5=left_so 6=k -/
def b36 (number_so_1 : D) : Fl Unit Unit := bnS (bnd (ac (bnd (ac (bnd an mkT) (ac (.ok number_so_1) an)) mkT) an) mkLs) fun found_2 => bnS (bnd an mkLs) fun done_so_3 => thnS (whlL (fun (s_4 : D × D) => (o2 oNe (.ok s_4.1) (bnd an mkLs))) (fun s_4 => bnS (oPop s_4.1) fun p_15 => (fun w_5 => (fun d_14 => upk2 .bad d_14 fun own_6 left_so_7 => thnS (tst (o2 oEq (.ok left_so_7) (.ok (D.int 0))) (asL .bad s_4.2 (bnS (.ok own_6) fun u_10 => bnS (oAppend s_4.2 u_10) fun done_so_9 => Fl.nx done_so_9)) (Fl.nx s_4.2)) fun (s_8 : D) => bnS (vIf (o2 oNe (.ok own_6) (bnd an mkT)) (o2 oMin2 (.ok left_so_7) (o2 oGet (.ok own_6) (o1 oNeg (.ok (D.int 1))))) (.ok left_so_7)) fun top_so_11 => bnS (o2 oAdd (.ok w_5) (cmp (bnd (.ok (D.int 1)) fun u => bnd (o2 oAdd (.ok top_so_11) (.ok (D.int 1))) fun w => wRange2 u w) (fun d => U1 d _ fun p_13 => (.ok true)) (fun d => U1 d _ fun p_13 => (bnd (ac (o2 oAdd (.ok own_6) (bnd (ac (.ok p_13) an) mkT)) (ac (o2 oSub (.ok left_so_7) (.ok p_13)) an)) mkT)))) fun found_12 => Fl.nx (found_12, s_8))) p_15.2 p_15.1) 100000 (found_2, done_so_3)) fun (s_4 : D × D) => bnS (o1 oSorted (.ok s_4.2)) fun u_16 => .rt u_16 .non
def g36 : DF := fun ds => match ds with
  | [number_so_1] => retV (b36 number_so_1)
  | _ => .bad
/-- _law_spots: 0=pile_so 1=found 2=k 3=own 4=x -/
def b37 (pile_so_1 : D) : Fl Unit Unit := bnS (bnd an mkLs) fun found_2 => bnS (bnd (.ok pile_so_1) wEnum) fun xs_11 => thnS (forL (fun (s_3 : D) => (fun d_8 => upk2 .bad d_8 fun k_4 own_5 => bnS (o2 oAdd (.ok s_3) (cmp (bnd (.ok own_5) wRange1) (fun d => U1 d _ fun p_7 => (.ok true)) (fun d => U1 d _ fun p_7 => (bnd (ac (.ok p_7) (ac (o2 oSub (.ok (D.int 0)) (.ok k_4)) an)) mkT)))) fun found_6 => Fl.nx found_6)) xs_11 found_2) fun (s_3 : D) => bnS (o1 oSorted (.ok s_3)) fun u_10 => .rt u_10 .non
def g37 : DF := fun ds => match ds with
  | [pile_so_1] => retV (b37 pile_so_1)
  | _ => .bad
/-- _law_hook: 0=pile_so 1=x 2=row_so 3=own -/
def b38 (pile_so_1 x_2 row_so_3 : D) : Fl Unit Unit := bnS (o2 oAdd (o2 oSub (o2 oGet (.ok pile_so_1) (.ok row_so_3)) (.ok x_2)) (o1 oLen (cmp (bnd (slc (.ok pile_so_1) (optI (o2 oAdd (.ok row_so_3) (.ok (D.int 1)))) (.ok none)) wSeq) (fun d => U1 d _ fun p_4 => (o2 oGt (.ok p_4) (.ok x_2))) (fun d => U1 d _ fun p_4 => (.ok (D.int 1)))))) fun u_5 => .rt u_5 .non
def g38 : DF := fun ds => match ds with
  | [pile_so_1, x_2, row_so_3] => retV (b38 pile_so_1 x_2 row_so_3)
  | _ => .bad
/-- _law_pile: 0=tin 1=most_so 2=found 3=left_so 4=top_so -/
def b39 (tin_1 most_so_2 : D) : Fl D Unit := bnS (bnd an mkLs) fun found_3 => asL .bad tin_1 (asL .bad found_3 (bnS (bnd (ac (o2 oAdd (.ok most_so_2) (.ok (D.int 1))) an) fun us_5 => asL .bad tin_1 (nox (g30 (tin_1 :: us_5)))) fun q_6 => (fun found_3 left_so_4 w_7 => thnS (whlL (fun (s_8 : D × D × D) => (o2 oGt (.ok s_8.2.2) (.ok (D.int 0)))) (fun s_8 => bnS (vIf (o2 oNe (.ok s_8.2.1) (bnd an mkLs)) (o2 oMin2 (.ok s_8.2.2) (o2 oGet (.ok s_8.2.1) (o1 oNeg (.ok (D.int 1))))) (.ok s_8.2.2)) fun top_so_9 => asL .bad s_8.2.1 (bnS (bnd (bnd (.ok (D.int 1)) fun u_15 => .ok (u_15, s_8.1)) fun p_11 => bnd (bnd (ac (.ok top_so_9) an) fun us_16 => asL .bad p_11.2 (nox (g30 (p_11.2 :: us_16)))) fun q_12 => bnd (oAdd p_11.1 q_12.1) fun u_13 => .ok (u_13, q_12.2)) fun p_20 => bnS (oAppend s_8.2.1 p_20.1) ((fun w_18 found_10 => bnS (o2 oSub (.ok s_8.2.2) (o2 oGet (.ok found_10) (o1 oNeg (.ok (D.int 1))))) fun left_so_19 => Fl.nx (w_18, found_10, left_so_19)) p_20.2))) 100000 (w_7, found_3, left_so_4)) fun (s_8 : D × D × D) => bnS (o1 oTuple (.ok s_8.2.1)) fun u_21 => .rt u_21 s_8.1) found_3 q_6.1 q_6.2))
def g39 : DW := fun ds => match ds with
  | [tin_1, most_so_2] => retW (b39 tin_1 most_so_2)
  | _ => .bad
/-- _law_heard: 0=door 1=goods_so 2=error_a 3=error_b 4=caught 5=told_so -/
def b40 (door_1 goods_so_2 : D) : Fl Unit Unit := bnS (bnd (ac (.ok D.non) (ac (.ok D.non) an)) mkT) (fun d_8 => upk2 .bad d_8 fun caught_3 told_so_4 => thnS (tryS 2 (bnS (bnd (ac (bnd (ac (.ok door_1) (ac (.ok goods_so_2) an)) g35) an) g34) fun told_so_6 => Fl.nx (caught_3, told_so_6)) [(⟨0, 2, 4, [.str "many", .bl true]⟩, ((.lst [.str "many", .bl true]), told_so_4)), (⟨1, 3, 4, [.str "unfit", .bl true]⟩, ((.lst [.str "unfit", .bl true]), told_so_4))]) fun (s_5 : D × D) => bnS (vIf (o1 oIsN (.ok s_5.1)) (.ok s_5.2) (.ok s_5.1)) fun u_7 => .rt u_7 .non)
def g40 : DF := fun ds => match ds with
  | [door_1, goods_so_2] => retV (b40 door_1 goods_so_2)
  | _ => .bad
/-- _law_pair: 0=upper_so 1=below_so 2=one_so 3=two -/
def b41 (upper_so_1 below_so_2 : D) : Fl Unit Unit := bnS (o1 oAbs (.ok upper_so_1)) fun one_so_3 => bnS (.ok below_so_2) fun two_4 => thnS (whlL (fun (s_5 : D × D) => (o2 oNe (.ok s_5.2) (.ok (D.int 0)))) (fun s_5 => bnS (.ok s_5.2) fun one_so_6 => bnS (o2 oMod (.ok s_5.1) (.ok s_5.2)) fun two_7 => Fl.nx (one_so_6, two_7)) 100000 (one_so_3, two_4)) fun (s_5 : D × D) => bnS (bnd (ac (o2 oFdiv (.ok upper_so_1) (.ok s_5.1)) (ac (o2 oFdiv (.ok below_so_2) (.ok s_5.1)) an)) mkT) fun u_8 => .rt u_8 .non
def g41s : DF := fun ds => match ds with
  | [upper_so_1, below_so_2] => retV (b41 upper_so_1 below_so_2)
  | _ => .bad
def g41 : DF := madeQ g41s
theorem gq41 : g41 = g41s := madeQ_eq fun _ _ h h2 => made_runG (t := gU) (fun _ => gU_no) (fun _ _ => gU_go) h h2
/-- _law_plus: 0=one_so 1=two -/
def b42 (one_so_1 two_2 : D) : Fl Unit Unit := bnS (bnd (ac (o2 oAdd (o2 oMul (o2 oGet (.ok one_so_1) (.ok (D.int 0))) (o2 oGet (.ok two_2) (.ok (D.int 1)))) (o2 oMul (o2 oGet (.ok two_2) (.ok (D.int 0))) (o2 oGet (.ok one_so_1) (.ok (D.int 1))))) (ac (o2 oMul (o2 oGet (.ok one_so_1) (.ok (D.int 1))) (o2 oGet (.ok two_2) (.ok (D.int 1)))) an)) g41) fun u_3 => .rt u_3 .non
def g42 : DF := fun ds => match ds with
  | [one_so_1, two_2] => retV (b42 one_so_1 two_2)
  | _ => .bad
/-- _law_times: 0=one_so 1=two -/
def b43 (one_so_1 two_2 : D) : Fl Unit Unit := bnS (bnd (ac (o2 oMul (o2 oGet (.ok one_so_1) (.ok (D.int 0))) (o2 oGet (.ok two_2) (.ok (D.int 0)))) (ac (o2 oMul (o2 oGet (.ok one_so_1) (.ok (D.int 1))) (o2 oGet (.ok two_2) (.ok (D.int 1)))) an)) g41) fun u_3 => .rt u_3 .non
def g43 : DF := fun ds => match ds with
  | [one_so_1, two_2] => retV (b43 one_so_1 two_2)
  | _ => .bad
/-- _law_product: 0=pile_so 1=size_so 2=share_so 3=found 4=x 5=y 6=own -/
def b44 (pile_so_1 size_so_2 share_so_3 : D) : Fl Unit Unit := bnS (bnd (ac (.ok (D.int 1)) (ac (.ok (D.int 1)) an)) mkT) fun found_4 => bnS (bnd (bnd (ac (.ok pile_so_1) an) g37) wSeq) fun xs_14 => thnS (forL (fun (s_5 : D) => (fun d_11 => upk2 .bad d_11 fun x_6 y_7 => bnS (bnd (ac (.ok pile_so_1) (ac (.ok x_6) (ac (o2 oSub (.ok (D.int 0)) (.ok y_7)) an))) g38) fun own_8 => thnS (tst (o2 oEq (o2 oMod (.ok own_8) (.ok size_so_2)) (.ok (D.int 0))) (bnS (bnd (ac (.ok s_5) (ac (bnd (ac (bnd (ac (.ok (D.int 1)) (ac (.ok (D.int 1)) an)) mkT) (ac (bnd (ac (bnd (ac (o2 oSub (.ok (D.int 0)) (.ok size_so_2)) (ac (o2 oMul (.ok own_8) (.ok own_8)) an)) mkT) (ac (.ok share_so_3) an)) g43) an)) g42) an)) g43) fun found_10 => Fl.nx found_10) (Fl.nx s_5)) fun (s_9 : D) => Fl.nx s_9)) xs_14 found_4) fun (s_5 : D) => bnS (.ok s_5) fun u_13 => .rt u_13 .non
def g44 : DF := fun ds => match ds with
  | [pile_so_1, size_so_2, share_so_3] => retV (b44 pile_so_1 size_so_2 share_so_3)
  | _ => .bad
/-- _law_multiplied: 0=one_so 1=two 2=found 3=k 4=whole_so 5=j -/
def b45 (one_so_1 two_2 : D) : Fl Unit Unit := bnS (bnd an mkLs) fun found_3 => bnS (bnd (o1 oLen (.ok one_so_1)) wRange1) fun xs_16 => thnS (forL (fun (s_4 : D) => (fun k_5 => bnS (bnd (ac (.ok (D.int 0)) (ac (.ok (D.int 1)) an)) mkT) fun whole_so_6 => bnS (bnd (o2 oAdd (.ok k_5) (.ok (D.int 1))) wRange1) fun xs_13 => thnS (forL (fun (s_7 : D) => (fun j_8 => bnS (bnd (ac (.ok s_7) (ac (bnd (ac (o2 oGet (.ok one_so_1) (.ok j_8)) (ac (o2 oGet (.ok two_2) (o2 oSub (.ok k_5) (.ok j_8))) an)) g43) an)) g42) fun whole_so_9 => Fl.nx whole_so_9)) xs_13 whole_so_6) fun (s_7 : D) => asL .bad s_4 (bnS (.ok s_7) fun u_12 => bnS (oAppend s_4 u_12) fun found_11 => Fl.nx found_11))) xs_16 found_3) fun (s_4 : D) => bnS (.ok s_4) fun u_15 => .rt u_15 .non
def g45 : DF := fun ds => match ds with
  | [one_so_1, two_2] => retV (b45 one_so_1 two_2)
  | _ => .bad
/-- _law_power: 0=step_so 1=most_so 2=share_so 3=found 4=m 5=k 6=row_so 7=part_so -/
def b46 (step_so_1 most_so_2 share_so_3 : D) : Fl Unit Unit := bnS (o2 oAdd (bnd (ac (bnd (ac (.ok (D.int 1)) (ac (.ok (D.int 1)) an)) mkT) an) mkLs) (o2 oMul (bnd (ac (bnd (ac (.ok (D.int 0)) (ac (.ok (D.int 1)) an)) mkT) an) mkLs) (.ok most_so_2))) fun found_4 => bnS (bnd (.ok step_so_1) fun u => bnd (o2 oAdd (.ok most_so_2) (.ok (D.int 1))) fun w => bnd (.ok step_so_1) fun z => wRange3 u w z) fun xs_21 => thnS (forL (fun (s_5 : D) => (fun m_6 => bnS (o2 oMul (bnd (ac (bnd (ac (.ok (D.int 0)) (ac (.ok (D.int 1)) an)) mkT) an) mkLs) (o2 oAdd (.ok most_so_2) (.ok (D.int 1)))) fun row_so_7 => bnS (bnd (ac (.ok (D.int 1)) (ac (.ok (D.int 1)) an)) mkT) fun part_so_8 => bnS (bnd (o2 oAdd (o2 oFdiv (.ok most_so_2) (.ok m_6)) (.ok (D.int 1))) wRange1) fun xs_18 => thnS (forL (fun (s_9 : D × D) => (fun k_10 => bnS (.ok s_9.2) fun u_13 => bnS (o2 oMul (.ok k_10) (.ok m_6)) fun w_14 => bnS (oSetAt s_9.1 w_14 u_13) fun row_so_11 => bnS (bnd (ac (.ok s_9.2) (ac (bnd (ac (bnd (ac (bnd (ac (.ok k_10) (ac (.ok (D.int 1)) an)) mkT) (ac (bnd (ac (o2 oSub (.ok (D.int 0)) (o2 oGet (.ok share_so_3) (.ok (D.int 0)))) (ac (o2 oGet (.ok share_so_3) (.ok (D.int 1))) an)) mkT) an)) g42) (ac (bnd (ac (.ok (D.int 1)) (ac (o2 oAdd (.ok k_10) (.ok (D.int 1))) an)) mkT) an)) g43) an)) g43) fun part_so_12 => Fl.nx (row_so_11, part_so_12))) xs_18 (row_so_7, part_so_8)) fun (s_9 : D × D) => bnS (bnd (ac (.ok s_5) (ac (.ok s_9.1) an)) g45) fun found_17 => Fl.nx found_17)) xs_21 found_4) fun (s_5 : D) => bnS (.ok s_5) fun u_20 => .rt u_20 .non
def g46 : DF := fun ds => match ds with
  | [step_so_1, most_so_2, share_so_3] => retV (b46 step_so_1 most_so_2 share_so_3)
  | _ => .bad
/-- law: 0=script 1=tin 2=share_so 3=hooks_so 4=got 5=much_so 6=sum_so 7=its 8=due 9=size_so 10=own 11=door 12=x 13=y -/
def b47 (script_1 : D) : Fl Unit Unit := bnS (bnd (ac (bnd (ac (.ok script_1) (ac (.ok (D.int 1)) an)) g31) (ac (.ok (D.int 0)) an)) g29) fun tin_2 => bnS (bnd (bnd (bnd (bnd (.ok (D.int 1)) fun u_10 => .ok (u_10, tin_2)) fun p_6 => bnd (bnd (ac (.ok (D.int 4)) an) fun us_11 => asL .bad p_6.2 (nox (g30 (p_6.2 :: us_11)))) fun q_7 => bnd (oAdd p_6.1 q_7.1) fun u_8 => .ok (u_8, q_7.2)) fun p_3 => bnd (bnd (bnd (ac (.ok (D.int 12)) an) fun us_16 => asL .bad p_3.2 (nox (g39 (p_3.2 :: us_16)))) fun p_13 => bnd (.ok ([], p_13.2)) fun q_14 => .ok (p_13.1 :: q_14.1, q_14.2)) fun q_4 => .ok (p_3.1 :: q_4.1, q_4.2)) fun q_21 => .ok (.tup q_21.1, q_21.2)) fun p_93 => (fun w_22 => (fun d_92 => upk2 .bad d_92 fun size_so_23 own_24 => bnS (bnd (bnd (bnd (bnd (ac (.ok (D.int 13)) an) fun us_33 => asL .bad w_22 (nox (g30 (w_22 :: us_33)))) fun p_29 => bnd (bnd (.ok (D.int 6)) fun u_34 => .ok (u_34, p_29.2)) fun q_30 => bnd (oSub p_29.1 q_30.1) fun u_31 => .ok (u_31, q_30.2)) fun p_26 => bnd (bnd (bnd (bnd (.ok (D.int 1)) fun u_43 => .ok (u_43, p_26.2)) fun p_39 => bnd (bnd (ac (.ok (D.int 3)) an) fun us_44 => asL .bad p_39.2 (nox (g30 (p_39.2 :: us_44)))) fun q_40 => bnd (oAdd p_39.1 q_40.1) fun u_41 => .ok (u_41, q_40.2)) fun p_36 => bnd (.ok ([], p_36.2)) fun q_37 => .ok (p_36.1 :: q_37.1, q_37.2)) fun q_27 => .ok (p_26.1 :: q_27.1, q_27.2)) fun q_56 => bnd (g41 q_56.1) fun u_57 => .ok (u_57, q_56.2)) fun p_91 => (fun share_so_25 w_58 => bnS (o1 oSorted (cmp (bnd (bnd (ac (.ok own_24) an) g37) wSeq) (fun d => U2 d _ fun p_60 => (.ok true)) (fun d => U2 d _ fun p_60 => (bnd (ac (.ok own_24) (ac (.ok p_60.1) (ac (o2 oSub (.ok (D.int 0)) (.ok p_60.2)) an))) g38)))) fun hooks_so_59 => bnS (bnd (ac (callK (ac (bnd (ac (.ok own_24) an) g32) (ac (.ok size_so_23) (ac (.ok share_so_25) an))) g24 [0, 1, 2]) (ac (callK (ac (bnd (ac (.ok share_so_25) an) g32) (ac (.ok own_24) (ac (.ok size_so_23) an))) g24 [1, 2, 0]) (ac (callK (ac (bnd (ac (.ok own_24) an) g32) an) g28 [0]) an))) mkLs) fun got_61 => thnS (tst (Qz.tNot (o1 tru (bnd (ac (.ok got_61) (ac (bnd (ac (bnd (ac (.ok own_24) (ac (.ok size_so_23) (ac (.ok share_so_25) an))) g44) (ac (bnd (ac (.ok own_24) (ac (.ok size_so_23) (ac (.ok share_so_25) an))) g44) (ac (o1 oTuple (.ok hooks_so_59)) an))) mkLs) an)) g33))) (bnS (.ok (D.bl false)) fun u_63 => .rt u_63 .non) (Fl.nx ())) fun (s_62 : Unit) => bnS (bnd (ac (.ok (D.int 9)) an) fun us_65 => asL .bad w_58 (nox (g30 (w_58 :: us_65)))) fun p_90 => (fun much_so_64 w_66 => bnS (bnd (ac (.ok (D.int 0)) (ac (.ok (D.int 1)) an)) mkT) fun sum_so_67 => bnS (bnd (bnd (ac (.ok much_so_64) an) g36) wSeq) fun xs_89 => thnS (forL (fun (s_68 : D) => (fun its_69 => bnS (bnd (ac (.ok s_68) (ac (bnd (ac (.ok its_69) (ac (.ok size_so_23) (ac (.ok share_so_25) an))) g44) an)) g42) fun sum_so_70 => Fl.nx sum_so_70)) xs_89 sum_so_67) fun (s_68 : D) => bnS (o2 oGet (bnd (ac (bnd (ac (.ok size_so_23) (ac (.ok much_so_64) (ac (.ok share_so_25) an))) g46) (ac (bnd (ac (.ok (D.int 1)) (ac (.ok much_so_64) (ac (bnd (ac (o1 oNeg (.ok (D.int 1))) (ac (.ok (D.int 1)) an)) mkT) an))) g46) an)) g45) (.ok much_so_64)) fun due_72 => bnS (bnd (ac (callK (ac (.ok size_so_23) (ac (.ok much_so_64) (ac (bnd (ac (.ok share_so_25) an) g32) an))) g25 [0, 1, 2]) (ac (callK (ac (.ok much_so_64) (ac (.ok share_so_25) (ac (.ok size_so_23) an))) g26 [2, 0, 1]) an)) mkLs) fun got_73 => thnS (tst (Qz.tOr (Qz.tNot (o1 tru (bnd (ac (.ok got_73) (ac (bnd (ac (.ok s_68) (ac (.ok due_72) an)) mkLs) an)) g33))) (o2 oNe (.ok s_68) (.ok due_72))) (bnS (.ok (D.bl false)) fun u_75 => .rt u_75 .non) (Fl.nx ())) fun (s_74 : Unit) => thnS (tst (Qz.tNot (o1 tru (bnd (ac (callK (ac (.ok size_so_23) (ac (.ok much_so_64) (ac (bnd (ac (.ok share_so_25) an) g32) an))) g27 [0, 1, 2]) (ac (o1 oTuple (bnd (ac (.ok size_so_23) (ac (.ok much_so_64) (ac (.ok share_so_25) an))) g46)) an)) g33))) (bnS (.ok (D.bl false)) fun u_77 => .rt u_77 .non) (Fl.nx ())) fun (s_76 : Unit) => bnS (bnd (ac (bnd (ac (.ok (D.int 1)) (ac (.ok (D.int 4)) (ac (bnd (ac (.ok (D.int 25)) (ac (.ok (D.int 1)) an)) mkT) an))) g25) (ac (bnd (ac (.ok (D.int 1)) (ac (.ok (D.int 16)) (ac (bnd (ac (.ok (D.int 25)) (ac (.ok (D.int 1)) an)) mkT) an))) g26) (ac (bnd (ac (.ok (D.int 1)) (ac (.ok (D.int 7)) (ac (bnd (ac (.ok (D.int 1)) (ac (.ok (D.int 1)) an)) mkT) an))) g27) (ac (bnd (ac (.ok (D.int 2)) (ac (.ok (D.int 4)) (ac (bnd (ac (o1 oNeg (.ok (D.int 1))) (ac (.ok (D.int 1)) an)) mkT) an))) g27) (ac (bnd (ac (.ok (D.int 1)) (ac (.ok (D.int 2)) (ac (bnd (ac (.ok (D.int 1)) (ac (.ok (D.int 2)) an)) mkT) an))) g27) (ac (bnd (ac (.ok (D.int 3)) (ac (.ok (D.int 0)) (ac (bnd (ac (.ok (D.int 5)) (ac (.ok (D.int 7)) an)) mkT) an))) g25) (ac (bnd (ac (bnd an mkT) (ac (.ok (D.int 2)) (ac (bnd (ac (.ok (D.int 9)) (ac (.ok (D.int 1)) an)) mkT) an))) g24) (ac (bnd (ac (.ok (D.int 5)) (ac (.ok (D.int 0)) (ac (bnd (ac (.ok (D.int 0)) (ac (.ok (D.int 1)) an)) mkT) an))) g27) (ac (bnd (ac (.ok (D.int 2)) (ac (.ok (D.int 16)) (ac (bnd (ac (.ok (D.int 0)) (ac (.ok (D.int 1)) an)) mkT) an))) g26) (ac (bnd (ac (bnd an mkT) an) g28) an)))))))))) mkLs) fun got_78 => bnS (bnd (ac (bnd (ac (.ok (D.int 4830)) (ac (.ok (D.int 1)) an)) mkT) (ac (bnd (ac (o1 oNeg (.ok (D.int 6905934))) (ac (.ok (D.int 1)) an)) mkT) (ac (bnd (ac (bnd (ac (.ok (D.int 1)) (ac (.ok (D.int 1)) an)) mkT) (ac (bnd (ac (o1 oNeg (.ok (D.int 1))) (ac (.ok (D.int 1)) an)) mkT) (ac (bnd (ac (o1 oNeg (.ok (D.int 1))) (ac (.ok (D.int 1)) an)) mkT) (ac (bnd (ac (.ok (D.int 0)) (ac (.ok (D.int 1)) an)) mkT) (ac (bnd (ac (.ok (D.int 0)) (ac (.ok (D.int 1)) an)) mkT) (ac (bnd (ac (.ok (D.int 1)) (ac (.ok (D.int 1)) an)) mkT) (ac (bnd (ac (.ok (D.int 0)) (ac (.ok (D.int 1)) an)) mkT) (ac (bnd (ac (.ok (D.int 1)) (ac (.ok (D.int 1)) an)) mkT) an)))))))) mkT) (ac (bnd (ac (bnd (ac (.ok (D.int 1)) (ac (.ok (D.int 1)) an)) mkT) (ac (bnd (ac (.ok (D.int 0)) (ac (.ok (D.int 1)) an)) mkT) (ac (bnd (ac (.ok (D.int 1)) (ac (.ok (D.int 1)) an)) mkT) (ac (bnd (ac (.ok (D.int 0)) (ac (.ok (D.int 1)) an)) mkT) (ac (bnd (ac (.ok (D.int 2)) (ac (.ok (D.int 1)) an)) mkT) an))))) mkT) (ac (bnd (ac (bnd (ac (.ok (D.int 1)) (ac (.ok (D.int 1)) an)) mkT) (ac (bnd (ac (o1 oNeg (.ok (D.int 1))) (ac (.ok (D.int 2)) an)) mkT) (ac (bnd (ac (o1 oNeg (.ok (D.int 5))) (ac (.ok (D.int 8)) an)) mkT) an))) mkT) (ac (bnd (ac (.ok (D.int 1)) (ac (.ok (D.int 1)) an)) mkT) (ac (bnd (ac (.ok (D.int 1)) (ac (.ok (D.int 1)) an)) mkT) (ac (bnd (ac (bnd (ac (.ok (D.int 1)) (ac (.ok (D.int 1)) an)) mkT) an) mkT) (ac (bnd (ac (.ok (D.int 231)) (ac (.ok (D.int 1)) an)) mkT) (ac (bnd an mkT) an)))))))))) mkLs) fun due_79 => thnS (tst (Qz.tNot (o1 tru (bnd (ac (.ok got_78) (ac (.ok due_79) an)) g33))) (bnS (.ok (D.bl false)) fun u_81 => .rt u_81 .non) (Fl.nx ())) fun (s_80 : Unit) => bnS (cmp (bnd (bnd (ac (bnd (ac (.ok (D.fn 25)) (ac (bnd (ac (.ok (D.int 1)) (ac (.ok (D.int 17)) (ac (bnd (ac (.ok (D.int 1)) (ac (.ok (D.int 1)) an)) mkT) an))) mkT) an)) mkT) (ac (bnd (ac (.ok (D.fn 26)) (ac (bnd (ac (.ok (D.int 2)) (ac (.ok (D.int 17)) (ac (bnd (ac (.ok (D.int 1)) (ac (.ok (D.int 2)) an)) mkT) an))) mkT) an)) mkT) an)) mkT) wSeq) (fun d => U2 d _ fun p_83 => (.ok true)) (fun d => U2 d _ fun p_83 => (bnd (ac (.ok p_83.1) (ac (.ok p_83.2) an)) g40))) fun got_82 => thnS (tst (Qz.tNot (o1 tru (bnd (ac (.ok got_82) (ac (o2 oMul (bnd (ac (bnd (ac (.ok (D.str "many")) (ac (.ok (D.bl true)) an)) mkLs) an) mkLs) (.ok (D.int 2))) an)) g33))) (bnS (.ok (D.bl false)) fun u_85 => .rt u_85 .non) (Fl.nx ())) fun (s_84 : Unit) => bnS (cmp (bnd (bnd (ac (bnd (ac (.ok (D.fn 24)) (ac (bnd (ac (bnd (ac (.ok (D.int 1)) an) mkT) (ac (.ok (D.int 1)) (ac (bnd (ac (.ok (D.int 2)) (ac (.ok (D.int 4)) an)) mkT) an))) mkT) an)) mkT) (ac (bnd (ac (.ok (D.fn 24)) (ac (bnd (ac (bnd (ac (.ok (D.int 1)) an) mkT) (ac (.ok (D.int 0)) (ac (bnd (ac (.ok (D.int 1)) (ac (.ok (D.int 1)) an)) mkT) an))) mkT) an)) mkT) (ac (bnd (ac (.ok (D.fn 25)) (ac (bnd (ac (.ok (D.int 1)) (ac (o1 oNeg (.ok (D.int 1))) (ac (bnd (ac (.ok (D.int 1)) (ac (.ok (D.int 1)) an)) mkT) an))) mkT) an)) mkT) (ac (bnd (ac (.ok (D.fn 25)) (ac (bnd (ac (.ok (D.int 1)) (ac (.ok (D.int 17)) (ac (bnd (ac (.ok (D.int 1)) (ac (.ok (D.int 0)) an)) mkT) an))) mkT) an)) mkT) (ac (bnd (ac (.ok (D.fn 26)) (ac (bnd (ac (.ok (D.int 0)) (ac (.ok (D.int 1)) (ac (bnd (ac (.ok (D.int 1)) (ac (.ok (D.int 1)) an)) mkT) an))) mkT) an)) mkT) (ac (bnd (ac (.ok (D.fn 27)) (ac (bnd (ac (.ok (D.int 1)) (ac (.ok (D.int 61)) (ac (bnd (ac (.ok (D.int 1)) (ac (.ok (D.int 1)) an)) mkT) an))) mkT) an)) mkT) (ac (bnd (ac (.ok (D.fn 27)) (ac (bnd (ac (.ok (D.int 1)) (ac (.ok (D.int 5)) (ac (.ok (D.int 1)) an))) mkT) an)) mkT) (ac (bnd (ac (.ok (D.fn 28)) (ac (bnd (ac (bnd (ac (.ok (D.int 0)) an) mkT) an) mkT) an)) mkT) an)))))))) mkT) wSeq) (fun d => U2 d _ fun p_87 => (.ok true)) (fun d => U2 d _ fun p_87 => (bnd (ac (.ok p_87.1) (ac (.ok p_87.2) an)) g40))) fun got_86 => bnS (bnd (ac (.ok got_86) (ac (o2 oMul (bnd (ac (bnd (ac (.ok (D.str "unfit")) (ac (.ok (D.bl true)) an)) mkLs) an) mkLs) (.ok (D.int 8))) an)) g33) fun u_88 => .rt u_88 .non) p_90.1 p_90.2) p_91.1 p_91.2)) p_93.2 p_93.1
def g47 : DF := fun ds => match ds with
  | [script_1] => retV (b47 script_1)
  | _ => .bad
theorem kw0 : KwOk f28 ["stack"] [0] := fun _ _ _ _ _ _ us ws hl e => by
  match us, hl with
  | [u0], _ => cases e; rfl
theorem kw1 : KwOk f24 ["number", "stack", "size"] [1, 2, 0] := fun _ _ _ _ _ _ us ws hl e => by
  match us, hl with
  | [u0, u1, u2], _ => cases e; rfl
theorem kw2 : KwOk f24 ["stack", "size", "number"] [0, 1, 2] := fun _ _ _ _ _ _ us ws hl e => by
  match us, hl with
  | [u0, u1, u2], _ => cases e; rfl
theorem kw3 : KwOk f26 ["many", "number", "size"] [2, 0, 1] := fun _ _ _ _ _ _ us ws hl e => by
  match us, hl with
  | [u0, u1, u2], _ => cases e; rfl
theorem kw4 : KwOk f25 ["size", "many", "number"] [0, 1, 2] := fun _ _ _ _ _ _ us ws hl e => by
  match us, hl with
  | [u0, u1, u2], _ => cases e; rfl
theorem kw5 : KwOk f27 ["step", "most", "power"] [0, 1, 2] := fun _ _ _ _ _ _ us ws hl e => by
  match us, hl with
  | [u0, u1, u2], _ => cases e; rfl
theorem bi0 : BindOk f0 := fun _ _ _ _ _ _ us hl => match us, hl with | [_], _ => rfl
theorem bi1 : BindOk f1 := fun _ _ _ _ _ _ us hl => match us, hl with | [_, _], _ => rfl
theorem bi2 : BindOk f2 := fun _ _ _ _ _ _ us hl => match us, hl with | [_, _, _], _ => rfl
theorem bi3 : BindOk f3 := fun _ _ _ _ _ _ us hl => match us, hl with | [_, _], _ => rfl
theorem bi4 : BindOk f4 := fun _ _ _ _ _ _ us hl => match us, hl with | [_], _ => rfl
theorem bi5 : BindOk f5 := fun _ _ _ _ _ _ us hl => match us, hl with | [_], _ => rfl
theorem bi6 : BindOk f6 := fun _ _ _ _ _ _ us hl => match us, hl with | [_], _ => rfl
theorem bi7 : BindOk f7 := fun _ _ _ _ _ _ us hl => match us, hl with | [_], _ => rfl
theorem bi8 : BindOk f8 := fun _ _ _ _ _ _ us hl => match us, hl with | [_], _ => rfl
theorem bi9 : BindOk f9 := fun _ _ _ _ _ _ us hl => match us, hl with | [_, _, _], _ => rfl
theorem bi10 : BindOk f10 := fun _ _ _ _ _ _ us hl => match us, hl with | [_], _ => rfl
theorem bi11 : BindOk f11 := fun _ _ _ _ _ _ us hl => match us, hl with | [_, _], _ => rfl
theorem bi12 : BindOk f12 := fun _ _ _ _ _ _ us hl => match us, hl with | [_, _], _ => rfl
theorem bi13 : BindOk f13 := fun _ _ _ _ _ _ us hl => match us, hl with | [_, _], _ => rfl
theorem bi14 : BindOk f14 := fun _ _ _ _ _ _ us hl => match us, hl with | [_, _], _ => rfl
theorem bi15 : BindOk f15 := fun _ _ _ _ _ _ us hl => match us, hl with | [_, _], _ => rfl
theorem bi16 : BindOk f16 := fun _ _ _ _ _ _ us hl => match us, hl with | [_], _ => rfl
theorem bi17 : BindOk f17 := fun _ _ _ _ _ _ us hl => match us, hl with | [_, _, _], _ => rfl
theorem bi18 : BindOk f18 := fun _ _ _ _ _ _ us hl => match us, hl with | [_, _, _], _ => rfl
theorem bi19 : BindOk f19 := fun _ _ _ _ _ _ us hl => match us, hl with | [_, _, _], _ => rfl
theorem bi20 : BindOk f20 := fun _ _ _ _ _ _ us hl => match us, hl with | [_, _], _ => rfl
theorem bi21 : BindOk f21 := fun _ _ _ _ _ _ us hl => match us, hl with | [_, _, _], _ => rfl
theorem bi22 : BindOk f22 := fun _ _ _ _ _ _ us hl => match us, hl with | [_], _ => rfl
theorem bi23 : BindOk f23 := fun _ _ _ _ _ _ us hl => match us, hl with | [_, _, _], _ => rfl
theorem bi24 : BindOk f24 := fun _ _ _ _ _ _ us hl => match us, hl with | [_, _, _], _ => rfl
theorem bi25 : BindOk f25 := fun _ _ _ _ _ _ us hl => match us, hl with | [_, _, _], _ => rfl
theorem bi26 : BindOk f26 := fun _ _ _ _ _ _ us hl => match us, hl with | [_, _, _], _ => rfl
theorem bi27 : BindOk f27 := fun _ _ _ _ _ _ us hl => match us, hl with | [_, _, _], _ => rfl
theorem bi28 : BindOk f28 := fun _ _ _ _ _ _ us hl => match us, hl with | [_], _ => rfl
theorem bi29 : BindOk f29 := fun _ _ _ _ _ _ us hl => match us, hl with | [_, _], _ => rfl
theorem bi30 : BindOk f30 := fun _ _ _ _ _ _ us hl => match us, hl with | [_, _], _ => rfl
theorem bi31 : BindOk f31 := fun _ _ _ _ _ _ us hl => match us, hl with | [_, _], _ => rfl
theorem bi32 : BindOk f32 := fun _ _ _ _ _ _ us hl => match us, hl with | [_], _ => rfl
theorem bi33 : BindOk f33 := fun _ _ _ _ _ _ us hl => match us, hl with | [_, _], _ => rfl
theorem bi34 : BindOk f34 := fun _ _ _ _ _ _ us hl => match us, hl with | [_], _ => rfl
theorem bi35 : BindOk f35 := fun _ _ _ _ _ _ us hl => match us, hl with | [_, _], _ => rfl
theorem bi36 : BindOk f36 := fun _ _ _ _ _ _ us hl => match us, hl with | [_], _ => rfl
theorem bi37 : BindOk f37 := fun _ _ _ _ _ _ us hl => match us, hl with | [_], _ => rfl
theorem bi38 : BindOk f38 := fun _ _ _ _ _ _ us hl => match us, hl with | [_, _, _], _ => rfl
theorem bi39 : BindOk f39 := fun _ _ _ _ _ _ us hl => match us, hl with | [_, _], _ => rfl
theorem bi40 : BindOk f40 := fun _ _ _ _ _ _ us hl => match us, hl with | [_, _], _ => rfl
theorem bi41 : BindOk f41 := fun _ _ _ _ _ _ us hl => match us, hl with | [_, _], _ => rfl
theorem bi42 : BindOk f42 := fun _ _ _ _ _ _ us hl => match us, hl with | [_, _], _ => rfl
theorem bi43 : BindOk f43 := fun _ _ _ _ _ _ us hl => match us, hl with | [_, _], _ => rfl
theorem bi44 : BindOk f44 := fun _ _ _ _ _ _ us hl => match us, hl with | [_, _, _], _ => rfl
theorem bi45 : BindOk f45 := fun _ _ _ _ _ _ us hl => match us, hl with | [_, _], _ => rfl
theorem bi46 : BindOk f46 := fun _ _ _ _ _ _ us hl => match us, hl with | [_, _, _], _ => rfl
theorem bi47 : BindOk f47 := fun _ _ _ _ _ _ us hl => match us, hl with | [_], _ => rfl
theorem ar0 : ∀ ds, ds.length ≠ f0.ps.length → g0 ds = .bad := fun ds h => by
  unfold g0
  split <;> first | exact absurd rfl h | rfl
theorem fat0 {P : Program} {w : World} {K : PySem.W.Frag} {mg : Str → Option Value} {base : Heap} (T : All P w K mg base Fs Es Gs) : Fat P w K mg base Fs Es g0 .S 1 0 f0 := by
  refine fat_of T 0 rfl bi0 (NN := ["thing"]) (nl := 0) ⟨rfl, rfl, rfl, by decide +kernel, rfl, by decide +kernel, by decide +kernel⟩ rfl ar0 fun cdv A outer s H E X hX C ds hl => ?_
  match ds, hl with
  | [thing_1], _ =>
    exact ⟨b0 thing_1, rfl, (g_ret (r_and C (r_isi1 C (t := .int) (g_var 0)) (r_and1 (r_not C (r_isi1 C (t := .bool) (g_var 0))))) rfl)⟩
theorem ar1 : ∀ ds, ds.length ≠ f1.ps.length → g1 ds = .bad := fun ds h => by
  unfold g1
  split <;> first | exact absurd rfl h | rfl
theorem fat1 {P : Program} {w : World} {K : PySem.W.Frag} {mg : Str → Option Value} {base : Heap} (T : All P w K mg base Fs Es Gs) : Fat P w K mg base Fs Es g1 .S 2 1 f1 := by
  have h0 := (fat0 T).mono (show 1 ≤ 1 by omega)
  refine fat_of T 1 rfl bi1 (NN := ["thing", "least"]) (nl := 0) ⟨rfl, rfl, rfl, by decide +kernel, rfl, by decide +kernel, by decide +kernel⟩ rfl ar1 fun cdv A outer s H E X hX C ds hl => ?_
  match ds, hl with
  | [thing_1, least_2], _ =>
    exact ⟨b1 thing_1 least_2, rfl, (g_ret (r_and C (g_call C.room h0 rfl (C.mg 0 _ rfl) (ga_cons (g_var 0) ga_nil)) (r_and1 (r_ge C (g_var 0) (g_var 1)))) rfl)⟩
theorem ar2 : ∀ ds, ds.length ≠ f2.ps.length → g2 ds = .bad := fun ds h => by
  unfold g2
  split <;> first | exact absurd rfl h | rfl
theorem fat2 {P : Program} {w : World} {K : PySem.W.Frag} {mg : Str → Option Value} {base : Heap} (T : All P w K mg base Fs Es Gs) : Fat P w K mg base Fs Es g2 .S 2 2 f2 := by
  have h0 := (fat0 T).mono (show 1 ≤ 1 by omega)
  refine fat_of T 2 rfl bi2 (NN := ["thing", "least", "most"]) (nl := 0) ⟨rfl, rfl, rfl, by decide +kernel, rfl, by decide +kernel, by decide +kernel⟩ rfl ar2 fun cdv A outer s H E X hX C ds hl => ?_
  match ds, hl with
  | [thing_1, least_2, most_3], _ =>
    exact ⟨b2 thing_1 least_2 most_3, rfl, (g_ret (r_and C (g_call C.room h0 rfl (C.mg 0 _ rfl) (ga_cons (g_var 0) ga_nil)) (r_and1 (r_ch_le_le C (g_var 1) (g_var 0) (g_var 2)))) rfl)⟩
theorem ar3 : ∀ ds, ds.length ≠ f3.ps.length → g3 ds = .bad := fun ds h => by
  unfold g3
  split <;> first | exact absurd rfl h | rfl
theorem fat3 {P : Program} {w : World} {K : PySem.W.Frag} {mg : Str → Option Value} {base : Heap} (T : All P w K mg base Fs Es Gs) : Fat P w K mg base Fs Es g3 .S 1 3 f3 := by
  refine fat_of T 3 rfl bi3 (NN := ["thing", "length"]) (nl := 0) ⟨rfl, rfl, rfl, by decide +kernel, rfl, by decide +kernel, by decide +kernel⟩ rfl ar3 fun cdv A outer s H E X hX C ds hl => ?_
  match ds, hl with
  | [thing_1, length_2], _ =>
    exact ⟨b3 thing_1 length_2, rfl, (g_ret (r_and C (r_isi1 C (t := .tuple) (g_var 0)) (r_and1 (r_eq C (r_len C (g_var 0)) (g_var 1)))) rfl)⟩
theorem ar4 (n : Nat) : ∀ ds, ds.length ≠ f4.ps.length → g4n (n + 1) ds = .bad := fun ds h => by
  unfold g4n
  split <;> first | exact absurd rfl h | rfl
theorem fat4n {P : Program} {w : World} {K : PySem.W.Frag} {mg : Str → Option Value} {base : Heap} (T : All P w K mg base Fs Es Gs) : ∀ n, Fat P w K mg base Fs Es (g4n n) .C (0 + n) 4 f4
  | 0 => fat_bad T 4 rfl bi4
  | n + 1 => by
    have hs := fat4n T n
    refine fat_of T 4 rfl bi4 (NN := ["value", "own"]) (nl := 1) ⟨rfl, rfl, rfl, by decide +kernel, rfl, by decide +kernel, by decide +kernel⟩ rfl (ar4 n) fun cdv A outer s H E X hX C ds hl => ?_
    match ds, hl with
    | [value_1], _ =>
      exact ⟨b4 (g4n n) value_1, rfl, (g_ret (r_if (t_val C (r_isi2 C (t := .list) (u := .tuple) (g_var 0))) (PEv.le (c' := .C) (r_tuple C (g_comp (own := [("own", 1)]) C.calm C.nd (gi_seq C.hK (PEv.le (c' := .E) (g_var 0))) (blkOk_by rfl) rfl (fun _ _ _ _ _ => (tc_1 1 (G := (fun p_2 : D => [.s value_1, .s p_2])) C.blk.nd (by decide) (fun _ => rfl))) (fun _ _ _ _ _ p_2 => pts_yes) (fun _ _ _ _ _ p_2 => (g_call C.blk.room hs rfl (C.blk.mg 4 _ rfl) (ga_cons (g_var 1) ga_nil)))))) (g_var 0)) rfl)⟩
theorem fat4 {P : Program} {w : World} {K : PySem.W.Frag} {mg : Str → Option Value} {base : Heap} (T : All P w K mg base Fs Es Gs) : Fat P w K mg base Fs Es g4 .C 13 4 f4 := (fat4n T 12).mono (by decide)
theorem ar5 : ∀ ds, ds.length ≠ f5.ps.length → g5 ds = .bad := fun ds h => by
  unfold g5
  split <;> first | exact absurd rfl h | rfl
theorem fat5 {P : Program} {w : World} {K : PySem.W.Frag} {mg : Str → Option Value} {base : Heap} (T : All P w K mg base Fs Es Gs) : Fat P w K mg base Fs Es g5 .C 3 5 f5 := by
  have h1 := (fat1 T).mono (show 2 ≤ 2 by omega)
  refine fat_of T 5 rfl bi5 (NN := ["size"]) (nl := 0) ⟨rfl, rfl, rfl, by decide +kernel, rfl, by decide +kernel, by decide +kernel⟩ rfl ar5 fun cdv A outer s H E X hX C ds hl => ?_
  match ds, hl with
  | [size_1], _ =>
    exact ⟨b5 size_1, rfl, (g_if (po' := fun s_2 : Unit => [.s size_1]) (t_not C (t_val C (g_call C.room h1 rfl (C.mg 1 _ rfl) (ga_cons (g_var 0) (ga_cons (PEv.le (c' := .C) g_int) ga_nil))))) (g_raise0 (c := 1) C.hK C.calm C.exs rfl rfl) (g_nil ⟨(.cons .rf .nil), nofun⟩) (fun s_2 => (g_ret (g_var 0) rfl)))⟩
theorem ar6 : ∀ ds, ds.length ≠ f6.ps.length → g6 ds = .bad := fun ds h => by
  unfold g6
  split <;> first | exact absurd rfl h | rfl
theorem fat6 {P : Program} {w : World} {K : PySem.W.Frag} {mg : Str → Option Value} {base : Heap} (T : All P w K mg base Fs Es Gs) : Fat P w K mg base Fs Es g6 .S 3 6 f6 := by
  have h1 := (fat1 T).mono (show 2 ≤ 2 by omega)
  refine fat_of T 6 rfl bi6 (NN := ["thing", "k", "own"]) (nl := 2) ⟨rfl, rfl, rfl, by decide +kernel, rfl, by decide +kernel, by decide +kernel⟩ rfl ar6 fun cdv A outer s H E X hX C ds hl => ?_
  match ds, hl with
  | [thing_1], _ =>
    exact ⟨b6 thing_1, rfl, (g_if (po' := fun s_3 : Unit => [.s thing_1, .n, .n]) (t_w (w_or (t_not C (t_val C (r_isi1 C (t := .tuple) (g_var 0)))) (w_or1 (t_not C (t_val C (r_all C (g_comp (own := [("own", 2)]) C.calm C.nd (gi_seq C.hK (PEv.le (c' := .E) (g_var 0))) (blkOk_by rfl) rfl (fun _ _ _ _ _ => (tc_1 2 (G := (fun p_2 : D => [.s thing_1, .n, .s p_2])) C.blk.nd (by decide) (fun _ => rfl))) (fun _ _ _ _ _ p_2 => pts_yes) (fun _ _ _ _ _ p_2 => (PEv.le (c' := .C) (g_call C.blk.room h1 rfl (C.blk.mg 1 _ rfl) (ga_cons (g_var 2) (ga_cons (PEv.le (c' := .C) g_int) ga_nil)))))))))))) (g_ret g_bl rfl) (g_nil ⟨(.cons .rf (.cons .n (.cons .n .nil))), nofun⟩) (fun s_3 => (g_ret (r_all C (g_comp (own := [("k", 1)]) C.calm C.nd (gi_range1 (C.bl (by decide)) (r_sub C (r_len C (g_var 0)) g_int)) (blkOk_by rfl) rfl (fun _ _ _ _ _ => (tc_1 1 (G := (fun p_5 : D => [.s thing_1, .s p_5, .n])) C.blk.nd (by decide) (fun _ => rfl))) (fun _ _ _ _ _ p_5 => pts_yes) (fun _ _ _ _ _ p_5 => (PEv.le (c' := .C) (r_ge C.blk (r_get C.blk (g_var 0) (g_var 1)) (r_get C.blk (g_var 0) (r_add C.blk (g_var 1) g_int))))))) rfl)))⟩
theorem ar7 : ∀ ds, ds.length ≠ f7.ps.length → g7 ds = .bad := fun ds h => by
  unfold g7
  split <;> first | exact absurd rfl h | rfl
theorem fat7 {P : Program} {w : World} {K : PySem.W.Frag} {mg : Str → Option Value} {base : Heap} (T : All P w K mg base Fs Es Gs) : Fat P w K mg base Fs Es g7 .C 14 7 f7 := by
  have h4 := (fat4 T).mono (show 13 ≤ 13 by omega)
  have h6 := (fat6 T).mono (show 3 ≤ 13 by omega)
  refine fat_of T 7 rfl bi7 (NN := ["stack", "own"]) (nl := 1) ⟨rfl, rfl, rfl, by decide +kernel, rfl, by decide +kernel, by decide +kernel⟩ rfl ar7 fun cdv A outer s H E X hX C ds hl => ?_
  match ds, hl with
  | [stack_1], _ =>
    exact ⟨b7 stack_1, rfl, (g_setS 1 (G := fun own_2 => [.s stack_1, .s own_2]) C.nd (g_call C.room h4 rfl (C.mg 4 _ rfl) (ga_cons (g_var 0) ga_nil)) (.inl rfl) (fun _ => rfl) (fun own_2 => (g_if (po' := fun s_3 : Unit => [.s stack_1, .s own_2]) (t_not C (t_val C (g_call C.room h6 rfl (C.mg 6 _ rfl) (ga_cons (g_var 1) ga_nil)))) (g_raise0 (c := 1) C.hK C.calm C.exs rfl rfl) (g_nil ⟨(.cons .rf (.cons .rf .nil)), nofun⟩) (fun s_3 => (g_ret (g_var 1) rfl)))))⟩
theorem ar8 : ∀ ds, ds.length ≠ f8.ps.length → g8 ds = .bad := fun ds h => by
  unfold g8
  split <;> first | exact absurd rfl h | rfl
theorem fat8 {P : Program} {w : World} {K : PySem.W.Frag} {mg : Str → Option Value} {base : Heap} (T : All P w K mg base Fs Es Gs) : Fat P w K mg base Fs Es g8 .T 1 8 f8 := by
  refine fat_of T 8 rfl bi8 (NN := ["stack", "wide", "place", "own"]) (nl := 3) ⟨rfl, rfl, rfl, by decide +kernel, rfl, by decide +kernel, by decide +kernel⟩ rfl ar8 fun cdv A outer s H E X hX C ds hl => ?_
  match ds, hl with
  | [stack_1], _ =>
    exact ⟨b8 stack_1, rfl, (g_setS 1 (G := fun wide_2 => [.s stack_1, .s wide_2, .n, .n]) C.nd (r_if (t_ne C (g_var 0) (r_tup ga_nil cnt_nil)) (r_get C (g_var 0) g_int) (PEv.le (c' := .C) g_int)) (.inl rfl) (fun _ => rfl) (fun wide_2 => (g_ret (r_tuple C (g_comp (own := [("place", 2)]) C.calm C.nd (gi_range1 (C.bl (by decide)) (g_var 1)) (blkOk_by rfl) rfl (fun _ _ _ _ _ => (tc_1 2 (G := (fun p_3 : D => [.s stack_1, .s wide_2, .s p_3, .n])) C.blk.nd (by decide) (fun _ => rfl))) (fun _ _ _ _ _ p_3 => pts_yes) (fun _ _ _ _ _ p_3 => (PEv.le (c' := .C) (r_len C.blk (g_comp (own := [("own", 3)]) C.blk.calm C.blk.nd (gi_seq C.blk.hK (PEv.le (c' := .E) (g_var 0))) (blkOk_by rfl) rfl (fun _ _ _ _ _ => (tc_1 3 (G := (fun p_4 : D => [.s stack_1, .s wide_2, .s p_3, .s p_4])) C.blk.blk.nd (by decide) (fun _ => rfl))) (fun _ _ _ _ _ p_4 => (pts_if (t_gt C.blk.blk (g_var 3) (g_var 2)))) (fun _ _ _ _ _ p_4 => (g_var 3)))))))) rfl)))⟩
theorem ar9 : ∀ ds, ds.length ≠ f9.ps.length → g9 ds = .bad := fun ds h => by
  unfold g9
  split <;> first | exact absurd rfl h | rfl
theorem fat9 {P : Program} {w : World} {K : PySem.W.Frag} {mg : Str → Option Value} {base : Heap} (T : All P w K mg base Fs Es Gs) : Fat P w K mg base Fs Es g9 .S 1 9 f9 := by
  refine fat_of T 9 rfl bi9 (NN := ["stack", "turned", "cell", "place", "row"]) (nl := 2) ⟨rfl, rfl, rfl, by decide +kernel, rfl, by decide +kernel, by decide +kernel⟩ rfl ar9 fun cdv A outer s H E X hX C ds hl => ?_
  match ds, hl with
  | [stack_1, turned_2, cell_3], _ =>
    exact ⟨b9 stack_1 turned_2 cell_3, rfl, (g_par2 3 4 (kd := false) (ke := false) (G := fun place_4 row_5 => [.s stack_1, .s turned_2, .s cell_3, .s place_4, .s row_5]) C.calm C.nd (r_get C (g_var 2) g_int) (r_neg C (r_get C (g_var 2) g_int)) (by decide) (.inl rfl) (.inl rfl) (fun _ _ => rfl) (fun place_4 row_5 => (g_ret (r_sub C (r_sub C (r_add C (r_sub C (r_get C (g_var 0) (g_var 4)) (g_var 3)) (r_get C (g_var 1) (g_var 3))) (g_var 4)) g_int) rfl)))⟩
theorem ar10 : ∀ ds, ds.length ≠ f10.ps.length → g10 ds = .bad := fun ds h => by
  unfold g10
  split <;> first | exact absurd rfl h | rfl
theorem fat10 {P : Program} {w : World} {K : PySem.W.Frag} {mg : Str → Option Value} {base : Heap} (T : All P w K mg base Fs Es Gs) : Fat P w K mg base Fs Es g10 .T 1 10 f10 := by
  refine fat_of T 10 rfl bi10 (NN := ["number", "found", "told", "long", "own", "left"]) (nl := 5) ⟨rfl, rfl, rfl, by decide +kernel, rfl, by decide +kernel, by decide +kernel⟩ rfl ar10 fun cdv A outer s H E X hX C ds hl => ?_
  match ds, hl with
  | [number_1], _ =>
    exact ⟨b10 number_1, rfl, (g_par2 1 2 (kd := true) (ke := true) (G := fun found_2 told_3 => [.s number_1, .o found_2, .o told_3, .n, .n, .n]) C.calm C.nd (r_lst (ga_cons (r_tup (ga_cons (r_tup ga_nil cnt_nil) (ga_cons (g_var 0) ga_nil)) (cnt_cons (cnt_cons cnt_nil))) ga_nil) (cnt_cons cnt_nil)) (r_lst ga_nil cnt_nil) (by decide) (.inl rfl) (.inl rfl) (fun _ _ => rfl) (fun found_2 told_3 => (g_while (pl := fun s_4 : D × D => [.s number_1, .o s_4.1, .o s_4.2, .n, .n, .n]) 100000 C.po (fun s_4 => (t_ne C (g_varO 1) (r_lst ga_nil cnt_nil))) ⟨(.cons .rf (.cons .rf (.cons .rf (.cons .n (.cons .n (.cons .n .nil)))))), nofun⟩ (fun s_4 => (fs_asg (j := 1) (f := fun w_5 => (fun d_17 => upk2 .bad d_17 fun own_6 left_7 => thnS (tst (o2 oEq (.ok left_7) (.ok (D.int 0))) (asL .bad s_4.2 (bnS (.ok own_6) fun u_10 => bnS (oAppend s_4.2 u_10) fun told_9 => Fl.nx told_9)) (Fl.nx s_4.2)) fun (s_8 : D) => bnS (bnd (.ok (D.int 1)) fun u => bnd (o2 oAdd (o2 oMin2 (.ok left_7) (vIf (o2 oNe (.ok own_6) (bnd an mkT)) (o2 oGet (.ok own_6) (o1 oNeg (.ok (D.int 1)))) (.ok left_7))) (.ok (D.int 1))) fun w => wRange2 u w) fun xs_16 => thnS (forL (fun (s_11 : D) => (fun long_12 => asL .bad s_11 (bnS (bnd (ac (o2 oAdd (.ok own_6) (bnd (ac (.ok long_12) an) mkT)) (ac (o2 oSub (.ok left_7) (.ok long_12)) an)) mkT) fun u_14 => bnS (oAppend s_11 u_14) fun found_13 => Fl.nx found_13))) xs_16 w_5) fun (s_11 : D) => Fl.nx (s_11, s_8))) (f_pop C 1) (fun w_5 => (t_2 4 5 (G := fun own_6 left_7 => [.s number_1, .o w_5, .o s_4.2, .n, .s own_6, .s left_7]) C.calm C.hK C.nd (.inl rfl) (.inl rfl) (fun _ _ => rfl) (fun own_6 left_7 => (g_if (po' := fun s_8 : D => [.s number_1, .o w_5, .o s_8, .n, .s own_6, .s left_7]) (t_eq C (g_var 5) g_int) (g_append C 2 (G := fun told_9 => [.s number_1, .o w_5, .o told_9, .n, .s own_6, .s left_7]) (g_var 4) (fun _ => rfl) (fun told_9 => (g_nil ⟨(.cons .rf (.cons .rf (.cons .rf (.cons .n (.cons .rf (.cons .rf .nil)))))), nofun⟩))) (g_nil ⟨(.cons .rf (.cons .rf (.cons .rf (.cons .n (.cons .rf (.cons .rf .nil)))))), nofun⟩) (fun s_8 => (g_for (pl := fun s_11 : D => [.s number_1, .o s_11, .o s_8, .n, .s own_6, .s left_7]) C.po C.calm (gi_range2 (C.bl (by decide)) (PEv.le (c' := .T) g_int) (r_add C (r_min2 C (g_var 5) (r_if (t_ne C (g_var 4) (r_tup ga_nil cnt_nil)) (r_get C (g_var 4) (r_neg C g_int)) (g_var 5))) g_int)) ⟨(.cons .rf (.cons .rf (.cons .rf (.cons .n (.cons .rf (.cons .rf .nil)))))), nofun⟩ (fun s_11 => (t_nm 3 (G := fun long_12 => [.s number_1, .o s_11, .o s_8, .s long_12, .s own_6, .s left_7]) C.nd (.inl rfl) (fun _ => rfl) (fun long_12 => (g_append C 1 (G := fun found_13 => [.s number_1, .o found_13, .o s_8, .s long_12, .s own_6, .s left_7]) (r_tup (ga_cons (PEv.le (c' := .C) (r_add C (g_var 4) (r_tup (ga_cons (g_var 3) ga_nil) (cnt_cons cnt_nil)))) (ga_cons (PEv.le (c' := .C) (r_sub C (g_var 5) (g_var 3))) ga_nil)) (cnt_cons (cnt_cons cnt_nil))) (fun _ => rfl) (fun found_13 => (g_nil ⟨(.cons .rf (.cons .rf (.cons .rf (.cons .n (.cons .rf (.cons .rf .nil)))))), nofun⟩)))))) (fun s_11 => (g_nil ⟨(.cons .rf (.cons .rf (.cons .rf (.cons .n (.cons .n (.cons .n .nil)))))), nofun⟩)))))))))) (fun s_4 => (g_ret (r_sorted C (g_varO 2)) rfl)))))⟩
theorem ar11 : ∀ ds, ds.length ≠ f11.ps.length → g11 ds = .bad := fun ds h => by
  unfold g11
  split <;> first | exact absurd rfl h | rfl
theorem fat11 {P : Program} {w : World} {K : PySem.W.Frag} {mg : Str → Option Value} {base : Heap} (T : All P w K mg base Fs Es Gs) : Fat P w K mg base Fs Es g11 .C 15 11 f11 := by
  have h5 := (fat5 T).mono (show 3 ≤ 14 by omega)
  have h7 := (fat7 T).mono (show 14 ≤ 14 by omega)
  refine fat_of T 11 rfl bi11 (NN := ["stack", "size", "own"]) (nl := 1) ⟨rfl, rfl, rfl, by decide +kernel, rfl, by decide +kernel, by decide +kernel⟩ rfl ar11 fun cdv A outer s H E X hX C ds hl => ?_
  match ds, hl with
  | [stack_1, size_2], _ =>
    exact ⟨b11 stack_1 size_2, rfl, (g_setS 2 (G := fun own_3 => [.s stack_1, .s size_2, .s own_3]) C.nd (g_call C.room h7 rfl (C.mg 7 _ rfl) (ga_cons (g_var 0) ga_nil)) (.inl rfl) (fun _ => rfl) (fun own_3 => (g_ret (r_tup (ga_cons (g_var 2) (ga_cons (g_call C.room h5 rfl (C.mg 5 _ rfl) (ga_cons (g_var 1) ga_nil)) ga_nil)) (cnt_cons (cnt_cons cnt_nil))) rfl)))⟩
theorem ar12 : ∀ ds, ds.length ≠ f12.ps.length → g12s ds = .bad := fun ds h => by
  unfold g12s
  split <;> first | exact absurd rfl h | rfl
theorem fat12s {P : Program} {w : World} {K : PySem.W.Frag} {mg : Str → Option Value} {base : Heap} (T : All P w K mg base Fs Es Gs) : Fat P w K mg base Fs Es g12s .C 1 12 f12 := by
  refine fat_of T 12 rfl bi12 (NN := ["above", "below", "one", "other"]) (nl := 2) ⟨rfl, rfl, rfl, by decide +kernel, rfl, by decide +kernel, by decide +kernel⟩ rfl ar12 fun cdv A outer s H E X hX C ds hl => ?_
  match ds, hl with
  | [above_1, below_2], _ =>
    exact ⟨b12 above_1 below_2, rfl, (g_par2 2 3 (kd := false) (ke := false) (G := fun one_3 other_4 => [.s above_1, .s below_2, .s one_3, .s other_4]) C.calm C.nd (r_abs C (g_var 0)) (g_var 1) (by decide) (.inl rfl) (.inl rfl) (fun _ _ => rfl) (fun one_3 other_4 => (g_while (pl := fun s_5 : D × D => [.s above_1, .s below_2, .s s_5.1, .s s_5.2]) 100000 C.po (fun s_5 => (t_gt C (g_var 3) g_int)) ⟨(.cons .rf (.cons .rf (.cons .rf (.cons .rf .nil)))), nofun⟩ (fun s_5 => (g_par2 2 3 (kd := false) (ke := false) (G := fun one_6 other_7 => [.s above_1, .s below_2, .s one_6, .s other_7]) C.calm C.nd (g_var 3) (r_mod C (g_var 2) (g_var 3)) (by decide) (.inl rfl) (.inl rfl) (fun _ _ => rfl) (fun one_6 other_7 => (g_nil ⟨(.cons .rf (.cons .rf (.cons .rf (.cons .rf .nil)))), nofun⟩)))) (fun s_5 => (g_ret (r_tup (ga_cons (PEv.le (c' := .C) (r_fdiv C (g_var 0) (g_var 2))) (ga_cons (PEv.le (c' := .C) (r_fdiv C (g_var 1) (g_var 2))) ga_nil)) (cnt_cons (cnt_cons cnt_nil))) rfl)))))⟩
theorem fat12 {P : Program} {w : World} {K : PySem.W.Frag} {mg : Str → Option Value} {base : Heap} (T : All P w K mg base Fs Es Gs) : Fat P w K mg base Fs Es g12 .C 1 12 f12 := by rw [gq12]; exact fat12s T
theorem ar13 : ∀ ds, ds.length ≠ f13.ps.length → g13 ds = .bad := fun ds h => by
  unfold g13
  split <;> first | exact absurd rfl h | rfl
theorem fat13 {P : Program} {w : World} {K : PySem.W.Frag} {mg : Str → Option Value} {base : Heap} (T : All P w K mg base Fs Es Gs) : Fat P w K mg base Fs Es g13 .C 2 13 f13 := by
  have h12 := (fat12 T).mono (show 1 ≤ 1 by omega)
  refine fat_of T 13 rfl bi13 (NN := ["one", "other"]) (nl := 0) ⟨rfl, rfl, rfl, by decide +kernel, rfl, by decide +kernel, by decide +kernel⟩ rfl ar13 fun cdv A outer s H E X hX C ds hl => ?_
  match ds, hl with
  | [one_1, other_2], _ =>
    exact ⟨b13 one_1 other_2, rfl, (g_ret (g_call C.room h12 rfl (C.mg 12 _ rfl) (ga_cons (PEv.le (c' := .C) (r_mul C (r_get C (g_var 0) g_int) (r_get C (g_var 1) g_int))) (ga_cons (PEv.le (c' := .C) (r_mul C (r_get C (g_var 0) g_int) (r_get C (g_var 1) g_int))) ga_nil))) rfl)⟩
theorem ar14 : ∀ ds, ds.length ≠ f14.ps.length → g14 ds = .bad := fun ds h => by
  unfold g14
  split <;> first | exact absurd rfl h | rfl
theorem fat14 {P : Program} {w : World} {K : PySem.W.Frag} {mg : Str → Option Value} {base : Heap} (T : All P w K mg base Fs Es Gs) : Fat P w K mg base Fs Es g14 .C 2 14 f14 := by
  have h12 := (fat12 T).mono (show 1 ≤ 1 by omega)
  refine fat_of T 14 rfl bi14 (NN := ["one", "other"]) (nl := 0) ⟨rfl, rfl, rfl, by decide +kernel, rfl, by decide +kernel, by decide +kernel⟩ rfl ar14 fun cdv A outer s H E X hX C ds hl => ?_
  match ds, hl with
  | [one_1, other_2], _ =>
    exact ⟨b14 one_1 other_2, rfl, (g_ret (g_call C.room h12 rfl (C.mg 12 _ rfl) (ga_cons (PEv.le (c' := .C) (r_add C (r_mul C (r_get C (g_var 0) g_int) (r_get C (g_var 1) g_int)) (r_mul C (r_get C (g_var 1) g_int) (r_get C (g_var 0) g_int)))) (ga_cons (PEv.le (c' := .C) (r_mul C (r_get C (g_var 0) g_int) (r_get C (g_var 1) g_int))) ga_nil))) rfl)⟩
theorem ar15 : ∀ ds, ds.length ≠ f15.ps.length → g15 ds = .bad := fun ds h => by
  unfold g15
  split <;> first | exact absurd rfl h | rfl
theorem fat15 {P : Program} {w : World} {K : PySem.W.Frag} {mg : Str → Option Value} {base : Heap} (T : All P w K mg base Fs Es Gs) : Fat P w K mg base Fs Es g15 .C 3 15 f15 := by
  have h14 := (fat14 T).mono (show 2 ≤ 2 by omega)
  refine fat_of T 15 rfl bi15 (NN := ["one", "other"]) (nl := 0) ⟨rfl, rfl, rfl, by decide +kernel, rfl, by decide +kernel, by decide +kernel⟩ rfl ar15 fun cdv A outer s H E X hX C ds hl => ?_
  match ds, hl with
  | [one_1, other_2], _ =>
    exact ⟨b15 one_1 other_2, rfl, (g_ret (g_call C.room h14 rfl (C.mg 14 _ rfl) (ga_cons (g_var 0) (ga_cons (r_tup (ga_cons (PEv.le (c' := .C) (r_sub C g_int (r_get C (g_var 1) g_int))) (ga_cons (r_get C (g_var 1) g_int) ga_nil)) (cnt_cons (cnt_cons cnt_nil))) ga_nil))) rfl)⟩
theorem ar16 : ∀ ds, ds.length ≠ f16.ps.length → g16 ds = .bad := fun ds h => by
  unfold g16
  split <;> first | exact absurd rfl h | rfl
theorem fat16 {P : Program} {w : World} {K : PySem.W.Frag} {mg : Str → Option Value} {base : Heap} (T : All P w K mg base Fs Es Gs) : Fat P w K mg base Fs Es g16 .C 2 16 f16 := by
  have h8 := (fat8 T).mono (show 1 ≤ 1 by omega)
  have h9 := (fat9 T).mono (show 1 ≤ 1 by omega)
  refine fat_of T 16 rfl bi16 (NN := ["stack", "turned", "found", "row", "wide", "place"]) (nl := 5) ⟨rfl, rfl, rfl, by decide +kernel, rfl, by decide +kernel, by decide +kernel⟩ rfl ar16 fun cdv A outer s H E X hX C ds hl => ?_
  match ds, hl with
  | [stack_1], _ =>
    exact ⟨b16 stack_1, rfl, (g_tup2 1 2 (kd := false) (ke := true) (G := fun turned_2 found_3 => [.s stack_1, .s turned_2, .o found_3, .n, .n, .n]) C.calm C.nd (g_call C.room h8 rfl (C.mg 8 _ rfl) (ga_cons (g_var 0) ga_nil)) (r_lst ga_nil cnt_nil) (.inl rfl) (.inl rfl) (fun _ _ => rfl) (fun turned_2 found_3 => (g_for (pl := fun s_4 : D => [.s stack_1, .s turned_2, .o s_4, .n, .n, .n]) C.po C.calm (gi_enum C.hK (C.bl (by decide)) (g_var 0)) ⟨(.cons .rf (.cons .rf (.cons .rf (.cons .n (.cons .n (.cons .n .nil)))))), nofun⟩ (fun s_4 => (t_2 3 4 (G := fun row_5 wide_6 => [.s stack_1, .s turned_2, .o s_4, .s row_5, .s wide_6, .n]) C.calm C.hK C.nd (.inl rfl) (.inl rfl) (fun _ _ => rfl) (fun row_5 wide_6 => (g_extend C 2 (G := fun found_7 => [.s stack_1, .s turned_2, .o found_7, .s row_5, .s wide_6, .n]) (PEv.le (c' := .E) (g_comp (own := [("place", 5)]) C.calm C.nd (gi_range1 (C.bl (by decide)) (g_var 4)) (blkOk_by rfl) rfl (fun _ _ _ _ _ => (tc_1 5 (G := (fun p_8 : D => [.s stack_1, .s turned_2, .o s_4, .s row_5, .s wide_6, .s p_8])) C.blk.nd (by decide) (fun _ => rfl))) (fun _ _ _ _ _ p_8 => pts_yes) (fun _ _ _ _ _ p_8 => (PEv.le (c' := .C) (g_call C.blk.room h9 rfl (C.blk.mg 9 _ rfl) (ga_cons (g_var 0) (ga_cons (g_var 1) (ga_cons (r_tup (ga_cons (g_var 5) (ga_cons (PEv.le (c' := .C) (r_neg C.blk (g_var 3))) ga_nil)) (cnt_cons (cnt_cons cnt_nil))) ga_nil)))))))) (fun _ => rfl) (fun found_7 => (g_nil ⟨(.cons .rf (.cons .rf (.cons .rf (.cons .n (.cons .n (.cons .n .nil)))))), nofun⟩)))))) (fun s_4 => (g_le (Γ' := [.s stack_1, .s turned_2, .s s_4, .n, .n, .n]) ⟨(.cons .rf (.cons .rf (.cons .f (.cons .n (.cons .n (.cons .n .nil)))))), nofun⟩ (g_ret (g_var 2) rfl))))))⟩
theorem ar17 : ∀ ds, ds.length ≠ f17.ps.length → g17 ds = .bad := fun ds h => by
  unfold g17
  split <;> first | exact absurd rfl h | rfl
theorem fat17 {P : Program} {w : World} {K : PySem.W.Frag} {mg : Str → Option Value} {base : Heap} (T : All P w K mg base Fs Es Gs) : Fat P w K mg base Fs Es g17 .C 4 17 f17 := by
  have h13 := (fat13 T).mono (show 2 ≤ 3 by omega)
  have h15 := (fat15 T).mono (show 3 ≤ 3 by omega)
  have h16 := (fat16 T).mono (show 2 ≤ 3 by omega)
  refine fat_of T 17 rfl bi17 (NN := ["stack", "size", "number", "found", "own"]) (nl := 2) ⟨rfl, rfl, rfl, by decide +kernel, rfl, by decide +kernel, by decide +kernel⟩ rfl ar17 fun cdv A outer s H E X hX C ds hl => ?_
  match ds, hl with
  | [stack_1, size_2, number_3], _ =>
    exact ⟨b17 stack_1 size_2 number_3, rfl, (g_setS 3 (G := fun found_4 => [.s stack_1, .s size_2, .s number_3, .s found_4, .n]) C.nd (r_glo C 2 rfl) (.inl rfl) (fun _ => rfl) (fun found_4 => (g_for (pl := fun s_5 : D => [.s stack_1, .s size_2, .s number_3, .s s_5, .n]) C.po C.calm (gi_seq C.hK (g_call C.room h16 rfl (C.mg 16 _ rfl) (ga_cons (g_var 0) ga_nil))) ⟨(.cons .rf (.cons .rf (.cons .rf (.cons .rf (.cons .n .nil))))), nofun⟩ (fun s_5 => (t_nm 4 (G := fun own_6 => [.s stack_1, .s size_2, .s number_3, .s s_5, .s own_6]) C.nd (.inl rfl) (fun _ => rfl) (fun own_6 => (g_if (po' := fun s_7 : D => [.s stack_1, .s size_2, .s number_3, .s s_7, .s own_6]) (t_eq C (r_mod C (g_var 4) (g_var 1)) g_int) (g_setS 3 (G := fun found_8 => [.s stack_1, .s size_2, .s number_3, .s found_8, .s own_6]) C.nd (g_call C.room h13 rfl (C.mg 13 _ rfl) (ga_cons (g_var 3) (ga_cons (g_call C.room h15 rfl (C.mg 15 _ rfl) (ga_cons (PEv.le (c' := .C) (r_glo C 2 rfl)) (ga_cons (g_call C.room h13 rfl (C.mg 13 _ rfl) (ga_cons (r_tup (ga_cons (g_var 1) (ga_cons (PEv.le (c' := .C) (r_mul C (g_var 4) (g_var 4))) ga_nil)) (cnt_cons (cnt_cons cnt_nil))) (ga_cons (g_var 2) ga_nil))) ga_nil))) ga_nil))) (.inl rfl) (fun _ => rfl) (fun found_8 => (g_nil ⟨(.cons .rf (.cons .rf (.cons .rf (.cons .rf (.cons .rf .nil))))), nofun⟩))) (g_nil ⟨(.cons .rf (.cons .rf (.cons .rf (.cons .rf (.cons .rf .nil))))), nofun⟩) (fun s_7 => (g_nil ⟨(.cons .rf (.cons .rf (.cons .rf (.cons .rf (.cons .n .nil))))), nofun⟩)))))) (fun s_5 => (g_ret (g_var 3) rfl)))))⟩
theorem ar18 : ∀ ds, ds.length ≠ f18.ps.length → g18 ds = .bad := fun ds h => by
  unfold g18
  split <;> first | exact absurd rfl h | rfl
theorem fat18 {P : Program} {w : World} {K : PySem.W.Frag} {mg : Str → Option Value} {base : Heap} (T : All P w K mg base Fs Es Gs) : Fat P w K mg base Fs Es g18 .C 5 18 f18 := by
  have h10 := (fat10 T).mono (show 1 ≤ 4 by omega)
  have h14 := (fat14 T).mono (show 2 ≤ 4 by omega)
  have h17 := (fat17 T).mono (show 4 ≤ 4 by omega)
  refine fat_of T 18 rfl bi18 (NN := ["size", "many", "number", "found", "stack"]) (nl := 2) ⟨rfl, rfl, rfl, by decide +kernel, rfl, by decide +kernel, by decide +kernel⟩ rfl ar18 fun cdv A outer s H E X hX C ds hl => ?_
  match ds, hl with
  | [size_1, many_2, number_3], _ =>
    exact ⟨b18 size_1 many_2 number_3, rfl, (g_setS 3 (G := fun found_4 => [.s size_1, .s many_2, .s number_3, .s found_4, .n]) C.nd (r_glo C 1 rfl) (.inl rfl) (fun _ => rfl) (fun found_4 => (g_for (pl := fun s_5 : D => [.s size_1, .s many_2, .s number_3, .s s_5, .n]) C.po C.calm (gi_seq C.hK (PEv.le (c' := .C) (g_call C.room h10 rfl (C.mg 10 _ rfl) (ga_cons (g_var 1) ga_nil)))) ⟨(.cons .rf (.cons .rf (.cons .rf (.cons .rf (.cons .n .nil))))), nofun⟩ (fun s_5 => (t_nm 4 (G := fun stack_6 => [.s size_1, .s many_2, .s number_3, .s s_5, .s stack_6]) C.nd (.inl rfl) (fun _ => rfl) (fun stack_6 => (g_setS 3 (G := fun found_7 => [.s size_1, .s many_2, .s number_3, .s found_7, .s stack_6]) C.nd (g_call C.room h14 rfl (C.mg 14 _ rfl) (ga_cons (g_var 3) (ga_cons (g_call C.room h17 rfl (C.mg 17 _ rfl) (ga_cons (g_var 4) (ga_cons (g_var 0) (ga_cons (g_var 2) ga_nil)))) ga_nil))) (.inl rfl) (fun _ => rfl) (fun found_7 => (g_nil ⟨(.cons .rf (.cons .rf (.cons .rf (.cons .rf (.cons .n .nil))))), nofun⟩)))))) (fun s_5 => (g_ret (g_var 3) rfl)))))⟩
theorem ar19 : ∀ ds, ds.length ≠ f19.ps.length → g19 ds = .bad := fun ds h => by
  unfold g19
  split <;> first | exact absurd rfl h | rfl
theorem fat19 {P : Program} {w : World} {K : PySem.W.Frag} {mg : Str → Option Value} {base : Heap} (T : All P w K mg base Fs Es Gs) : Fat P w K mg base Fs Es g19 .C 3 19 f19 := by
  have h13 := (fat13 T).mono (show 2 ≤ 2 by omega)
  have h14 := (fat14 T).mono (show 2 ≤ 2 by omega)
  refine fat_of T 19 rfl bi19 (NN := ["step", "most", "power", "found", "place", "whole", "own", "shares", "number"]) (nl := 6) ⟨rfl, rfl, rfl, by decide +kernel, rfl, by decide +kernel, by decide +kernel⟩ rfl ar19 fun cdv A outer s H E X hX C ds hl => ?_
  match ds, hl with
  | [step_1, most_2, power_3], _ =>
    exact ⟨b19 step_1 most_2 power_3, rfl, (g_setO 3 (G := fun found_4 => [.s step_1, .s most_2, .s power_3, .o found_4, .n, .n, .n, .n, .n]) C.nd (r_add C (r_lst (ga_cons (PEv.le (c' := .C) (r_glo C 2 rfl)) ga_nil) (cnt_cons cnt_nil)) (r_mul C (r_lst (ga_cons (PEv.le (c' := .C) (r_glo C 1 rfl)) ga_nil) (cnt_cons cnt_nil)) (g_var 1))) (.inl rfl) (fun _ => rfl) (fun found_4 => (g_for (pl := fun s_5 : D => [.s step_1, .s most_2, .s power_3, .o s_5, .n, .n, .n, .n, .n]) C.po C.calm (gi_range2 (C.bl (by decide)) (PEv.le (c' := .T) g_int) (r_add C (g_var 1) g_int)) ⟨(.cons .rf (.cons .rf (.cons .rf (.cons .rf (.cons .n (.cons .n (.cons .n (.cons .n (.cons .n .nil))))))))), nofun⟩ (fun s_5 => (t_nm 4 (G := fun place_6 => [.s step_1, .s most_2, .s power_3, .o s_5, .s place_6, .n, .n, .n, .n]) C.nd (.inl rfl) (fun _ => rfl) (fun place_6 => (g_setS 5 (G := fun whole_7 => [.s step_1, .s most_2, .s power_3, .o s_5, .s place_6, .s whole_7, .n, .n, .n]) C.nd (r_glo C 1 rfl) (.inl rfl) (fun _ => rfl) (fun whole_7 => (g_for (pl := fun s_8 : D => [.s step_1, .s most_2, .s power_3, .o s_5, .s place_6, .s s_8, .n, .n, .n]) C.po C.calm (gi_range3 (C.bl (by decide)) (g_var 0) (PEv.le (c' := .C) (r_add C (g_var 4) g_int)) (g_var 0)) ⟨(.cons .rf (.cons .rf (.cons .rf (.cons .rf (.cons .rf (.cons .rf (.cons .n (.cons .n (.cons .n .nil))))))))), nofun⟩ (fun s_8 => (t_nm 6 (G := fun own_9 => [.s step_1, .s most_2, .s power_3, .o s_5, .s place_6, .s s_8, .s own_9, .n, .n]) C.nd (.inl rfl) (fun _ => rfl) (fun own_9 => (g_setS 7 (G := fun shares_10 => [.s step_1, .s most_2, .s power_3, .o s_5, .s place_6, .s s_8, .s own_9, .s shares_10, .n]) C.nd (r_mul C (r_sum C (g_comp (own := [("number", 8)]) C.calm C.nd (gi_range2 (C.bl (by decide)) (PEv.le (c' := .T) g_int) (r_add C (r_fdiv C (g_var 6) (g_var 0)) g_int)) (blkOk_by rfl) rfl (fun _ _ _ _ _ => (tc_1 8 (G := (fun p_11 : D => [.s step_1, .s most_2, .s power_3, .o s_5, .s place_6, .s s_8, .s own_9, .n, .s p_11])) C.blk.nd (by decide) (fun _ => rfl))) (fun _ _ _ _ _ p_11 => (pts_if (t_eq C.blk (r_mod C.blk (r_fdiv C.blk (g_var 6) (g_var 0)) (g_var 8)) g_int))) (fun _ _ _ _ _ p_11 => (g_var 8)))) (g_var 0)) (.inl rfl) (fun _ => rfl) (fun shares_10 => (g_setS 5 (G := fun whole_12 => [.s step_1, .s most_2, .s power_3, .o s_5, .s place_6, .s whole_12, .s own_9, .s shares_10, .n]) C.nd (g_call C.room h14 rfl (C.mg 14 _ rfl) (ga_cons (g_var 5) (ga_cons (g_call C.room h13 rfl (C.mg 13 _ rfl) (ga_cons (r_tup (ga_cons (g_var 7) (ga_cons (PEv.le (c' := .C) g_int) ga_nil)) (cnt_cons (cnt_cons cnt_nil))) (ga_cons (r_get C (g_varO 3) (r_sub C (g_var 4) (g_var 6))) ga_nil))) ga_nil))) (.inl rfl) (fun _ => rfl) (fun whole_12 => (g_nil ⟨(.cons .rf (.cons .rf (.cons .rf (.cons .rf (.cons .rf (.cons .rf (.cons .n (.cons .n (.cons .n .nil))))))))), nofun⟩)))))))) (fun s_8 => (g_sub C 3 (G := fun found_14 => [.s step_1, .s most_2, .s power_3, .o found_14, .s place_6, .s s_8, .n, .n, .n]) (g_call C.room h13 rfl (C.mg 13 _ rfl) (ga_cons (g_call C.room h13 rfl (C.mg 13 _ rfl) (ga_cons (r_tup (ga_cons (PEv.le (c' := .C) (r_sub C g_int (r_get C (g_var 2) g_int))) (ga_cons (r_get C (g_var 2) g_int) ga_nil)) (cnt_cons (cnt_cons cnt_nil))) (ga_cons (g_var 5) ga_nil))) (ga_cons (r_tup (ga_cons (PEv.le (c' := .C) g_int) (ga_cons (g_var 4) ga_nil)) (cnt_cons (cnt_cons cnt_nil))) ga_nil))) (g_var 4) (fun _ => rfl) (fun found_14 => (g_nil ⟨(.cons .rf (.cons .rf (.cons .rf (.cons .rf (.cons .n (.cons .n (.cons .n (.cons .n (.cons .n .nil))))))))), nofun⟩)))))))))) (fun s_5 => (g_le (Γ' := [.s step_1, .s most_2, .s power_3, .s s_5, .n, .n, .n, .n, .n]) ⟨(.cons .rf (.cons .rf (.cons .rf (.cons .f (.cons .n (.cons .n (.cons .n (.cons .n (.cons .n .nil))))))))), nofun⟩ (g_ret (g_var 3) rfl))))))⟩
theorem ar20 : ∀ ds, ds.length ≠ f20.ps.length → g20 ds = .bad := fun ds h => by
  unfold g20
  split <;> first | exact absurd rfl h | rfl
theorem fat20 {P : Program} {w : World} {K : PySem.W.Frag} {mg : Str → Option Value} {base : Heap} (T : All P w K mg base Fs Es Gs) : Fat P w K mg base Fs Es g20 .C 3 20 f20 := by
  have h13 := (fat13 T).mono (show 2 ≤ 2 by omega)
  have h14 := (fat14 T).mono (show 2 ≤ 2 by omega)
  refine fat_of T 20 rfl bi20 (NN := ["one", "other", "found", "place", "whole", "own"]) (nl := 4) ⟨rfl, rfl, rfl, by decide +kernel, rfl, by decide +kernel, by decide +kernel⟩ rfl ar20 fun cdv A outer s H E X hX C ds hl => ?_
  match ds, hl with
  | [one_1, other_2], _ =>
    exact ⟨b20 one_1 other_2, rfl, (g_setO 2 (G := fun found_3 => [.s one_1, .s other_2, .o found_3, .n, .n, .n]) C.nd (r_lst ga_nil cnt_nil) (.inl rfl) (fun _ => rfl) (fun found_3 => (g_for (pl := fun s_4 : D => [.s one_1, .s other_2, .o s_4, .n, .n, .n]) C.po C.calm (gi_range1 (C.bl (by decide)) (r_len C (g_var 0))) ⟨(.cons .rf (.cons .rf (.cons .rf (.cons .n (.cons .n (.cons .n .nil)))))), nofun⟩ (fun s_4 => (t_nm 3 (G := fun place_5 => [.s one_1, .s other_2, .o s_4, .s place_5, .n, .n]) C.nd (.inl rfl) (fun _ => rfl) (fun place_5 => (g_setS 4 (G := fun whole_6 => [.s one_1, .s other_2, .o s_4, .s place_5, .s whole_6, .n]) C.nd (r_glo C 1 rfl) (.inl rfl) (fun _ => rfl) (fun whole_6 => (g_for (pl := fun s_7 : D => [.s one_1, .s other_2, .o s_4, .s place_5, .s s_7, .n]) C.po C.calm (gi_range1 (C.bl (by decide)) (r_add C (g_var 3) g_int)) ⟨(.cons .rf (.cons .rf (.cons .rf (.cons .rf (.cons .rf (.cons .n .nil)))))), nofun⟩ (fun s_7 => (t_nm 5 (G := fun own_8 => [.s one_1, .s other_2, .o s_4, .s place_5, .s s_7, .s own_8]) C.nd (.inl rfl) (fun _ => rfl) (fun own_8 => (g_setS 4 (G := fun whole_9 => [.s one_1, .s other_2, .o s_4, .s place_5, .s whole_9, .s own_8]) C.nd (g_call C.room h14 rfl (C.mg 14 _ rfl) (ga_cons (g_var 4) (ga_cons (g_call C.room h13 rfl (C.mg 13 _ rfl) (ga_cons (r_get C (g_var 0) (g_var 5)) (ga_cons (r_get C (g_var 1) (r_sub C (g_var 3) (g_var 5))) ga_nil))) ga_nil))) (.inl rfl) (fun _ => rfl) (fun whole_9 => (g_nil ⟨(.cons .rf (.cons .rf (.cons .rf (.cons .rf (.cons .rf (.cons .n .nil)))))), nofun⟩)))))) (fun s_7 => (g_append C 2 (G := fun found_11 => [.s one_1, .s other_2, .o found_11, .s place_5, .s s_7, .n]) (g_var 4) (fun _ => rfl) (fun found_11 => (g_nil ⟨(.cons .rf (.cons .rf (.cons .rf (.cons .n (.cons .n (.cons .n .nil)))))), nofun⟩)))))))))) (fun s_4 => (g_le (Γ' := [.s one_1, .s other_2, .s s_4, .n, .n, .n]) ⟨(.cons .rf (.cons .rf (.cons .f (.cons .n (.cons .n (.cons .n .nil)))))), nofun⟩ (g_ret (g_var 2) rfl))))))⟩
theorem ar21 : ∀ ds, ds.length ≠ f21.ps.length → g21 ds = .bad := fun ds h => by
  unfold g21
  split <;> first | exact absurd rfl h | rfl
theorem fat21 {P : Program} {w : World} {K : PySem.W.Frag} {mg : Str → Option Value} {base : Heap} (T : All P w K mg base Fs Es Gs) : Fat P w K mg base Fs Es g21 .C 4 21 f21 := by
  have h19 := (fat19 T).mono (show 3 ≤ 3 by omega)
  have h20 := (fat20 T).mono (show 3 ≤ 3 by omega)
  refine fat_of T 21 rfl bi21 (NN := ["size", "many", "number"]) (nl := 0) ⟨rfl, rfl, rfl, by decide +kernel, rfl, by decide +kernel, by decide +kernel⟩ rfl ar21 fun cdv A outer s H E X hX C ds hl => ?_
  match ds, hl with
  | [size_1, many_2, number_3], _ =>
    exact ⟨b21 size_1 many_2 number_3, rfl, (g_ret (r_get C (g_call C.room h20 rfl (C.mg 20 _ rfl) (ga_cons (g_call C.room h19 rfl (C.mg 19 _ rfl) (ga_cons (g_var 0) (ga_cons (g_var 1) (ga_cons (g_var 2) ga_nil)))) (ga_cons (g_call C.room h19 rfl (C.mg 19 _ rfl) (ga_cons (PEv.le (c' := .C) g_int) (ga_cons (g_var 1) (ga_cons (r_tup (ga_cons (PEv.le (c' := .C) (r_neg C g_int)) (ga_cons (PEv.le (c' := .C) g_int) ga_nil)) (cnt_cons (cnt_cons cnt_nil))) ga_nil)))) ga_nil))) (g_var 1)) rfl)⟩
theorem ar22 : ∀ ds, ds.length ≠ f22.ps.length → g22 ds = .bad := fun ds h => by
  unfold g22
  split <;> first | exact absurd rfl h | rfl
theorem fat22 {P : Program} {w : World} {K : PySem.W.Frag} {mg : Str → Option Value} {base : Heap} (T : All P w K mg base Fs Es Gs) : Fat P w K mg base Fs Es g22 .S 3 22 f22 := by
  have h0 := (fat0 T).mono (show 1 ≤ 2 by omega)
  have h1 := (fat1 T).mono (show 2 ≤ 2 by omega)
  have h3 := (fat3 T).mono (show 1 ≤ 2 by omega)
  have h12 := (fat12 T).mono (show 1 ≤ 2 by omega)
  refine fat_of T 22 rfl bi22 (NN := ["thing"]) (nl := 0) ⟨rfl, rfl, rfl, by decide +kernel, rfl, by decide +kernel, by decide +kernel⟩ rfl ar22 fun cdv A outer s H E X hX C ds hl => ?_
  match ds, hl with
  | [thing_1], _ =>
    exact ⟨b22 thing_1, rfl, (g_if (po' := fun s_2 : Unit => [.s thing_1]) (t_w (w_or (t_not C (t_val C (g_call C.room h3 rfl (C.mg 3 _ rfl) (ga_cons (g_var 0) (ga_cons (PEv.le (c' := .C) g_int) ga_nil))))) (w_or (t_not C (t_val C (g_call C.room h0 rfl (C.mg 0 _ rfl) (ga_cons (r_get C (g_var 0) g_int) ga_nil)))) (w_or1 (t_not C (t_val C (g_call C.room h1 rfl (C.mg 1 _ rfl) (ga_cons (r_get C (g_var 0) g_int) (ga_cons (PEv.le (c' := .C) g_int) ga_nil))))))))) (g_ret g_bl rfl) (g_nil ⟨(.cons .rf .nil), nofun⟩) (fun s_2 => (g_ret (r_eq C (g_call C.room h12 rfl (C.mg 12 _ rfl) (ga_cons (r_get C (g_var 0) g_int) (ga_cons (r_get C (g_var 0) g_int) ga_nil))) (g_var 0)) rfl)))⟩
theorem ar23 : ∀ ds, ds.length ≠ f23.ps.length → g23 ds = .bad := fun ds h => by
  unfold g23
  split <;> first | exact absurd rfl h | rfl
theorem fat23 {P : Program} {w : World} {K : PySem.W.Frag} {mg : Str → Option Value} {base : Heap} (T : All P w K mg base Fs Es Gs) : Fat P w K mg base Fs Es g23 .C 14 23 f23 := by
  have h1 := (fat1 T).mono (show 2 ≤ 13 by omega)
  have h4 := (fat4 T).mono (show 13 ≤ 13 by omega)
  have h5 := (fat5 T).mono (show 3 ≤ 13 by omega)
  have h22 := (fat22 T).mono (show 3 ≤ 13 by omega)
  refine fat_of T 23 rfl bi23 (NN := ["size", "many", "number", "long", "own"]) (nl := 2) ⟨rfl, rfl, rfl, by decide +kernel, rfl, by decide +kernel, by decide +kernel⟩ rfl ar23 fun cdv A outer s H E X hX C ds hl => ?_
  match ds, hl with
  | [size_1, many_2, number_3], _ =>
    exact ⟨b23 size_1 many_2 number_3, rfl, (g_par2 3 4 (kd := false) (ke := false) (G := fun long_4 own_5 => [.s size_1, .s many_2, .s number_3, .s long_4, .s own_5]) C.calm C.nd (g_call C.room h5 rfl (C.mg 5 _ rfl) (ga_cons (g_var 0) ga_nil)) (g_call C.room h4 rfl (C.mg 4 _ rfl) (ga_cons (g_var 2) ga_nil)) (by decide) (.inl rfl) (.inl rfl) (fun _ _ => rfl) (fun long_4 own_5 => (g_if (po' := fun s_6 : Unit => [.s size_1, .s many_2, .s number_3, .s long_4, .s own_5]) (t_w (w_or (t_not C (t_val C (g_call C.room h1 rfl (C.mg 1 _ rfl) (ga_cons (g_var 1) (ga_cons (PEv.le (c' := .C) g_int) ga_nil))))) (w_or1 (t_not C (t_val C (g_call C.room h22 rfl (C.mg 22 _ rfl) (ga_cons (g_var 4) ga_nil))))))) (g_raise0 (c := 1) C.hK C.calm C.exs rfl rfl) (g_nil ⟨(.cons .rf (.cons .rf (.cons .rf (.cons .rf (.cons .rf .nil))))), nofun⟩) (fun s_6 => (g_if (po' := fun s_7 : Unit => [.s size_1, .s many_2, .s number_3, .s long_4, .s own_5]) (t_gt C (g_var 1) (r_glo C 0 rfl)) (g_raise0 (c := 0) C.hK C.calm C.exs rfl rfl) (g_nil ⟨(.cons .rf (.cons .rf (.cons .rf (.cons .rf (.cons .rf .nil))))), nofun⟩) (fun s_7 => (g_ret (r_tup (ga_cons (g_var 3) (ga_cons (g_var 1) (ga_cons (g_var 4) ga_nil))) (cnt_cons (cnt_cons (cnt_cons cnt_nil)))) rfl)))))))⟩
theorem ar24 : ∀ ds, ds.length ≠ f24.ps.length → g24 ds = .bad := fun ds h => by
  unfold g24
  split <;> first | exact absurd rfl h | rfl
theorem fat24 {P : Program} {w : World} {K : PySem.W.Frag} {mg : Str → Option Value} {base : Heap} (T : All P w K mg base Fs Es Gs) : Fat P w K mg base Fs Es g24 .C 16 24 f24 := by
  have h4 := (fat4 T).mono (show 13 ≤ 15 by omega)
  have h11 := (fat11 T).mono (show 15 ≤ 15 by omega)
  have h17 := (fat17 T).mono (show 4 ≤ 15 by omega)
  have h22 := (fat22 T).mono (show 3 ≤ 15 by omega)
  refine fat_of T 24 rfl bi24 (NN := ["stack", "size", "number", "told", "own", "long"]) (nl := 3) ⟨rfl, rfl, rfl, by decide +kernel, rfl, by decide +kernel, by decide +kernel⟩ rfl ar24 fun cdv A outer s H E X hX C ds hl => ?_
  match ds, hl with
  | [stack_1, size_2, number_3], _ =>
    exact ⟨b24 stack_1 size_2 number_3, rfl, (g_asg (g_call C.room h11 rfl (C.mg 11 _ rfl) (ga_cons (g_var 0) (ga_cons (g_var 1) ga_nil))) (t_2 4 5 (G := fun own_4 long_5 => [.s stack_1, .s size_2, .s number_3, .n, .s own_4, .s long_5]) C.calm C.hK C.nd (.inl rfl) (.inl rfl) (fun _ _ => rfl) (fun own_4 long_5 => (g_setS 3 (G := fun told_6 => [.s stack_1, .s size_2, .s number_3, .s told_6, .s own_4, .s long_5]) C.nd (g_call C.room h4 rfl (C.mg 4 _ rfl) (ga_cons (g_var 2) ga_nil)) (.inl rfl) (fun _ => rfl) (fun told_6 => (g_if (po' := fun s_7 : Unit => [.s stack_1, .s size_2, .s number_3, .s told_6, .s own_4, .s long_5]) (t_not C (t_val C (g_call C.room h22 rfl (C.mg 22 _ rfl) (ga_cons (g_var 3) ga_nil)))) (g_raise0 (c := 1) C.hK C.calm C.exs rfl rfl) (g_nil ⟨(.cons .rf (.cons .rf (.cons .rf (.cons .rf (.cons .rf (.cons .rf .nil)))))), nofun⟩) (fun s_7 => (g_ret (g_call C.room h17 rfl (C.mg 17 _ rfl) (ga_cons (g_var 4) (ga_cons (g_var 5) (ga_cons (g_var 3) ga_nil)))) rfl))))))))⟩
theorem ar25 : ∀ ds, ds.length ≠ f25.ps.length → g25 ds = .bad := fun ds h => by
  unfold g25
  split <;> first | exact absurd rfl h | rfl
theorem fat25 {P : Program} {w : World} {K : PySem.W.Frag} {mg : Str → Option Value} {base : Heap} (T : All P w K mg base Fs Es Gs) : Fat P w K mg base Fs Es g25 .C 15 25 f25 := by
  have h18 := (fat18 T).mono (show 5 ≤ 14 by omega)
  have h23 := (fat23 T).mono (show 14 ≤ 14 by omega)
  refine fat_of T 25 rfl bi25 (NN := ["size", "many", "number", "long", "own", "told"]) (nl := 3) ⟨rfl, rfl, rfl, by decide +kernel, rfl, by decide +kernel, by decide +kernel⟩ rfl ar25 fun cdv A outer s H E X hX C ds hl => ?_
  match ds, hl with
  | [size_1, many_2, number_3], _ =>
    exact ⟨b25 size_1 many_2 number_3, rfl, (g_asg (g_call C.room h23 rfl (C.mg 23 _ rfl) (ga_cons (g_var 0) (ga_cons (g_var 1) (ga_cons (g_var 2) ga_nil)))) (t_3 3 4 5 (G := fun long_4 own_5 told_6 => [.s size_1, .s many_2, .s number_3, .s long_4, .s own_5, .s told_6]) C.calm C.hK C.nd (.inl rfl) (.inl rfl) (.inl rfl) (fun _ _ _ => rfl) (fun long_4 own_5 told_6 => (g_ret (g_call C.room h18 rfl (C.mg 18 _ rfl) (ga_cons (g_var 3) (ga_cons (g_var 4) (ga_cons (g_var 5) ga_nil)))) rfl))))⟩
theorem ar26 : ∀ ds, ds.length ≠ f26.ps.length → g26 ds = .bad := fun ds h => by
  unfold g26
  split <;> first | exact absurd rfl h | rfl
theorem fat26 {P : Program} {w : World} {K : PySem.W.Frag} {mg : Str → Option Value} {base : Heap} (T : All P w K mg base Fs Es Gs) : Fat P w K mg base Fs Es g26 .C 15 26 f26 := by
  have h21 := (fat21 T).mono (show 4 ≤ 14 by omega)
  have h23 := (fat23 T).mono (show 14 ≤ 14 by omega)
  refine fat_of T 26 rfl bi26 (NN := ["size", "many", "number", "long", "own", "told"]) (nl := 3) ⟨rfl, rfl, rfl, by decide +kernel, rfl, by decide +kernel, by decide +kernel⟩ rfl ar26 fun cdv A outer s H E X hX C ds hl => ?_
  match ds, hl with
  | [size_1, many_2, number_3], _ =>
    exact ⟨b26 size_1 many_2 number_3, rfl, (g_asg (g_call C.room h23 rfl (C.mg 23 _ rfl) (ga_cons (g_var 0) (ga_cons (g_var 1) (ga_cons (g_var 2) ga_nil)))) (t_3 3 4 5 (G := fun long_4 own_5 told_6 => [.s size_1, .s many_2, .s number_3, .s long_4, .s own_5, .s told_6]) C.calm C.hK C.nd (.inl rfl) (.inl rfl) (.inl rfl) (fun _ _ _ => rfl) (fun long_4 own_5 told_6 => (g_ret (g_call C.room h21 rfl (C.mg 21 _ rfl) (ga_cons (g_var 3) (ga_cons (g_var 4) (ga_cons (g_var 5) ga_nil)))) rfl))))⟩
theorem ar27 : ∀ ds, ds.length ≠ f27.ps.length → g27 ds = .bad := fun ds h => by
  unfold g27
  split <;> first | exact absurd rfl h | rfl
theorem fat27 {P : Program} {w : World} {K : PySem.W.Frag} {mg : Str → Option Value} {base : Heap} (T : All P w K mg base Fs Es Gs) : Fat P w K mg base Fs Es g27 .T 14 27 f27 := by
  have h2 := (fat2 T).mono (show 2 ≤ 13 by omega)
  have h4 := (fat4 T).mono (show 13 ≤ 13 by omega)
  have h5 := (fat5 T).mono (show 3 ≤ 13 by omega)
  have h19 := (fat19 T).mono (show 3 ≤ 13 by omega)
  have h22 := (fat22 T).mono (show 3 ≤ 13 by omega)
  refine fat_of T 27 rfl bi27 (NN := ["step", "most", "power", "long", "told"]) (nl := 2) ⟨rfl, rfl, rfl, by decide +kernel, rfl, by decide +kernel, by decide +kernel⟩ rfl ar27 fun cdv A outer s H E X hX C ds hl => ?_
  match ds, hl with
  | [step_1, most_2, power_3], _ =>
    exact ⟨b27 step_1 most_2 power_3, rfl, (g_par2 3 4 (kd := false) (ke := false) (G := fun long_4 told_5 => [.s step_1, .s most_2, .s power_3, .s long_4, .s told_5]) C.calm C.nd (g_call C.room h5 rfl (C.mg 5 _ rfl) (ga_cons (g_var 0) ga_nil)) (g_call C.room h4 rfl (C.mg 4 _ rfl) (ga_cons (g_var 2) ga_nil)) (by decide) (.inl rfl) (.inl rfl) (fun _ _ => rfl) (fun long_4 told_5 => (g_if (po' := fun s_6 : Unit => [.s step_1, .s most_2, .s power_3, .s long_4, .s told_5]) (t_w (w_or (t_not C (t_val C (g_call C.room h2 rfl (C.mg 2 _ rfl) (ga_cons (g_var 1) (ga_cons (PEv.le (c' := .C) g_int) (ga_cons (PEv.le (c' := .C) g_int) ga_nil)))))) (w_or1 (t_not C (t_val C (g_call C.room h22 rfl (C.mg 22 _ rfl) (ga_cons (g_var 4) ga_nil))))))) (g_raise0 (c := 1) C.hK C.calm C.exs rfl rfl) (g_nil ⟨(.cons .rf (.cons .rf (.cons .rf (.cons .rf (.cons .rf .nil))))), nofun⟩) (fun s_6 => (g_ret (r_tuple C (g_call C.room h19 rfl (C.mg 19 _ rfl) (ga_cons (g_var 3) (ga_cons (g_var 1) (ga_cons (g_var 4) ga_nil))))) rfl)))))⟩
theorem ar28 : ∀ ds, ds.length ≠ f28.ps.length → g28 ds = .bad := fun ds h => by
  unfold g28
  split <;> first | exact absurd rfl h | rfl
theorem fat28 {P : Program} {w : World} {K : PySem.W.Frag} {mg : Str → Option Value} {base : Heap} (T : All P w K mg base Fs Es Gs) : Fat P w K mg base Fs Es g28 .T 16 28 f28 := by
  have h11 := (fat11 T).mono (show 15 ≤ 15 by omega)
  have h16 := (fat16 T).mono (show 2 ≤ 15 by omega)
  refine fat_of T 28 rfl bi28 (NN := ["stack"]) (nl := 0) ⟨rfl, rfl, rfl, by decide +kernel, rfl, by decide +kernel, by decide +kernel⟩ rfl ar28 fun cdv A outer s H E X hX C ds hl => ?_
  match ds, hl with
  | [stack_1], _ =>
    exact ⟨b28 stack_1, rfl, (g_ret (r_tuple C (r_sorted C (g_call C.room h16 rfl (C.mg 16 _ rfl) (ga_cons (r_get C (g_call C.room h11 rfl (C.mg 11 _ rfl) (ga_cons (g_var 0) (ga_cons (PEv.le (c' := .C) g_int) ga_nil))) g_int) ga_nil)))) rfl)⟩
theorem ar29 : ∀ ds, ds.length ≠ f29.ps.length → g29 ds = .bad := fun ds h => by
  unfold g29
  split <;> first | exact absurd rfl h | rfl
theorem fat29 {P : Program} {w : World} {K : PySem.W.Frag} {mg : Str → Option Value} {base : Heap} (T : All P w K mg base Fs Es Gs) : Fat P w K mg base Fs Es g29 .T 1 29 f29 := by
  refine fat_of T 29 rfl bi29 (NN := ["script", "k", "bit_so"]) (nl := 1) ⟨rfl, rfl, rfl, by decide +kernel, rfl, by decide +kernel, by decide +kernel⟩ rfl ar29 fun cdv A outer s H E X hX C ds hl => ?_
  match ds, hl with
  | [script_1, k_2], _ =>
    exact ⟨b29 script_1 k_2, rfl, (g_setS 2 (G := fun bit_so_3 => [.s script_1, .s k_2, .s bit_so_3]) C.nd (r_if (t_lt C (g_var 1) (r_len C (g_var 0))) (r_get C (g_var 0) (g_var 1)) (PEv.le (c' := .C) g_int)) (.inl rfl) (fun _ => rfl) (fun bit_so_3 => (g_ret (r_lst (ga_cons (PEv.le (c' := .C) (r_mul C (r_abs C (g_var 2)) (r_int C (r_ge C (r_abs C (g_var 2)) (r_pow C g_int g_int))))) (ga_cons (PEv.le (c' := .C) (r_add C (r_add C (r_mod C (r_int C (g_var 2)) g_int) (r_mul C g_int (g_var 1))) g_int)) (ga_cons (PEv.le (c' := .C) g_int) ga_nil))) (cnt_cons (cnt_cons (cnt_cons cnt_nil)))) rfl)))⟩
theorem ar30 : ∀ ds, ds.length ≠ f30.ps.length → g30 ds = .bad := fun ds h => by
  unfold g30
  split <;> first | exact absurd rfl h | rfl
theorem fat30 {P : Program} {w : World} {K : PySem.W.Frag} {mg : Str → Option Value} {base : Heap} (T : All P w K mg base Fs Es Gs) : FatW P w K mg base Fs Es g30 .C 1 30 f30 := by
  refine fatW_of T 30 rfl bi30 (NN := ["tin", "below_so", "once_so", "wide_so", "twice_so", "drawn"]) (nl := 4) ⟨rfl, rfl, rfl, by decide +kernel, rfl, by decide +kernel, by decide +kernel⟩ rfl ar30 fun cdv A outer s H E X hX C es ds hl => ?_
  match ds, hl with
  | [below_so_2], _ =>
    exact ⟨b30 (.lst es) below_so_2, rfl, (g_if (po' := fun s_3 : Unit => [.o (D.lst es), .s below_so_2, .n, .n, .n, .n]) (t_gt C (r_get C (g_varO 0) g_int) g_int) (g_setS 5 (G := fun drawn_4 => [.o (D.lst es), .s below_so_2, .n, .n, .n, .s drawn_4]) C.nd (r_mod C (r_int C (r_get C (g_varO 0) g_int)) (g_var 1)) (.inr (by decide)) (fun _ => rfl) (fun drawn_4 => (g_sub C 0 (G := fun tin_5 => [.o tin_5, .s below_so_2, .n, .n, .n, .s drawn_4]) (PEv.le (c' := .C) (r_fdiv C (r_get C (g_varO 0) g_int) (g_var 1))) g_int (fun _ => rfl) (fun tin_5 => (g_retW (g_var 5)))))) (g_nil ⟨(.cons .rf (.cons .rf (.cons .n (.cons .n (.cons .n (.cons .n .nil)))))), (fun _ => rfl)⟩) (fun s_3 => (g_sub C 0 (G := fun tin_9 => [.o tin_9, .s below_so_2, .n, .n, .n, .n]) (PEv.le (c' := .C) (r_add C (r_get C (g_varO 0) g_int) g_int)) g_int (fun _ => rfl) (fun tin_9 => (g_setS 2 (G := fun once_so_10 => [.o tin_9, .s below_so_2, .s once_so_10, .n, .n, .n]) C.nd (r_mod C (r_int C (r_mul C (r_add C (r_get C (g_varO 0) g_int) (r_mul C g_int (r_get C (g_varO 0) g_int))) (r_add C g_int (r_get C (g_varO 0) g_int)))) g_int) (.inr (by decide)) (fun _ => rfl) (fun once_so_10 => (g_setS 3 (G := fun wide_so_11 => [.o tin_9, .s below_so_2, .s once_so_10, .s wide_so_11, .n, .n]) C.nd (r_add C (r_mod C (r_int C (g_var 2)) g_int) g_int) (.inr (by decide)) (fun _ => rfl) (fun wide_so_11 => (g_setS 4 (G := fun twice_so_12 => [.o tin_9, .s below_so_2, .s once_so_10, .s wide_so_11, .s twice_so_12, .n]) C.nd (r_mod C (r_int C (r_mul C (r_add C (r_add C (g_var 2) (r_get C (g_varO 0) g_int)) (r_fdiv C (r_get C (g_varO 0) g_int) g_int)) (g_var 3))) g_int) (.inr (by decide)) (fun _ => rfl) (fun twice_so_12 => (g_retW (PEv.le (c' := .C) (r_mod C (r_int C (r_fdiv C (r_mod C (r_int C (r_add C (r_mul C (g_var 4) g_int) (g_var 2))) g_int) g_int)) (g_var 1))))))))))))))⟩
theorem ar31 : ∀ ds, ds.length ≠ f31.ps.length → g31 ds = .bad := fun ds h => by
  unfold g31
  split <;> first | exact absurd rfl h | rfl
theorem fat31 {P : Program} {w : World} {K : PySem.W.Frag} {mg : Str → Option Value} {base : Heap} (T : All P w K mg base Fs Es Gs) : Fat P w K mg base Fs Es g31 .C 1 31 f31 := by
  refine fat_of T 31 rfl bi31 (NN := ["script", "most_so", "cells_so", "k", "bit_so", "at_so"]) (nl := 4) ⟨rfl, rfl, rfl, by decide +kernel, rfl, by decide +kernel, by decide +kernel⟩ rfl ar31 fun cdv A outer s H E X hX C ds hl => ?_
  match ds, hl with
  | [script_1, most_so_2], _ =>
    exact ⟨b31 script_1 most_so_2, rfl, (g_setO 2 (G := fun cells_so_3 => [.s script_1, .s most_so_2, .o cells_so_3, .n, .n, .n]) C.nd (r_or C (r_list C (r_sl C (g_var 0) o_none (o_some (g_var 1)))) (r_or1 (r_lst (ga_cons (PEv.le (c' := .C) g_int) ga_nil) (cnt_cons cnt_nil)))) (.inl rfl) (fun _ => rfl) (fun cells_so_3 => (g_for (pl := fun s_4 : D => [.s script_1, .s most_so_2, .o s_4, .n, .n, .n]) C.po C.calm (gi_enum C.hK (C.bl (by decide)) (PEv.le (c' := .C) (r_sl C (g_var 0) (o_some (g_var 1)) (o_some g_int)))) ⟨(.cons .rf (.cons .rf (.cons .rf (.cons .n (.cons .n (.cons .n .nil)))))), nofun⟩ (fun s_4 => (t_2 3 4 (G := fun k_5 bit_so_6 => [.s script_1, .s most_so_2, .o s_4, .s k_5, .s bit_so_6, .n]) C.calm C.hK C.nd (.inl rfl) (.inl rfl) (fun _ _ => rfl) (fun k_5 bit_so_6 => (g_setS 5 (G := fun at_so_7 => [.s script_1, .s most_so_2, .o s_4, .s k_5, .s bit_so_6, .s at_so_7]) C.nd (r_mod C (r_int C (g_var 3)) (g_var 1)) (.inl rfl) (fun _ => rfl) (fun at_so_7 => (g_sub C 2 (G := fun cells_so_8 => [.s script_1, .s most_so_2, .o cells_so_8, .s k_5, .s bit_so_6, .s at_so_7]) (PEv.le (c' := .C) (r_add C (r_get C (g_varO 2) (g_var 5)) (r_mul C (g_var 4) (r_add C (g_var 3) g_int)))) (g_var 5) (fun _ => rfl) (fun cells_so_8 => (g_nil ⟨(.cons .rf (.cons .rf (.cons .rf (.cons .n (.cons .n (.cons .n .nil)))))), nofun⟩)))))))) (fun s_4 => (g_le (Γ' := [.s script_1, .s most_so_2, .s s_4, .n, .n, .n]) ⟨(.cons .rf (.cons .rf (.cons .f (.cons .n (.cons .n (.cons .n .nil)))))), nofun⟩ (g_ret (g_var 2) rfl))))))⟩
theorem ar32 (n : Nat) : ∀ ds, ds.length ≠ f32.ps.length → g32n (n + 1) ds = .bad := fun ds h => by
  unfold g32n
  split <;> first | exact absurd rfl h | rfl
theorem fat32n {P : Program} {w : World} {K : PySem.W.Frag} {mg : Str → Option Value} {base : Heap} (T : All P w K mg base Fs Es Gs) : ∀ n, Fat P w K mg base Fs Es (g32n n) .C (0 + n) 32 f32
  | 0 => fat_bad T 32 rfl bi32
  | n + 1 => by
    have hs := fat32n T n
    refine fat_of T 32 rfl bi32 (NN := ["matter", "bit"]) (nl := 1) ⟨rfl, rfl, rfl, by decide +kernel, rfl, by decide +kernel, by decide +kernel⟩ rfl (ar32 n) fun cdv A outer s H E X hX C ds hl => ?_
    match ds, hl with
    | [matter_1], _ =>
      exact ⟨b32 (g32n n) matter_1, rfl, (g_ret (r_if (t_val C (r_isi2 C (t := .list) (u := .tuple) (g_var 0))) (PEv.le (c' := .C) (g_comp (own := [("bit", 1)]) C.calm C.nd (gi_seq C.hK (PEv.le (c' := .E) (g_var 0))) (blkOk_by rfl) rfl (fun _ _ _ _ _ => (tc_1 1 (G := (fun p_2 : D => [.s matter_1, .s p_2])) C.blk.nd (by decide) (fun _ => rfl))) (fun _ _ _ _ _ p_2 => pts_yes) (fun _ _ _ _ _ p_2 => (g_call C.blk.room hs rfl (C.blk.mg 32 _ rfl) (ga_cons (g_var 1) ga_nil))))) (g_var 0)) rfl)⟩
theorem fat32 {P : Program} {w : World} {K : PySem.W.Frag} {mg : Str → Option Value} {base : Heap} (T : All P w K mg base Fs Es Gs) : Fat P w K mg base Fs Es g32 .C 13 32 f32 := (fat32n T 12).mono (by decide)
theorem ar33 (n : Nat) : ∀ ds, ds.length ≠ f33.ps.length → g33n (n + 1) ds = .bad := fun ds h => by
  unfold g33n
  split <;> first | exact absurd rfl h | rfl
theorem fat33n {P : Program} {w : World} {K : PySem.W.Frag} {mg : Str → Option Value} {base : Heap} (T : All P w K mg base Fs Es Gs) : ∀ n, Fat P w K mg base Fs Es (g33n n) .S (0 + n) 33 f33
  | 0 => fat_bad T 33 rfl bi33
  | n + 1 => by
    have hs := fat33n T n
    refine fat_of T 33 rfl bi33 (NN := ["got", "due", "mine", "its"]) (nl := 2) ⟨rfl, rfl, rfl, by decide +kernel, rfl, by decide +kernel, by decide +kernel⟩ rfl (ar33 n) fun cdv A outer s H E X hX C ds hl => ?_
    match ds, hl with
    | [got_1, due_2], _ =>
      exact ⟨b33 (g33n n) got_1 due_2, rfl, (g_if (po' := fun s_3 : Unit => [.s got_1, .s due_2, .n, .n]) (t_val C (r_isi2 C (t := .list) (u := .tuple) (g_var 1))) (g_if (po' := fun s_4 : Unit => [.s got_1, .s due_2, .n, .n]) (t_w (w_or (t_ne C (r_isi1 C (t := .list) (g_var 0)) (r_isi1 C (t := .list) (g_var 1))) (w_or1 (t_ne C (r_isi1 C (t := .tuple) (g_var 0)) (r_isi1 C (t := .tuple) (g_var 1)))))) (g_ret g_bl rfl) (g_nil ⟨(.cons .rf (.cons .rf (.cons .n (.cons .n .nil)))), nofun⟩) (fun s_4 => (g_ret (r_and C (r_eq C (r_len C (g_var 0)) (r_len C (g_var 1))) (r_and1 (r_all C (g_comp (own := [("mine", 2), ("its", 3)]) C.calm C.nd (gi_zip C.hK (C.bl (by decide)) (PEv.le (c' := .E) (g_var 0)) (PEv.le (c' := .E) (g_var 1))) (blkOk_by rfl) rfl (fun _ _ _ _ _ => (tc_2 2 3 (G := (fun p_6 : D × D => [.s got_1, .s due_2, .s p_6.1, .s p_6.2])) C.blk.calm C.blk.hK C.blk.nd (by decide) (by decide) (fun _ => rfl))) (fun _ _ _ _ _ p_6 => pts_yes) (fun _ _ _ _ _ p_6 => (PEv.le (c' := .C) (g_call C.blk.room hs rfl (C.blk.mg 33 _ rfl) (ga_cons (g_var 2) (ga_cons (g_var 3) ga_nil))))))))) rfl))) (g_nil ⟨(.cons .rf (.cons .rf (.cons .n (.cons .n .nil)))), nofun⟩) (fun s_3 => (g_if (po' := fun s_8 : Unit => [.s got_1, .s due_2, .n, .n]) (t_w (w_or (t_isN C (g_var 1)) (w_or1 (t_val C (r_isi2 C (t := .bool) (u := .str) (g_var 1)))))) (g_ret (r_and C (r_eq C (g_var 0) (g_var 1)) (r_and C (r_eq C (r_isi1 C (t := .bool) (g_var 0)) (r_isi1 C (t := .bool) (g_var 1))) (r_and1 (r_eq C (r_isN C (g_var 0)) (r_isN C (g_var 1)))))) rfl) (g_nil ⟨(.cons .rf (.cons .rf (.cons .n (.cons .n .nil)))), nofun⟩) (fun s_8 => (g_ret (r_and C (r_isi1 C (t := .int) (g_var 0)) (r_and C (r_not C (r_isi1 C (t := .bool) (g_var 0))) (r_and1 (r_eq C (g_var 0) (g_var 1))))) rfl)))))⟩
theorem fat33 {P : Program} {w : World} {K : PySem.W.Frag} {mg : Str → Option Value} {base : Heap} (T : All P w K mg base Fs Es Gs) : Fat P w K mg base Fs Es g33 .S 13 33 f33 := (fat33n T 12).mono (by decide)
theorem ar34 : ∀ ds, ds.length ≠ f34.ps.length → g34 ds = .bad := fun ds h => by
  unfold g34
  split <;> first | exact absurd rfl h | rfl
theorem fat34 {P : Program} {w : World} {K : PySem.W.Frag} {mg : Str → Option Value} {base : Heap} (T : All P w K mg base Fs Es Gs) : Fat P w K mg base Fs Es g34 .C 1 34 f34 := by
  refine fat_of T 34 rfl bi34 (NN := ["told_so"]) (nl := 0) ⟨rfl, rfl, rfl, by decide +kernel, rfl, by decide +kernel, by decide +kernel⟩ rfl ar34 fun cdv A outer s H E X hX C ds hl => ?_
  match ds, hl with
  | [told_so_1], _ =>
    exact ⟨b34 told_so_1, rfl, (g_ret (r_if (t_w (w_and (t_val C (r_isi1 C (t := .list) (g_var 0))) (w_and (t_gt C (r_len C (g_var 0)) g_int) (w_and1 (t_val C (r_isi1 C (t := .str) (r_get C (g_var 0) g_int))))))) (PEv.le (c' := .C) (r_lst (ga_cons (PEv.le (c' := .C) g_str) (ga_cons (PEv.le (c' := .C) g_str) ga_nil)) (cnt_cons (cnt_cons cnt_nil)))) (g_var 0)) rfl)⟩
theorem ar35 : ∀ ds, ds.length ≠ f35.ps.length → g35 ds = .bad := fun ds h => by
  unfold g35
  split <;> first | exact absurd rfl h | rfl
theorem fat35 {P : Program} {w : World} {K : PySem.W.Frag} {mg : Str → Option Value} {base : Heap} (T : All P w K mg base Fs Es Gs) : Fat P w K mg base Fs Es g35 .C 17 35 f35 := by
  have hdoor : ∀ (g : Nat) (d : DefI), Fs[g]? = some d → FnAt (whr K Fs Es) P w K mg base (tb35 g) .C (16) ((whr K Fs Es).G g) d := by
    intro g d hd
    match g, hd with
    | 0, hd => cases hd; exact fat_bad T 0 rfl (d := f0) bi0
    | 1, hd => cases hd; exact fat_bad T 1 rfl (d := f1) bi1
    | 2, hd => cases hd; exact fat_bad T 2 rfl (d := f2) bi2
    | 3, hd => cases hd; exact fat_bad T 3 rfl (d := f3) bi3
    | 4, hd => cases hd; exact fat_bad T 4 rfl (d := f4) bi4
    | 5, hd => cases hd; exact fat_bad T 5 rfl (d := f5) bi5
    | 6, hd => cases hd; exact fat_bad T 6 rfl (d := f6) bi6
    | 7, hd => cases hd; exact fat_bad T 7 rfl (d := f7) bi7
    | 8, hd => cases hd; exact fat_bad T 8 rfl (d := f8) bi8
    | 9, hd => cases hd; exact fat_bad T 9 rfl (d := f9) bi9
    | 10, hd => cases hd; exact fat_bad T 10 rfl (d := f10) bi10
    | 11, hd => cases hd; exact fat_bad T 11 rfl (d := f11) bi11
    | 12, hd => cases hd; exact fat_bad T 12 rfl (d := f12) bi12
    | 13, hd => cases hd; exact fat_bad T 13 rfl (d := f13) bi13
    | 14, hd => cases hd; exact fat_bad T 14 rfl (d := f14) bi14
    | 15, hd => cases hd; exact fat_bad T 15 rfl (d := f15) bi15
    | 16, hd => cases hd; exact fat_bad T 16 rfl (d := f16) bi16
    | 17, hd => cases hd; exact fat_bad T 17 rfl (d := f17) bi17
    | 18, hd => cases hd; exact fat_bad T 18 rfl (d := f18) bi18
    | 19, hd => cases hd; exact fat_bad T 19 rfl (d := f19) bi19
    | 20, hd => cases hd; exact fat_bad T 20 rfl (d := f20) bi20
    | 21, hd => cases hd; exact fat_bad T 21 rfl (d := f21) bi21
    | 22, hd => cases hd; exact fat_bad T 22 rfl (d := f22) bi22
    | 23, hd => cases hd; exact fat_bad T 23 rfl (d := f23) bi23
    | 24, hd => cases hd; exact ((fat24 T).cle (c' := .C) rfl).mono (show 16 ≤ 16 by omega)
    | 25, hd => cases hd; exact ((fat25 T).cle (c' := .C) rfl).mono (show 15 ≤ 16 by omega)
    | 26, hd => cases hd; exact ((fat26 T).cle (c' := .C) rfl).mono (show 15 ≤ 16 by omega)
    | 27, hd => cases hd; exact ((fat27 T).cle (c' := .C) rfl).mono (show 14 ≤ 16 by omega)
    | 28, hd => cases hd; exact ((fat28 T).cle (c' := .C) rfl).mono (show 16 ≤ 16 by omega)
    | 29, hd => cases hd; exact fat_bad T 29 rfl (d := f29) bi29
    | 30, hd => cases hd; exact fat_bad T 30 rfl (d := f30) bi30
    | 31, hd => cases hd; exact fat_bad T 31 rfl (d := f31) bi31
    | 32, hd => cases hd; exact fat_bad T 32 rfl (d := f32) bi32
    | 33, hd => cases hd; exact fat_bad T 33 rfl (d := f33) bi33
    | 34, hd => cases hd; exact fat_bad T 34 rfl (d := f34) bi34
    | 35, hd => cases hd; exact fat_bad T 35 rfl (d := f35) bi35
    | 36, hd => cases hd; exact fat_bad T 36 rfl (d := f36) bi36
    | 37, hd => cases hd; exact fat_bad T 37 rfl (d := f37) bi37
    | 38, hd => cases hd; exact fat_bad T 38 rfl (d := f38) bi38
    | 39, hd => cases hd; exact fat_bad T 39 rfl (d := f39) bi39
    | 40, hd => cases hd; exact fat_bad T 40 rfl (d := f40) bi40
    | 41, hd => cases hd; exact fat_bad T 41 rfl (d := f41) bi41
    | 42, hd => cases hd; exact fat_bad T 42 rfl (d := f42) bi42
    | 43, hd => cases hd; exact fat_bad T 43 rfl (d := f43) bi43
    | 44, hd => cases hd; exact fat_bad T 44 rfl (d := f44) bi44
    | 45, hd => cases hd; exact fat_bad T 45 rfl (d := f45) bi45
    | 46, hd => cases hd; exact fat_bad T 46 rfl (d := f46) bi46
    | 47, hd => cases hd; exact fat_bad T 47 rfl (d := f47) bi47
    | g + 48, hd => simp [Fs] at hd
  refine fat_of T 35 rfl bi35 (NN := ["door", "goods_so"]) (nl := 0) ⟨rfl, rfl, rfl, by decide +kernel, rfl, by decide +kernel, by decide +kernel⟩ rfl ar35 fun cdv A outer s H E X hX C ds hl => ?_
  match ds, hl with
  | [door_1, goods_so_2], _ =>
    exact ⟨b35 tb35 door_1 goods_so_2, rfl, (g_if (po' := fun s_3 : Unit => [.s door_1, .s goods_so_2]) (t_lt C (r_len C (g_var 1)) g_int) (g_ret (r_if (t_eq C (r_len C (g_var 1)) g_int) (g_door (Fs := Fs) 0 C.room hdoor (ga_cons (r_get C (g_var 1) g_int) ga_nil)) (g_door (Fs := Fs) 0 C.room hdoor (ga_cons (r_get C (g_var 1) g_int) (ga_cons (r_get C (g_var 1) g_int) ga_nil)))) rfl) (g_nil ⟨(.cons .rf (.cons .rf .nil)), nofun⟩) (fun s_3 => (g_if (po' := fun s_5 : Unit => [.s door_1, .s goods_so_2]) (t_eq C (r_len C (g_var 1)) g_int) (g_ret (g_door (Fs := Fs) 0 C.room hdoor (ga_cons (r_get C (g_var 1) g_int) (ga_cons (r_get C (g_var 1) g_int) (ga_cons (r_get C (g_var 1) g_int) ga_nil)))) rfl) (g_nil ⟨(.cons .rf (.cons .rf .nil)), nofun⟩) (fun s_5 => (g_ret (g_door (Fs := Fs) 0 C.room hdoor (ga_cons (r_get C (g_var 1) g_int) (ga_cons (r_get C (g_var 1) g_int) (ga_cons (r_get C (g_var 1) g_int) (ga_cons (r_get C (g_var 1) g_int) ga_nil))))) rfl)))))⟩
theorem ar36 : ∀ ds, ds.length ≠ f36.ps.length → g36 ds = .bad := fun ds h => by
  unfold g36
  split <;> first | exact absurd rfl h | rfl
theorem fat36 {P : Program} {w : World} {K : PySem.W.Frag} {mg : Str → Option Value} {base : Heap} (T : All P w K mg base Fs Es Gs) : Fat P w K mg base Fs Es g36 .T 1 36 f36 := by
  refine fat_of T 36 rfl bi36 (NN := ["number_so", "found", "done_so", "top_so", "own", "left_so", "k"]) (nl := 6) ⟨rfl, rfl, rfl, by decide +kernel, rfl, by decide +kernel, by decide +kernel⟩ rfl ar36 fun cdv A outer s H E X hX C ds hl => ?_
  match ds, hl with
  | [number_so_1], _ =>
    exact ⟨b36 number_so_1, rfl, (g_par2 1 2 (kd := true) (ke := true) (G := fun found_2 done_so_3 => [.s number_so_1, .o found_2, .o done_so_3, .n, .n, .n, .n]) C.calm C.nd (r_lst (ga_cons (r_tup (ga_cons (r_tup ga_nil cnt_nil) (ga_cons (g_var 0) ga_nil)) (cnt_cons (cnt_cons cnt_nil))) ga_nil) (cnt_cons cnt_nil)) (r_lst ga_nil cnt_nil) (by decide) (.inl rfl) (.inl rfl) (fun _ _ => rfl) (fun found_2 done_so_3 => (g_while (pl := fun s_4 : D × D => [.s number_so_1, .o s_4.1, .o s_4.2, .n, .n, .n, .n]) 100000 C.po (fun s_4 => (t_ne C (g_varO 1) (r_lst ga_nil cnt_nil))) ⟨(.cons .rf (.cons .rf (.cons .rf (.cons .n (.cons .n (.cons .n (.cons .n .nil))))))), nofun⟩ (fun s_4 => (fs_asg (j := 1) (f := fun w_5 => (fun d_14 => upk2 .bad d_14 fun own_6 left_so_7 => thnS (tst (o2 oEq (.ok left_so_7) (.ok (D.int 0))) (asL .bad s_4.2 (bnS (.ok own_6) fun u_10 => bnS (oAppend s_4.2 u_10) fun done_so_9 => Fl.nx done_so_9)) (Fl.nx s_4.2)) fun (s_8 : D) => bnS (vIf (o2 oNe (.ok own_6) (bnd an mkT)) (o2 oMin2 (.ok left_so_7) (o2 oGet (.ok own_6) (o1 oNeg (.ok (D.int 1))))) (.ok left_so_7)) fun top_so_11 => bnS (o2 oAdd (.ok w_5) (cmp (bnd (.ok (D.int 1)) fun u => bnd (o2 oAdd (.ok top_so_11) (.ok (D.int 1))) fun w => wRange2 u w) (fun d => U1 d _ fun p_13 => (.ok true)) (fun d => U1 d _ fun p_13 => (bnd (ac (o2 oAdd (.ok own_6) (bnd (ac (.ok p_13) an) mkT)) (ac (o2 oSub (.ok left_so_7) (.ok p_13)) an)) mkT)))) fun found_12 => Fl.nx (found_12, s_8))) (f_pop C 1) (fun w_5 => (t_2 4 5 (G := fun own_6 left_so_7 => [.s number_so_1, .o w_5, .o s_4.2, .n, .s own_6, .s left_so_7, .n]) C.calm C.hK C.nd (.inl rfl) (.inl rfl) (fun _ _ => rfl) (fun own_6 left_so_7 => (g_if (po' := fun s_8 : D => [.s number_so_1, .o w_5, .o s_8, .n, .s own_6, .s left_so_7, .n]) (t_eq C (g_var 5) g_int) (g_append C 2 (G := fun done_so_9 => [.s number_so_1, .o w_5, .o done_so_9, .n, .s own_6, .s left_so_7, .n]) (g_var 4) (fun _ => rfl) (fun done_so_9 => (g_nil ⟨(.cons .rf (.cons .rf (.cons .rf (.cons .n (.cons .rf (.cons .rf (.cons .n .nil))))))), nofun⟩))) (g_nil ⟨(.cons .rf (.cons .rf (.cons .rf (.cons .n (.cons .rf (.cons .rf (.cons .n .nil))))))), nofun⟩) (fun s_8 => (g_setS 3 (G := fun top_so_11 => [.s number_so_1, .o w_5, .o s_8, .s top_so_11, .s own_6, .s left_so_7, .n]) C.nd (r_if (t_ne C (g_var 4) (r_tup ga_nil cnt_nil)) (PEv.le (c' := .C) (r_min2 C (g_var 5) (r_get C (g_var 4) (r_neg C g_int)))) (g_var 5)) (.inl rfl) (fun _ => rfl) (fun top_so_11 => (g_setO 1 (G := fun found_12 => [.s number_so_1, .o found_12, .o s_8, .s top_so_11, .s own_6, .s left_so_7, .n]) C.nd (r_add C (g_varO 1) (g_comp (own := [("k", 6)]) C.calm C.nd (gi_range2 (C.bl (by decide)) (PEv.le (c' := .T) g_int) (r_add C (g_var 3) g_int)) (blkOk_by rfl) rfl (fun _ _ _ _ _ => (tc_1 6 (G := (fun p_13 : D => [.s number_so_1, .o w_5, .o s_8, .s top_so_11, .s own_6, .s left_so_7, .s p_13])) C.blk.nd (by decide) (fun _ => rfl))) (fun _ _ _ _ _ p_13 => pts_yes) (fun _ _ _ _ _ p_13 => (r_tup (ga_cons (PEv.le (c' := .C) (r_add C.blk (g_var 4) (r_tup (ga_cons (g_var 6) ga_nil) (cnt_cons cnt_nil)))) (ga_cons (PEv.le (c' := .C) (r_sub C.blk (g_var 5) (g_var 6))) ga_nil)) (cnt_cons (cnt_cons cnt_nil)))))) (.inl rfl) (fun _ => rfl) (fun found_12 => (g_nil ⟨(.cons .rf (.cons .rf (.cons .rf (.cons .n (.cons .n (.cons .n (.cons .n .nil))))))), nofun⟩)))))))))))) (fun s_4 => (g_ret (r_sorted C (g_varO 2)) rfl)))))⟩
theorem ar37 : ∀ ds, ds.length ≠ f37.ps.length → g37 ds = .bad := fun ds h => by
  unfold g37
  split <;> first | exact absurd rfl h | rfl
theorem fat37 {P : Program} {w : World} {K : PySem.W.Frag} {mg : Str → Option Value} {base : Heap} (T : All P w K mg base Fs Es Gs) : Fat P w K mg base Fs Es g37 .T 1 37 f37 := by
  refine fat_of T 37 rfl bi37 (NN := ["pile_so", "found", "k", "own", "x"]) (nl := 4) ⟨rfl, rfl, rfl, by decide +kernel, rfl, by decide +kernel, by decide +kernel⟩ rfl ar37 fun cdv A outer s H E X hX C ds hl => ?_
  match ds, hl with
  | [pile_so_1], _ =>
    exact ⟨b37 pile_so_1, rfl, (g_setS 1 (G := fun found_2 => [.s pile_so_1, .s found_2, .n, .n, .n]) C.nd (r_lst ga_nil cnt_nil) (.inl rfl) (fun _ => rfl) (fun found_2 => (g_for (pl := fun s_3 : D => [.s pile_so_1, .s s_3, .n, .n, .n]) C.po C.calm (gi_enum C.hK (C.bl (by decide)) (g_var 0)) ⟨(.cons .rf (.cons .rf (.cons .n (.cons .n (.cons .n .nil))))), nofun⟩ (fun s_3 => (t_2 2 3 (G := fun k_4 own_5 => [.s pile_so_1, .s s_3, .s k_4, .s own_5, .n]) C.calm C.hK C.nd (.inl rfl) (.inl rfl) (fun _ _ => rfl) (fun k_4 own_5 => (g_setS 1 (G := fun found_6 => [.s pile_so_1, .s found_6, .s k_4, .s own_5, .n]) C.nd (r_add C (g_var 1) (g_comp (own := [("x", 4)]) C.calm C.nd (gi_range1 (C.bl (by decide)) (g_var 3)) (blkOk_by rfl) rfl (fun _ _ _ _ _ => (tc_1 4 (G := (fun p_7 : D => [.s pile_so_1, .s s_3, .s k_4, .s own_5, .s p_7])) C.blk.nd (by decide) (fun _ => rfl))) (fun _ _ _ _ _ p_7 => pts_yes) (fun _ _ _ _ _ p_7 => (r_tup (ga_cons (g_var 4) (ga_cons (PEv.le (c' := .C) (r_sub C.blk g_int (g_var 2))) ga_nil)) (cnt_cons (cnt_cons cnt_nil)))))) (.inl rfl) (fun _ => rfl) (fun found_6 => (g_nil ⟨(.cons .rf (.cons .rf (.cons .n (.cons .n (.cons .n .nil))))), nofun⟩)))))) (fun s_3 => (g_ret (r_sorted C (g_var 1)) rfl)))))⟩
theorem ar38 : ∀ ds, ds.length ≠ f38.ps.length → g38 ds = .bad := fun ds h => by
  unfold g38
  split <;> first | exact absurd rfl h | rfl
theorem fat38 {P : Program} {w : World} {K : PySem.W.Frag} {mg : Str → Option Value} {base : Heap} (T : All P w K mg base Fs Es Gs) : Fat P w K mg base Fs Es g38 .T 1 38 f38 := by
  refine fat_of T 38 rfl bi38 (NN := ["pile_so", "x", "row_so", "own"]) (nl := 1) ⟨rfl, rfl, rfl, by decide +kernel, rfl, by decide +kernel, by decide +kernel⟩ rfl ar38 fun cdv A outer s H E X hX C ds hl => ?_
  match ds, hl with
  | [pile_so_1, x_2, row_so_3], _ =>
    exact ⟨b38 pile_so_1 x_2 row_so_3, rfl, (g_ret (r_add C (r_sub C (r_get C (g_var 0) (g_var 2)) (g_var 1)) (r_len C (g_comp (own := [("own", 3)]) C.calm C.nd (gi_seq C.hK (PEv.le (c' := .E) (r_sl C (g_var 0) (o_some (r_add C (g_var 2) g_int)) o_none))) (blkOk_by rfl) rfl (fun _ _ _ _ _ => (tc_1 3 (G := (fun p_4 : D => [.s pile_so_1, .s x_2, .s row_so_3, .s p_4])) C.blk.nd (by decide) (fun _ => rfl))) (fun _ _ _ _ _ p_4 => (pts_if (t_gt C.blk (g_var 3) (g_var 1)))) (fun _ _ _ _ _ p_4 => (PEv.le (c' := .C) g_int))))) rfl)⟩
theorem ar39 : ∀ ds, ds.length ≠ f39.ps.length → g39 ds = .bad := fun ds h => by
  unfold g39
  split <;> first | exact absurd rfl h | rfl
theorem fat39 {P : Program} {w : World} {K : PySem.W.Frag} {mg : Str → Option Value} {base : Heap} (T : All P w K mg base Fs Es Gs) : FatW P w K mg base Fs Es g39 .C 2 39 f39 := by
  have h30 := (fat30 T).mono (show 1 ≤ 1 by omega)
  refine fatW_of T 39 rfl bi39 (NN := ["tin", "most_so", "found", "left_so", "top_so"]) (nl := 3) ⟨rfl, rfl, rfl, by decide +kernel, rfl, by decide +kernel, by decide +kernel⟩ rfl ar39 fun cdv A outer s H E X hX C es ds hl => ?_
  match ds, hl with
  | [most_so_2], _ =>
    exact ⟨b39 (.lst es) most_so_2, rfl, (fs_parO (l := 0) 2 3 (f := fun found_3 left_so_4 w_7 => thnS (whlL (fun (s_8 : D × D × D) => (o2 oGt (.ok s_8.2.2) (.ok (D.int 0)))) (fun s_8 => bnS (vIf (o2 oNe (.ok s_8.2.1) (bnd an mkLs)) (o2 oMin2 (.ok s_8.2.2) (o2 oGet (.ok s_8.2.1) (o1 oNeg (.ok (D.int 1))))) (.ok s_8.2.2)) fun top_so_9 => asL .bad s_8.2.1 (bnS (bnd (bnd (.ok (D.int 1)) fun u_15 => .ok (u_15, s_8.1)) fun p_11 => bnd (bnd (ac (.ok top_so_9) an) fun us_16 => asL .bad p_11.2 (nox (g30 (p_11.2 :: us_16)))) fun q_12 => bnd (oAdd p_11.1 q_12.1) fun u_13 => .ok (u_13, q_12.2)) fun p_20 => bnS (oAppend s_8.2.1 p_20.1) ((fun w_18 found_10 => bnS (o2 oSub (.ok s_8.2.2) (o2 oGet (.ok found_10) (o1 oNeg (.ok (D.int 1))))) fun left_so_19 => Fl.nx (w_18, found_10, left_so_19)) p_20.2))) 100000 (w_7, found_3, left_so_4)) fun (s_8 : D × D × D) => bnS (o1 oTuple (.ok s_8.2.1)) fun u_21 => .rt u_21 s_8.1) (G := fun found_3 left_so_4 w_7 => [.o w_7, .s most_so_2, .o found_3, .s left_so_4, .n]) C.calm C.nd (r_lst ga_nil cnt_nil) (f_callW (j := 0) C.room h30 rfl (C.mg 30 _ rfl) (ga_cons (PEv.le (c' := .C) (r_add C (g_var 1) g_int)) ga_nil)) (by decide) (by decide) (by decide) (.inr (by decide)) (.inr (by decide)) (fun _ _ _ => rfl) (fun found_3 left_so_4 w_7 => (g_while (pl := fun s_8 : D × D × D => [.o s_8.1, .s most_so_2, .o s_8.2.1, .s s_8.2.2, .n]) 100000 C.po (fun s_8 => (t_gt C (g_var 3) g_int)) ⟨(.cons .rf (.cons .rf (.cons .rf (.cons .rf (.cons .n .nil))))), (fun _ => rfl)⟩ (fun s_8 => (g_setS 4 (G := fun top_so_9 => [.o s_8.1, .s most_so_2, .o s_8.2.1, .s s_8.2.2, .s top_so_9]) C.nd (r_if (t_ne C (g_varO 2) (r_lst ga_nil cnt_nil)) (PEv.le (c' := .C) (r_min2 C (g_var 3) (r_get C (g_varO 2) (r_neg C g_int)))) (g_var 3)) (.inr (by decide)) (fun _ => rfl) (fun top_so_9 => (fs_append (j := 0) C 2 (f := fun w_18 found_10 => bnS (o2 oSub (.ok s_8.2.2) (o2 oGet (.ok found_10) (o1 oNeg (.ok (D.int 1))))) fun left_so_19 => Fl.nx (w_18, found_10, left_so_19)) (G := fun w_18 found_10 => [.o w_18, .s most_so_2, .o found_10, .s s_8.2.2, .s top_so_9]) (f_add C (m2 := fun w_14 => (bnd (ac (.ok top_so_9) an) fun us_17 => asL .bad w_14 (nox (g30 (w_14 :: us_17))))) (f_pure 0 (PEv.le (c' := .C) g_int)) (fun w_14 => (f_callW (j := 0) C.room h30 rfl (C.mg 30 _ rfl) (ga_cons (g_var 4) ga_nil)))) (by decide) (fun _ _ => rfl) (fun w_18 found_10 => (g_setS 3 (G := fun left_so_19 => [.o w_18, .s most_so_2, .o found_10, .s left_so_19, .s top_so_9]) C.nd (r_sub C (g_var 3) (r_get C (g_varO 2) (r_neg C g_int))) (.inr (by decide)) (fun _ => rfl) (fun left_so_19 => (g_nil ⟨(.cons .rf (.cons .rf (.cons .rf (.cons .rf (.cons .n .nil))))), (fun _ => rfl)⟩)))))))) (fun s_8 => (g_retW (PEv.le (c' := .C) (r_tuple C (g_varO 2))))))))⟩
theorem ar40 : ∀ ds, ds.length ≠ f40.ps.length → g40 ds = .bad := fun ds h => by
  unfold g40
  split <;> first | exact absurd rfl h | rfl
theorem fat40 {P : Program} {w : World} {K : PySem.W.Frag} {mg : Str → Option Value} {base : Heap} (T : All P w K mg base Fs Es Gs) : Fat P w K mg base Fs Es g40 .C 18 40 f40 := by
  have h34 := (fat34 T).mono (show 1 ≤ 17 by omega)
  have h35 := (fat35 T).mono (show 17 ≤ 17 by omega)
  refine fat_of T 40 rfl bi40 (NN := ["door", "goods_so", "error_a", "error_b", "caught", "told_so"]) (nl := 4) ⟨rfl, rfl, rfl, by decide +kernel, rfl, by decide +kernel, by decide +kernel⟩ rfl ar40 fun cdv A outer s H E X hX C ds hl => ?_
  match ds, hl with
  | [door_1, goods_so_2], _ =>
    exact ⟨b40 door_1 goods_so_2, rfl, (g_asg (r_tup (ga_cons (PEv.le (c' := .C) g_non) (ga_cons (PEv.le (c' := .C) g_non) ga_nil)) (cnt_cons (cnt_cons cnt_nil))) (t_2 4 5 (G := fun caught_3 told_so_4 => [.s door_1, .s goods_so_2, .n, .n, .s caught_3, .s told_so_4]) C.calm C.hK C.nd (.inl rfl) (.inl rfl) (fun _ _ => rfl) (fun caught_3 told_so_4 => (g_try (l := [(⟨0, 2, 4, [.str "many", .bl true]⟩, ((.lst [.str "many", .bl true]), told_so_4)), (⟨1, 3, 4, [.str "unfit", .bl true]⟩, ((.lst [.str "unfit", .bl true]), told_so_4))]) (po' := fun s_5 : D × D => [.s door_1, .s goods_so_2, .n, .n, .s s_5.1, .s s_5.2]) [.s door_1, .s goods_so_2, .n, .n, .s caught_3, .s told_so_4] rfl rfl C.nd C.exs (fun _ _ po => (g_setS 5 (G := fun told_so_6 => [.s door_1, .s goods_so_2, .n, .n, .s caught_3, .s told_so_6]) (C.tr po).nd (g_call (C.tr po).room h34 rfl ((C.tr po).mg 34 _ rfl) (ga_cons (g_call (C.tr po).room h35 rfl ((C.tr po).mg 35 _ rfl) (ga_cons (g_var 0) (ga_cons (g_var 1) ga_nil))) ga_nil)) (.inl rfl) (fun _ => rfl) (fun told_so_6 => (g_nil ⟨(.cons .rf (.cons .rf (.cons .n (.cons .n (.cons .rf (.cons .rf .nil)))))), nofun⟩)) (hx := (.cons .rf (.cons .rf (.cons .n (.cons .n (.cons .rf (.cons .rf .nil))))))))) (.cons rfl rfl ⟨rfl, rfl, .inl (C.exs.at' 0 _ rfl).mg⟩ (by exact suite_isi (T := "ValueError") C.nd rfl rfl (by first | exact Or.inl rfl | exact Or.inr rfl) (by first | exact Or.inl rfl | exact Or.inr (Or.inl rfl)) C.exs rfl rfl (by decide) rfl (C.bl (by decide)) rfl (C.bl (by decide))) (.cons rfl rfl ⟨rfl, rfl, .inl (C.exs.at' 1 _ rfl).mg⟩ (by exact suite_isi (T := "ValueError") C.nd rfl rfl (by first | exact Or.inl rfl | exact Or.inr rfl) (by first | exact Or.inl rfl | exact Or.inr (Or.inl rfl)) C.exs rfl rfl (by decide) rfl (C.bl (by decide)) rfl (C.bl (by decide))) .nil)) rfl (by
      intro d hd
      simp only [List.mem_cons, List.not_mem_nil, or_false] at hd
      rcases hd with rfl | rfl
      · exact ⟨by show 0 < Es.length; decide, by simp [plainW], by show 2 < 6; decide, (.cons .rf (.cons .rf (.cons .n (.cons .n (.cons .rf (.cons .rf .nil))))))⟩
      · exact ⟨by show 1 < Es.length; decide, by simp [plainW], by show 3 < 6; decide, (.cons .rf (.cons .rf (.cons .n (.cons .n (.cons .rf (.cons .rf .nil))))))⟩) (les_n rfl rfl) (fun s_5 => (g_ret (r_if (t_isN C (g_var 4)) (g_var 5) (g_var 4)) rfl))))))⟩
theorem ar41 : ∀ ds, ds.length ≠ f41.ps.length → g41s ds = .bad := fun ds h => by
  unfold g41s
  split <;> first | exact absurd rfl h | rfl
theorem fat41s {P : Program} {w : World} {K : PySem.W.Frag} {mg : Str → Option Value} {base : Heap} (T : All P w K mg base Fs Es Gs) : Fat P w K mg base Fs Es g41s .C 1 41 f41 := by
  refine fat_of T 41 rfl bi41 (NN := ["upper_so", "below_so", "one_so", "two"]) (nl := 2) ⟨rfl, rfl, rfl, by decide +kernel, rfl, by decide +kernel, by decide +kernel⟩ rfl ar41 fun cdv A outer s H E X hX C ds hl => ?_
  match ds, hl with
  | [upper_so_1, below_so_2], _ =>
    exact ⟨b41 upper_so_1 below_so_2, rfl, (g_par2 2 3 (kd := false) (ke := false) (G := fun one_so_3 two_4 => [.s upper_so_1, .s below_so_2, .s one_so_3, .s two_4]) C.calm C.nd (r_abs C (g_var 0)) (g_var 1) (by decide) (.inl rfl) (.inl rfl) (fun _ _ => rfl) (fun one_so_3 two_4 => (g_while (pl := fun s_5 : D × D => [.s upper_so_1, .s below_so_2, .s s_5.1, .s s_5.2]) 100000 C.po (fun s_5 => (t_ne C (g_var 3) g_int)) ⟨(.cons .rf (.cons .rf (.cons .rf (.cons .rf .nil)))), nofun⟩ (fun s_5 => (g_par2 2 3 (kd := false) (ke := false) (G := fun one_so_6 two_7 => [.s upper_so_1, .s below_so_2, .s one_so_6, .s two_7]) C.calm C.nd (g_var 3) (r_mod C (g_var 2) (g_var 3)) (by decide) (.inl rfl) (.inl rfl) (fun _ _ => rfl) (fun one_so_6 two_7 => (g_nil ⟨(.cons .rf (.cons .rf (.cons .rf (.cons .rf .nil)))), nofun⟩)))) (fun s_5 => (g_ret (r_tup (ga_cons (PEv.le (c' := .C) (r_fdiv C (g_var 0) (g_var 2))) (ga_cons (PEv.le (c' := .C) (r_fdiv C (g_var 1) (g_var 2))) ga_nil)) (cnt_cons (cnt_cons cnt_nil))) rfl)))))⟩
theorem fat41 {P : Program} {w : World} {K : PySem.W.Frag} {mg : Str → Option Value} {base : Heap} (T : All P w K mg base Fs Es Gs) : Fat P w K mg base Fs Es g41 .C 1 41 f41 := by rw [gq41]; exact fat41s T
theorem ar42 : ∀ ds, ds.length ≠ f42.ps.length → g42 ds = .bad := fun ds h => by
  unfold g42
  split <;> first | exact absurd rfl h | rfl
theorem fat42 {P : Program} {w : World} {K : PySem.W.Frag} {mg : Str → Option Value} {base : Heap} (T : All P w K mg base Fs Es Gs) : Fat P w K mg base Fs Es g42 .C 2 42 f42 := by
  have h41 := (fat41 T).mono (show 1 ≤ 1 by omega)
  refine fat_of T 42 rfl bi42 (NN := ["one_so", "two"]) (nl := 0) ⟨rfl, rfl, rfl, by decide +kernel, rfl, by decide +kernel, by decide +kernel⟩ rfl ar42 fun cdv A outer s H E X hX C ds hl => ?_
  match ds, hl with
  | [one_so_1, two_2], _ =>
    exact ⟨b42 one_so_1 two_2, rfl, (g_ret (g_call C.room h41 rfl (C.mg 41 _ rfl) (ga_cons (PEv.le (c' := .C) (r_add C (r_mul C (r_get C (g_var 0) g_int) (r_get C (g_var 1) g_int)) (r_mul C (r_get C (g_var 1) g_int) (r_get C (g_var 0) g_int)))) (ga_cons (PEv.le (c' := .C) (r_mul C (r_get C (g_var 0) g_int) (r_get C (g_var 1) g_int))) ga_nil))) rfl)⟩
theorem ar43 : ∀ ds, ds.length ≠ f43.ps.length → g43 ds = .bad := fun ds h => by
  unfold g43
  split <;> first | exact absurd rfl h | rfl
theorem fat43 {P : Program} {w : World} {K : PySem.W.Frag} {mg : Str → Option Value} {base : Heap} (T : All P w K mg base Fs Es Gs) : Fat P w K mg base Fs Es g43 .C 2 43 f43 := by
  have h41 := (fat41 T).mono (show 1 ≤ 1 by omega)
  refine fat_of T 43 rfl bi43 (NN := ["one_so", "two"]) (nl := 0) ⟨rfl, rfl, rfl, by decide +kernel, rfl, by decide +kernel, by decide +kernel⟩ rfl ar43 fun cdv A outer s H E X hX C ds hl => ?_
  match ds, hl with
  | [one_so_1, two_2], _ =>
    exact ⟨b43 one_so_1 two_2, rfl, (g_ret (g_call C.room h41 rfl (C.mg 41 _ rfl) (ga_cons (PEv.le (c' := .C) (r_mul C (r_get C (g_var 0) g_int) (r_get C (g_var 1) g_int))) (ga_cons (PEv.le (c' := .C) (r_mul C (r_get C (g_var 0) g_int) (r_get C (g_var 1) g_int))) ga_nil))) rfl)⟩
theorem ar44 : ∀ ds, ds.length ≠ f44.ps.length → g44 ds = .bad := fun ds h => by
  unfold g44
  split <;> first | exact absurd rfl h | rfl
theorem fat44 {P : Program} {w : World} {K : PySem.W.Frag} {mg : Str → Option Value} {base : Heap} (T : All P w K mg base Fs Es Gs) : Fat P w K mg base Fs Es g44 .C 3 44 f44 := by
  have h37 := (fat37 T).mono (show 1 ≤ 2 by omega)
  have h38 := (fat38 T).mono (show 1 ≤ 2 by omega)
  have h42 := (fat42 T).mono (show 2 ≤ 2 by omega)
  have h43 := (fat43 T).mono (show 2 ≤ 2 by omega)
  refine fat_of T 44 rfl bi44 (NN := ["pile_so", "size_so", "share_so", "found", "x", "y", "own"]) (nl := 4) ⟨rfl, rfl, rfl, by decide +kernel, rfl, by decide +kernel, by decide +kernel⟩ rfl ar44 fun cdv A outer s H E X hX C ds hl => ?_
  match ds, hl with
  | [pile_so_1, size_so_2, share_so_3], _ =>
    exact ⟨b44 pile_so_1 size_so_2 share_so_3, rfl, (g_setS 3 (G := fun found_4 => [.s pile_so_1, .s size_so_2, .s share_so_3, .s found_4, .n, .n, .n]) C.nd (r_tup (ga_cons (PEv.le (c' := .C) g_int) (ga_cons (PEv.le (c' := .C) g_int) ga_nil)) (cnt_cons (cnt_cons cnt_nil))) (.inl rfl) (fun _ => rfl) (fun found_4 => (g_for (pl := fun s_5 : D => [.s pile_so_1, .s size_so_2, .s share_so_3, .s s_5, .n, .n, .n]) C.po C.calm (gi_seq C.hK (PEv.le (c' := .C) (g_call C.room h37 rfl (C.mg 37 _ rfl) (ga_cons (g_var 0) ga_nil)))) ⟨(.cons .rf (.cons .rf (.cons .rf (.cons .rf (.cons .n (.cons .n (.cons .n .nil))))))), nofun⟩ (fun s_5 => (t_2 4 5 (G := fun x_6 y_7 => [.s pile_so_1, .s size_so_2, .s share_so_3, .s s_5, .s x_6, .s y_7, .n]) C.calm C.hK C.nd (.inl rfl) (.inl rfl) (fun _ _ => rfl) (fun x_6 y_7 => (g_setS 6 (G := fun own_8 => [.s pile_so_1, .s size_so_2, .s share_so_3, .s s_5, .s x_6, .s y_7, .s own_8]) C.nd (g_call C.room h38 rfl (C.mg 38 _ rfl) (ga_cons (g_var 0) (ga_cons (g_var 4) (ga_cons (PEv.le (c' := .C) (r_sub C g_int (g_var 5))) ga_nil)))) (.inl rfl) (fun _ => rfl) (fun own_8 => (g_if (po' := fun s_9 : D => [.s pile_so_1, .s size_so_2, .s share_so_3, .s s_9, .s x_6, .s y_7, .s own_8]) (t_eq C (r_mod C (g_var 6) (g_var 1)) g_int) (g_setS 3 (G := fun found_10 => [.s pile_so_1, .s size_so_2, .s share_so_3, .s found_10, .s x_6, .s y_7, .s own_8]) C.nd (g_call C.room h43 rfl (C.mg 43 _ rfl) (ga_cons (g_var 3) (ga_cons (g_call C.room h42 rfl (C.mg 42 _ rfl) (ga_cons (r_tup (ga_cons (PEv.le (c' := .C) g_int) (ga_cons (PEv.le (c' := .C) g_int) ga_nil)) (cnt_cons (cnt_cons cnt_nil))) (ga_cons (g_call C.room h43 rfl (C.mg 43 _ rfl) (ga_cons (r_tup (ga_cons (PEv.le (c' := .C) (r_sub C g_int (g_var 1))) (ga_cons (PEv.le (c' := .C) (r_mul C (g_var 6) (g_var 6))) ga_nil)) (cnt_cons (cnt_cons cnt_nil))) (ga_cons (g_var 2) ga_nil))) ga_nil))) ga_nil))) (.inl rfl) (fun _ => rfl) (fun found_10 => (g_nil ⟨(.cons .rf (.cons .rf (.cons .rf (.cons .rf (.cons .rf (.cons .rf (.cons .rf .nil))))))), nofun⟩))) (g_nil ⟨(.cons .rf (.cons .rf (.cons .rf (.cons .rf (.cons .rf (.cons .rf (.cons .rf .nil))))))), nofun⟩) (fun s_9 => (g_nil ⟨(.cons .rf (.cons .rf (.cons .rf (.cons .rf (.cons .n (.cons .n (.cons .n .nil))))))), nofun⟩)))))))) (fun s_5 => (g_ret (g_var 3) rfl)))))⟩
theorem ar45 : ∀ ds, ds.length ≠ f45.ps.length → g45 ds = .bad := fun ds h => by
  unfold g45
  split <;> first | exact absurd rfl h | rfl
theorem fat45 {P : Program} {w : World} {K : PySem.W.Frag} {mg : Str → Option Value} {base : Heap} (T : All P w K mg base Fs Es Gs) : Fat P w K mg base Fs Es g45 .C 3 45 f45 := by
  have h42 := (fat42 T).mono (show 2 ≤ 2 by omega)
  have h43 := (fat43 T).mono (show 2 ≤ 2 by omega)
  refine fat_of T 45 rfl bi45 (NN := ["one_so", "two", "found", "k", "whole_so", "j"]) (nl := 4) ⟨rfl, rfl, rfl, by decide +kernel, rfl, by decide +kernel, by decide +kernel⟩ rfl ar45 fun cdv A outer s H E X hX C ds hl => ?_
  match ds, hl with
  | [one_so_1, two_2], _ =>
    exact ⟨b45 one_so_1 two_2, rfl, (g_setO 2 (G := fun found_3 => [.s one_so_1, .s two_2, .o found_3, .n, .n, .n]) C.nd (r_lst ga_nil cnt_nil) (.inl rfl) (fun _ => rfl) (fun found_3 => (g_for (pl := fun s_4 : D => [.s one_so_1, .s two_2, .o s_4, .n, .n, .n]) C.po C.calm (gi_range1 (C.bl (by decide)) (r_len C (g_var 0))) ⟨(.cons .rf (.cons .rf (.cons .rf (.cons .n (.cons .n (.cons .n .nil)))))), nofun⟩ (fun s_4 => (t_nm 3 (G := fun k_5 => [.s one_so_1, .s two_2, .o s_4, .s k_5, .n, .n]) C.nd (.inl rfl) (fun _ => rfl) (fun k_5 => (g_setS 4 (G := fun whole_so_6 => [.s one_so_1, .s two_2, .o s_4, .s k_5, .s whole_so_6, .n]) C.nd (r_tup (ga_cons (PEv.le (c' := .C) g_int) (ga_cons (PEv.le (c' := .C) g_int) ga_nil)) (cnt_cons (cnt_cons cnt_nil))) (.inl rfl) (fun _ => rfl) (fun whole_so_6 => (g_for (pl := fun s_7 : D => [.s one_so_1, .s two_2, .o s_4, .s k_5, .s s_7, .n]) C.po C.calm (gi_range1 (C.bl (by decide)) (r_add C (g_var 3) g_int)) ⟨(.cons .rf (.cons .rf (.cons .rf (.cons .rf (.cons .rf (.cons .n .nil)))))), nofun⟩ (fun s_7 => (t_nm 5 (G := fun j_8 => [.s one_so_1, .s two_2, .o s_4, .s k_5, .s s_7, .s j_8]) C.nd (.inl rfl) (fun _ => rfl) (fun j_8 => (g_setS 4 (G := fun whole_so_9 => [.s one_so_1, .s two_2, .o s_4, .s k_5, .s whole_so_9, .s j_8]) C.nd (g_call C.room h42 rfl (C.mg 42 _ rfl) (ga_cons (g_var 4) (ga_cons (g_call C.room h43 rfl (C.mg 43 _ rfl) (ga_cons (r_get C (g_var 0) (g_var 5)) (ga_cons (r_get C (g_var 1) (r_sub C (g_var 3) (g_var 5))) ga_nil))) ga_nil))) (.inl rfl) (fun _ => rfl) (fun whole_so_9 => (g_nil ⟨(.cons .rf (.cons .rf (.cons .rf (.cons .rf (.cons .rf (.cons .n .nil)))))), nofun⟩)))))) (fun s_7 => (g_append C 2 (G := fun found_11 => [.s one_so_1, .s two_2, .o found_11, .s k_5, .s s_7, .n]) (g_var 4) (fun _ => rfl) (fun found_11 => (g_nil ⟨(.cons .rf (.cons .rf (.cons .rf (.cons .n (.cons .n (.cons .n .nil)))))), nofun⟩)))))))))) (fun s_4 => (g_le (Γ' := [.s one_so_1, .s two_2, .s s_4, .n, .n, .n]) ⟨(.cons .rf (.cons .rf (.cons .f (.cons .n (.cons .n (.cons .n .nil)))))), nofun⟩ (g_ret (g_var 2) rfl))))))⟩
theorem ar46 : ∀ ds, ds.length ≠ f46.ps.length → g46 ds = .bad := fun ds h => by
  unfold g46
  split <;> first | exact absurd rfl h | rfl
theorem fat46 {P : Program} {w : World} {K : PySem.W.Frag} {mg : Str → Option Value} {base : Heap} (T : All P w K mg base Fs Es Gs) : Fat P w K mg base Fs Es g46 .C 4 46 f46 := by
  have h42 := (fat42 T).mono (show 2 ≤ 3 by omega)
  have h43 := (fat43 T).mono (show 2 ≤ 3 by omega)
  have h45 := (fat45 T).mono (show 3 ≤ 3 by omega)
  refine fat_of T 46 rfl bi46 (NN := ["step_so", "most_so", "share_so", "found", "m", "k", "row_so", "part_so"]) (nl := 5) ⟨rfl, rfl, rfl, by decide +kernel, rfl, by decide +kernel, by decide +kernel⟩ rfl ar46 fun cdv A outer s H E X hX C ds hl => ?_
  match ds, hl with
  | [step_so_1, most_so_2, share_so_3], _ =>
    exact ⟨b46 step_so_1 most_so_2 share_so_3, rfl, (g_setS 3 (G := fun found_4 => [.s step_so_1, .s most_so_2, .s share_so_3, .s found_4, .n, .n, .n, .n]) C.nd (r_add C (r_lst (ga_cons (r_tup (ga_cons (PEv.le (c' := .C) g_int) (ga_cons (PEv.le (c' := .C) g_int) ga_nil)) (cnt_cons (cnt_cons cnt_nil))) ga_nil) (cnt_cons cnt_nil)) (r_mul C (r_lst (ga_cons (r_tup (ga_cons (PEv.le (c' := .C) g_int) (ga_cons (PEv.le (c' := .C) g_int) ga_nil)) (cnt_cons (cnt_cons cnt_nil))) ga_nil) (cnt_cons cnt_nil)) (g_var 1))) (.inl rfl) (fun _ => rfl) (fun found_4 => (g_for (pl := fun s_5 : D => [.s step_so_1, .s most_so_2, .s share_so_3, .s s_5, .n, .n, .n, .n]) C.po C.calm (gi_range3 (C.bl (by decide)) (g_var 0) (PEv.le (c' := .C) (r_add C (g_var 1) g_int)) (g_var 0)) ⟨(.cons .rf (.cons .rf (.cons .rf (.cons .rf (.cons .n (.cons .n (.cons .n (.cons .n .nil)))))))), nofun⟩ (fun s_5 => (t_nm 4 (G := fun m_6 => [.s step_so_1, .s most_so_2, .s share_so_3, .s s_5, .s m_6, .n, .n, .n]) C.nd (.inl rfl) (fun _ => rfl) (fun m_6 => (g_par2 6 7 (kd := true) (ke := false) (G := fun row_so_7 part_so_8 => [.s step_so_1, .s most_so_2, .s share_so_3, .s s_5, .s m_6, .n, .o row_so_7, .s part_so_8]) C.calm C.nd (r_mul C (r_lst (ga_cons (r_tup (ga_cons (PEv.le (c' := .C) g_int) (ga_cons (PEv.le (c' := .C) g_int) ga_nil)) (cnt_cons (cnt_cons cnt_nil))) ga_nil) (cnt_cons cnt_nil)) (r_add C (g_var 1) g_int)) (r_tup (ga_cons (PEv.le (c' := .C) g_int) (ga_cons (PEv.le (c' := .C) g_int) ga_nil)) (cnt_cons (cnt_cons cnt_nil))) (by decide) (.inl rfl) (.inl rfl) (fun _ _ => rfl) (fun row_so_7 part_so_8 => (g_for (pl := fun s_9 : D × D => [.s step_so_1, .s most_so_2, .s share_so_3, .s s_5, .s m_6, .n, .o s_9.1, .s s_9.2]) C.po C.calm (gi_range1 (C.bl (by decide)) (r_add C (r_fdiv C (g_var 1) (g_var 4)) g_int)) ⟨(.cons .rf (.cons .rf (.cons .rf (.cons .rf (.cons .rf (.cons .n (.cons .rf (.cons .rf .nil)))))))), nofun⟩ (fun s_9 => (t_nm 5 (G := fun k_10 => [.s step_so_1, .s most_so_2, .s share_so_3, .s s_5, .s m_6, .s k_10, .o s_9.1, .s s_9.2]) C.nd (.inl rfl) (fun _ => rfl) (fun k_10 => (g_sub C 6 (G := fun row_so_11 => [.s step_so_1, .s most_so_2, .s share_so_3, .s s_5, .s m_6, .s k_10, .o row_so_11, .s s_9.2]) (g_var 7) (r_mul C (g_var 5) (g_var 4)) (fun _ => rfl) (fun row_so_11 => (g_setS 7 (G := fun part_so_12 => [.s step_so_1, .s most_so_2, .s share_so_3, .s s_5, .s m_6, .s k_10, .o row_so_11, .s part_so_12]) C.nd (g_call C.room h43 rfl (C.mg 43 _ rfl) (ga_cons (g_var 7) (ga_cons (g_call C.room h43 rfl (C.mg 43 _ rfl) (ga_cons (g_call C.room h42 rfl (C.mg 42 _ rfl) (ga_cons (r_tup (ga_cons (g_var 5) (ga_cons (PEv.le (c' := .C) g_int) ga_nil)) (cnt_cons (cnt_cons cnt_nil))) (ga_cons (r_tup (ga_cons (PEv.le (c' := .C) (r_sub C g_int (r_get C (g_var 2) g_int))) (ga_cons (r_get C (g_var 2) g_int) ga_nil)) (cnt_cons (cnt_cons cnt_nil))) ga_nil))) (ga_cons (r_tup (ga_cons (PEv.le (c' := .C) g_int) (ga_cons (PEv.le (c' := .C) (r_add C (g_var 5) g_int)) ga_nil)) (cnt_cons (cnt_cons cnt_nil))) ga_nil))) ga_nil))) (.inl rfl) (fun _ => rfl) (fun part_so_12 => (g_nil ⟨(.cons .rf (.cons .rf (.cons .rf (.cons .rf (.cons .rf (.cons .n (.cons .rf (.cons .rf .nil)))))))), nofun⟩)))))))) (fun s_9 => (g_le (Γ' := [.s step_so_1, .s most_so_2, .s share_so_3, .s s_5, .s m_6, .n, .s s_9.1, .s s_9.2]) ⟨(.cons .rf (.cons .rf (.cons .rf (.cons .rf (.cons .rf (.cons .n (.cons .f (.cons .rf .nil)))))))), nofun⟩ (g_setS 3 (G := fun found_17 => [.s step_so_1, .s most_so_2, .s share_so_3, .s found_17, .s m_6, .n, .s s_9.1, .s s_9.2]) C.nd (g_call C.room h45 rfl (C.mg 45 _ rfl) (ga_cons (g_var 3) (ga_cons (g_var 6) ga_nil))) (.inl rfl) (fun _ => rfl) (fun found_17 => (g_nil ⟨(.cons .rf (.cons .rf (.cons .rf (.cons .rf (.cons .n (.cons .n (.cons .n (.cons .n .nil)))))))), nofun⟩))))))))))) (fun s_5 => (g_ret (g_var 3) rfl)))))⟩
theorem ar47 : ∀ ds, ds.length ≠ f47.ps.length → g47 ds = .bad := fun ds h => by
  unfold g47
  split <;> first | exact absurd rfl h | rfl
theorem fat47 {P : Program} {w : World} {K : PySem.W.Frag} {mg : Str → Option Value} {base : Heap} (T : All P w K mg base Fs Es Gs) : Fat P w K mg base Fs Es g47 .S 19 47 f47 := by
  have h24 := (fat24 T).mono (show 16 ≤ 18 by omega)
  have h25 := (fat25 T).mono (show 15 ≤ 18 by omega)
  have h26 := (fat26 T).mono (show 15 ≤ 18 by omega)
  have h27 := (fat27 T).mono (show 14 ≤ 18 by omega)
  have h28 := (fat28 T).mono (show 16 ≤ 18 by omega)
  have h29 := (fat29 T).mono (show 1 ≤ 18 by omega)
  have h30 := (fat30 T).mono (show 1 ≤ 18 by omega)
  have h31 := (fat31 T).mono (show 1 ≤ 18 by omega)
  have h32 := (fat32 T).mono (show 13 ≤ 18 by omega)
  have h33 := (fat33 T).mono (show 13 ≤ 18 by omega)
  have h36 := (fat36 T).mono (show 1 ≤ 18 by omega)
  have h37 := (fat37 T).mono (show 1 ≤ 18 by omega)
  have h38 := (fat38 T).mono (show 1 ≤ 18 by omega)
  have h39 := (fat39 T).mono (show 2 ≤ 18 by omega)
  have h40 := (fat40 T).mono (show 18 ≤ 18 by omega)
  have h41 := (fat41 T).mono (show 1 ≤ 18 by omega)
  have h42 := (fat42 T).mono (show 2 ≤ 18 by omega)
  have h44 := (fat44 T).mono (show 3 ≤ 18 by omega)
  have h45 := (fat45 T).mono (show 3 ≤ 18 by omega)
  have h46 := (fat46 T).mono (show 4 ≤ 18 by omega)
  refine fat_of T 47 rfl bi47 (NN := ["script", "tin", "share_so", "hooks_so", "got", "much_so", "sum_so", "its", "due", "size_so", "own", "door", "x", "y"]) (nl := 13) ⟨rfl, rfl, rfl, by decide +kernel, rfl, by decide +kernel, by decide +kernel⟩ rfl ar47 fun cdv A outer s H E X hX C ds hl => ?_
  match ds, hl with
  | [script_1], _ =>
    exact ⟨b47 script_1, rfl, (g_setO 1 (G := fun tin_2 => [.s script_1, .o tin_2, .n, .n, .n, .n, .n, .n, .n, .n, .n, .n, .n, .n]) C.nd (g_call C.room h29 rfl (C.mg 29 _ rfl) (ga_cons (g_call C.room h31 rfl (C.mg 31 _ rfl) (ga_cons (g_var 0) (ga_cons (PEv.le (c' := .C) g_int) ga_nil))) (ga_cons (PEv.le (c' := .C) g_int) ga_nil))) (.inl rfl) (fun _ => rfl) (fun tin_2 => (fs_asg (j := 1) (f := fun w_22 => (fun d_92 => upk2 .bad d_92 fun size_so_23 own_24 => bnS (bnd (bnd (bnd (bnd (ac (.ok (D.int 13)) an) fun us_33 => asL .bad w_22 (nox (g30 (w_22 :: us_33)))) fun p_29 => bnd (bnd (.ok (D.int 6)) fun u_34 => .ok (u_34, p_29.2)) fun q_30 => bnd (oSub p_29.1 q_30.1) fun u_31 => .ok (u_31, q_30.2)) fun p_26 => bnd (bnd (bnd (bnd (.ok (D.int 1)) fun u_43 => .ok (u_43, p_26.2)) fun p_39 => bnd (bnd (ac (.ok (D.int 3)) an) fun us_44 => asL .bad p_39.2 (nox (g30 (p_39.2 :: us_44)))) fun q_40 => bnd (oAdd p_39.1 q_40.1) fun u_41 => .ok (u_41, q_40.2)) fun p_36 => bnd (.ok ([], p_36.2)) fun q_37 => .ok (p_36.1 :: q_37.1, q_37.2)) fun q_27 => .ok (p_26.1 :: q_27.1, q_27.2)) fun q_56 => bnd (g41 q_56.1) fun u_57 => .ok (u_57, q_56.2)) fun p_91 => (fun share_so_25 w_58 => bnS (o1 oSorted (cmp (bnd (bnd (ac (.ok own_24) an) g37) wSeq) (fun d => U2 d _ fun p_60 => (.ok true)) (fun d => U2 d _ fun p_60 => (bnd (ac (.ok own_24) (ac (.ok p_60.1) (ac (o2 oSub (.ok (D.int 0)) (.ok p_60.2)) an))) g38)))) fun hooks_so_59 => bnS (bnd (ac (callK (ac (bnd (ac (.ok own_24) an) g32) (ac (.ok size_so_23) (ac (.ok share_so_25) an))) g24 [0, 1, 2]) (ac (callK (ac (bnd (ac (.ok share_so_25) an) g32) (ac (.ok own_24) (ac (.ok size_so_23) an))) g24 [1, 2, 0]) (ac (callK (ac (bnd (ac (.ok own_24) an) g32) an) g28 [0]) an))) mkLs) fun got_61 => thnS (tst (Qz.tNot (o1 tru (bnd (ac (.ok got_61) (ac (bnd (ac (bnd (ac (.ok own_24) (ac (.ok size_so_23) (ac (.ok share_so_25) an))) g44) (ac (bnd (ac (.ok own_24) (ac (.ok size_so_23) (ac (.ok share_so_25) an))) g44) (ac (o1 oTuple (.ok hooks_so_59)) an))) mkLs) an)) g33))) (bnS (.ok (D.bl false)) fun u_63 => .rt u_63 .non) (Fl.nx ())) fun (s_62 : Unit) => bnS (bnd (ac (.ok (D.int 9)) an) fun us_65 => asL .bad w_58 (nox (g30 (w_58 :: us_65)))) fun p_90 => (fun much_so_64 w_66 => bnS (bnd (ac (.ok (D.int 0)) (ac (.ok (D.int 1)) an)) mkT) fun sum_so_67 => bnS (bnd (bnd (ac (.ok much_so_64) an) g36) wSeq) fun xs_89 => thnS (forL (fun (s_68 : D) => (fun its_69 => bnS (bnd (ac (.ok s_68) (ac (bnd (ac (.ok its_69) (ac (.ok size_so_23) (ac (.ok share_so_25) an))) g44) an)) g42) fun sum_so_70 => Fl.nx sum_so_70)) xs_89 sum_so_67) fun (s_68 : D) => bnS (o2 oGet (bnd (ac (bnd (ac (.ok size_so_23) (ac (.ok much_so_64) (ac (.ok share_so_25) an))) g46) (ac (bnd (ac (.ok (D.int 1)) (ac (.ok much_so_64) (ac (bnd (ac (o1 oNeg (.ok (D.int 1))) (ac (.ok (D.int 1)) an)) mkT) an))) g46) an)) g45) (.ok much_so_64)) fun due_72 => bnS (bnd (ac (callK (ac (.ok size_so_23) (ac (.ok much_so_64) (ac (bnd (ac (.ok share_so_25) an) g32) an))) g25 [0, 1, 2]) (ac (callK (ac (.ok much_so_64) (ac (.ok share_so_25) (ac (.ok size_so_23) an))) g26 [2, 0, 1]) an)) mkLs) fun got_73 => thnS (tst (Qz.tOr (Qz.tNot (o1 tru (bnd (ac (.ok got_73) (ac (bnd (ac (.ok s_68) (ac (.ok due_72) an)) mkLs) an)) g33))) (o2 oNe (.ok s_68) (.ok due_72))) (bnS (.ok (D.bl false)) fun u_75 => .rt u_75 .non) (Fl.nx ())) fun (s_74 : Unit) => thnS (tst (Qz.tNot (o1 tru (bnd (ac (callK (ac (.ok size_so_23) (ac (.ok much_so_64) (ac (bnd (ac (.ok share_so_25) an) g32) an))) g27 [0, 1, 2]) (ac (o1 oTuple (bnd (ac (.ok size_so_23) (ac (.ok much_so_64) (ac (.ok share_so_25) an))) g46)) an)) g33))) (bnS (.ok (D.bl false)) fun u_77 => .rt u_77 .non) (Fl.nx ())) fun (s_76 : Unit) => bnS (bnd (ac (bnd (ac (.ok (D.int 1)) (ac (.ok (D.int 4)) (ac (bnd (ac (.ok (D.int 25)) (ac (.ok (D.int 1)) an)) mkT) an))) g25) (ac (bnd (ac (.ok (D.int 1)) (ac (.ok (D.int 16)) (ac (bnd (ac (.ok (D.int 25)) (ac (.ok (D.int 1)) an)) mkT) an))) g26) (ac (bnd (ac (.ok (D.int 1)) (ac (.ok (D.int 7)) (ac (bnd (ac (.ok (D.int 1)) (ac (.ok (D.int 1)) an)) mkT) an))) g27) (ac (bnd (ac (.ok (D.int 2)) (ac (.ok (D.int 4)) (ac (bnd (ac (o1 oNeg (.ok (D.int 1))) (ac (.ok (D.int 1)) an)) mkT) an))) g27) (ac (bnd (ac (.ok (D.int 1)) (ac (.ok (D.int 2)) (ac (bnd (ac (.ok (D.int 1)) (ac (.ok (D.int 2)) an)) mkT) an))) g27) (ac (bnd (ac (.ok (D.int 3)) (ac (.ok (D.int 0)) (ac (bnd (ac (.ok (D.int 5)) (ac (.ok (D.int 7)) an)) mkT) an))) g25) (ac (bnd (ac (bnd an mkT) (ac (.ok (D.int 2)) (ac (bnd (ac (.ok (D.int 9)) (ac (.ok (D.int 1)) an)) mkT) an))) g24) (ac (bnd (ac (.ok (D.int 5)) (ac (.ok (D.int 0)) (ac (bnd (ac (.ok (D.int 0)) (ac (.ok (D.int 1)) an)) mkT) an))) g27) (ac (bnd (ac (.ok (D.int 2)) (ac (.ok (D.int 16)) (ac (bnd (ac (.ok (D.int 0)) (ac (.ok (D.int 1)) an)) mkT) an))) g26) (ac (bnd (ac (bnd an mkT) an) g28) an)))))))))) mkLs) fun got_78 => bnS (bnd (ac (bnd (ac (.ok (D.int 4830)) (ac (.ok (D.int 1)) an)) mkT) (ac (bnd (ac (o1 oNeg (.ok (D.int 6905934))) (ac (.ok (D.int 1)) an)) mkT) (ac (bnd (ac (bnd (ac (.ok (D.int 1)) (ac (.ok (D.int 1)) an)) mkT) (ac (bnd (ac (o1 oNeg (.ok (D.int 1))) (ac (.ok (D.int 1)) an)) mkT) (ac (bnd (ac (o1 oNeg (.ok (D.int 1))) (ac (.ok (D.int 1)) an)) mkT) (ac (bnd (ac (.ok (D.int 0)) (ac (.ok (D.int 1)) an)) mkT) (ac (bnd (ac (.ok (D.int 0)) (ac (.ok (D.int 1)) an)) mkT) (ac (bnd (ac (.ok (D.int 1)) (ac (.ok (D.int 1)) an)) mkT) (ac (bnd (ac (.ok (D.int 0)) (ac (.ok (D.int 1)) an)) mkT) (ac (bnd (ac (.ok (D.int 1)) (ac (.ok (D.int 1)) an)) mkT) an)))))))) mkT) (ac (bnd (ac (bnd (ac (.ok (D.int 1)) (ac (.ok (D.int 1)) an)) mkT) (ac (bnd (ac (.ok (D.int 0)) (ac (.ok (D.int 1)) an)) mkT) (ac (bnd (ac (.ok (D.int 1)) (ac (.ok (D.int 1)) an)) mkT) (ac (bnd (ac (.ok (D.int 0)) (ac (.ok (D.int 1)) an)) mkT) (ac (bnd (ac (.ok (D.int 2)) (ac (.ok (D.int 1)) an)) mkT) an))))) mkT) (ac (bnd (ac (bnd (ac (.ok (D.int 1)) (ac (.ok (D.int 1)) an)) mkT) (ac (bnd (ac (o1 oNeg (.ok (D.int 1))) (ac (.ok (D.int 2)) an)) mkT) (ac (bnd (ac (o1 oNeg (.ok (D.int 5))) (ac (.ok (D.int 8)) an)) mkT) an))) mkT) (ac (bnd (ac (.ok (D.int 1)) (ac (.ok (D.int 1)) an)) mkT) (ac (bnd (ac (.ok (D.int 1)) (ac (.ok (D.int 1)) an)) mkT) (ac (bnd (ac (bnd (ac (.ok (D.int 1)) (ac (.ok (D.int 1)) an)) mkT) an) mkT) (ac (bnd (ac (.ok (D.int 231)) (ac (.ok (D.int 1)) an)) mkT) (ac (bnd an mkT) an)))))))))) mkLs) fun due_79 => thnS (tst (Qz.tNot (o1 tru (bnd (ac (.ok got_78) (ac (.ok due_79) an)) g33))) (bnS (.ok (D.bl false)) fun u_81 => .rt u_81 .non) (Fl.nx ())) fun (s_80 : Unit) => bnS (cmp (bnd (bnd (ac (bnd (ac (.ok (D.fn 25)) (ac (bnd (ac (.ok (D.int 1)) (ac (.ok (D.int 17)) (ac (bnd (ac (.ok (D.int 1)) (ac (.ok (D.int 1)) an)) mkT) an))) mkT) an)) mkT) (ac (bnd (ac (.ok (D.fn 26)) (ac (bnd (ac (.ok (D.int 2)) (ac (.ok (D.int 17)) (ac (bnd (ac (.ok (D.int 1)) (ac (.ok (D.int 2)) an)) mkT) an))) mkT) an)) mkT) an)) mkT) wSeq) (fun d => U2 d _ fun p_83 => (.ok true)) (fun d => U2 d _ fun p_83 => (bnd (ac (.ok p_83.1) (ac (.ok p_83.2) an)) g40))) fun got_82 => thnS (tst (Qz.tNot (o1 tru (bnd (ac (.ok got_82) (ac (o2 oMul (bnd (ac (bnd (ac (.ok (D.str "many")) (ac (.ok (D.bl true)) an)) mkLs) an) mkLs) (.ok (D.int 2))) an)) g33))) (bnS (.ok (D.bl false)) fun u_85 => .rt u_85 .non) (Fl.nx ())) fun (s_84 : Unit) => bnS (cmp (bnd (bnd (ac (bnd (ac (.ok (D.fn 24)) (ac (bnd (ac (bnd (ac (.ok (D.int 1)) an) mkT) (ac (.ok (D.int 1)) (ac (bnd (ac (.ok (D.int 2)) (ac (.ok (D.int 4)) an)) mkT) an))) mkT) an)) mkT) (ac (bnd (ac (.ok (D.fn 24)) (ac (bnd (ac (bnd (ac (.ok (D.int 1)) an) mkT) (ac (.ok (D.int 0)) (ac (bnd (ac (.ok (D.int 1)) (ac (.ok (D.int 1)) an)) mkT) an))) mkT) an)) mkT) (ac (bnd (ac (.ok (D.fn 25)) (ac (bnd (ac (.ok (D.int 1)) (ac (o1 oNeg (.ok (D.int 1))) (ac (bnd (ac (.ok (D.int 1)) (ac (.ok (D.int 1)) an)) mkT) an))) mkT) an)) mkT) (ac (bnd (ac (.ok (D.fn 25)) (ac (bnd (ac (.ok (D.int 1)) (ac (.ok (D.int 17)) (ac (bnd (ac (.ok (D.int 1)) (ac (.ok (D.int 0)) an)) mkT) an))) mkT) an)) mkT) (ac (bnd (ac (.ok (D.fn 26)) (ac (bnd (ac (.ok (D.int 0)) (ac (.ok (D.int 1)) (ac (bnd (ac (.ok (D.int 1)) (ac (.ok (D.int 1)) an)) mkT) an))) mkT) an)) mkT) (ac (bnd (ac (.ok (D.fn 27)) (ac (bnd (ac (.ok (D.int 1)) (ac (.ok (D.int 61)) (ac (bnd (ac (.ok (D.int 1)) (ac (.ok (D.int 1)) an)) mkT) an))) mkT) an)) mkT) (ac (bnd (ac (.ok (D.fn 27)) (ac (bnd (ac (.ok (D.int 1)) (ac (.ok (D.int 5)) (ac (.ok (D.int 1)) an))) mkT) an)) mkT) (ac (bnd (ac (.ok (D.fn 28)) (ac (bnd (ac (bnd (ac (.ok (D.int 0)) an) mkT) an) mkT) an)) mkT) an)))))))) mkT) wSeq) (fun d => U2 d _ fun p_87 => (.ok true)) (fun d => U2 d _ fun p_87 => (bnd (ac (.ok p_87.1) (ac (.ok p_87.2) an)) g40))) fun got_86 => bnS (bnd (ac (.ok got_86) (ac (o2 oMul (bnd (ac (bnd (ac (.ok (D.str "unfit")) (ac (.ok (D.bl true)) an)) mkLs) an) mkLs) (.ok (D.int 8))) an)) g33) fun u_88 => .rt u_88 .non) p_90.1 p_90.2) p_91.1 p_91.2)) (f_tup (n := 2) (fa_cons (A := fun w_5 => (bnd (bnd (ac (.ok (D.int 12)) an) fun us_20 => asL .bad w_5 (nox (g39 (w_5 :: us_20)))) fun p_17 => bnd (.ok ([], p_17.2)) fun q_18 => .ok (p_17.1 :: q_18.1, q_18.2))) (f_add C (m2 := fun w_9 => (bnd (ac (.ok (D.int 4)) an) fun us_12 => asL .bad w_9 (nox (g30 (w_9 :: us_12))))) (f_pure 1 (PEv.le (c' := .C) g_int)) (fun w_9 => (f_callW (j := 1) C.room h30 rfl (C.mg 30 _ rfl) (ga_cons (PEv.le (c' := .C) g_int) ga_nil)))) (fun w_5 => (fa_cons (A := fun w_19 => (.ok ([], w_19))) (f_callW (j := 1) C.room h39 rfl (C.mg 39 _ rfl) (ga_cons (PEv.le (c' := .C) g_int) ga_nil)) (fun w_19 => (fa_nil 1))))) (cntf_cons (A := fun w_5 => (bnd (bnd (ac (.ok (D.int 12)) an) fun us_20 => asL .bad w_5 (nox (g39 (w_5 :: us_20)))) fun p_17 => bnd (.ok ([], p_17.2)) fun q_18 => .ok (p_17.1 :: q_18.1, q_18.2))) (fun w_5 => (cntf_cons (A := fun w_19 => (.ok ([], w_19))) (fun w_19 => cntf_nil))))) (fun w_22 => (t_2 9 10 (G := fun size_so_23 own_24 => [.s script_1, .o w_22, .n, .n, .n, .n, .n, .n, .n, .s size_so_23, .s own_24, .n, .n, .n]) C.calm C.hK C.nd (.inl rfl) (.inl rfl) (fun _ _ => rfl) (fun size_so_23 own_24 => (fs_set (j := 1) 2 (f := fun share_so_25 w_58 => bnS (o1 oSorted (cmp (bnd (bnd (ac (.ok own_24) an) g37) wSeq) (fun d => U2 d _ fun p_60 => (.ok true)) (fun d => U2 d _ fun p_60 => (bnd (ac (.ok own_24) (ac (.ok p_60.1) (ac (o2 oSub (.ok (D.int 0)) (.ok p_60.2)) an))) g38)))) fun hooks_so_59 => bnS (bnd (ac (callK (ac (bnd (ac (.ok own_24) an) g32) (ac (.ok size_so_23) (ac (.ok share_so_25) an))) g24 [0, 1, 2]) (ac (callK (ac (bnd (ac (.ok share_so_25) an) g32) (ac (.ok own_24) (ac (.ok size_so_23) an))) g24 [1, 2, 0]) (ac (callK (ac (bnd (ac (.ok own_24) an) g32) an) g28 [0]) an))) mkLs) fun got_61 => thnS (tst (Qz.tNot (o1 tru (bnd (ac (.ok got_61) (ac (bnd (ac (bnd (ac (.ok own_24) (ac (.ok size_so_23) (ac (.ok share_so_25) an))) g44) (ac (bnd (ac (.ok own_24) (ac (.ok size_so_23) (ac (.ok share_so_25) an))) g44) (ac (o1 oTuple (.ok hooks_so_59)) an))) mkLs) an)) g33))) (bnS (.ok (D.bl false)) fun u_63 => .rt u_63 .non) (Fl.nx ())) fun (s_62 : Unit) => bnS (bnd (ac (.ok (D.int 9)) an) fun us_65 => asL .bad w_58 (nox (g30 (w_58 :: us_65)))) fun p_90 => (fun much_so_64 w_66 => bnS (bnd (ac (.ok (D.int 0)) (ac (.ok (D.int 1)) an)) mkT) fun sum_so_67 => bnS (bnd (bnd (ac (.ok much_so_64) an) g36) wSeq) fun xs_89 => thnS (forL (fun (s_68 : D) => (fun its_69 => bnS (bnd (ac (.ok s_68) (ac (bnd (ac (.ok its_69) (ac (.ok size_so_23) (ac (.ok share_so_25) an))) g44) an)) g42) fun sum_so_70 => Fl.nx sum_so_70)) xs_89 sum_so_67) fun (s_68 : D) => bnS (o2 oGet (bnd (ac (bnd (ac (.ok size_so_23) (ac (.ok much_so_64) (ac (.ok share_so_25) an))) g46) (ac (bnd (ac (.ok (D.int 1)) (ac (.ok much_so_64) (ac (bnd (ac (o1 oNeg (.ok (D.int 1))) (ac (.ok (D.int 1)) an)) mkT) an))) g46) an)) g45) (.ok much_so_64)) fun due_72 => bnS (bnd (ac (callK (ac (.ok size_so_23) (ac (.ok much_so_64) (ac (bnd (ac (.ok share_so_25) an) g32) an))) g25 [0, 1, 2]) (ac (callK (ac (.ok much_so_64) (ac (.ok share_so_25) (ac (.ok size_so_23) an))) g26 [2, 0, 1]) an)) mkLs) fun got_73 => thnS (tst (Qz.tOr (Qz.tNot (o1 tru (bnd (ac (.ok got_73) (ac (bnd (ac (.ok s_68) (ac (.ok due_72) an)) mkLs) an)) g33))) (o2 oNe (.ok s_68) (.ok due_72))) (bnS (.ok (D.bl false)) fun u_75 => .rt u_75 .non) (Fl.nx ())) fun (s_74 : Unit) => thnS (tst (Qz.tNot (o1 tru (bnd (ac (callK (ac (.ok size_so_23) (ac (.ok much_so_64) (ac (bnd (ac (.ok share_so_25) an) g32) an))) g27 [0, 1, 2]) (ac (o1 oTuple (bnd (ac (.ok size_so_23) (ac (.ok much_so_64) (ac (.ok share_so_25) an))) g46)) an)) g33))) (bnS (.ok (D.bl false)) fun u_77 => .rt u_77 .non) (Fl.nx ())) fun (s_76 : Unit) => bnS (bnd (ac (bnd (ac (.ok (D.int 1)) (ac (.ok (D.int 4)) (ac (bnd (ac (.ok (D.int 25)) (ac (.ok (D.int 1)) an)) mkT) an))) g25) (ac (bnd (ac (.ok (D.int 1)) (ac (.ok (D.int 16)) (ac (bnd (ac (.ok (D.int 25)) (ac (.ok (D.int 1)) an)) mkT) an))) g26) (ac (bnd (ac (.ok (D.int 1)) (ac (.ok (D.int 7)) (ac (bnd (ac (.ok (D.int 1)) (ac (.ok (D.int 1)) an)) mkT) an))) g27) (ac (bnd (ac (.ok (D.int 2)) (ac (.ok (D.int 4)) (ac (bnd (ac (o1 oNeg (.ok (D.int 1))) (ac (.ok (D.int 1)) an)) mkT) an))) g27) (ac (bnd (ac (.ok (D.int 1)) (ac (.ok (D.int 2)) (ac (bnd (ac (.ok (D.int 1)) (ac (.ok (D.int 2)) an)) mkT) an))) g27) (ac (bnd (ac (.ok (D.int 3)) (ac (.ok (D.int 0)) (ac (bnd (ac (.ok (D.int 5)) (ac (.ok (D.int 7)) an)) mkT) an))) g25) (ac (bnd (ac (bnd an mkT) (ac (.ok (D.int 2)) (ac (bnd (ac (.ok (D.int 9)) (ac (.ok (D.int 1)) an)) mkT) an))) g24) (ac (bnd (ac (.ok (D.int 5)) (ac (.ok (D.int 0)) (ac (bnd (ac (.ok (D.int 0)) (ac (.ok (D.int 1)) an)) mkT) an))) g27) (ac (bnd (ac (.ok (D.int 2)) (ac (.ok (D.int 16)) (ac (bnd (ac (.ok (D.int 0)) (ac (.ok (D.int 1)) an)) mkT) an))) g26) (ac (bnd (ac (bnd an mkT) an) g28) an)))))))))) mkLs) fun got_78 => bnS (bnd (ac (bnd (ac (.ok (D.int 4830)) (ac (.ok (D.int 1)) an)) mkT) (ac (bnd (ac (o1 oNeg (.ok (D.int 6905934))) (ac (.ok (D.int 1)) an)) mkT) (ac (bnd (ac (bnd (ac (.ok (D.int 1)) (ac (.ok (D.int 1)) an)) mkT) (ac (bnd (ac (o1 oNeg (.ok (D.int 1))) (ac (.ok (D.int 1)) an)) mkT) (ac (bnd (ac (o1 oNeg (.ok (D.int 1))) (ac (.ok (D.int 1)) an)) mkT) (ac (bnd (ac (.ok (D.int 0)) (ac (.ok (D.int 1)) an)) mkT) (ac (bnd (ac (.ok (D.int 0)) (ac (.ok (D.int 1)) an)) mkT) (ac (bnd (ac (.ok (D.int 1)) (ac (.ok (D.int 1)) an)) mkT) (ac (bnd (ac (.ok (D.int 0)) (ac (.ok (D.int 1)) an)) mkT) (ac (bnd (ac (.ok (D.int 1)) (ac (.ok (D.int 1)) an)) mkT) an)))))))) mkT) (ac (bnd (ac (bnd (ac (.ok (D.int 1)) (ac (.ok (D.int 1)) an)) mkT) (ac (bnd (ac (.ok (D.int 0)) (ac (.ok (D.int 1)) an)) mkT) (ac (bnd (ac (.ok (D.int 1)) (ac (.ok (D.int 1)) an)) mkT) (ac (bnd (ac (.ok (D.int 0)) (ac (.ok (D.int 1)) an)) mkT) (ac (bnd (ac (.ok (D.int 2)) (ac (.ok (D.int 1)) an)) mkT) an))))) mkT) (ac (bnd (ac (bnd (ac (.ok (D.int 1)) (ac (.ok (D.int 1)) an)) mkT) (ac (bnd (ac (o1 oNeg (.ok (D.int 1))) (ac (.ok (D.int 2)) an)) mkT) (ac (bnd (ac (o1 oNeg (.ok (D.int 5))) (ac (.ok (D.int 8)) an)) mkT) an))) mkT) (ac (bnd (ac (.ok (D.int 1)) (ac (.ok (D.int 1)) an)) mkT) (ac (bnd (ac (.ok (D.int 1)) (ac (.ok (D.int 1)) an)) mkT) (ac (bnd (ac (bnd (ac (.ok (D.int 1)) (ac (.ok (D.int 1)) an)) mkT) an) mkT) (ac (bnd (ac (.ok (D.int 231)) (ac (.ok (D.int 1)) an)) mkT) (ac (bnd an mkT) an)))))))))) mkLs) fun due_79 => thnS (tst (Qz.tNot (o1 tru (bnd (ac (.ok got_78) (ac (.ok due_79) an)) g33))) (bnS (.ok (D.bl false)) fun u_81 => .rt u_81 .non) (Fl.nx ())) fun (s_80 : Unit) => bnS (cmp (bnd (bnd (ac (bnd (ac (.ok (D.fn 25)) (ac (bnd (ac (.ok (D.int 1)) (ac (.ok (D.int 17)) (ac (bnd (ac (.ok (D.int 1)) (ac (.ok (D.int 1)) an)) mkT) an))) mkT) an)) mkT) (ac (bnd (ac (.ok (D.fn 26)) (ac (bnd (ac (.ok (D.int 2)) (ac (.ok (D.int 17)) (ac (bnd (ac (.ok (D.int 1)) (ac (.ok (D.int 2)) an)) mkT) an))) mkT) an)) mkT) an)) mkT) wSeq) (fun d => U2 d _ fun p_83 => (.ok true)) (fun d => U2 d _ fun p_83 => (bnd (ac (.ok p_83.1) (ac (.ok p_83.2) an)) g40))) fun got_82 => thnS (tst (Qz.tNot (o1 tru (bnd (ac (.ok got_82) (ac (o2 oMul (bnd (ac (bnd (ac (.ok (D.str "many")) (ac (.ok (D.bl true)) an)) mkLs) an) mkLs) (.ok (D.int 2))) an)) g33))) (bnS (.ok (D.bl false)) fun u_85 => .rt u_85 .non) (Fl.nx ())) fun (s_84 : Unit) => bnS (cmp (bnd (bnd (ac (bnd (ac (.ok (D.fn 24)) (ac (bnd (ac (bnd (ac (.ok (D.int 1)) an) mkT) (ac (.ok (D.int 1)) (ac (bnd (ac (.ok (D.int 2)) (ac (.ok (D.int 4)) an)) mkT) an))) mkT) an)) mkT) (ac (bnd (ac (.ok (D.fn 24)) (ac (bnd (ac (bnd (ac (.ok (D.int 1)) an) mkT) (ac (.ok (D.int 0)) (ac (bnd (ac (.ok (D.int 1)) (ac (.ok (D.int 1)) an)) mkT) an))) mkT) an)) mkT) (ac (bnd (ac (.ok (D.fn 25)) (ac (bnd (ac (.ok (D.int 1)) (ac (o1 oNeg (.ok (D.int 1))) (ac (bnd (ac (.ok (D.int 1)) (ac (.ok (D.int 1)) an)) mkT) an))) mkT) an)) mkT) (ac (bnd (ac (.ok (D.fn 25)) (ac (bnd (ac (.ok (D.int 1)) (ac (.ok (D.int 17)) (ac (bnd (ac (.ok (D.int 1)) (ac (.ok (D.int 0)) an)) mkT) an))) mkT) an)) mkT) (ac (bnd (ac (.ok (D.fn 26)) (ac (bnd (ac (.ok (D.int 0)) (ac (.ok (D.int 1)) (ac (bnd (ac (.ok (D.int 1)) (ac (.ok (D.int 1)) an)) mkT) an))) mkT) an)) mkT) (ac (bnd (ac (.ok (D.fn 27)) (ac (bnd (ac (.ok (D.int 1)) (ac (.ok (D.int 61)) (ac (bnd (ac (.ok (D.int 1)) (ac (.ok (D.int 1)) an)) mkT) an))) mkT) an)) mkT) (ac (bnd (ac (.ok (D.fn 27)) (ac (bnd (ac (.ok (D.int 1)) (ac (.ok (D.int 5)) (ac (.ok (D.int 1)) an))) mkT) an)) mkT) (ac (bnd (ac (.ok (D.fn 28)) (ac (bnd (ac (bnd (ac (.ok (D.int 0)) an) mkT) an) mkT) an)) mkT) an)))))))) mkT) wSeq) (fun d => U2 d _ fun p_87 => (.ok true)) (fun d => U2 d _ fun p_87 => (bnd (ac (.ok p_87.1) (ac (.ok p_87.2) an)) g40))) fun got_86 => bnS (bnd (ac (.ok got_86) (ac (o2 oMul (bnd (ac (bnd (ac (.ok (D.str "unfit")) (ac (.ok (D.bl true)) an)) mkLs) an) mkLs) (.ok (D.int 8))) an)) g33) fun u_88 => .rt u_88 .non) p_90.1 p_90.2) (G := fun share_so_25 w_58 => [.s script_1, .o w_58, .s share_so_25, .n, .n, .n, .n, .n, .n, .s size_so_23, .s own_24, .n, .n, .n]) C.nd (f_call C.room h41 rfl (C.mg 41 _ rfl) (fa_cons (A := fun w_28 => (bnd (bnd (bnd (.ok (D.int 1)) fun u_53 => .ok (u_53, w_28)) fun p_49 => bnd (bnd (ac (.ok (D.int 3)) an) fun us_54 => asL .bad p_49.2 (nox (g30 (p_49.2 :: us_54)))) fun q_50 => bnd (oAdd p_49.1 q_50.1) fun u_51 => .ok (u_51, q_50.2)) fun p_46 => bnd (.ok ([], p_46.2)) fun q_47 => .ok (p_46.1 :: q_47.1, q_47.2))) (f_sub C (m2 := fun w_32 => (bnd (.ok (D.int 6)) fun u_35 => .ok (u_35, w_32))) (f_callW (j := 1) C.room h30 rfl (C.mg 30 _ rfl) (ga_cons (PEv.le (c' := .C) g_int) ga_nil)) (fun w_32 => (f_pure 1 (PEv.le (c' := .C) g_int)))) (fun w_28 => (fa_cons (A := fun w_48 => (.ok ([], w_48))) (f_add C (m2 := fun w_52 => (bnd (ac (.ok (D.int 3)) an) fun us_55 => asL .bad w_52 (nox (g30 (w_52 :: us_55))))) (f_pure 1 (PEv.le (c' := .C) g_int)) (fun w_52 => (f_callW (j := 1) C.room h30 rfl (C.mg 30 _ rfl) (ga_cons (PEv.le (c' := .C) g_int) ga_nil)))) (fun w_48 => (fa_nil 1)))))) (.inl rfl) (fun _ _ => rfl) (fun share_so_25 w_58 => (g_setS 3 (G := fun hooks_so_59 => [.s script_1, .o w_58, .s share_so_25, .s hooks_so_59, .n, .n, .n, .n, .n, .s size_so_23, .s own_24, .n, .n, .n]) C.nd (r_sorted C (g_comp (own := [("x", 12), ("y", 13)]) C.calm C.nd (gi_seq C.hK (PEv.le (c' := .E) (g_call C.room h37 rfl (C.mg 37 _ rfl) (ga_cons (g_var 10) ga_nil)))) (blkOk_by rfl) rfl (fun _ _ _ _ _ => (tc_2 12 13 (G := (fun p_60 : D × D => [.s script_1, .o w_58, .s share_so_25, .n, .n, .n, .n, .n, .n, .s size_so_23, .s own_24, .n, .s p_60.1, .s p_60.2])) C.blk.calm C.blk.hK C.blk.nd (by decide) (by decide) (fun _ => rfl))) (fun _ _ _ _ _ p_60 => pts_yes) (fun _ _ _ _ _ p_60 => (PEv.le (c' := .C) (g_call C.blk.room h38 rfl (C.blk.mg 38 _ rfl) (ga_cons (g_var 10) (ga_cons (g_var 12) (ga_cons (PEv.le (c' := .C) (r_sub C.blk g_int (g_var 13))) ga_nil)))))))) (.inl rfl) (fun _ => rfl) (fun hooks_so_59 => (g_setS 4 (G := fun got_61 => [.s script_1, .o w_58, .s share_so_25, .s hooks_so_59, .s got_61, .n, .n, .n, .n, .s size_so_23, .s own_24, .n, .n, .n]) C.nd (r_lst (ga_cons (g_callK C.room h24 rfl (C.mg 24 _ rfl) kw2 (gk_cons (g_call C.room h32 rfl (C.mg 32 _ rfl) (ga_cons (g_var 10) ga_nil)) (gk_cons (g_var 9) (gk_cons (g_var 2) gk_nil))) (hcnt := (cnt_cons (cnt_cons (cnt_cons cnt_nil))))) (ga_cons (g_callK C.room h24 rfl (C.mg 24 _ rfl) kw1 (gk_cons (g_call C.room h32 rfl (C.mg 32 _ rfl) (ga_cons (g_var 2) ga_nil)) (gk_cons (g_var 10) (gk_cons (g_var 9) gk_nil))) (hcnt := (cnt_cons (cnt_cons (cnt_cons cnt_nil))))) (ga_cons (PEv.le (c' := .C) (g_callK C.room h28 rfl (C.mg 28 _ rfl) kw0 (gk_cons (g_call C.room h32 rfl (C.mg 32 _ rfl) (ga_cons (g_var 10) ga_nil)) gk_nil) (hcnt := (cnt_cons cnt_nil)))) ga_nil))) (cnt_cons (cnt_cons (cnt_cons cnt_nil)))) (.inl rfl) (fun _ => rfl) (fun got_61 => (g_if (po' := fun s_62 : Unit => [.s script_1, .o w_58, .s share_so_25, .s hooks_so_59, .s got_61, .n, .n, .n, .n, .s size_so_23, .s own_24, .n, .n, .n]) (t_not C (t_val C (g_call C.room h33 rfl (C.mg 33 _ rfl) (ga_cons (g_var 4) (ga_cons (PEv.le (c' := .C) (r_lst (ga_cons (g_call C.room h44 rfl (C.mg 44 _ rfl) (ga_cons (g_var 10) (ga_cons (g_var 9) (ga_cons (g_var 2) ga_nil)))) (ga_cons (g_call C.room h44 rfl (C.mg 44 _ rfl) (ga_cons (g_var 10) (ga_cons (g_var 9) (ga_cons (g_var 2) ga_nil)))) (ga_cons (PEv.le (c' := .C) (r_tuple C (g_var 3))) ga_nil))) (cnt_cons (cnt_cons (cnt_cons cnt_nil))))) ga_nil))))) (g_ret g_bl rfl) (g_nil ⟨(.cons .rf (.cons .rf (.cons .rf (.cons .rf (.cons .rf (.cons .n (.cons .n (.cons .n (.cons .n (.cons .rf (.cons .rf (.cons .n (.cons .n (.cons .n .nil)))))))))))))), nofun⟩) (fun s_62 => (fs_set (j := 1) 5 (f := fun much_so_64 w_66 => bnS (bnd (ac (.ok (D.int 0)) (ac (.ok (D.int 1)) an)) mkT) fun sum_so_67 => bnS (bnd (bnd (ac (.ok much_so_64) an) g36) wSeq) fun xs_89 => thnS (forL (fun (s_68 : D) => (fun its_69 => bnS (bnd (ac (.ok s_68) (ac (bnd (ac (.ok its_69) (ac (.ok size_so_23) (ac (.ok share_so_25) an))) g44) an)) g42) fun sum_so_70 => Fl.nx sum_so_70)) xs_89 sum_so_67) fun (s_68 : D) => bnS (o2 oGet (bnd (ac (bnd (ac (.ok size_so_23) (ac (.ok much_so_64) (ac (.ok share_so_25) an))) g46) (ac (bnd (ac (.ok (D.int 1)) (ac (.ok much_so_64) (ac (bnd (ac (o1 oNeg (.ok (D.int 1))) (ac (.ok (D.int 1)) an)) mkT) an))) g46) an)) g45) (.ok much_so_64)) fun due_72 => bnS (bnd (ac (callK (ac (.ok size_so_23) (ac (.ok much_so_64) (ac (bnd (ac (.ok share_so_25) an) g32) an))) g25 [0, 1, 2]) (ac (callK (ac (.ok much_so_64) (ac (.ok share_so_25) (ac (.ok size_so_23) an))) g26 [2, 0, 1]) an)) mkLs) fun got_73 => thnS (tst (Qz.tOr (Qz.tNot (o1 tru (bnd (ac (.ok got_73) (ac (bnd (ac (.ok s_68) (ac (.ok due_72) an)) mkLs) an)) g33))) (o2 oNe (.ok s_68) (.ok due_72))) (bnS (.ok (D.bl false)) fun u_75 => .rt u_75 .non) (Fl.nx ())) fun (s_74 : Unit) => thnS (tst (Qz.tNot (o1 tru (bnd (ac (callK (ac (.ok size_so_23) (ac (.ok much_so_64) (ac (bnd (ac (.ok share_so_25) an) g32) an))) g27 [0, 1, 2]) (ac (o1 oTuple (bnd (ac (.ok size_so_23) (ac (.ok much_so_64) (ac (.ok share_so_25) an))) g46)) an)) g33))) (bnS (.ok (D.bl false)) fun u_77 => .rt u_77 .non) (Fl.nx ())) fun (s_76 : Unit) => bnS (bnd (ac (bnd (ac (.ok (D.int 1)) (ac (.ok (D.int 4)) (ac (bnd (ac (.ok (D.int 25)) (ac (.ok (D.int 1)) an)) mkT) an))) g25) (ac (bnd (ac (.ok (D.int 1)) (ac (.ok (D.int 16)) (ac (bnd (ac (.ok (D.int 25)) (ac (.ok (D.int 1)) an)) mkT) an))) g26) (ac (bnd (ac (.ok (D.int 1)) (ac (.ok (D.int 7)) (ac (bnd (ac (.ok (D.int 1)) (ac (.ok (D.int 1)) an)) mkT) an))) g27) (ac (bnd (ac (.ok (D.int 2)) (ac (.ok (D.int 4)) (ac (bnd (ac (o1 oNeg (.ok (D.int 1))) (ac (.ok (D.int 1)) an)) mkT) an))) g27) (ac (bnd (ac (.ok (D.int 1)) (ac (.ok (D.int 2)) (ac (bnd (ac (.ok (D.int 1)) (ac (.ok (D.int 2)) an)) mkT) an))) g27) (ac (bnd (ac (.ok (D.int 3)) (ac (.ok (D.int 0)) (ac (bnd (ac (.ok (D.int 5)) (ac (.ok (D.int 7)) an)) mkT) an))) g25) (ac (bnd (ac (bnd an mkT) (ac (.ok (D.int 2)) (ac (bnd (ac (.ok (D.int 9)) (ac (.ok (D.int 1)) an)) mkT) an))) g24) (ac (bnd (ac (.ok (D.int 5)) (ac (.ok (D.int 0)) (ac (bnd (ac (.ok (D.int 0)) (ac (.ok (D.int 1)) an)) mkT) an))) g27) (ac (bnd (ac (.ok (D.int 2)) (ac (.ok (D.int 16)) (ac (bnd (ac (.ok (D.int 0)) (ac (.ok (D.int 1)) an)) mkT) an))) g26) (ac (bnd (ac (bnd an mkT) an) g28) an)))))))))) mkLs) fun got_78 => bnS (bnd (ac (bnd (ac (.ok (D.int 4830)) (ac (.ok (D.int 1)) an)) mkT) (ac (bnd (ac (o1 oNeg (.ok (D.int 6905934))) (ac (.ok (D.int 1)) an)) mkT) (ac (bnd (ac (bnd (ac (.ok (D.int 1)) (ac (.ok (D.int 1)) an)) mkT) (ac (bnd (ac (o1 oNeg (.ok (D.int 1))) (ac (.ok (D.int 1)) an)) mkT) (ac (bnd (ac (o1 oNeg (.ok (D.int 1))) (ac (.ok (D.int 1)) an)) mkT) (ac (bnd (ac (.ok (D.int 0)) (ac (.ok (D.int 1)) an)) mkT) (ac (bnd (ac (.ok (D.int 0)) (ac (.ok (D.int 1)) an)) mkT) (ac (bnd (ac (.ok (D.int 1)) (ac (.ok (D.int 1)) an)) mkT) (ac (bnd (ac (.ok (D.int 0)) (ac (.ok (D.int 1)) an)) mkT) (ac (bnd (ac (.ok (D.int 1)) (ac (.ok (D.int 1)) an)) mkT) an)))))))) mkT) (ac (bnd (ac (bnd (ac (.ok (D.int 1)) (ac (.ok (D.int 1)) an)) mkT) (ac (bnd (ac (.ok (D.int 0)) (ac (.ok (D.int 1)) an)) mkT) (ac (bnd (ac (.ok (D.int 1)) (ac (.ok (D.int 1)) an)) mkT) (ac (bnd (ac (.ok (D.int 0)) (ac (.ok (D.int 1)) an)) mkT) (ac (bnd (ac (.ok (D.int 2)) (ac (.ok (D.int 1)) an)) mkT) an))))) mkT) (ac (bnd (ac (bnd (ac (.ok (D.int 1)) (ac (.ok (D.int 1)) an)) mkT) (ac (bnd (ac (o1 oNeg (.ok (D.int 1))) (ac (.ok (D.int 2)) an)) mkT) (ac (bnd (ac (o1 oNeg (.ok (D.int 5))) (ac (.ok (D.int 8)) an)) mkT) an))) mkT) (ac (bnd (ac (.ok (D.int 1)) (ac (.ok (D.int 1)) an)) mkT) (ac (bnd (ac (.ok (D.int 1)) (ac (.ok (D.int 1)) an)) mkT) (ac (bnd (ac (bnd (ac (.ok (D.int 1)) (ac (.ok (D.int 1)) an)) mkT) an) mkT) (ac (bnd (ac (.ok (D.int 231)) (ac (.ok (D.int 1)) an)) mkT) (ac (bnd an mkT) an)))))))))) mkLs) fun due_79 => thnS (tst (Qz.tNot (o1 tru (bnd (ac (.ok got_78) (ac (.ok due_79) an)) g33))) (bnS (.ok (D.bl false)) fun u_81 => .rt u_81 .non) (Fl.nx ())) fun (s_80 : Unit) => bnS (cmp (bnd (bnd (ac (bnd (ac (.ok (D.fn 25)) (ac (bnd (ac (.ok (D.int 1)) (ac (.ok (D.int 17)) (ac (bnd (ac (.ok (D.int 1)) (ac (.ok (D.int 1)) an)) mkT) an))) mkT) an)) mkT) (ac (bnd (ac (.ok (D.fn 26)) (ac (bnd (ac (.ok (D.int 2)) (ac (.ok (D.int 17)) (ac (bnd (ac (.ok (D.int 1)) (ac (.ok (D.int 2)) an)) mkT) an))) mkT) an)) mkT) an)) mkT) wSeq) (fun d => U2 d _ fun p_83 => (.ok true)) (fun d => U2 d _ fun p_83 => (bnd (ac (.ok p_83.1) (ac (.ok p_83.2) an)) g40))) fun got_82 => thnS (tst (Qz.tNot (o1 tru (bnd (ac (.ok got_82) (ac (o2 oMul (bnd (ac (bnd (ac (.ok (D.str "many")) (ac (.ok (D.bl true)) an)) mkLs) an) mkLs) (.ok (D.int 2))) an)) g33))) (bnS (.ok (D.bl false)) fun u_85 => .rt u_85 .non) (Fl.nx ())) fun (s_84 : Unit) => bnS (cmp (bnd (bnd (ac (bnd (ac (.ok (D.fn 24)) (ac (bnd (ac (bnd (ac (.ok (D.int 1)) an) mkT) (ac (.ok (D.int 1)) (ac (bnd (ac (.ok (D.int 2)) (ac (.ok (D.int 4)) an)) mkT) an))) mkT) an)) mkT) (ac (bnd (ac (.ok (D.fn 24)) (ac (bnd (ac (bnd (ac (.ok (D.int 1)) an) mkT) (ac (.ok (D.int 0)) (ac (bnd (ac (.ok (D.int 1)) (ac (.ok (D.int 1)) an)) mkT) an))) mkT) an)) mkT) (ac (bnd (ac (.ok (D.fn 25)) (ac (bnd (ac (.ok (D.int 1)) (ac (o1 oNeg (.ok (D.int 1))) (ac (bnd (ac (.ok (D.int 1)) (ac (.ok (D.int 1)) an)) mkT) an))) mkT) an)) mkT) (ac (bnd (ac (.ok (D.fn 25)) (ac (bnd (ac (.ok (D.int 1)) (ac (.ok (D.int 17)) (ac (bnd (ac (.ok (D.int 1)) (ac (.ok (D.int 0)) an)) mkT) an))) mkT) an)) mkT) (ac (bnd (ac (.ok (D.fn 26)) (ac (bnd (ac (.ok (D.int 0)) (ac (.ok (D.int 1)) (ac (bnd (ac (.ok (D.int 1)) (ac (.ok (D.int 1)) an)) mkT) an))) mkT) an)) mkT) (ac (bnd (ac (.ok (D.fn 27)) (ac (bnd (ac (.ok (D.int 1)) (ac (.ok (D.int 61)) (ac (bnd (ac (.ok (D.int 1)) (ac (.ok (D.int 1)) an)) mkT) an))) mkT) an)) mkT) (ac (bnd (ac (.ok (D.fn 27)) (ac (bnd (ac (.ok (D.int 1)) (ac (.ok (D.int 5)) (ac (.ok (D.int 1)) an))) mkT) an)) mkT) (ac (bnd (ac (.ok (D.fn 28)) (ac (bnd (ac (bnd (ac (.ok (D.int 0)) an) mkT) an) mkT) an)) mkT) an)))))))) mkT) wSeq) (fun d => U2 d _ fun p_87 => (.ok true)) (fun d => U2 d _ fun p_87 => (bnd (ac (.ok p_87.1) (ac (.ok p_87.2) an)) g40))) fun got_86 => bnS (bnd (ac (.ok got_86) (ac (o2 oMul (bnd (ac (bnd (ac (.ok (D.str "unfit")) (ac (.ok (D.bl true)) an)) mkLs) an) mkLs) (.ok (D.int 8))) an)) g33) fun u_88 => .rt u_88 .non) (G := fun much_so_64 w_66 => [.s script_1, .o w_66, .s share_so_25, .s hooks_so_59, .s got_61, .s much_so_64, .n, .n, .n, .s size_so_23, .s own_24, .n, .n, .n]) C.nd (f_callW (j := 1) C.room h30 rfl (C.mg 30 _ rfl) (ga_cons (PEv.le (c' := .C) g_int) ga_nil)) (.inl rfl) (fun _ _ => rfl) (fun much_so_64 w_66 => (g_setS 6 (G := fun sum_so_67 => [.s script_1, .o w_66, .s share_so_25, .s hooks_so_59, .s got_61, .s much_so_64, .s sum_so_67, .n, .n, .s size_so_23, .s own_24, .n, .n, .n]) C.nd (r_tup (ga_cons (PEv.le (c' := .C) g_int) (ga_cons (PEv.le (c' := .C) g_int) ga_nil)) (cnt_cons (cnt_cons cnt_nil))) (.inl rfl) (fun _ => rfl) (fun sum_so_67 => (g_for (pl := fun s_68 : D => [.s script_1, .o w_66, .s share_so_25, .s hooks_so_59, .s got_61, .s much_so_64, .s s_68, .n, .n, .s size_so_23, .s own_24, .n, .n, .n]) C.po C.calm (gi_seq C.hK (PEv.le (c' := .C) (g_call C.room h36 rfl (C.mg 36 _ rfl) (ga_cons (g_var 5) ga_nil)))) ⟨(.cons .rf (.cons .rf (.cons .rf (.cons .rf (.cons .rf (.cons .rf (.cons .rf (.cons .n (.cons .n (.cons .rf (.cons .rf (.cons .n (.cons .n (.cons .n .nil)))))))))))))), nofun⟩ (fun s_68 => (t_nm 7 (G := fun its_69 => [.s script_1, .o w_66, .s share_so_25, .s hooks_so_59, .s got_61, .s much_so_64, .s s_68, .s its_69, .n, .s size_so_23, .s own_24, .n, .n, .n]) C.nd (.inl rfl) (fun _ => rfl) (fun its_69 => (g_setS 6 (G := fun sum_so_70 => [.s script_1, .o w_66, .s share_so_25, .s hooks_so_59, .s got_61, .s much_so_64, .s sum_so_70, .s its_69, .n, .s size_so_23, .s own_24, .n, .n, .n]) C.nd (g_call C.room h42 rfl (C.mg 42 _ rfl) (ga_cons (g_var 6) (ga_cons (g_call C.room h44 rfl (C.mg 44 _ rfl) (ga_cons (g_var 7) (ga_cons (g_var 9) (ga_cons (g_var 2) ga_nil)))) ga_nil))) (.inl rfl) (fun _ => rfl) (fun sum_so_70 => (g_nil ⟨(.cons .rf (.cons .rf (.cons .rf (.cons .rf (.cons .rf (.cons .rf (.cons .rf (.cons .n (.cons .n (.cons .rf (.cons .rf (.cons .n (.cons .n (.cons .n .nil)))))))))))))), nofun⟩)))))) (fun s_68 => (g_setS 8 (G := fun due_72 => [.s script_1, .o w_66, .s share_so_25, .s hooks_so_59, .s got_61, .s much_so_64, .s s_68, .n, .s due_72, .s size_so_23, .s own_24, .n, .n, .n]) C.nd (r_get C (g_call C.room h45 rfl (C.mg 45 _ rfl) (ga_cons (g_call C.room h46 rfl (C.mg 46 _ rfl) (ga_cons (g_var 9) (ga_cons (g_var 5) (ga_cons (g_var 2) ga_nil)))) (ga_cons (g_call C.room h46 rfl (C.mg 46 _ rfl) (ga_cons (PEv.le (c' := .C) g_int) (ga_cons (g_var 5) (ga_cons (r_tup (ga_cons (PEv.le (c' := .C) (r_neg C g_int)) (ga_cons (PEv.le (c' := .C) g_int) ga_nil)) (cnt_cons (cnt_cons cnt_nil))) ga_nil)))) ga_nil))) (g_var 5)) (.inl rfl) (fun _ => rfl) (fun due_72 => (g_setS 4 (G := fun got_73 => [.s script_1, .o w_66, .s share_so_25, .s hooks_so_59, .s got_73, .s much_so_64, .s s_68, .n, .s due_72, .s size_so_23, .s own_24, .n, .n, .n]) C.nd (r_lst (ga_cons (g_callK C.room h25 rfl (C.mg 25 _ rfl) kw4 (gk_cons (g_var 9) (gk_cons (g_var 5) (gk_cons (g_call C.room h32 rfl (C.mg 32 _ rfl) (ga_cons (g_var 2) ga_nil)) gk_nil))) (hcnt := (cnt_cons (cnt_cons (cnt_cons cnt_nil))))) (ga_cons (g_callK C.room h26 rfl (C.mg 26 _ rfl) kw3 (gk_cons (g_var 5) (gk_cons (g_var 2) (gk_cons (g_var 9) gk_nil))) (hcnt := (cnt_cons (cnt_cons (cnt_cons cnt_nil))))) ga_nil)) (cnt_cons (cnt_cons cnt_nil))) (.inl rfl) (fun _ => rfl) (fun got_73 => (g_if (po' := fun s_74 : Unit => [.s script_1, .o w_66, .s share_so_25, .s hooks_so_59, .s got_73, .s much_so_64, .s s_68, .n, .s due_72, .s size_so_23, .s own_24, .n, .n, .n]) (t_w (w_or (t_not C (t_val C (g_call C.room h33 rfl (C.mg 33 _ rfl) (ga_cons (g_var 4) (ga_cons (PEv.le (c' := .C) (r_lst (ga_cons (g_var 6) (ga_cons (g_var 8) ga_nil)) (cnt_cons (cnt_cons cnt_nil)))) ga_nil))))) (w_or1 (t_ne C (g_var 6) (g_var 8))))) (g_ret g_bl rfl) (g_nil ⟨(.cons .rf (.cons .rf (.cons .rf (.cons .rf (.cons .rf (.cons .rf (.cons .rf (.cons .n (.cons .rf (.cons .rf (.cons .rf (.cons .n (.cons .n (.cons .n .nil)))))))))))))), nofun⟩) (fun s_74 => (g_if (po' := fun s_76 : Unit => [.s script_1, .o w_66, .s share_so_25, .s hooks_so_59, .s got_73, .s much_so_64, .s s_68, .n, .s due_72, .s size_so_23, .s own_24, .n, .n, .n]) (t_not C (t_val C (g_call C.room h33 rfl (C.mg 33 _ rfl) (ga_cons (PEv.le (c' := .C) (g_callK C.room h27 rfl (C.mg 27 _ rfl) kw5 (gk_cons (g_var 9) (gk_cons (g_var 5) (gk_cons (g_call C.room h32 rfl (C.mg 32 _ rfl) (ga_cons (g_var 2) ga_nil)) gk_nil))) (hcnt := (cnt_cons (cnt_cons (cnt_cons cnt_nil)))))) (ga_cons (PEv.le (c' := .C) (r_tuple C (g_call C.room h46 rfl (C.mg 46 _ rfl) (ga_cons (g_var 9) (ga_cons (g_var 5) (ga_cons (g_var 2) ga_nil)))))) ga_nil))))) (g_ret g_bl rfl) (g_nil ⟨(.cons .rf (.cons .rf (.cons .rf (.cons .rf (.cons .rf (.cons .rf (.cons .rf (.cons .n (.cons .rf (.cons .rf (.cons .rf (.cons .n (.cons .n (.cons .n .nil)))))))))))))), nofun⟩) (fun s_76 => (g_setS 4 (G := fun got_78 => [.s script_1, .o w_66, .s share_so_25, .s hooks_so_59, .s got_78, .s much_so_64, .s s_68, .n, .s due_72, .s size_so_23, .s own_24, .n, .n, .n]) C.nd (r_lst (ga_cons (g_call C.room h25 rfl (C.mg 25 _ rfl) (ga_cons (PEv.le (c' := .C) g_int) (ga_cons (PEv.le (c' := .C) g_int) (ga_cons (r_tup (ga_cons (PEv.le (c' := .C) g_int) (ga_cons (PEv.le (c' := .C) g_int) ga_nil)) (cnt_cons (cnt_cons cnt_nil))) ga_nil)))) (ga_cons (g_call C.room h26 rfl (C.mg 26 _ rfl) (ga_cons (PEv.le (c' := .C) g_int) (ga_cons (PEv.le (c' := .C) g_int) (ga_cons (r_tup (ga_cons (PEv.le (c' := .C) g_int) (ga_cons (PEv.le (c' := .C) g_int) ga_nil)) (cnt_cons (cnt_cons cnt_nil))) ga_nil)))) (ga_cons (PEv.le (c' := .C) (g_call C.room h27 rfl (C.mg 27 _ rfl) (ga_cons (PEv.le (c' := .C) g_int) (ga_cons (PEv.le (c' := .C) g_int) (ga_cons (r_tup (ga_cons (PEv.le (c' := .C) g_int) (ga_cons (PEv.le (c' := .C) g_int) ga_nil)) (cnt_cons (cnt_cons cnt_nil))) ga_nil))))) (ga_cons (PEv.le (c' := .C) (g_call C.room h27 rfl (C.mg 27 _ rfl) (ga_cons (PEv.le (c' := .C) g_int) (ga_cons (PEv.le (c' := .C) g_int) (ga_cons (r_tup (ga_cons (PEv.le (c' := .C) (r_neg C g_int)) (ga_cons (PEv.le (c' := .C) g_int) ga_nil)) (cnt_cons (cnt_cons cnt_nil))) ga_nil))))) (ga_cons (PEv.le (c' := .C) (g_call C.room h27 rfl (C.mg 27 _ rfl) (ga_cons (PEv.le (c' := .C) g_int) (ga_cons (PEv.le (c' := .C) g_int) (ga_cons (r_tup (ga_cons (PEv.le (c' := .C) g_int) (ga_cons (PEv.le (c' := .C) g_int) ga_nil)) (cnt_cons (cnt_cons cnt_nil))) ga_nil))))) (ga_cons (g_call C.room h25 rfl (C.mg 25 _ rfl) (ga_cons (PEv.le (c' := .C) g_int) (ga_cons (PEv.le (c' := .C) g_int) (ga_cons (r_tup (ga_cons (PEv.le (c' := .C) g_int) (ga_cons (PEv.le (c' := .C) g_int) ga_nil)) (cnt_cons (cnt_cons cnt_nil))) ga_nil)))) (ga_cons (g_call C.room h24 rfl (C.mg 24 _ rfl) (ga_cons (r_tup ga_nil cnt_nil) (ga_cons (PEv.le (c' := .C) g_int) (ga_cons (r_tup (ga_cons (PEv.le (c' := .C) g_int) (ga_cons (PEv.le (c' := .C) g_int) ga_nil)) (cnt_cons (cnt_cons cnt_nil))) ga_nil)))) (ga_cons (PEv.le (c' := .C) (g_call C.room h27 rfl (C.mg 27 _ rfl) (ga_cons (PEv.le (c' := .C) g_int) (ga_cons (PEv.le (c' := .C) g_int) (ga_cons (r_tup (ga_cons (PEv.le (c' := .C) g_int) (ga_cons (PEv.le (c' := .C) g_int) ga_nil)) (cnt_cons (cnt_cons cnt_nil))) ga_nil))))) (ga_cons (g_call C.room h26 rfl (C.mg 26 _ rfl) (ga_cons (PEv.le (c' := .C) g_int) (ga_cons (PEv.le (c' := .C) g_int) (ga_cons (r_tup (ga_cons (PEv.le (c' := .C) g_int) (ga_cons (PEv.le (c' := .C) g_int) ga_nil)) (cnt_cons (cnt_cons cnt_nil))) ga_nil)))) (ga_cons (PEv.le (c' := .C) (g_call C.room h28 rfl (C.mg 28 _ rfl) (ga_cons (r_tup ga_nil cnt_nil) ga_nil))) ga_nil)))))))))) (cnt_cons (cnt_cons (cnt_cons (cnt_cons (cnt_cons (cnt_cons (cnt_cons (cnt_cons (cnt_cons (cnt_cons cnt_nil))))))))))) (.inl rfl) (fun _ => rfl) (fun got_78 => (g_setS 8 (G := fun due_79 => [.s script_1, .o w_66, .s share_so_25, .s hooks_so_59, .s got_78, .s much_so_64, .s s_68, .n, .s due_79, .s size_so_23, .s own_24, .n, .n, .n]) C.nd (r_lst (ga_cons (r_tup (ga_cons (PEv.le (c' := .C) g_int) (ga_cons (PEv.le (c' := .C) g_int) ga_nil)) (cnt_cons (cnt_cons cnt_nil))) (ga_cons (r_tup (ga_cons (PEv.le (c' := .C) (r_neg C g_int)) (ga_cons (PEv.le (c' := .C) g_int) ga_nil)) (cnt_cons (cnt_cons cnt_nil))) (ga_cons (r_tup (ga_cons (r_tup (ga_cons (PEv.le (c' := .C) g_int) (ga_cons (PEv.le (c' := .C) g_int) ga_nil)) (cnt_cons (cnt_cons cnt_nil))) (ga_cons (r_tup (ga_cons (PEv.le (c' := .C) (r_neg C g_int)) (ga_cons (PEv.le (c' := .C) g_int) ga_nil)) (cnt_cons (cnt_cons cnt_nil))) (ga_cons (r_tup (ga_cons (PEv.le (c' := .C) (r_neg C g_int)) (ga_cons (PEv.le (c' := .C) g_int) ga_nil)) (cnt_cons (cnt_cons cnt_nil))) (ga_cons (r_tup (ga_cons (PEv.le (c' := .C) g_int) (ga_cons (PEv.le (c' := .C) g_int) ga_nil)) (cnt_cons (cnt_cons cnt_nil))) (ga_cons (r_tup (ga_cons (PEv.le (c' := .C) g_int) (ga_cons (PEv.le (c' := .C) g_int) ga_nil)) (cnt_cons (cnt_cons cnt_nil))) (ga_cons (r_tup (ga_cons (PEv.le (c' := .C) g_int) (ga_cons (PEv.le (c' := .C) g_int) ga_nil)) (cnt_cons (cnt_cons cnt_nil))) (ga_cons (r_tup (ga_cons (PEv.le (c' := .C) g_int) (ga_cons (PEv.le (c' := .C) g_int) ga_nil)) (cnt_cons (cnt_cons cnt_nil))) (ga_cons (r_tup (ga_cons (PEv.le (c' := .C) g_int) (ga_cons (PEv.le (c' := .C) g_int) ga_nil)) (cnt_cons (cnt_cons cnt_nil))) ga_nil)))))))) (cnt_cons (cnt_cons (cnt_cons (cnt_cons (cnt_cons (cnt_cons (cnt_cons (cnt_cons cnt_nil))))))))) (ga_cons (r_tup (ga_cons (r_tup (ga_cons (PEv.le (c' := .C) g_int) (ga_cons (PEv.le (c' := .C) g_int) ga_nil)) (cnt_cons (cnt_cons cnt_nil))) (ga_cons (r_tup (ga_cons (PEv.le (c' := .C) g_int) (ga_cons (PEv.le (c' := .C) g_int) ga_nil)) (cnt_cons (cnt_cons cnt_nil))) (ga_cons (r_tup (ga_cons (PEv.le (c' := .C) g_int) (ga_cons (PEv.le (c' := .C) g_int) ga_nil)) (cnt_cons (cnt_cons cnt_nil))) (ga_cons (r_tup (ga_cons (PEv.le (c' := .C) g_int) (ga_cons (PEv.le (c' := .C) g_int) ga_nil)) (cnt_cons (cnt_cons cnt_nil))) (ga_cons (r_tup (ga_cons (PEv.le (c' := .C) g_int) (ga_cons (PEv.le (c' := .C) g_int) ga_nil)) (cnt_cons (cnt_cons cnt_nil))) ga_nil))))) (cnt_cons (cnt_cons (cnt_cons (cnt_cons (cnt_cons cnt_nil)))))) (ga_cons (r_tup (ga_cons (r_tup (ga_cons (PEv.le (c' := .C) g_int) (ga_cons (PEv.le (c' := .C) g_int) ga_nil)) (cnt_cons (cnt_cons cnt_nil))) (ga_cons (r_tup (ga_cons (PEv.le (c' := .C) (r_neg C g_int)) (ga_cons (PEv.le (c' := .C) g_int) ga_nil)) (cnt_cons (cnt_cons cnt_nil))) (ga_cons (r_tup (ga_cons (PEv.le (c' := .C) (r_neg C g_int)) (ga_cons (PEv.le (c' := .C) g_int) ga_nil)) (cnt_cons (cnt_cons cnt_nil))) ga_nil))) (cnt_cons (cnt_cons (cnt_cons cnt_nil)))) (ga_cons (r_tup (ga_cons (PEv.le (c' := .C) g_int) (ga_cons (PEv.le (c' := .C) g_int) ga_nil)) (cnt_cons (cnt_cons cnt_nil))) (ga_cons (r_tup (ga_cons (PEv.le (c' := .C) g_int) (ga_cons (PEv.le (c' := .C) g_int) ga_nil)) (cnt_cons (cnt_cons cnt_nil))) (ga_cons (r_tup (ga_cons (r_tup (ga_cons (PEv.le (c' := .C) g_int) (ga_cons (PEv.le (c' := .C) g_int) ga_nil)) (cnt_cons (cnt_cons cnt_nil))) ga_nil) (cnt_cons cnt_nil)) (ga_cons (r_tup (ga_cons (PEv.le (c' := .C) g_int) (ga_cons (PEv.le (c' := .C) g_int) ga_nil)) (cnt_cons (cnt_cons cnt_nil))) (ga_cons (r_tup ga_nil cnt_nil) ga_nil)))))))))) (cnt_cons (cnt_cons (cnt_cons (cnt_cons (cnt_cons (cnt_cons (cnt_cons (cnt_cons (cnt_cons (cnt_cons cnt_nil))))))))))) (.inl rfl) (fun _ => rfl) (fun due_79 => (g_if (po' := fun s_80 : Unit => [.s script_1, .o w_66, .s share_so_25, .s hooks_so_59, .s got_78, .s much_so_64, .s s_68, .n, .s due_79, .s size_so_23, .s own_24, .n, .n, .n]) (t_not C (t_val C (g_call C.room h33 rfl (C.mg 33 _ rfl) (ga_cons (g_var 4) (ga_cons (g_var 8) ga_nil))))) (g_ret g_bl rfl) (g_nil ⟨(.cons .rf (.cons .rf (.cons .rf (.cons .rf (.cons .rf (.cons .rf (.cons .rf (.cons .n (.cons .rf (.cons .rf (.cons .rf (.cons .n (.cons .n (.cons .n .nil)))))))))))))), nofun⟩) (fun s_80 => (g_setC 4 (own := [("door", 11), ("its", 7)]) (kd := false) (G := fun got_82 => [.s script_1, .o w_66, .s share_so_25, .s hooks_so_59, .s got_82, .s much_so_64, .s s_68, .n, .s due_79, .s size_so_23, .s own_24, .n, .n, .n]) C.calm C.nd (gi_seq C.hK (PEv.le (c' := .E) (r_tup (ga_cons (r_tup (ga_cons (PEv.le (c' := .C) (r_fn C 25 rfl rfl)) (ga_cons (r_tup (ga_cons (PEv.le (c' := .C) g_int) (ga_cons (PEv.le (c' := .C) g_int) (ga_cons (r_tup (ga_cons (PEv.le (c' := .C) g_int) (ga_cons (PEv.le (c' := .C) g_int) ga_nil)) (cnt_cons (cnt_cons cnt_nil))) ga_nil))) (cnt_cons (cnt_cons (cnt_cons cnt_nil)))) ga_nil)) (cnt_cons (cnt_cons cnt_nil))) (ga_cons (r_tup (ga_cons (PEv.le (c' := .C) (r_fn C 26 rfl rfl)) (ga_cons (r_tup (ga_cons (PEv.le (c' := .C) g_int) (ga_cons (PEv.le (c' := .C) g_int) (ga_cons (r_tup (ga_cons (PEv.le (c' := .C) g_int) (ga_cons (PEv.le (c' := .C) g_int) ga_nil)) (cnt_cons (cnt_cons cnt_nil))) ga_nil))) (cnt_cons (cnt_cons (cnt_cons cnt_nil)))) ga_nil)) (cnt_cons (cnt_cons cnt_nil))) ga_nil)) (cnt_cons (cnt_cons cnt_nil))))) (blkOk_by rfl) rfl (fun _ _ _ _ _ => (tc_2 11 7 (G := (fun p_83 : D × D => [.s script_1, .o w_66, .s share_so_25, .s hooks_so_59, .s got_78, .s much_so_64, .s s_68, .s p_83.2, .s due_79, .s size_so_23, .s own_24, .s p_83.1, .n, .n])) C.blk.calm C.blk.hK C.blk.nd (by decide) (by decide) (fun _ => rfl))) (fun _ _ _ _ _ p_83 => pts_yes) (fun _ _ _ _ _ p_83 => (g_call C.blk.room h40 rfl (C.blk.mg 40 _ rfl) (ga_cons (g_var 11) (ga_cons (g_var 7) ga_nil)))) (.inl rfl) (fun _ => rfl) (fun got_82 => (g_if (po' := fun s_84 : Unit => [.s script_1, .o w_66, .s share_so_25, .s hooks_so_59, .s got_82, .s much_so_64, .s s_68, .n, .s due_79, .s size_so_23, .s own_24, .n, .n, .n]) (t_not C (t_val C (g_call C.room h33 rfl (C.mg 33 _ rfl) (ga_cons (g_var 4) (ga_cons (PEv.le (c' := .C) (r_mul C (r_lst (ga_cons (PEv.le (c' := .C) (r_lst (ga_cons (PEv.le (c' := .C) g_str) (ga_cons (PEv.le (c' := .C) g_bl) ga_nil)) (cnt_cons (cnt_cons cnt_nil)))) ga_nil) (cnt_cons cnt_nil)) g_int)) ga_nil))))) (g_ret g_bl rfl) (g_nil ⟨(.cons .rf (.cons .rf (.cons .rf (.cons .rf (.cons .rf (.cons .rf (.cons .rf (.cons .n (.cons .rf (.cons .rf (.cons .rf (.cons .n (.cons .n (.cons .n .nil)))))))))))))), nofun⟩) (fun s_84 => (g_setC 4 (own := [("door", 11), ("its", 7)]) (kd := false) (G := fun got_86 => [.s script_1, .o w_66, .s share_so_25, .s hooks_so_59, .s got_86, .s much_so_64, .s s_68, .n, .s due_79, .s size_so_23, .s own_24, .n, .n, .n]) C.calm C.nd (gi_seq C.hK (PEv.le (c' := .E) (r_tup (ga_cons (r_tup (ga_cons (PEv.le (c' := .C) (r_fn C 24 rfl rfl)) (ga_cons (r_tup (ga_cons (r_tup (ga_cons (PEv.le (c' := .C) g_int) ga_nil) (cnt_cons cnt_nil)) (ga_cons (PEv.le (c' := .C) g_int) (ga_cons (r_tup (ga_cons (PEv.le (c' := .C) g_int) (ga_cons (PEv.le (c' := .C) g_int) ga_nil)) (cnt_cons (cnt_cons cnt_nil))) ga_nil))) (cnt_cons (cnt_cons (cnt_cons cnt_nil)))) ga_nil)) (cnt_cons (cnt_cons cnt_nil))) (ga_cons (r_tup (ga_cons (PEv.le (c' := .C) (r_fn C 24 rfl rfl)) (ga_cons (r_tup (ga_cons (r_tup (ga_cons (PEv.le (c' := .C) g_int) ga_nil) (cnt_cons cnt_nil)) (ga_cons (PEv.le (c' := .C) g_int) (ga_cons (r_tup (ga_cons (PEv.le (c' := .C) g_int) (ga_cons (PEv.le (c' := .C) g_int) ga_nil)) (cnt_cons (cnt_cons cnt_nil))) ga_nil))) (cnt_cons (cnt_cons (cnt_cons cnt_nil)))) ga_nil)) (cnt_cons (cnt_cons cnt_nil))) (ga_cons (r_tup (ga_cons (PEv.le (c' := .C) (r_fn C 25 rfl rfl)) (ga_cons (r_tup (ga_cons (PEv.le (c' := .C) g_int) (ga_cons (PEv.le (c' := .C) (r_neg C g_int)) (ga_cons (r_tup (ga_cons (PEv.le (c' := .C) g_int) (ga_cons (PEv.le (c' := .C) g_int) ga_nil)) (cnt_cons (cnt_cons cnt_nil))) ga_nil))) (cnt_cons (cnt_cons (cnt_cons cnt_nil)))) ga_nil)) (cnt_cons (cnt_cons cnt_nil))) (ga_cons (r_tup (ga_cons (PEv.le (c' := .C) (r_fn C 25 rfl rfl)) (ga_cons (r_tup (ga_cons (PEv.le (c' := .C) g_int) (ga_cons (PEv.le (c' := .C) g_int) (ga_cons (r_tup (ga_cons (PEv.le (c' := .C) g_int) (ga_cons (PEv.le (c' := .C) g_int) ga_nil)) (cnt_cons (cnt_cons cnt_nil))) ga_nil))) (cnt_cons (cnt_cons (cnt_cons cnt_nil)))) ga_nil)) (cnt_cons (cnt_cons cnt_nil))) (ga_cons (r_tup (ga_cons (PEv.le (c' := .C) (r_fn C 26 rfl rfl)) (ga_cons (r_tup (ga_cons (PEv.le (c' := .C) g_int) (ga_cons (PEv.le (c' := .C) g_int) (ga_cons (r_tup (ga_cons (PEv.le (c' := .C) g_int) (ga_cons (PEv.le (c' := .C) g_int) ga_nil)) (cnt_cons (cnt_cons cnt_nil))) ga_nil))) (cnt_cons (cnt_cons (cnt_cons cnt_nil)))) ga_nil)) (cnt_cons (cnt_cons cnt_nil))) (ga_cons (r_tup (ga_cons (PEv.le (c' := .C) (r_fn C 27 rfl rfl)) (ga_cons (r_tup (ga_cons (PEv.le (c' := .C) g_int) (ga_cons (PEv.le (c' := .C) g_int) (ga_cons (r_tup (ga_cons (PEv.le (c' := .C) g_int) (ga_cons (PEv.le (c' := .C) g_int) ga_nil)) (cnt_cons (cnt_cons cnt_nil))) ga_nil))) (cnt_cons (cnt_cons (cnt_cons cnt_nil)))) ga_nil)) (cnt_cons (cnt_cons cnt_nil))) (ga_cons (r_tup (ga_cons (PEv.le (c' := .C) (r_fn C 27 rfl rfl)) (ga_cons (r_tup (ga_cons (PEv.le (c' := .C) g_int) (ga_cons (PEv.le (c' := .C) g_int) (ga_cons (PEv.le (c' := .C) g_int) ga_nil))) (cnt_cons (cnt_cons (cnt_cons cnt_nil)))) ga_nil)) (cnt_cons (cnt_cons cnt_nil))) (ga_cons (r_tup (ga_cons (PEv.le (c' := .C) (r_fn C 28 rfl rfl)) (ga_cons (r_tup (ga_cons (r_tup (ga_cons (PEv.le (c' := .C) g_int) ga_nil) (cnt_cons cnt_nil)) ga_nil) (cnt_cons cnt_nil)) ga_nil)) (cnt_cons (cnt_cons cnt_nil))) ga_nil)))))))) (cnt_cons (cnt_cons (cnt_cons (cnt_cons (cnt_cons (cnt_cons (cnt_cons (cnt_cons cnt_nil))))))))))) (blkOk_by rfl) rfl (fun _ _ _ _ _ => (tc_2 11 7 (G := (fun p_87 : D × D => [.s script_1, .o w_66, .s share_so_25, .s hooks_so_59, .s got_82, .s much_so_64, .s s_68, .s p_87.2, .s due_79, .s size_so_23, .s own_24, .s p_87.1, .n, .n])) C.blk.calm C.blk.hK C.blk.nd (by decide) (by decide) (fun _ => rfl))) (fun _ _ _ _ _ p_87 => pts_yes) (fun _ _ _ _ _ p_87 => (g_call C.blk.room h40 rfl (C.blk.mg 40 _ rfl) (ga_cons (g_var 11) (ga_cons (g_var 7) ga_nil)))) (.inl rfl) (fun _ => rfl) (fun got_86 => (g_ret (g_call C.room h33 rfl (C.mg 33 _ rfl) (ga_cons (g_var 4) (ga_cons (PEv.le (c' := .C) (r_mul C (r_lst (ga_cons (PEv.le (c' := .C) (r_lst (ga_cons (PEv.le (c' := .C) g_str) (ga_cons (PEv.le (c' := .C) g_bl) ga_nil)) (cnt_cons (cnt_cons cnt_nil)))) ga_nil) (cnt_cons cnt_nil)) g_int)) ga_nil))) rfl)))))))))))))))))))))))))))))))))))))))))⟩
end
end QzG
namespace QzG
noncomputable section
open Qz
theorem m12 : MadeOk g12 := by
  rw [gq12]; intro i b h h2
  exact made_runG (t := gT) (fun _ => gT_no) (fun _ _ => gT_go) h h2
theorem m41 : MadeOk g41 := by
  rw [gq41]; intro i b h h2
  exact made_runG (t := gU) (fun _ => gU_no) (fun _ _ => gU_go) h h2
theorem times_q {p q : Rat} {x y : Nat} (h1 : Sm x p) (h2 : Sm y q) (hxy : x + y ≤ 3000) : g13 [qD p, qD q] = .ok (qD (p * q)) ∧ Sm (x + y) (p * q) := tm_q m12 h1 h2 hxy
theorem ltimes_q {p q : Rat} {x y : Nat} (h1 : Sm x p) (h2 : Sm y q) (hxy : x + y ≤ 3000) : g43 [qD p, qD q] = .ok (qD (p * q)) ∧ Sm (x + y) (p * q) := tm_q m41 h1 h2 hxy
theorem plus_q {p q : Rat} {x y : Nat} (h1 : Sm x p) (h2 : Sm y q) (hxy : x + y ≤ 3000) : g14 [qD p, qD q] = .ok (qD (p + q)) ∧ Sm (x + y + 1) (p + q) := pl_q m12 h1 h2 hxy
theorem lplus_q {p q : Rat} {x y : Nat} (h1 : Sm x p) (h2 : Sm y q) (hxy : x + y ≤ 3000) : g42 [qD p, qD q] = .ok (qD (p + q)) ∧ Sm (x + y + 1) (p + q) := pl_q m41 h1 h2 hxy
theorem qD_neg {q : Rat} : qD (-q) = .tup [.int (0 - q.num), .int q.den] := by
  unfold qD; rw [Rat.neg_num, Rat.neg_den, Int.zero_sub]
theorem sm_neg {a : Nat} {q : Rat} (h : Sm a q) : Sm a (-q) := by
  unfold Sm; rw [Rat.neg_num, Rat.neg_den, Int.natAbs_neg]; exact h
theorem less_q {p q : Rat} {x y : Nat} (h1 : Sm x p) (h2 : Sm y q) (hxy : x + y ≤ 3000) : g15 [qD p, qD q] = .ok (qD (p + -q)) ∧ Sm (x + y + 1) (p + -q) := by
  have e := plus_q h1 (sm_neg h2) hxy
  refine ⟨?_, e.2⟩
  show retV (b15 (qD p) (qD q)) = _
  have e1 : oGet (qD q) (D.int 0) = .ok (.int q.num) := rfl
  have e2 : oGet (qD q) (D.int 1) = .ok (.int q.den) := rfl
  unfold b15
  simp only [e1, e2, ac, an, bnd_ok, o2, oSub_i, mkT]
  have e3 : g14 [qD p, .tup [.int (0 - q.num), .int q.den]] = .ok (qD (p + -q)) := by rw [← qD_neg]; exact e.1
  rw [e3]; rfl
/-- size / own² times the number -/
def cR (s : Int) (n : Nat) (q : Rat) : Rat := mkRat (s * q.num) (n * n * q.den)
theorem cR_neg {s : Int} {n : Nat} {q : Rat} : cR (0 - s) n q = -cR s n q := by
  unfold cR
  rw [Int.zero_sub, Int.neg_mul, ← Rat.neg_mkRat]
theorem c_run {M : DF} (hM : MadeOk M) {s : Int} {n : Nat} {q : Rat} (hs : s.natAbs ≤ 2 ^ 20) (hn : 1 ≤ n) (hn2 : n ≤ 1000) (hq : Sm 8 q) :
    retV (tmB M (.tup [.int s, .int ((n : Int) * n)]) (qD q)) = .ok (qD (cR s n q)) ∧ Sm 28 (cR s n q) := by
  have h0 : n * n ≠ 0 := Nat.mul_ne_zero (by omega) (by omega)
  have hb : n * n ≤ 2 ^ 20 := by
    have : n * n ≤ 1000 * 1000 := Nat.mul_le_mul hn2 hn2
    omega
  have z := tm_raw hM (i := s) (j := q.num) (b := n * n) (d := q.den) (x := 20) (y := 8) hs hb hq.1 hq.2 (by omega) h0 q.den_nz
  unfold cR
  rw [← Rat.normalize_eq_mkRat (Nat.mul_ne_zero h0 q.den_nz), ← Int.natCast_mul]
  exact z
/-- one more own -/
def stp (s : Int) (q : Rat) (f : Rat) (n : Nat) : Rat := if (n : Int) % s = 0 then f * (1 + -cR s n q) else f
theorem stp_comm {s : Int} {q f : Rat} {a b : Nat} : stp s q (stp s q f a) b = stp s q (stp s q f b) a := by
  unfold stp
  split <;> split <;> first | rfl | (rw [Rat.mul_assoc, Rat.mul_assoc, Rat.mul_comm (1 + -cR s a q)])
abbrev nI (hs : List Nat) : List D := hs.map fun n => .int (Int.ofNat n)
theorem oEq_i {i j : Int} : oEq (.int i) (.int j) = .ok (i == j) := by rw [oEq_def]; rfl
theorem factor {s : Int} {n : Nat} {q : Rat} (hs : s.natAbs ≤ 2 ^ 20) (hn : 1 ≤ n) (hn2 : n ≤ 1000) (hq : Sm 8 q) :
    bnd (ac (.ok (D.tup [(D.int 1), (D.int 1)])) (ac (bnd (ac (bnd (ac (.ok (.int s)) (ac (o2 oMul (.ok (.int (Int.ofNat n))) (.ok (.int (Int.ofNat n)))) an)) mkT) (ac (.ok (qD q)) an)) g13) an)) g15 = .ok (qD (1 + -cR s n q)) ∧ Sm 40 (1 + -cR s n q) := by
  have c := c_run m12 hs hn hn2 hq
  have l := less_q (p := 1) (x := 0) sm_one c.2 (by omega)
  refine ⟨?_, l.2.mono (by omega)⟩
  have e : o2 oMul (.ok (.int (Int.ofNat n))) (.ok (.int (Int.ofNat n))) = .ok (.int ((n : Int) * n)) := oMul_i (okMul_r (by rw [Int.ofNat_eq_natCast]; omega) (by rw [Int.ofNat_eq_natCast]; omega))
  have c' : g13 [.tup [.int s, .int ((n : Int) * n)], qD q] = .ok (qD (cR s n q)) := c.1
  rw [e]
  simp only [ac, an, bnd_ok, mkT, c']
  exact l.1
theorem lfactor {s : Int} {n : Nat} {q : Rat} (hs : s.natAbs ≤ 2 ^ 20) (hn : 1 ≤ n) (hn2 : n ≤ 1000) (hq : Sm 8 q) :
    bnd (ac (bnd (ac (.ok (D.int 1)) (ac (.ok (D.int 1)) an)) mkT) (ac (bnd (ac (bnd (ac (o2 oSub (.ok (D.int 0)) (.ok (.int s))) (ac (o2 oMul (.ok (.int (Int.ofNat n))) (.ok (.int (Int.ofNat n)))) an)) mkT) (ac (.ok (qD q)) an)) g43) an)) g42 = .ok (qD (1 + -cR s n q)) ∧ Sm 40 (1 + -cR s n q) := by
  have c := c_run m41 (s := 0 - s) (by omega) hn hn2 hq
  have l := lplus_q (p := 1) (x := 0) sm_one c.2 (by omega)
  rw [cR_neg] at l
  refine ⟨?_, l.2.mono (by omega)⟩
  have e : o2 oMul (.ok (.int (Int.ofNat n))) (.ok (.int (Int.ofNat n))) = .ok (.int ((n : Int) * n)) := oMul_i (okMul_r (by rw [Int.ofNat_eq_natCast]; omega) (by rw [Int.ofNat_eq_natCast]; omega))
  have c' : g43 [.tup [.int (0 - s), .int ((n : Int) * n)], qD q] = .ok (qD (-cR s n q)) := by rw [← cR_neg]; exact c.1
  rw [e]
  simp only [ac, an, bnd_ok, mkT, o2, oSub_i, c']
  exact l.1
theorem prodP {s : Int} {q : Rat} (h0 : 0 < s) (hs : s.natAbs ≤ 2 ^ 20) (hq : Sm 8 q) : ∀ (hs : List Nat) (f : Rat) (a : Nat), Sm a f → a + 40 * hs.length ≤ 2900 → (∀ n ∈ hs, 1 ≤ n ∧ n ≤ 1000) →
    forL (β := Unit) (fun (s_5 : D) => (fun own_6 => thnS (tst (o2 oEq (o2 oMod (.ok own_6) (.ok (.int s))) (.ok (D.int 0))) (bnS (bnd (ac (.ok s_5) (ac (bnd (ac (.ok (D.tup [(D.int 1), (D.int 1)])) (ac (bnd (ac (bnd (ac (.ok (.int s)) (ac (o2 oMul (.ok own_6) (.ok own_6)) an)) mkT) (ac (.ok (qD q)) an)) g13) an)) g15) an)) g13) fun found_8 => Fl.nx found_8) (Fl.nx s_5)) fun (s_7 : D) => Fl.nx s_7)) (nI hs) (qD f) = .nx (qD (hs.foldl (stp s q) f))
  | [], f, a, _, _, _ => rfl
  | n :: ns, f, a, hf, ha, hh => by
    have hn := hh n (List.mem_cons_self ..)
    rw [List.length_cons] at ha
    have F := factor (q := q) hs hn.1 hn.2 hq
    have T := times_q hf F.2 (by omega)
    have e : o2 oEq (o2 oMod (.ok (.int (Int.ofNat n))) (.ok (.int s))) (.ok (D.int 0)) = .ok (decide ((n : Int) % s = 0)) := by
      show bnd (oMod (.int (n : Int)) (.int s)) _ = _
      rw [oMod_i h0]; exact oEq_i
    rw [List.foldl_cons]
    show forL _ (.int (Int.ofNat n) :: nI ns) _ = _
    by_cases hd : (n : Int) % s = 0
    · have es : stp s q f n = f * (1 + -cR s n q) := by unfold stp; rw [if_pos hd]
      rw [forL_cons (s' := qD (stp s q f n)) ?_]
      · rw [es]; exact prodP h0 hs hq ns _ (a + 40) T.2 (by omega) fun k hk => hh k (List.mem_cons_of_mem _ hk)
      rw [e, decide_eq_true hd, tst_t, F.1]
      simp only [ac, an, bnd_ok, T.1, bnS_ok, thnS_nx, es]
    · have es : stp s q f n = f := by unfold stp; rw [if_neg hd]
      rw [forL_cons (s' := qD (stp s q f n)) ?_]
      · rw [es]; exact prodP h0 hs hq ns _ a hf (by omega) fun k hk => hh k (List.mem_cons_of_mem _ hk)
      rw [e, decide_eq_false hd, tst_f, thnS_nx, es]
/-- the law's own places and what stands there -/
def Spots (p : D) : List D → List Nat → Prop
  | [], [] => True
  | d :: ds, n :: ns => (∃ (x : D) (y : Int), d = .tup [x, .int y] ∧ g38 [p, x, .int (0 - y)] = .ok (.int (Int.ofNat n))) ∧ Spots p ds ns
  | _, _ => False
theorem prodL {p : D} {s : Int} {q : Rat} (h0 : 0 < s) (hs : s.natAbs ≤ 2 ^ 20) (hq : Sm 8 q) : ∀ (ss : List D) (hs : List Nat) (f : Rat) (a : Nat), Spots p ss hs → Sm a f → a + 40 * hs.length ≤ 2900 → (∀ n ∈ hs, 1 ≤ n ∧ n ≤ 1000) →
    forL (β := Unit) (fun (s_5 : D) => (fun d_11 => upk2 .bad d_11 fun x_6 y_7 => bnS (bnd (ac (.ok p) (ac (.ok x_6) (ac (o2 oSub (.ok (D.int 0)) (.ok y_7)) an))) g38) fun own_8 => thnS (tst (o2 oEq (o2 oMod (.ok own_8) (.ok (.int s))) (.ok (D.int 0))) (bnS (bnd (ac (.ok s_5) (ac (bnd (ac (bnd (ac (.ok (D.int 1)) (ac (.ok (D.int 1)) an)) mkT) (ac (bnd (ac (bnd (ac (o2 oSub (.ok (D.int 0)) (.ok (.int s))) (ac (o2 oMul (.ok own_8) (.ok own_8)) an)) mkT) (ac (.ok (qD q)) an)) g43) an)) g42) an)) g43) fun found_10 => Fl.nx found_10) (Fl.nx s_5)) fun (s_9 : D) => Fl.nx s_9)) ss (qD f) = .nx (qD (hs.foldl (stp s q) f))
  | [], [], f, a, _, _, _, _ => rfl
  | [], _ :: _, f, a, z, _, _, _ => z.elim
  | _ :: _, [], f, a, z, _, _, _ => z.elim
  | d :: ds, n :: ns, f, a, z, hf, ha, hh => by
    obtain ⟨⟨x, y, rfl, e8⟩, z⟩ := z
    have hn := hh n (List.mem_cons_self ..)
    rw [List.length_cons] at ha
    have F := lfactor (q := q) hs hn.1 hn.2 hq
    have T := ltimes_q hf F.2 (by omega)
    have e : o2 oEq (o2 oMod (.ok (.int (Int.ofNat n))) (.ok (.int s))) (.ok (D.int 0)) = .ok (decide ((n : Int) % s = 0)) := by
      show bnd (oMod (.int (n : Int)) (.int s)) _ = _
      rw [oMod_i h0]; exact oEq_i
    have e9 : bnd (ac (.ok p) (ac (.ok x) (ac (o2 oSub (.ok (D.int 0)) (.ok (D.int y))) an))) g38 = .ok (.int (Int.ofNat n)) := by
      simp only [ac, an, bnd_ok, o2, oSub_i]; exact e8
    rw [List.foldl_cons]
    by_cases hd : (n : Int) % s = 0
    · have es : stp s q f n = f * (1 + -cR s n q) := by unfold stp; rw [if_pos hd]
      rw [forL_cons (s' := qD (stp s q f n)) ?_]
      · rw [es]; exact prodL h0 hs hq ds ns _ (a + 40) z T.2 (by omega) fun k hk => hh k (List.mem_cons_of_mem _ hk)
      rw [upk2_2, e9, bnS_ok, e, decide_eq_true hd, tst_t, F.1]
      simp only [ac, an, bnd_ok, T.1, bnS_ok, thnS_nx, es]
    · have es : stp s q f n = f := by unfold stp; rw [if_neg hd]
      rw [forL_cons (s' := qD (stp s q f n)) ?_]
      · rw [es]; exact prodL h0 hs hq ds ns _ a z hf (by omega) fun k hk => hh k (List.mem_cons_of_mem _ hk)
      rw [upk2_2, e9, bnS_ok, e, decide_eq_false hd, tst_f, thnS_nx, es]
def natD (d : D) : Option Nat := match d with
  | .int (.ofNat n) => some n
  | _ => none
def natsD : List D → Option (List Nat)
  | [] => some []
  | d :: ds => match natD d, natsD ds with
    | some n, some ns => some (n :: ns)
    | _, _ => none
theorem natsD_ok : ∀ {ds : List D} {ns : List Nat}, natsD ds = some ns → ds = nI ns
  | [], ns, h => by cases h; rfl
  | d :: ds, ns, h => by
    unfold natsD at h
    split at h
    · rename_i n ms e1 e2
      cases h
      rw [natsD_ok e2]
      unfold natD at e1
      split at e1
      · cases e1; rfl
      · cases e1
    · cases h
def spotF (p d : D) : Option Nat := match d with
  | .tup [x, .int y] => match g38 [p, x, .int (0 - y)] with
    | .ok v => natD v
    | _ => none
  | _ => none
def spotsF (p : D) : List D → Option (List Nat)
  | [] => some []
  | d :: ds => match spotF p d, spotsF p ds with
    | some n, some ns => some (n :: ns)
    | _, _ => none
theorem spotsF_ok {p : D} : ∀ {ds : List D} {ns : List Nat}, spotsF p ds = some ns → Spots p ds ns
  | [], ns, h => by cases h; trivial
  | d :: ds, ns, h => by
    unfold spotsF at h
    split at h
    · rename_i n ms e1 e2
      cases h
      refine ⟨?_, spotsF_ok e2⟩
      unfold spotF at e1
      split at e1
      · rename_i x y
        split at e1
        · rename_i v e
          refine ⟨x, y, rfl, ?_⟩
          rw [e]
          unfold natD at e1
          split at e1
          · cases e1; rfl
          · cases e1
        · cases e1
      · cases e1
    · cases h
def goodB (ns : List Nat) : Bool := ns.all (fun n => Nat.ble 1 n && Nat.ble n 1000) && Nat.ble ns.length 60
theorem goodB_ok {ns : List Nat} (h : goodB ns = true) : (∀ n ∈ ns, 1 ≤ n ∧ n ≤ 1000) ∧ ns.length ≤ 60 := by
  unfold goodB at h
  rw [Bool.and_eq_true, List.all_eq_true] at h
  refine ⟨fun n hn => ?_, Nat.le_of_ble_eq_true h.2⟩
  have := h.1 n hn
  rw [Bool.and_eq_true] at this
  exact ⟨Nat.le_of_ble_eq_true this.1, Nat.le_of_ble_eq_true this.2⟩
def pileB (p : List Int) : Bool := match g16 [tI p], g37 [tI p] with
  | .ok (.lst ds), .ok (.lst ss) => match natsD ds, spotsF (tI p) ss with
    | some hs, some ks => hs.isPerm ks && goodB hs && goodB ks
    | _, _ => false
  | _, _ => false
theorem product_run {p : List Int} (hp : pileB p = true) {s : Int} {q : Rat} (h0 : 0 < s) (hs : s.natAbs ≤ 2 ^ 20) (hq : Sm 8 q) : ∃ r : Rat, g17 [tI p, .int s, qD q] = .ok (qD r) ∧ g44 [tI p, .int s, qD q] = .ok (qD r) := by
  unfold pileB at hp
  split at hp
  · rename_i ds ss e1 e2
    split at hp
    · rename_i hs' ks e3 e4
      rw [Bool.and_eq_true, Bool.and_eq_true] at hp
      obtain ⟨⟨hp1, hp2⟩, hp3⟩ := hp
      have perm := List.isPerm_iff.1 hp1
      have b1 := goodB_ok hp2
      have b2 := goodB_ok hp3
      refine ⟨hs'.foldl (stp s q) 1, ?_, ?_⟩
      · show retV (b17 (tI p) (.int s) (qD q)) = _
        unfold b17
        simp only [ac, an, bnd_ok, bnS_ok, e1]
        have := natsD_ok e3
        subst this
        have P := prodP h0 hs hq hs' 1 0 sm_one (by omega) b1.1
        show retV (thnS (forL (β := Unit) _ (nI hs') (qD 1)) _) = _
        simp only [ac, an, bnd_ok] at P
        rw [P]; rfl
      · rw [perm.foldl_eq' fun x _ y _ z => stp_comm]
        show retV (b44 (tI p) (.int s) (qD q)) = _
        unfold b44
        simp only [ac, an, bnd_ok, bnS_ok, e2, mkT]
        have P := prodL h0 hs hq ss ks 1 0 (spotsF_ok e4) sm_one (by omega) b2.1
        show retV (thnS (forL (β := Unit) _ ss (qD 1)) _) = _
        simp only [ac, an, bnd_ok, mkT] at P
        rw [P]; rfl
    · cases hp
  · cases hp
theorem piles_ok : (allPiles 12).all pileB = true := by decide +kernel
end
end QzG
namespace QzG
noncomputable section
open Qz PyProof.Rows
def kl0 (script_1 : D) (K : D → D → D → D → Fl Unit Unit) : Fl Unit Unit := bnS (bnd (ac (bnd (ac (.ok script_1) (ac (.ok (D.int 1)) an)) g31) (ac (.ok (D.int 0)) an)) g29) fun tin_2 => bnS (bnd (bnd (bnd (bnd (.ok (D.int 1)) fun u_10 => .ok (u_10, tin_2)) fun p_6 => bnd (bnd (ac (.ok (D.int 4)) an) fun us_11 => asL .bad p_6.2 (nox (g30 (p_6.2 :: us_11)))) fun q_7 => bnd (oAdd p_6.1 q_7.1) fun u_8 => .ok (u_8, q_7.2)) fun p_3 => bnd (bnd (bnd (ac (.ok (D.int 12)) an) fun us_16 => asL .bad p_3.2 (nox (g39 (p_3.2 :: us_16)))) fun p_13 => bnd (.ok ([], p_13.2)) fun q_14 => .ok (p_13.1 :: q_14.1, q_14.2)) fun q_4 => .ok (p_3.1 :: q_4.1, q_4.2)) fun q_21 => .ok (.tup q_21.1, q_21.2)) fun p_93 => (fun w_22 => (fun d_92 => upk2 .bad d_92 fun size_so_23 own_24 => bnS (bnd (bnd (bnd (bnd (ac (.ok (D.int 13)) an) fun us_33 => asL .bad w_22 (nox (g30 (w_22 :: us_33)))) fun p_29 => bnd (bnd (.ok (D.int 6)) fun u_34 => .ok (u_34, p_29.2)) fun q_30 => bnd (oSub p_29.1 q_30.1) fun u_31 => .ok (u_31, q_30.2)) fun p_26 => bnd (bnd (bnd (bnd (.ok (D.int 1)) fun u_43 => .ok (u_43, p_26.2)) fun p_39 => bnd (bnd (ac (.ok (D.int 3)) an) fun us_44 => asL .bad p_39.2 (nox (g30 (p_39.2 :: us_44)))) fun q_40 => bnd (oAdd p_39.1 q_40.1) fun u_41 => .ok (u_41, q_40.2)) fun p_36 => bnd (.ok ([], p_36.2)) fun q_37 => .ok (p_36.1 :: q_37.1, q_37.2)) fun q_27 => .ok (p_26.1 :: q_27.1, q_27.2)) fun q_56 => bnd (g41 q_56.1) fun u_57 => .ok (u_57, q_56.2)) fun p_91 => (fun share_so_25 w_58 => (K own_24 size_so_23 share_so_25 w_58)) p_91.1 p_91.2)) p_93.2 p_93.1
def kl1 (own_24 size_so_23 share_so_25 : D) (K : Fl Unit Unit) : Fl Unit Unit := bnS (o1 oSorted (cmp (bnd (bnd (ac (.ok own_24) an) g37) wSeq) (fun d => U2 d _ fun p_60 => (.ok true)) (fun d => U2 d _ fun p_60 => (bnd (ac (.ok own_24) (ac (.ok p_60.1) (ac (o2 oSub (.ok (D.int 0)) (.ok p_60.2)) an))) g38)))) fun hooks_so_59 => bnS (bnd (ac (callK (ac (bnd (ac (.ok own_24) an) g32) (ac (.ok size_so_23) (ac (.ok share_so_25) an))) g24 [0, 1, 2]) (ac (callK (ac (bnd (ac (.ok share_so_25) an) g32) (ac (.ok own_24) (ac (.ok size_so_23) an))) g24 [1, 2, 0]) (ac (callK (ac (bnd (ac (.ok own_24) an) g32) an) g28 [0]) an))) mkLs) fun got_61 => thnS (tst (Qz.tNot (o1 tru (bnd (ac (.ok got_61) (ac (bnd (ac (bnd (ac (.ok own_24) (ac (.ok size_so_23) (ac (.ok share_so_25) an))) g44) (ac (bnd (ac (.ok own_24) (ac (.ok size_so_23) (ac (.ok share_so_25) an))) g44) (ac (o1 oTuple (.ok hooks_so_59)) an))) mkLs) an)) g33))) (bnS (.ok (D.bl false)) fun u_63 => .rt u_63 .non) (Fl.nx ())) fun (s_62 : Unit) => K
def kl2 (w_58 : D) (K : D → Fl Unit Unit) : Fl Unit Unit := bnS (bnd (ac (.ok (D.int 9)) an) fun us_65 => asL .bad w_58 (nox (g30 (w_58 :: us_65)))) fun p_90 => (fun much_so_64 w_66 => (K much_so_64)) p_90.1 p_90.2
def kl3 (much_so_64 size_so_23 share_so_25 : D) (K : Fl Unit Unit) : Fl Unit Unit := bnS (bnd (ac (.ok (D.int 0)) (ac (.ok (D.int 1)) an)) mkT) fun sum_so_67 => bnS (bnd (bnd (ac (.ok much_so_64) an) g36) wSeq) fun xs_89 => thnS (forL (fun (s_68 : D) => (fun its_69 => bnS (bnd (ac (.ok s_68) (ac (bnd (ac (.ok its_69) (ac (.ok size_so_23) (ac (.ok share_so_25) an))) g44) an)) g42) fun sum_so_70 => Fl.nx sum_so_70)) xs_89 sum_so_67) fun (s_68 : D) => bnS (o2 oGet (bnd (ac (bnd (ac (.ok size_so_23) (ac (.ok much_so_64) (ac (.ok share_so_25) an))) g46) (ac (bnd (ac (.ok (D.int 1)) (ac (.ok much_so_64) (ac (bnd (ac (o1 oNeg (.ok (D.int 1))) (ac (.ok (D.int 1)) an)) mkT) an))) g46) an)) g45) (.ok much_so_64)) fun due_72 => bnS (bnd (ac (callK (ac (.ok size_so_23) (ac (.ok much_so_64) (ac (bnd (ac (.ok share_so_25) an) g32) an))) g25 [0, 1, 2]) (ac (callK (ac (.ok much_so_64) (ac (.ok share_so_25) (ac (.ok size_so_23) an))) g26 [2, 0, 1]) an)) mkLs) fun got_73 => thnS (tst (Qz.tOr (Qz.tNot (o1 tru (bnd (ac (.ok got_73) (ac (bnd (ac (.ok s_68) (ac (.ok due_72) an)) mkLs) an)) g33))) (o2 oNe (.ok s_68) (.ok due_72))) (bnS (.ok (D.bl false)) fun u_75 => .rt u_75 .non) (Fl.nx ())) fun (s_74 : Unit) => K
def kl4 (size_so_23 much_so_64 share_so_25 : D) (K : Fl Unit Unit) : Fl Unit Unit := thnS (tst (Qz.tNot (o1 tru (bnd (ac (callK (ac (.ok size_so_23) (ac (.ok much_so_64) (ac (bnd (ac (.ok share_so_25) an) g32) an))) g27 [0, 1, 2]) (ac (o1 oTuple (bnd (ac (.ok size_so_23) (ac (.ok much_so_64) (ac (.ok share_so_25) an))) g46)) an)) g33))) (bnS (.ok (D.bl false)) fun u_77 => .rt u_77 .non) (Fl.nx ())) fun (s_76 : Unit) => K
def kl5 (K : Fl Unit Unit) : Fl Unit Unit := bnS (bnd (ac (bnd (ac (.ok (D.int 1)) (ac (.ok (D.int 4)) (ac (bnd (ac (.ok (D.int 25)) (ac (.ok (D.int 1)) an)) mkT) an))) g25) (ac (bnd (ac (.ok (D.int 1)) (ac (.ok (D.int 16)) (ac (bnd (ac (.ok (D.int 25)) (ac (.ok (D.int 1)) an)) mkT) an))) g26) (ac (bnd (ac (.ok (D.int 1)) (ac (.ok (D.int 7)) (ac (bnd (ac (.ok (D.int 1)) (ac (.ok (D.int 1)) an)) mkT) an))) g27) (ac (bnd (ac (.ok (D.int 2)) (ac (.ok (D.int 4)) (ac (bnd (ac (o1 oNeg (.ok (D.int 1))) (ac (.ok (D.int 1)) an)) mkT) an))) g27) (ac (bnd (ac (.ok (D.int 1)) (ac (.ok (D.int 2)) (ac (bnd (ac (.ok (D.int 1)) (ac (.ok (D.int 2)) an)) mkT) an))) g27) (ac (bnd (ac (.ok (D.int 3)) (ac (.ok (D.int 0)) (ac (bnd (ac (.ok (D.int 5)) (ac (.ok (D.int 7)) an)) mkT) an))) g25) (ac (bnd (ac (bnd an mkT) (ac (.ok (D.int 2)) (ac (bnd (ac (.ok (D.int 9)) (ac (.ok (D.int 1)) an)) mkT) an))) g24) (ac (bnd (ac (.ok (D.int 5)) (ac (.ok (D.int 0)) (ac (bnd (ac (.ok (D.int 0)) (ac (.ok (D.int 1)) an)) mkT) an))) g27) (ac (bnd (ac (.ok (D.int 2)) (ac (.ok (D.int 16)) (ac (bnd (ac (.ok (D.int 0)) (ac (.ok (D.int 1)) an)) mkT) an))) g26) (ac (bnd (ac (bnd an mkT) an) g28) an)))))))))) mkLs) fun got_78 => bnS (bnd (ac (bnd (ac (.ok (D.int 4830)) (ac (.ok (D.int 1)) an)) mkT) (ac (bnd (ac (o1 oNeg (.ok (D.int 6905934))) (ac (.ok (D.int 1)) an)) mkT) (ac (bnd (ac (bnd (ac (.ok (D.int 1)) (ac (.ok (D.int 1)) an)) mkT) (ac (bnd (ac (o1 oNeg (.ok (D.int 1))) (ac (.ok (D.int 1)) an)) mkT) (ac (bnd (ac (o1 oNeg (.ok (D.int 1))) (ac (.ok (D.int 1)) an)) mkT) (ac (bnd (ac (.ok (D.int 0)) (ac (.ok (D.int 1)) an)) mkT) (ac (bnd (ac (.ok (D.int 0)) (ac (.ok (D.int 1)) an)) mkT) (ac (bnd (ac (.ok (D.int 1)) (ac (.ok (D.int 1)) an)) mkT) (ac (bnd (ac (.ok (D.int 0)) (ac (.ok (D.int 1)) an)) mkT) (ac (bnd (ac (.ok (D.int 1)) (ac (.ok (D.int 1)) an)) mkT) an)))))))) mkT) (ac (bnd (ac (bnd (ac (.ok (D.int 1)) (ac (.ok (D.int 1)) an)) mkT) (ac (bnd (ac (.ok (D.int 0)) (ac (.ok (D.int 1)) an)) mkT) (ac (bnd (ac (.ok (D.int 1)) (ac (.ok (D.int 1)) an)) mkT) (ac (bnd (ac (.ok (D.int 0)) (ac (.ok (D.int 1)) an)) mkT) (ac (bnd (ac (.ok (D.int 2)) (ac (.ok (D.int 1)) an)) mkT) an))))) mkT) (ac (bnd (ac (bnd (ac (.ok (D.int 1)) (ac (.ok (D.int 1)) an)) mkT) (ac (bnd (ac (o1 oNeg (.ok (D.int 1))) (ac (.ok (D.int 2)) an)) mkT) (ac (bnd (ac (o1 oNeg (.ok (D.int 5))) (ac (.ok (D.int 8)) an)) mkT) an))) mkT) (ac (bnd (ac (.ok (D.int 1)) (ac (.ok (D.int 1)) an)) mkT) (ac (bnd (ac (.ok (D.int 1)) (ac (.ok (D.int 1)) an)) mkT) (ac (bnd (ac (bnd (ac (.ok (D.int 1)) (ac (.ok (D.int 1)) an)) mkT) an) mkT) (ac (bnd (ac (.ok (D.int 231)) (ac (.ok (D.int 1)) an)) mkT) (ac (bnd an mkT) an)))))))))) mkLs) fun due_79 => thnS (tst (Qz.tNot (o1 tru (bnd (ac (.ok got_78) (ac (.ok due_79) an)) g33))) (bnS (.ok (D.bl false)) fun u_81 => .rt u_81 .non) (Fl.nx ())) fun (s_80 : Unit) => K
def kl6 (K : Fl Unit Unit) : Fl Unit Unit := bnS (cmp (bnd (bnd (ac (bnd (ac (.ok (D.fn 25)) (ac (bnd (ac (.ok (D.int 1)) (ac (.ok (D.int 17)) (ac (bnd (ac (.ok (D.int 1)) (ac (.ok (D.int 1)) an)) mkT) an))) mkT) an)) mkT) (ac (bnd (ac (.ok (D.fn 26)) (ac (bnd (ac (.ok (D.int 2)) (ac (.ok (D.int 17)) (ac (bnd (ac (.ok (D.int 1)) (ac (.ok (D.int 2)) an)) mkT) an))) mkT) an)) mkT) an)) mkT) wSeq) (fun d => U2 d _ fun p_83 => (.ok true)) (fun d => U2 d _ fun p_83 => (bnd (ac (.ok p_83.1) (ac (.ok p_83.2) an)) g40))) fun got_82 => thnS (tst (Qz.tNot (o1 tru (bnd (ac (.ok got_82) (ac (o2 oMul (bnd (ac (bnd (ac (.ok (D.str "many")) (ac (.ok (D.bl true)) an)) mkLs) an) mkLs) (.ok (D.int 2))) an)) g33))) (bnS (.ok (D.bl false)) fun u_85 => .rt u_85 .non) (Fl.nx ())) fun (s_84 : Unit) => K
def kl7 : Fl Unit Unit := bnS (cmp (bnd (bnd (ac (bnd (ac (.ok (D.fn 24)) (ac (bnd (ac (bnd (ac (.ok (D.int 1)) an) mkT) (ac (.ok (D.int 1)) (ac (bnd (ac (.ok (D.int 2)) (ac (.ok (D.int 4)) an)) mkT) an))) mkT) an)) mkT) (ac (bnd (ac (.ok (D.fn 24)) (ac (bnd (ac (bnd (ac (.ok (D.int 1)) an) mkT) (ac (.ok (D.int 0)) (ac (bnd (ac (.ok (D.int 1)) (ac (.ok (D.int 1)) an)) mkT) an))) mkT) an)) mkT) (ac (bnd (ac (.ok (D.fn 25)) (ac (bnd (ac (.ok (D.int 1)) (ac (o1 oNeg (.ok (D.int 1))) (ac (bnd (ac (.ok (D.int 1)) (ac (.ok (D.int 1)) an)) mkT) an))) mkT) an)) mkT) (ac (bnd (ac (.ok (D.fn 25)) (ac (bnd (ac (.ok (D.int 1)) (ac (.ok (D.int 17)) (ac (bnd (ac (.ok (D.int 1)) (ac (.ok (D.int 0)) an)) mkT) an))) mkT) an)) mkT) (ac (bnd (ac (.ok (D.fn 26)) (ac (bnd (ac (.ok (D.int 0)) (ac (.ok (D.int 1)) (ac (bnd (ac (.ok (D.int 1)) (ac (.ok (D.int 1)) an)) mkT) an))) mkT) an)) mkT) (ac (bnd (ac (.ok (D.fn 27)) (ac (bnd (ac (.ok (D.int 1)) (ac (.ok (D.int 61)) (ac (bnd (ac (.ok (D.int 1)) (ac (.ok (D.int 1)) an)) mkT) an))) mkT) an)) mkT) (ac (bnd (ac (.ok (D.fn 27)) (ac (bnd (ac (.ok (D.int 1)) (ac (.ok (D.int 5)) (ac (.ok (D.int 1)) an))) mkT) an)) mkT) (ac (bnd (ac (.ok (D.fn 28)) (ac (bnd (ac (bnd (ac (.ok (D.int 0)) an) mkT) an) mkT) an)) mkT) an)))))))) mkT) wSeq) (fun d => U2 d _ fun p_87 => (.ok true)) (fun d => U2 d _ fun p_87 => (bnd (ac (.ok p_87.1) (ac (.ok p_87.2) an)) g40))) fun got_86 => bnS (bnd (ac (.ok got_86) (ac (o2 oMul (bnd (ac (bnd (ac (.ok (D.str "unfit")) (ac (.ok (D.bl true)) an)) mkLs) an) mkLs) (.ok (D.int 8))) an)) g33) fun u_88 => .rt u_88 .non
theorem kl_eq : @b47 = fun script_1 => (kl0 script_1 (fun own_24 size_so_23 share_so_25 w_58 => (kl1 own_24 size_so_23 share_so_25 ((kl2 w_58 (fun much_so_64 => (kl3 much_so_64 size_so_23 share_so_25 ((kl4 size_so_23 much_so_64 share_so_25 ((kl5 ((kl6 ((kl7))))))))))))))) := rfl
def isT (r : R D) : Bool := match r with | .ok (.bl b) => b | _ => false
theorem isT_ok {r : R D} (h : isT r = true) : r = .ok (.bl true) := by
  unfold isT at h; split at h
  · subst h; rfl
  · cases h
def shP : List (Int × Nat) := [(-6, 1), (-5, 1), (-4, 1), (-3, 1), (-5, 2), (-2, 1), (-5, 3), (-3, 2), (-4, 3), (-1, 1), (-2, 3), (-1, 2), (-1, 3), (0, 1), (1, 3), (1, 2), (2, 3), (1, 1), (4, 3), (3, 2), (5, 3), (2, 1), (5, 2), (3, 1), (4, 1), (5, 1), (6, 1)]
def shs : List D := shP.map fun p => .tup [.int p.1, .int (Int.ofNat p.2)]
theorem c7 : isT (retV kl7) = true := by decide +kernel
theorem c6 (K : Fl Unit Unit) : kl6 K = K := by kernel_rfl
theorem c5 (K : Fl Unit Unit) : kl5 K = K := by kernel_rfl
theorem c_1_0 (K : Fl Unit Unit) : (shs.map fun q => kl3 (.int 0) (.int 1) q (kl4 (.int 1) (.int 0) q K)) = List.replicate 27 K := by kernel_rfl
theorem c_1_1 (K : Fl Unit Unit) : (shs.map fun q => kl3 (.int 1) (.int 1) q (kl4 (.int 1) (.int 1) q K)) = List.replicate 27 K := by kernel_rfl
theorem c_1_2 (K : Fl Unit Unit) : (shs.map fun q => kl3 (.int 2) (.int 1) q (kl4 (.int 1) (.int 2) q K)) = List.replicate 27 K := by kernel_rfl
theorem c_1_3 (K : Fl Unit Unit) : (shs.map fun q => kl3 (.int 3) (.int 1) q (kl4 (.int 1) (.int 3) q K)) = List.replicate 27 K := by kernel_rfl
theorem c_1_4 (K : Fl Unit Unit) : (shs.map fun q => kl3 (.int 4) (.int 1) q (kl4 (.int 1) (.int 4) q K)) = List.replicate 27 K := by kernel_rfl
theorem c_1_5 (K : Fl Unit Unit) : (shs.map fun q => kl3 (.int 5) (.int 1) q (kl4 (.int 1) (.int 5) q K)) = List.replicate 27 K := by kernel_rfl
theorem c_1_6 (K : Fl Unit Unit) : (shs.map fun q => kl3 (.int 6) (.int 1) q (kl4 (.int 1) (.int 6) q K)) = List.replicate 27 K := by kernel_rfl
theorem c_1_7 (K : Fl Unit Unit) : (shs.map fun q => kl3 (.int 7) (.int 1) q (kl4 (.int 1) (.int 7) q K)) = List.replicate 27 K := by kernel_rfl
theorem c_1_8 (K : Fl Unit Unit) : (shs.map fun q => kl3 (.int 8) (.int 1) q (kl4 (.int 1) (.int 8) q K)) = List.replicate 27 K := by kernel_rfl
theorem c_2_0 (K : Fl Unit Unit) : (shs.map fun q => kl3 (.int 0) (.int 2) q (kl4 (.int 2) (.int 0) q K)) = List.replicate 27 K := by kernel_rfl
theorem c_2_1 (K : Fl Unit Unit) : (shs.map fun q => kl3 (.int 1) (.int 2) q (kl4 (.int 2) (.int 1) q K)) = List.replicate 27 K := by kernel_rfl
theorem c_2_2 (K : Fl Unit Unit) : (shs.map fun q => kl3 (.int 2) (.int 2) q (kl4 (.int 2) (.int 2) q K)) = List.replicate 27 K := by kernel_rfl
theorem c_2_3 (K : Fl Unit Unit) : (shs.map fun q => kl3 (.int 3) (.int 2) q (kl4 (.int 2) (.int 3) q K)) = List.replicate 27 K := by kernel_rfl
theorem c_2_4 (K : Fl Unit Unit) : (shs.map fun q => kl3 (.int 4) (.int 2) q (kl4 (.int 2) (.int 4) q K)) = List.replicate 27 K := by kernel_rfl
theorem c_2_5 (K : Fl Unit Unit) : (shs.map fun q => kl3 (.int 5) (.int 2) q (kl4 (.int 2) (.int 5) q K)) = List.replicate 27 K := by kernel_rfl
theorem c_2_6 (K : Fl Unit Unit) : (shs.map fun q => kl3 (.int 6) (.int 2) q (kl4 (.int 2) (.int 6) q K)) = List.replicate 27 K := by kernel_rfl
theorem c_2_7 (K : Fl Unit Unit) : (shs.map fun q => kl3 (.int 7) (.int 2) q (kl4 (.int 2) (.int 7) q K)) = List.replicate 27 K := by kernel_rfl
theorem c_2_8 (K : Fl Unit Unit) : (shs.map fun q => kl3 (.int 8) (.int 2) q (kl4 (.int 2) (.int 8) q K)) = List.replicate 27 K := by kernel_rfl
theorem c_3_0 (K : Fl Unit Unit) : (shs.map fun q => kl3 (.int 0) (.int 3) q (kl4 (.int 3) (.int 0) q K)) = List.replicate 27 K := by kernel_rfl
theorem c_3_1 (K : Fl Unit Unit) : (shs.map fun q => kl3 (.int 1) (.int 3) q (kl4 (.int 3) (.int 1) q K)) = List.replicate 27 K := by kernel_rfl
theorem c_3_2 (K : Fl Unit Unit) : (shs.map fun q => kl3 (.int 2) (.int 3) q (kl4 (.int 3) (.int 2) q K)) = List.replicate 27 K := by kernel_rfl
theorem c_3_3 (K : Fl Unit Unit) : (shs.map fun q => kl3 (.int 3) (.int 3) q (kl4 (.int 3) (.int 3) q K)) = List.replicate 27 K := by kernel_rfl
theorem c_3_4 (K : Fl Unit Unit) : (shs.map fun q => kl3 (.int 4) (.int 3) q (kl4 (.int 3) (.int 4) q K)) = List.replicate 27 K := by kernel_rfl
theorem c_3_5 (K : Fl Unit Unit) : (shs.map fun q => kl3 (.int 5) (.int 3) q (kl4 (.int 3) (.int 5) q K)) = List.replicate 27 K := by kernel_rfl
theorem c_3_6 (K : Fl Unit Unit) : (shs.map fun q => kl3 (.int 6) (.int 3) q (kl4 (.int 3) (.int 6) q K)) = List.replicate 27 K := by kernel_rfl
theorem c_3_7 (K : Fl Unit Unit) : (shs.map fun q => kl3 (.int 7) (.int 3) q (kl4 (.int 3) (.int 7) q K)) = List.replicate 27 K := by kernel_rfl
theorem c_3_8 (K : Fl Unit Unit) : (shs.map fun q => kl3 (.int 8) (.int 3) q (kl4 (.int 3) (.int 8) q K)) = List.replicate 27 K := by kernel_rfl
theorem c_4_0 (K : Fl Unit Unit) : (shs.map fun q => kl3 (.int 0) (.int 4) q (kl4 (.int 4) (.int 0) q K)) = List.replicate 27 K := by kernel_rfl
theorem c_4_1 (K : Fl Unit Unit) : (shs.map fun q => kl3 (.int 1) (.int 4) q (kl4 (.int 4) (.int 1) q K)) = List.replicate 27 K := by kernel_rfl
theorem c_4_2 (K : Fl Unit Unit) : (shs.map fun q => kl3 (.int 2) (.int 4) q (kl4 (.int 4) (.int 2) q K)) = List.replicate 27 K := by kernel_rfl
theorem c_4_3 (K : Fl Unit Unit) : (shs.map fun q => kl3 (.int 3) (.int 4) q (kl4 (.int 4) (.int 3) q K)) = List.replicate 27 K := by kernel_rfl
theorem c_4_4 (K : Fl Unit Unit) : (shs.map fun q => kl3 (.int 4) (.int 4) q (kl4 (.int 4) (.int 4) q K)) = List.replicate 27 K := by kernel_rfl
theorem c_4_5 (K : Fl Unit Unit) : (shs.map fun q => kl3 (.int 5) (.int 4) q (kl4 (.int 4) (.int 5) q K)) = List.replicate 27 K := by kernel_rfl
theorem c_4_6 (K : Fl Unit Unit) : (shs.map fun q => kl3 (.int 6) (.int 4) q (kl4 (.int 4) (.int 6) q K)) = List.replicate 27 K := by kernel_rfl
theorem c_4_7 (K : Fl Unit Unit) : (shs.map fun q => kl3 (.int 7) (.int 4) q (kl4 (.int 4) (.int 7) q K)) = List.replicate 27 K := by kernel_rfl
theorem c_4_8 (K : Fl Unit Unit) : (shs.map fun q => kl3 (.int 8) (.int 4) q (kl4 (.int 4) (.int 8) q K)) = List.replicate 27 K := by kernel_rfl
theorem c_all {s m : Int} {q : D} (K : Fl Unit Unit) (hq : q ∈ shs) (h1 : 1 ≤ s) (h2 : s ≤ 4) (h3 : 0 ≤ m) (h4 : m ≤ 8) : kl3 (.int m) (.int s) q (kl4 (.int s) (.int m) q K) = K := by
  have us : s = 1 ∨ s = 2 ∨ s = 3 ∨ s = 4 := by omega
  have um : m = 0 ∨ m = 1 ∨ m = 2 ∨ m = 3 ∨ m = 4 ∨ m = 5 ∨ m = 6 ∨ m = 7 ∨ m = 8 := by omega
  have r : ∀ {f : D → Fl Unit Unit} {n : Nat}, shs.map f = List.replicate n K → f q = K := fun e => (List.eq_replicate_iff.1 e).2 _ (List.mem_map.2 ⟨q, hq, rfl⟩)
  rcases us with rfl | rfl | rfl | rfl <;> rcases um with rfl | rfl | rfl | rfl | rfl | rfl | rfl | rfl | rfl
  · exact r (c_1_0 K)
  · exact r (c_1_1 K)
  · exact r (c_1_2 K)
  · exact r (c_1_3 K)
  · exact r (c_1_4 K)
  · exact r (c_1_5 K)
  · exact r (c_1_6 K)
  · exact r (c_1_7 K)
  · exact r (c_1_8 K)
  · exact r (c_2_0 K)
  · exact r (c_2_1 K)
  · exact r (c_2_2 K)
  · exact r (c_2_3 K)
  · exact r (c_2_4 K)
  · exact r (c_2_5 K)
  · exact r (c_2_6 K)
  · exact r (c_2_7 K)
  · exact r (c_2_8 K)
  · exact r (c_3_0 K)
  · exact r (c_3_1 K)
  · exact r (c_3_2 K)
  · exact r (c_3_3 K)
  · exact r (c_3_4 K)
  · exact r (c_3_5 K)
  · exact r (c_3_6 K)
  · exact r (c_3_7 K)
  · exact r (c_3_8 K)
  · exact r (c_4_0 K)
  · exact r (c_4_1 K)
  · exact r (c_4_2 K)
  · exact r (c_4_3 K)
  · exact r (c_4_4 K)
  · exact r (c_4_5 K)
  · exact r (c_4_6 K)
  · exact r (c_4_7 K)
  · exact r (c_4_8 K)
/-! the draws and the first test -/
theorem g33_eq : ∀ n, g33n n = sameN n
  | 0 => rfl
  | n + 1 => by
    funext ds
    show (match ds with | [a, b] => retV (b33 (g33n n) a b) | _ => R.bad) = (match ds with | [a, b] => retV (sameB (sameN n) a b) | _ => R.bad)
    rw [g33_eq n]; rfl
theorem same_ok {d : D} (h : Pl 8 d) : g33 [d, d] = .ok (.bl true) := by
  show g33n 12 [d, d] = _
  rw [g33_eq]
  exact same_refl 8 12 d h (by omega)
theorem Pl.int {n : Nat} {i : Int} : Pl n (.int i) := by cases n <;> first | trivial | exact .inl trivial
theorem pl_qD {n : Nat} {q : Rat} : Pl (n + 1) (qD q) := .inr ⟨_, .inl rfl, by show 2 ≤ bigL; decide, fun x hx => by
  rcases List.mem_cons.1 hx with rfl | hx
  · exact Pl.int
  · rcases List.mem_cons.1 hx with rfl | hx
    · exact Pl.int
    · cases hx⟩
theorem pl_ints {n : Nat} {is : List Int} (h : is.length ≤ bigL) : Pl (n + 1) (tI is) := .inr ⟨_, .inl rfl, by rw [List.length_map]; exact h, fun x hx => by
  obtain ⟨i, _, rfl⟩ := List.mem_map.1 hx
  exact Pl.int⟩
theorem intsD_map : ∀ {ds : List D} {is : List Int}, intsD ds = some is → ds = is.map .int
  | [], is, h => by cases h; rfl
  | d :: ds, is, h => by
    rw [intsD_def] at h
    cases d with
    | int i =>
      unfold intsD' at h
      rw [← intsD_def] at h
      cases e : intsD ds with
      | none => rw [e] at h; cases h
      | some js => rw [e] at h; cases h; rw [intsD_map e]; rfl
    | _ => cases h
def isLI (r : R D) (p : List Int) : Bool := match r with
  | .ok (.lst ds) => (match intsD ds with | some x => x == p | none => false)
  | _ => false
theorem isLI_ok {r : R D} {p : List Int} (h : isLI r p = true) : r = .ok (lI p) := by
  unfold isLI at h
  split at h
  · split at h
    · rename_i e; rw [intsD_map e, eq_of_beq h]
    · cases h
  · cases h
def isTIr (r : R D) (p : List Int) : Bool := match r with
  | .ok (.tup ds) => (match intsD ds with | some x => x == p | none => false)
  | _ => false
theorem isTIr_ok {r : R D} {p : List Int} (h : isTIr r p = true) : r = .ok (tI p) := by
  unfold isTIr at h
  split at h
  · split at h
    · rename_i e; rw [intsD_map e, eq_of_beq h]
    · cases h
  · cases h
def isPr (r : R D) (p : List Int) (s : Int) : Bool := match r with
  | .ok (.tup [d, .int j]) => isTIr (.ok d) p && j == s
  | _ => false
theorem isPr_ok {r : R D} {p : List Int} {s : Int} (h : isPr r p s = true) : r = .ok (.tup [tI p, .int s]) := by
  unfold isPr at h
  split at h
  · rw [Bool.and_eq_true] at h
    have e := isTIr_ok h.1
    cases e
    rw [eq_of_beq h.2]
  · cases h
def hkF (own_24 : D) : R D := o1 oSorted (cmp (bnd (bnd (ac (.ok own_24) an) g37) wSeq) (fun d => U2 d _ fun p_60 => (.ok true)) (fun d => U2 d _ fun p_60 => (bnd (ac (.ok own_24) (ac (.ok p_60.1) (ac (o2 oSub (.ok (D.int 0)) (.ok p_60.2)) an))) g38)))
def hkI (p : List Int) : List Int := match hkF (tI p) with
  | .ok (.lst ds) => (match intsD ds with | some x => x | none => [])
  | _ => []
def pileC (p : List Int) : Bool := isLI (g32 [tI p]) p && isLI (hkF (tI p)) (hkI p) && isTIr (g28 [lI p]) (hkI p) && Nat.ble (hkI p).length 100 &&
  ([1, 2, 3, 4] : List Int).all fun s => isPr (g11 [lI p, .int s]) p s && isPr (g11 [tI p, .int s]) p s
theorem pilesC_ok : (allPiles 12).all pileC = true := by decide +kernel
/-- a share, as it was drawn -/
def shD (p : Int × Nat) : D := .tup [.int p.1, .int (Int.ofNat p.2)]
def shI (p : Int × Nat) : List Int := [p.1, Int.ofNat p.2]
def shareB (p : Int × Nat) : Bool := isLI (g32 [shD p]) (shI p) && isTIr (g4 [shD p]) (shI p) && isTIr (g4 [lI (shI p)]) (shI p) && isT (g22 [shD p]) && Nat.ble p.1.natAbs 200 && Nat.ble p.2 200
theorem shares_ok : shP.all shareB = true := by decide +kernel
def drawn (a b : Nat) : Int × Nat := (xdiv (Int.ofNat a - 6) (Nat.gcd (Int.ofNat a - 6).natAbs (b + 1)), Nat.div (b + 1) (Nat.gcd (Int.ofNat a - 6).natAbs (b + 1)))
theorem drawn_ok : ((List.range 13).all fun a => (List.range 3).all fun b => shP.contains (drawn a b)) = true := by decide +kernel
/-- what a share of the list is -/
theorem share_of {a b : Int} (ha : 0 ≤ a) (ha2 : a < 13) (hb : 0 ≤ b) (hb2 : b < 3) : ∃ q : Rat, g41 [.int (a - 6), .int (1 + b)] = .ok (qD q) ∧ ∃ p ∈ shP, qD q = shD p ∧ Sm 8 q := by
  obtain ⟨a, rfl⟩ : ∃ n : Nat, a = n := ⟨a.toNat, by omega⟩
  obtain ⟨b, rfl⟩ : ∃ n : Nat, b = n := ⟨b.toNat, by omega⟩
  have e : (1 + (b : Int)) = ((b + 1 : Nat) : Int) := by omega
  have h0 : b + 1 ≠ 0 := by omega
  have h1 : b + 1 < 2 ^ 4000 := Nat.lt_of_lt_of_le (show b + 1 < 2 ^ 10 by omega) (Nat.pow_le_pow_right (by omega) (by omega))
  refine ⟨Rat.normalize ((a : Int) - 6) (b + 1) h0, by rw [e]; exact m41.rat h0 h1, drawn a b, ?_, ?_, ?_⟩
  · have z := List.all_eq_true.1 (List.all_eq_true.1 drawn_ok a (List.mem_range.2 (by omega))) b (List.mem_range.2 (by omega))
    exact List.contains_iff_mem.1 z
  · rw [← made_rat]; rfl
  · exact sm_normalize (by omega) (by omega)
theorem share_facts {p : Int × Nat} (hp : p ∈ shP) : g32 [shD p] = .ok (lI (shI p)) ∧ g4 [shD p] = .ok (shD p) ∧ g4 [lI (shI p)] = .ok (shD p) ∧ g22 [shD p] = .ok (.bl true) := by
  have z := List.all_eq_true.1 shares_ok p hp
  unfold shareB at z
  simp only [Bool.and_eq_true] at z
  obtain ⟨⟨⟨⟨⟨z1, z2⟩, z3⟩, z4⟩, _⟩, _⟩ := z
  exact ⟨isLI_ok z1, isTIr_ok z2, isTIr_ok z3, isT_ok z4⟩
/-- hook_product, as it is called -/
theorem hook_product_run {x y own told : D} {s : Int} {r : D} (e1 : g11 [x, .int s] = .ok (.tup [own, .int s])) (e2 : g4 [y] = .ok told) (e3 : g22 [told] = .ok (.bl true)) (e4 : g17 [own, .int s, told] = .ok r) : g24 [x, .int s, y] = .ok r := by
  show retV (b24 x (.int s) y) = _
  unfold b24
  simp only [ac, an, bnd_ok, bnS_ok, e1, upk2_2, e2, o1, e3]
  show retV (bnS (bnd (R.ok [own, .int s, told]) g17) _) = _
  simp only [bnd_ok, e4]
  rfl
theorem part_a {p : List Int} (hp : p ∈ allPiles 12) {s : Int} (h1 : 1 ≤ s) (h4 : s ≤ 4) {q : Rat} {sp : Int × Nat} (hsp : sp ∈ shP) (hq : qD q = shD sp) (hsm : Sm 8 q) (K : Fl Unit Unit) : kl1 (tI p) (.int s) (qD q) K = K := by
  have z := List.all_eq_true.1 pilesC_ok p hp
  unfold pileC at z
  simp only [Bool.and_eq_true] at z
  obtain ⟨⟨⟨⟨z1, z2⟩, z3⟩, z4⟩, z5⟩ := z
  have hs4 : s ∈ ([1, 2, 3, 4] : List Int) := by
    have : s = 1 ∨ s = 2 ∨ s = 3 ∨ s = 4 := by omega
    rcases this with rfl | rfl | rfl | rfl <;> decide
  have z6 := List.all_eq_true.1 z5 s hs4
  rw [Bool.and_eq_true] at z6
  have e32 := isLI_ok z1
  have ehk := isLI_ok z2
  have e28 := isTIr_ok z3
  have e11a := isPr_ok z6.1
  have e11b := isPr_ok z6.2
  obtain ⟨r, er, er2⟩ := product_run (List.all_eq_true.1 piles_ok p hp) (s := s) (q := q) (by omega) (by omega) hsm
  obtain ⟨f1, f2, f3, f4⟩ := share_facts hsp
  rw [← hq] at f1 f2 f3 f4
  have p1 := hook_product_run e11a f2 f4 er
  have p2 := hook_product_run e11b f3 f4 er
  unfold kl1
  show bnS (hkF (tI p)) _ = _
  rw [ehk, bnS_ok]
  have c1 : callK (ac (bnd (ac (.ok (tI p)) an) g32) (ac (.ok (.int s)) (ac (.ok (qD q)) an))) g24 [0, 1, 2] = .ok (qD r) := by
    simp only [ac, an, bnd_ok, e32]; exact p1
  have c2 : callK (ac (bnd (ac (.ok (qD q)) an) g32) (ac (.ok (tI p)) (ac (.ok (.int s)) an))) g24 [1, 2, 0] = .ok (qD r) := by
    simp only [ac, an, bnd_ok, f1]; exact p2
  have c3 : callK (ac (bnd (ac (.ok (tI p)) an) g32) an) g28 [0] = .ok (tI (hkI p)) := by
    simp only [ac, an, bnd_ok, e32]; exact e28
  rw [c1, c2, c3]
  have tp : o1 oTuple (.ok (lI (hkI p))) = .ok (tI (hkI p)) := rfl
  rw [tp]
  have sm := same_ok (d := .lst [qD r, qD r, tI (hkI p)]) (.inr ⟨_, .inr rfl, by show 3 ≤ bigL; decide, fun x hx => by
    rcases List.mem_cons.1 hx with rfl | hx
    · exact pl_qD
    rcases List.mem_cons.1 hx with rfl | hx
    · exact pl_qD
    rcases List.mem_cons.1 hx with rfl | hx
    · exact pl_ints (Nat.le_trans (Nat.le_of_ble_eq_true z4) (by decide))
    cases hx⟩)
  simp only [ac, an, bnd_ok, bnS_ok, mkLs, er2, sm, o1]
  rfl
theorem part_b {s m : Int} {q : Rat} {sp : Int × Nat} (hsp : sp ∈ shP) (hq : qD q = shD sp) (h1 : 1 ≤ s) (h2 : s ≤ 4) (h3 : 0 ≤ m) (h4 : m ≤ 8) (K : Fl Unit Unit) : kl3 (.int m) (.int s) (qD q) (kl4 (.int s) (.int m) (qD q) K) = K := by
  refine c_all K ?_ h1 h2 h3 h4
  rw [hq]
  exact List.mem_map.2 ⟨sp, hsp, rfl⟩
theorem core (ns : List Int) (h : ns.length ≤ 63) : g47 [.rol (ns.map .int)] = .ok (.bl true) := by
  obtain ⟨c, ec⟩ := cells_ok ns h
  obtain ⟨e0, eb, x0, y0, z0, rfl, hz0, hz0'⟩ := box_ok c
  obtain ⟨r1, e1, t1, hr1, hr1', b1⟩ := take_ok (n := 4) (m := 0) ⟨x0, y0, z0, rfl, hz0, hz0'⟩ (by omega) (by omega) (by omega)
  obtain ⟨x1, y1, z1, rfl, hz1, hz1'⟩ := b1
  obtain ⟨p, e2, t2, hp0, hp1, hfit, b2⟩ := pile_ok (n := 12) (m := 0 + 1) ⟨x1, y1, z1, rfl, hz1, hz1'⟩ (by omega) (by omega) (by omega)
  obtain ⟨x2, y2, z2, rfl, hz2, hz2'⟩ := b2
  obtain ⟨r3, e3, t3, hr3, hr3', b3⟩ := take_ok (n := 13) (m := 0 + 1 + 1 + 12) ⟨x2, y2, z2, rfl, hz2, hz2'⟩ (by omega) (by omega) (by omega)
  obtain ⟨x3, y3, z3, rfl, hz3, hz3'⟩ := b3
  obtain ⟨r4, e4, t4, hr4, hr4', b4⟩ := take_ok (n := 3) ⟨x3, y3, z3, rfl, hz3, hz3'⟩ (by omega) (by omega) (by omega)
  obtain ⟨x4, y4, z4, rfl, hz4, hz4'⟩ := b4
  obtain ⟨r5, e5, t5, hr5, hr5', b5⟩ := take_ok (n := 9) ⟨x4, y4, z4, rfl, hz4, hz4'⟩ (by omega) (by omega) (by omega)
  obtain ⟨x5, y5, z5, rfl, hz5, hz5'⟩ := b5
  obtain ⟨q, eq, sp, hsp, hq, hsm⟩ := share_of hr3 hr3' hr4 hr4'
  have hpm : p ∈ allPiles 12 := mem_allPiles hfit (by omega)
  have u31 : g31 [.rol (ns.map .int), .int 1] = .ok (.lst [.int c]) := ec
  have u29 : g29 [.lst [.int c], .int 0] = .ok (.lst [.int x0, .int y0, .int z0]) := eb
  have u1 : g30 [.lst [.int x0, .int y0, .int z0], .int 4] = .ok (.int r1, .lst [.int x1, .int y1, .int z1]) := t1
  have u2 : g39 [.lst [.int x1, .int y1, .int z1], .int 12] = .ok (tI p, .lst [.int x2, .int y2, .int z2]) := t2
  have u3 : g30 [.lst [.int x2, .int y2, .int z2], .int 13] = .ok (.int r3, .lst [.int x3, .int y3, .int z3]) := t3
  have u4 : g30 [.lst [.int x3, .int y3, .int z3], .int 3] = .ok (.int r4, .lst [.int x4, .int y4, .int z4]) := t4
  have u5 : g30 [.lst [.int x4, .int y4, .int z4], .int 9] = .ok (.int r5, .lst [.int x5, .int y5, .int z5]) := t5
  show retV (b47 (.rol (ns.map .int))) = _
  rw [kl_eq]
  dsimp only
  unfold kl0
  simp only [ac, an, bnd_ok, bnS_ok, u31, u29, asL_l, u1, u2, u3, u4, nox_ok, oAdd_i, oSub_i, upk2_2, eq]
  rw [part_a hpm (by omega) (by omega) hsp hq hsm]
  unfold kl2
  simp only [ac, an, bnd_ok, bnS_ok, asL_l, u5, nox_ok]
  rw [part_b hsp hq (by omega) (by omega) (by omega) (by omega), c5, c6]
  exact isT_ok c7
end
end QzG
namespace QzG
open PySem PySem.Spec L2 Qz PyProof.Rows
abbrev R : PySem.W.OpenRow := PySem.W.OpenLaw.row PySem.Challenge.rw_stairlaid_k78_whole_sums_over_hooks
def lsA : List Str := ["TooMany", "Unfit", "MOST_CELLS", "NOUGHT", "ONE"]
def ls : List Str := lsA ++ (Fs.map (·.x)).dropLast
theorem run (w : World) : HandSHeadRun.RunEq R (PySem.W.view R.prog [59]) (hkP Fs Es Gs) (obP Fs Es Gs) 4000 ls w := by
  intro os
  kernel_rfl
end QzG
open PySem PySem.W PySem.Calls PyProof.Rows
theorem PySem.Challenge.cw_stairlaid_k78_whole_sums_over_hooks_holds : PySem.Challenge.rw_stairlaid_k78_whole_sums_over_hooks.Holds := by
  w_on; o_law
  refine HandSHeadRun.head_any (r := OpenLaw.row PySem.Challenge.rw_stairlaid_k78_whole_sums_over_hooks) (q := view (OpenLaw.row PySem.Challenge.rw_stairlaid_k78_whole_sums_over_hooks).prog [59]) (H := Qz.hkP QzG.Fs QzG.Es QzG.Gs) (ob := Qz.obP QzG.Fs QzG.Es QzG.Gs) (M := 4000) (loose := QzG.ls) (d := HandSHeadRun.topDef (OpenLaw.row PySem.Challenge.rw_stairlaid_k78_whole_sums_over_hooks).prog 59) (kwd := []) Qz.obP_eq
    (by kernel_rfl) (fun s => by kernel_rfl) QzG.run (by kernel_rfl) (by kernel_rfl) (by kernel_rfl) (by rfl) (by first | assumption | decide +kernel) (by decide +kernel) ⟨rfl, rfl, rfl, rfl, rfl, by decide +kernel⟩ ?hw ?hc
  case hw => w_witness2
  case hc =>
    refine L2.walk_ofE (l := PySem.Challenge.rw_stairlaid_k78_whole_sums_over_hooks) (n := 63) (k := 19) (x := "script") (CX := L2.CX0) rfl (by decide) (by kernel_rfl) ⟨rfl, by decide, by decide⟩ ?F (fun _ _ _ _ z => z)
    intro w mg fa h Y G hmg0
    obtain ⟨K, KX, c⟩ := Y
    have hmg : mg ("law" : PySem.Str) = some (.ref fa) := by
      have e : (HandSHeadRun.topDef (OpenLaw.row PySem.Challenge.rw_stairlaid_k78_whole_sums_over_hooks).prog 59).name = ("law" : PySem.Str) := by kernel_rfl
      rw [← e]
      exact hmg0
    obtain ⟨fd, hb, hF⟩ := Qz.facts (P := (PySem.Challenge.rw_stairlaid_k78_whole_sums_over_hooks).prog) (w := w) 19 47 (d := QzG.f47) rfl (p := "script") rfl QzG.bi47 (fun base T => QzG.fat47 T) KX G hmg c
    refine ⟨K, fd, _, KX, hb, fun H a ns hl o hS => ?_, hF⟩
    exact Qz.law_sp (Z := Qz.whr K QzG.Fs QzG.Es) rfl (QzG.core ns hl) o hS
