import PyProof.Rows.All
import Wide.All
import OpenK.AllK
import Wide.FinOn
import HandS.ForMost
import HandS.TupMul
import HandS.TupAny
import HandS.IsInst
import HandS.Walk
import KE.GoesEnum
import PySem.Challenge.RW_echowords_k54_whole_unity
set_option Elab.async false
set_option linter.all false
set_option maxRecDepth 100000
/-! plain mathematics: what the defs reckon, as functions on lists of ints -/
namespace E54
/-- xs - c * ys, place by place (the shorter one ends it, the rest of xs stays) -/
def sub : List Int → List Int → Int → List Int
  | x :: xs, y :: ys, c => (x - c * y) :: sub xs ys c
  | xs, [], _ => xs
  | [], _ :: _, _ => []
theorem sub_nil (xs : List Int) (c : Int) : sub xs [] c = xs := by
  cases xs <;> rfl
theorem sub_len : ∀ (xs ys : List Int) (c : Int), (sub xs ys c).length = xs.length
  | x :: xs, y :: ys, c => by
    show (sub xs ys c).length + 1 = xs.length + 1
    rw [sub_len xs ys c]
  | xs, [], _ => by rw [sub_nil]
  | [], _ :: _, _ => rfl
theorem sub_step : ∀ (xs ys : List Int) (c : Int) (m : Nat), m < xs.length → m < ys.length →
    sub xs (ys.take (m + 1)) c = (sub xs (ys.take m) c).set m ((sub xs (ys.take m) c).getD m 0 - c * ys.getD m 0)
  | [], _, _, _, h, _ => by simp at h
  | _ :: _, [], _, _, _, h => by simp at h
  | x :: xs, y :: ys, c, 0, _, _ => by
    simp [sub, sub_nil]
  | x :: xs, y :: ys, c, m + 1, h1, h2 => by
    have ih := sub_step xs ys c m (by simpa using h1) (by simpa using h2)
    simp only [List.take_succ_cons, sub, List.set_cons_succ, List.getD_cons_succ]
    rw [ih]
/-- L with c * ys taken off from the place k on -/
def subAt (L : List Int) (k : Nat) (ys : List Int) (c : Int) : List Int := L.take k ++ sub (L.drop k) ys c
theorem subAt_len (L : List Int) (k : Nat) (ys : List Int) (c : Int) : (subAt L k ys c).length = L.length := by
  unfold subAt
  rw [List.length_append, sub_len, List.length_take, List.length_drop]
  omega
theorem subAt_nil (L : List Int) (k : Nat) (c : Int) : subAt L k [] c = L := by
  unfold subAt
  rw [sub_nil, List.take_append_drop]
theorem subAt_step (L ys : List Int) (k : Nat) (c : Int) (m : Nat) (h1 : k + m < L.length) (h2 : m < ys.length) :
    subAt L k (ys.take (m + 1)) c = (subAt L k (ys.take m) c).set (k + m) ((subAt L k (ys.take m) c).getD (k + m) 0 - c * ys.getD m 0) := by
  have e := sub_step (L.drop k) ys c m (by rw [List.length_drop]; omega) h2
  have hk : (L.take k).length = k := by rw [List.length_take]; omega
  have g : (L.take k ++ sub (L.drop k) (ys.take m) c).getD (k + m) 0 = (sub (L.drop k) (ys.take m) c).getD m 0 := by
    rw [List.getD_eq_getElem?_getD, List.getElem?_append_right (by omega), hk, Nat.add_sub_cancel_left, ← List.getD_eq_getElem?_getD]
  unfold subAt
  rw [g, e, List.set_append_right _ _ (by omega), hk, Nat.add_sub_cancel_left]

/-! ### over -/
def overStep (ys : List Int) (k : Nat) (s : List Int × List Int) : List Int × List Int :=
  (subAt s.1 k ys (s.1.getD (k + ys.length - 1) 0), s.2.set k (s.1.getD (k + ys.length - 1) 0))
def overLoop (ys : List Int) : Nat → List Int × List Int → List Int × List Int
  | 0, s => s
  | k + 1, s => overLoop ys k (overStep ys k s)
def overF (xs ys : List Int) : List Int := (overLoop ys (xs.length - ys.length + 1) (xs, List.replicate (xs.length - ys.length + 1) 0)).2
/-! ### reduced -/
def redLoop (told : List Int) (size : Nat) : Nat → List Int → List Int
  | 0, L => L
  | k + 1, L => redLoop told size k (subAt L k told (L.getD (size + k) 0))
def redF (row told : List Int) : List Int :=
  (redLoop told (told.length - 1) (row.length - (told.length - 1)) row ++ List.replicate (told.length - 1) 0).take (told.length - 1)
/-! ### a product -/
def mulGo (ys : List Int) : Nat → List Int → List Int → List Int
  | _, [], M => M
  | k, x :: xs, M => mulGo ys (k + 1) xs (subAt M k ys (-x))
def mulF (xs ys : List Int) : List Int := mulGo ys 0 xs (List.replicate (xs.length + ys.length - 1) 0)
/-! ### sums at a power -/
def sumsGo (n p : Nat) : Nat → List Int → List Int → List Int
  | _, [], F => F
  | k, w :: ws, F => sumsGo n p (k + 1) ws (F.set (k * p % n) (F.getD (k * p % n) 0 + w))
def sumsF (ws : List Int) (n p : Nat) : List Int := sumsGo n p 0 ws (List.replicate n 0)
/-! ### the others -/
def base (n : Nat) : List Int := (-1) :: (List.replicate (n - 1) 0 ++ [1])
def turnsF (n : Nat) : List Nat := (List.range n).filter fun p => Nat.gcd p n == 1
def dvF (n p : Nat) : List Nat := (List.range' 2 (n - 1)).filter fun f => n % f == 0 && p % f == 0
def primeF (n : Nat) : List Nat := (List.range n).filter fun p => (dvF n p).isEmpty
end E54
/-! the table of the polynomials, and what the kernel reckons of it -/
namespace E54
def cycTab : List (List Int) := [[],
  [-1, 1],
  [1, 1],
  [1, 1, 1],
  [1, 0, 1],
  [1, 1, 1, 1, 1],
  [1, -1, 1],
  [1, 1, 1, 1, 1, 1, 1],
  [1, 0, 0, 0, 1],
  [1, 0, 0, 1, 0, 0, 1],
  [1, -1, 1, -1, 1],
  [1, 1, 1, 1, 1, 1, 1, 1, 1, 1, 1],
  [1, 0, -1, 0, 1],
  [1, 1, 1, 1, 1, 1, 1, 1, 1, 1, 1, 1, 1],
  [1, -1, 1, -1, 1, -1, 1],
  [1, -1, 0, 1, -1, 1, 0, -1, 1],
  [1, 0, 0, 0, 0, 0, 0, 0, 1],
  [1, 1, 1, 1, 1, 1, 1, 1, 1, 1, 1, 1, 1, 1, 1, 1, 1],
  [1, 0, 0, -1, 0, 0, 1],
  [1, 1, 1, 1, 1, 1, 1, 1, 1, 1, 1, 1, 1, 1, 1, 1, 1, 1, 1],
  [1, 0, -1, 0, 1, 0, -1, 0, 1],
  [1, -1, 0, 1, -1, 0, 1, 0, -1, 1, 0, -1, 1],
  [1, -1, 1, -1, 1, -1, 1, -1, 1, -1, 1],
  [1, 1, 1, 1, 1, 1, 1, 1, 1, 1, 1, 1, 1, 1, 1, 1, 1, 1, 1, 1, 1, 1, 1],
  [1, 0, 0, 0, -1, 0, 0, 0, 1],
  [1, 0, 0, 0, 0, 1, 0, 0, 0, 0, 1, 0, 0, 0, 0, 1, 0, 0, 0, 0, 1],
  [1, -1, 1, -1, 1, -1, 1, -1, 1, -1, 1, -1, 1],
  [1, 0, 0, 0, 0, 0, 0, 0, 0, 1, 0, 0, 0, 0, 0, 0, 0, 0, 1],
  [1, 0, -1, 0, 1, 0, -1, 0, 1, 0, -1, 0, 1],
  [1, 1, 1, 1, 1, 1, 1, 1, 1, 1, 1, 1, 1, 1, 1, 1, 1, 1, 1, 1, 1, 1, 1, 1, 1, 1, 1, 1, 1],
  [1, 1, 0, -1, -1, -1, 0, 1, 1],
  [1, 1, 1, 1, 1, 1, 1, 1, 1, 1, 1, 1, 1, 1, 1, 1, 1, 1, 1, 1, 1, 1, 1, 1, 1, 1, 1, 1, 1, 1, 1],
  [1, 0, 0, 0, 0, 0, 0, 0, 0, 0, 0, 0, 0, 0, 0, 0, 1],
  [1, -1, 0, 1, -1, 0, 1, -1, 0, 1, -1, 1, 0, -1, 1, 0, -1, 1, 0, -1, 1],
  [1, -1, 1, -1, 1, -1, 1, -1, 1, -1, 1, -1, 1, -1, 1, -1, 1],
  [1, -1, 0, 0, 0, 1, -1, 1, -1, 0, 1, -1, 1, -1, 1, 0, -1, 1, -1, 1, 0, 0, 0, -1, 1],
  [1, 0, 0, 0, 0, 0, -1, 0, 0, 0, 0, 0, 1],
  [1, 1, 1, 1, 1, 1, 1, 1, 1, 1, 1, 1, 1, 1, 1, 1, 1, 1, 1, 1, 1, 1, 1, 1, 1, 1, 1, 1, 1, 1, 1, 1, 1, 1, 1, 1, 1],
  [1, -1, 1, -1, 1, -1, 1, -1, 1, -1, 1, -1, 1, -1, 1, -1, 1, -1, 1],
  [1, -1, 0, 1, -1, 0, 1, -1, 0, 1, -1, 0, 1, 0, -1, 1, 0, -1, 1, 0, -1, 1, 0, -1, 1],
  [1, 0, 0, 0, -1, 0, 0, 0, 1, 0, 0, 0, -1, 0, 0, 0, 1],
  [1, 1, 1, 1, 1, 1, 1, 1, 1, 1, 1, 1, 1, 1, 1, 1, 1, 1, 1, 1, 1, 1, 1, 1, 1, 1, 1, 1, 1, 1, 1, 1, 1, 1, 1, 1, 1, 1, 1, 1, 1],
  [1, 1, 0, -1, -1, 0, 1, 0, -1, -1, 0, 1, 1],
  [1, 1, 1, 1, 1, 1, 1, 1, 1, 1, 1, 1, 1, 1, 1, 1, 1, 1, 1, 1, 1, 1, 1, 1, 1, 1, 1, 1, 1, 1, 1, 1, 1, 1, 1, 1, 1, 1, 1, 1, 1, 1, 1],
  [1, 0, -1, 0, 1, 0, -1, 0, 1, 0, -1, 0, 1, 0, -1, 0, 1, 0, -1, 0, 1],
  [1, 0, 0, -1, 0, 0, 0, 0, 0, 1, 0, 0, -1, 0, 0, 1, 0, 0, 0, 0, 0, -1, 0, 0, 1],
  [1, -1, 1, -1, 1, -1, 1, -1, 1, -1, 1, -1, 1, -1, 1, -1, 1, -1, 1, -1, 1, -1, 1],
  [1, 1, 1, 1, 1, 1, 1, 1, 1, 1, 1, 1, 1, 1, 1, 1, 1, 1, 1, 1, 1, 1, 1, 1, 1, 1, 1, 1, 1, 1, 1, 1, 1, 1, 1, 1, 1, 1, 1, 1, 1, 1, 1, 1, 1, 1, 1],
  [1, 0, 0, 0, 0, 0, 0, 0, -1, 0, 0, 0, 0, 0, 0, 0, 1],
  [1, 0, 0, 0, 0, 0, 0, 1, 0, 0, 0, 0, 0, 0, 1, 0, 0, 0, 0, 0, 0, 1, 0, 0, 0, 0, 0, 0, 1, 0, 0, 0, 0, 0, 0, 1, 0, 0, 0, 0, 0, 0, 1],
  [1, 0, 0, 0, 0, -1, 0, 0, 0, 0, 1, 0, 0, 0, 0, -1, 0, 0, 0, 0, 1],
  [1, -1, 0, 1, -1, 0, 1, -1, 0, 1, -1, 0, 1, -1, 0, 1, -1, 1, 0, -1, 1, 0, -1, 1, 0, -1, 1, 0, -1, 1, 0, -1, 1],
  [1, 0, -1, 0, 1, 0, -1, 0, 1, 0, -1, 0, 1, 0, -1, 0, 1, 0, -1, 0, 1, 0, -1, 0, 1],
  [1, 1, 1, 1, 1, 1, 1, 1, 1, 1, 1, 1, 1, 1, 1, 1, 1, 1, 1, 1, 1, 1, 1, 1, 1, 1, 1, 1, 1, 1, 1, 1, 1, 1, 1, 1, 1, 1, 1, 1, 1, 1, 1, 1, 1, 1, 1, 1, 1, 1, 1, 1, 1],
  [1, 0, 0, 0, 0, 0, 0, 0, 0, -1, 0, 0, 0, 0, 0, 0, 0, 0, 1],
  [1, -1, 0, 0, 0, 1, -1, 0, 0, 0, 1, 0, -1, 0, 0, 1, 0, -1, 0, 0, 1, 0, 0, -1, 0, 1, 0, 0, -1, 0, 1, 0, 0, 0, -1, 1, 0, 0, 0, -1, 1],
  [1, 0, 0, 0, -1, 0, 0, 0, 1, 0, 0, 0, -1, 0, 0, 0, 1, 0, 0, 0, -1, 0, 0, 0, 1],
  [1, -1, 0, 1, -1, 0, 1, -1, 0, 1, -1, 0, 1, -1, 0, 1, -1, 0, 1, 0, -1, 1, 0, -1, 1, 0, -1, 1, 0, -1, 1, 0, -1, 1, 0, -1, 1],
  [1, -1, 1, -1, 1, -1, 1, -1, 1, -1, 1, -1, 1, -1, 1, -1, 1, -1, 1, -1, 1, -1, 1, -1, 1, -1, 1, -1, 1],
  [1, 1, 1, 1, 1, 1, 1, 1, 1, 1, 1, 1, 1, 1, 1, 1, 1, 1, 1, 1, 1, 1, 1, 1, 1, 1, 1, 1, 1, 1, 1, 1, 1, 1, 1, 1, 1, 1, 1, 1, 1, 1, 1, 1, 1, 1, 1, 1, 1, 1, 1, 1, 1, 1, 1, 1, 1, 1, 1],
  [1, 0, 1, 0, 0, 0, -1, 0, -1, 0, -1, 0, 0, 0, 1, 0, 1],
  [1, 1, 1, 1, 1, 1, 1, 1, 1, 1, 1, 1, 1, 1, 1, 1, 1, 1, 1, 1, 1, 1, 1, 1, 1, 1, 1, 1, 1, 1, 1, 1, 1, 1, 1, 1, 1, 1, 1, 1, 1, 1, 1, 1, 1, 1, 1, 1, 1, 1, 1, 1, 1, 1, 1, 1, 1, 1, 1, 1, 1],
  [1, -1, 1, -1, 1, -1, 1, -1, 1, -1, 1, -1, 1, -1, 1, -1, 1, -1, 1, -1, 1, -1, 1, -1, 1, -1, 1, -1, 1, -1, 1],
  [1, 0, 0, -1, 0, 0, 0, 0, 0, 1, 0, 0, -1, 0, 0, 0, 0, 0, 1, 0, 0, 0, 0, 0, -1, 0, 0, 1, 0, 0, 0, 0, 0, -1, 0, 0, 1],
  [1, 0, 0, 0, 0, 0, 0, 0, 0, 0, 0, 0, 0, 0, 0, 0, 0, 0, 0, 0, 0, 0, 0, 0, 0, 0, 0, 0, 0, 0, 0, 0, 1]]
def cyc (n : Nat) : List Int := cycTab.getD n []

/-! ### the checks, each reckoned once by the kernel -/
/-- the quotients from the place i on end in cyc n -/
def chainOk (n : Nat) : Nat → Nat → List Int → Bool
  | 0, _, L => L == cyc n
  | k + 1, i, L => if n % (i + 1) == 0 then (Nat.ble 1 (cyc (i + 1)).length && (Nat.ble (cyc (i + 1)).length L.length && Nat.ble L.length 65)) && chainOk n k (i + 1) (overF L (cyc (i + 1))) else chainOk n k (i + 1) L
def prodOk (n : Nat) : Nat → Nat → List Int → Bool
  | 0, _, L => L == base n
  | k + 1, i, L => if n % (i + 1) == 0 then (Nat.ble 1 (cyc (i + 1)).length && (Nat.ble 1 L.length && Nat.ble (L.length + (cyc (i + 1)).length) 100)) && prodOk n k (i + 1) (mulF L (cyc (i + 1))) else prodOk n k (i + 1) L
def formOk (n : Nat) : Bool :=
  (Nat.ble 2 (cyc n).length && Nat.ble (cyc n).length 64) && ((cyc n).getD ((cyc n).length - 1) 0 == 1 && ((cyc n).all fun y => y == 0 || (y == 1 || (y == -1 || (y == 2 || y == -2)))))
def turnsOk (n : Nat) : Bool := turnsF n == primeF n && (primeF n).length + 1 == (cyc n).length
/-- the sums at a power with the common divisor g -/
def evenly (n g : Nat) : List Int := (List.range n).map fun r => if r % g == 0 then (g : Int) else 0
def dueP (n : Nat) (b : Bool) : List Int := (if b then (n : Int) else 0) :: List.replicate ((cyc n).length - 2) 0
/-- the sums as one number -/
def encS (n p : Nat) : Nat → Nat → Nat → Nat
  | _, 0, acc => acc
  | k, m + 1, acc => encS n p (k + 1) m (acc + 128 ^ (k * p % n))
def encE (g : Nat) : Nat → Nat → Nat → Nat
  | _, 0, acc => acc
  | r, m + 1, acc => encE g (r + 1) m (acc + (if r % g == 0 then g else 0) * 128 ^ r)
def sumsOk (n : Nat) : Bool := (List.range n).all fun p => Nat.beq (encS n p 0 n 0) (encE (Nat.gcd p n) 0 n 0)
def evenOk (n : Nat) : Bool := (List.range (n + 1)).all fun g => !(n % g == 0) || redF (evenly n g) (cyc n) == dueP n (g == n)
end E54
namespace E54
theorem form_all : (List.range' 1 64).all formOk = true := by decide +kernel
theorem turns_all : (List.range' 1 64).all turnsOk = true := by decide +kernel
theorem chain_all : (List.range' 1 64).all (fun n => chainOk n (n - 1) 0 (base n)) = true := by decide +kernel
theorem prod_all : (List.range' 1 64).all (fun n => prodOk n n 0 [1]) = true := by decide +kernel
theorem sums_all : (List.range' 1 64).all sumsOk = true := by decide +kernel
theorem even_all : (List.range' 1 64).all evenOk = true := by decide +kernel
end E54
/-! what follows of the checks: the facts that the walk asks -/
namespace E54
theorem of_all {f : Nat → Bool} (h : (List.range' 1 64).all f = true) {n : Nat} (h1 : 1 ≤ n) (h2 : n ≤ 64) : f n = true :=
  List.all_eq_true.mp h n (List.mem_range'_1.mpr ⟨h1, by omega⟩)
theorem cyc_form {n : Nat} (h1 : 1 ≤ n) (h2 : n ≤ 64) : 2 ≤ (cyc n).length ∧ (cyc n).length ≤ 64 ∧ (cyc n).getD ((cyc n).length - 1) 0 = 1 ∧ ∀ y ∈ cyc n, -2 ≤ y ∧ y ≤ 2 := by
  have h := of_all form_all h1 h2
  unfold formOk at h
  simp only [Bool.and_eq_true, List.all_eq_true, Bool.or_eq_true, beq_iff_eq] at h
  obtain ⟨⟨a, b⟩, c, d⟩ := h
  refine ⟨Nat.le_of_ble_eq_true a, Nat.le_of_ble_eq_true b, c, fun y hy => ?_⟩
  have q := d y hy
  omega
theorem cyc_at {n j : Nat} (h1 : 1 ≤ n) (h2 : n ≤ 64) : -2 ≤ (cyc n).getD j 0 ∧ (cyc n).getD j 0 ≤ 2 := by
  by_cases hj : j < (cyc n).length
  · have e : (cyc n).getD j 0 = (cyc n)[j] := by
      rw [List.getD_eq_getElem?_getD, List.getElem?_eq_getElem hj]
      rfl
    rw [e]
    exact (cyc_form h1 h2).2.2.2 _ (List.getElem_mem hj)
  · have e : (cyc n).getD j 0 = 0 := by
      rw [List.getD_eq_getElem?_getD, List.getElem?_eq_none (by omega)]
      rfl
    rw [e]
    omega
theorem turns_eq {n : Nat} (h1 : 1 ≤ n) (h2 : n ≤ 64) : turnsF n = primeF n ∧ (primeF n).length + 1 = (cyc n).length := by
  have h := of_all turns_all h1 h2
  unfold turnsOk at h
  simp only [Bool.and_eq_true, beq_iff_eq] at h
  exact h
theorem chain_start {n : Nat} (h1 : 1 ≤ n) (h2 : n ≤ 64) : chainOk n (n - 1) 0 (base n) = true := of_all chain_all h1 h2
theorem chain_end {n i : Nat} {L : List Int} (h : chainOk n 0 i L = true) : L = cyc n := by
  unfold chainOk at h
  exact eq_of_beq h
theorem chain_no {n k i : Nat} {L : List Int} (h : chainOk n (k + 1) i L = true) (hd : ¬ n % (i + 1) = 0) : chainOk n k (i + 1) L = true := by
  unfold chainOk at h
  rw [if_neg (by simpa using hd)] at h
  exact h
theorem chain_yes {n k i : Nat} {L : List Int} (h : chainOk n (k + 1) i L = true) (hd : n % (i + 1) = 0) :
    1 ≤ (cyc (i + 1)).length ∧ (cyc (i + 1)).length ≤ L.length ∧ L.length ≤ 65 ∧ chainOk n k (i + 1) (overF L (cyc (i + 1))) = true := by
  unfold chainOk at h
  rw [if_pos (by simpa using hd)] at h
  simp only [Bool.and_eq_true] at h
  exact ⟨Nat.le_of_ble_eq_true h.1.1, Nat.le_of_ble_eq_true h.1.2.1, Nat.le_of_ble_eq_true h.1.2.2, h.2⟩
theorem prod_start {n : Nat} (h1 : 1 ≤ n) (h2 : n ≤ 64) : prodOk n n 0 [1] = true := of_all prod_all h1 h2
theorem prod_end {n i : Nat} {L : List Int} (h : prodOk n 0 i L = true) : L = base n := by
  unfold prodOk at h
  exact eq_of_beq h
theorem prod_no {n k i : Nat} {L : List Int} (h : prodOk n (k + 1) i L = true) (hd : ¬ n % (i + 1) = 0) : prodOk n k (i + 1) L = true := by
  unfold prodOk at h
  rw [if_neg (by simpa using hd)] at h
  exact h
theorem prod_yes {n k i : Nat} {L : List Int} (h : prodOk n (k + 1) i L = true) (hd : n % (i + 1) = 0) :
    1 ≤ (cyc (i + 1)).length ∧ 1 ≤ L.length ∧ L.length + (cyc (i + 1)).length ≤ 100 ∧ prodOk n k (i + 1) (mulF L (cyc (i + 1))) = true := by
  unfold prodOk at h
  rw [if_pos (by simpa using hd)] at h
  simp only [Bool.and_eq_true] at h
  exact ⟨Nat.le_of_ble_eq_true h.1.1, Nat.le_of_ble_eq_true h.1.2.1, Nat.le_of_ble_eq_true h.1.2.2, h.2⟩

/-! ### lists as numbers -/
def encL : List Int → Int
  | [] => 0
  | x :: xs => x + 128 * encL xs
theorem encL_set : ∀ (F : List Int) (i : Nat) (w : Int), i < F.length → encL (F.set i (F.getD i 0 + w)) = encL F + w * 128 ^ i
  | [], _, _, h => by simp at h
  | x :: xs, 0, w, _ => by
    show (x + w) + 128 * encL xs = (x + 128 * encL xs) + w * 128 ^ 0
    rw [Int.pow_zero]
    omega
  | x :: xs, i + 1, w, h => by
    have ih := encL_set xs i w (by simpa using h)
    show x + 128 * encL (xs.set i (xs.getD i 0 + w)) = (x + 128 * encL xs) + w * 128 ^ (i + 1)
    have e : w * 128 ^ (i + 1) = 128 * (w * 128 ^ i) := by
      rw [Int.pow_succ, ← Int.mul_assoc, Int.mul_comm]
    rw [ih, e]
    omega
theorem encL_inj : ∀ (F G : List Int), F.length = G.length → (∀ x ∈ F, 0 ≤ x ∧ x < 128) → (∀ x ∈ G, 0 ≤ x ∧ x < 128) → encL F = encL G → F = G
  | [], [], _, _, _, _ => rfl
  | [], _ :: _, h, _, _, _ => by simp at h
  | _ :: _, [], h, _, _, _ => by simp at h
  | x :: xs, y :: ys, h, hF, hG, e => by
    have hx := hF x List.mem_cons_self
    have hy := hG y List.mem_cons_self
    have e' : x + 128 * encL xs = y + 128 * encL ys := e
    have e1 : x = y := by omega
    have e2 : encL xs = encL ys := by omega
    rw [e1, encL_inj xs ys (by simpa using h) (fun z hz => hF z (List.mem_cons_of_mem _ hz)) (fun z hz => hG z (List.mem_cons_of_mem _ hz)) e2]
theorem sumsGo_len (n p : Nat) : ∀ (ws F : List Int) (k : Nat), (sumsGo n p k ws F).length = F.length
  | [], _, _ => rfl
  | w :: ws, F, k => by
    show (sumsGo n p (k + 1) ws (F.set _ _)).length = F.length
    rw [sumsGo_len n p ws, List.length_set]
theorem enc_sums (n p : Nat) (hn : 0 < n) : ∀ (m k : Nat) (F : List Int) (acc : Nat), F.length = n → encL F = (acc : Int) →
    encL (sumsGo n p k (List.replicate m 1) F) = ((encS n p k m acc : Nat) : Int)
  | 0, _, _, _, _, h => h
  | m + 1, k, F, acc, hl, h => by
    show encL (sumsGo n p (k + 1) (List.replicate m 1) (F.set (k * p % n) (F.getD (k * p % n) 0 + 1))) = ((encS n p (k + 1) m (acc + 128 ^ (k * p % n)) : Nat) : Int)
    have hi : k * p % n < F.length := by
      rw [hl]
      exact Nat.mod_lt _ hn
    refine enc_sums n p hn m (k + 1) _ _ (by rw [List.length_set]; exact hl) ?_
    rw [encL_set F _ 1 hi, h, Int.one_mul, Int.natCast_add, Int.natCast_pow]
    rfl
theorem small_sums (n p : Nat) : ∀ (m k : Nat) (F : List Int) (b : Int), (∀ x ∈ F, 0 ≤ x ∧ x ≤ b) → 0 ≤ b →
    ∀ x ∈ sumsGo n p k (List.replicate m 1) F, 0 ≤ x ∧ x ≤ b + (m : Int)
  | 0, _, F, b, h, _ => fun x hx => by
    have q := h x hx
    omega
  | m + 1, k, F, b, h, hb => fun x hx => by
    have hx' : x ∈ sumsGo n p (k + 1) (List.replicate m 1) (F.set (k * p % n) (F.getD (k * p % n) 0 + 1)) := hx
    have q := small_sums n p m (k + 1) _ (b + 1) (fun y hy => ?_) (by omega) x hx'
    · omega
    · rcases List.mem_or_eq_of_mem_set hy with hy | hy
      · have := h y hy
        omega
      · by_cases hj : k * p % n < F.length
        · have e : F.getD (k * p % n) 0 = F[k * p % n] := by
            rw [List.getD_eq_getElem?_getD, List.getElem?_eq_getElem hj]
            rfl
          have := h _ (List.getElem_mem hj)
          rw [hy, e]
          omega
        · have e : F.getD (k * p % n) 0 = 0 := by
            rw [List.getD_eq_getElem?_getD, List.getElem?_eq_none (by omega)]
            rfl
          rw [hy, e]
          omega
theorem encL_app : ∀ (F G : List Int), encL (F ++ G) = encL F + 128 ^ F.length * encL G
  | [], G => by
    show encL G = 0 + 128 ^ 0 * encL G
    rw [Int.pow_zero]
    omega
  | x :: xs, G => by
    have ih := encL_app xs G
    show x + 128 * encL (xs ++ G) = (x + 128 * encL xs) + 128 ^ (xs.length + 1) * encL G
    have e : (128 : Int) ^ (xs.length + 1) * encL G = 128 * (128 ^ xs.length * encL G) := by
      rw [Int.pow_succ, Int.mul_comm (128 ^ xs.length) 128, Int.mul_assoc]
    rw [ih, e]
    omega
theorem enc_even (g : Nat) : ∀ (m r acc : Nat) (F : List Int), F.length = r → encL F = (acc : Int) →
    encL (F ++ (List.range' r m).map fun r => if r % g == 0 then (g : Int) else 0) = ((encE g r m acc : Nat) : Int)
  | 0, r, acc, F, hl, h => by
    rw [List.range'_zero, List.map_nil, List.append_nil]
    exact h
  | m + 1, r, acc, F, hl, h => by
    rw [List.range'_succ, List.map_cons]
    show encL (F ++ (_ :: _)) = ((encE g (r + 1) m (acc + (if r % g == 0 then g else 0) * 128 ^ r) : Nat) : Int)
    have q := enc_even g m (r + 1) (acc + (if r % g == 0 then g else 0) * 128 ^ r) (F ++ [if r % g == 0 then (g : Int) else 0]) (by rw [List.length_append, hl]; rfl) ?_
    · rw [List.append_assoc] at q
      exact q
    · rw [encL_app, h, hl]
      show (acc : Int) + 128 ^ r * ((if r % g == 0 then (g : Int) else 0) + 128 * 0) = _
      rw [Int.natCast_add, Int.natCast_mul, Int.natCast_pow, Int.mul_zero, Int.add_zero, Int.mul_comm]
      congr 2
      split <;> rfl
theorem sums_eq {n p : Nat} (h1 : 1 ≤ n) (h2 : n ≤ 64) (hp : p < n) : sumsF (List.replicate n 1) n p = evenly n (Nat.gcd p n) := by
  have h := of_all sums_all h1 h2
  unfold sumsOk at h
  have hc : encS n p 0 n 0 = encE (Nat.gcd p n) 0 n 0 := Nat.eq_of_beq_eq_true (List.all_eq_true.mp h p (List.mem_range.mpr hp))
  have z : ∀ m : Nat, encL (List.replicate m 0) = 0 := by
    intro m
    induction m with
    | zero => rfl
    | succ m ih =>
      show 0 + 128 * encL (List.replicate m 0) = 0
      rw [ih]
      rfl
  refine encL_inj _ _ ?_ ?_ ?_ ?_
  · unfold sumsF evenly
    rw [sumsGo_len, List.length_replicate, List.length_map, List.length_range]
  · intro x hx
    have q := small_sums n p n 0 (List.replicate n 0) 0 (fun y hy => by rw [List.eq_of_mem_replicate hy]; omega) (by omega) x hx
    omega
  · intro x hx
    unfold evenly at hx
    obtain ⟨r, _, e⟩ := List.mem_map.mp hx
    have hg : Nat.gcd p n ≤ n := Nat.gcd_le_right p (by omega)
    rw [← e]
    split <;> omega
  · have a := enc_sums n p (by omega) n 0 (List.replicate n 0) 0 List.length_replicate (by rw [z]; rfl)
    have b := enc_even (Nat.gcd p n) n 0 0 [] rfl rfl
    unfold sumsF evenly
    rw [a, hc, ← b, List.nil_append, List.range_eq_range']
/-- the law at the powers -/
theorem power_eq {n p : Nat} (h1 : 1 ≤ n) (h2 : n ≤ 64) (hp : p < n) : redF (sumsF (List.replicate n 1) n p) (cyc n) = dueP n (decide (p = 0)) := by
  rw [sums_eq h1 h2 hp]
  have h := of_all even_all h1 h2
  unfold evenOk at h
  have hg : Nat.gcd p n ≤ n := Nat.gcd_le_right p (by omega)
  have q := List.all_eq_true.mp h (Nat.gcd p n) (List.mem_range.mpr (by omega))
  have hd : n % Nat.gcd p n = 0 := Nat.mod_eq_zero_of_dvd (Nat.gcd_dvd_right p n)
  rw [hd] at q
  have q' : redF (evenly n (Nat.gcd p n)) (cyc n) = dueP n (Nat.gcd p n == n) := by simpa using q
  rw [q']
  congr 1
  by_cases hp0 : p = 0
  · subst hp0
    simp
  · rw [decide_eq_false hp0]
    refine beq_eq_false_iff_ne.mpr fun e => ?_
    have a := Nat.gcd_le_left n (show 0 < p by omega)
    omega
theorem plain_eq {n : Nat} (h1 : 1 ≤ n) (h2 : n ≤ 64) (v : Int) : redF [v] (cyc n) = v :: List.replicate ((cyc n).length - 2) 0 := by
  have hl := (cyc_form h1 h2).1
  have e0 : [v].length - ((cyc n).length - 1) = 0 := by
    show 1 - _ = 0
    omega
  unfold redF
  rw [e0]
  show (List.take ((cyc n).length - 1) (v :: List.replicate ((cyc n).length - 1) 0)) = _
  rw [show (cyc n).length - 1 = ((cyc n).length - 2) + 1 by omega, List.take_succ_cons, List.take_replicate]
  congr 2
  omega
theorem overStep_len (ys : List Int) (k : Nat) (s : List Int × List Int) : (overStep ys k s).1.length = s.1.length ∧ (overStep ys k s).2.length = s.2.length := by
  unfold overStep
  exact ⟨subAt_len _ _ _ _, List.length_set⟩
theorem redLoop_len (told : List Int) (size : Nat) : ∀ (k : Nat) (L : List Int), (redLoop told size k L).length = L.length
  | 0, _ => rfl
  | k + 1, L => by
    show (redLoop told size k (subAt L k told _)).length = L.length
    rw [redLoop_len told size k, subAt_len]
end E54
set_option maxHeartbeats 3000000
/-! rules that the layer lacks: xs[i] op= e of a list (by the place), enumerate over a tuple -/
namespace E54
open PySem PyProof.Rows L2
/-! ### a list's item by its place, as ps_augS asks it -/
def rGetL (K : PySem.W.Frag) : V → V → Hp → VK → Prop := fun o k H Q => ∃ (l : Addr) (L : List V) (z : Int) (j : Nat) (v : V), o = .ref l ∧ k = .int z ∧ z = (j : Int) ∧ SqL K H l L ∧ L[j]? = some v ∧ Q v H
theorem get_list {X : Cx} : PGet X (rGetL X.K) := fun pins s σ H o k ov kv Q I ro rk ⟨l, L, z, j, v, eo, ek, ez, sq, at1, fin⟩ => by
  subst eo ek ez
  obtain ⟨tok, ek⟩ := rk
  subst ek
  cases ro
  obtain ⟨us, vals, plain, line⟩ := I.list sq
  obtain ⟨u, at2, rel⟩ := vals.get at1
  have below : j < L.length := (List.getElem?_eq_some_iff.mp at1).1
  have far := line63
  exact wpAny_getItem_list plain.isList (Int.natCast_nonneg j) (by omega) (by rw [Int.toNat_natCast, List.getElem?_toArray]; exact at2) ⟨v, H, I, rel, fin⟩

/-! ### enumerate(v) begins, v whatever has an iterator to begin with -/
abbrev enObj (tr : Addr) : Obj := { cls := .type "enumerate", data := .fields #[.none, .bool false, .ref tr, rawInt 0, .none, .none] }
theorem meets_enum_one {v : Value} {o : Obj} {Is : Heap → Prop} (B : Begins v o Is) :
    Meets (Builtin.«enumerate.__new__» ⟨[.type "enumerate", v], []⟩) (fun _ R s => Is s.heap ∧
      R (.ok (.ret (.ref (s.heap.push o).objs.size))) { s with heap := (s.heap.push o).push (enObj s.heap.objs.size) }) := by
  refine Meets.of_wp fun prog w A R s both => ?_
  obtain ⟨hp, gens, drawn, toks, os⟩ := s
  obtain ⟨is, goal⟩ := both
  have itself := sub_enumerate
  have begins : ∀ {A' : Around} {E : Value → Shared → Prop} {Q : Value → Shared → Prop}, Q (.ref hp.objs.size) ⟨hp.push o, gens, drawn, toks, os⟩ → wpAny (model prog w) A' (pyIter v) Q E ⟨hp, gens, drawn, toks, os⟩ :=
    fun h => B.iter prog w _ _ ⟨hp, gens, drawn, toks, os⟩ _ is h
  wp_walk using begins
  refine wpAny_stack_any fun _ => wpAny_pure ?_
  split
  · rename_i cls _ _ _ _ _
    by_cases own : (cls == Value.type "enumerate") = true
    · rw [own]
      wp_walk using begins
      exact ⟨_, rfl, goal⟩
    · rw [Bool.not_eq_true] at own
      rw [own]
      wp_walk using begins
      exact ⟨_, rfl, goal⟩
  · wp_walk using begins
    exact ⟨_, rfl, goal⟩
theorem call_enum_one {prog : Program} {w : World} {A : Around} {E : Value → Shared → Prop} {s : Shared} {v : Value} {o : Obj} {Is : Heap → Prop} {Q : Value → Shared → Prop} (B : Begins v o Is) (is : Is s.heap)
    (goal : ∀ h', IsEnum h' (s.heap.objs.size + 1) s.heap.objs.size 0 .none → h'.get? s.heap.objs.size = some o → (∀ c u, s.heap.get? c = some u → h'.get? c = some u) → Q (.ref (s.heap.objs.size + 1)) { s with heap := h' }) :
    wpAny (model prog w) A (call (.type "enumerate") [v]) Q E s := by
  have more : (s.heap.push o).objs.size = s.heap.objs.size + 1 := Heap.size_push ..
  have rec0 : IsEnum ((s.heap.push o).push (enObj s.heap.objs.size)) (s.heap.objs.size + 1) s.heap.objs.size 0 .none := more ▸ Heap.get?_push_size (s.heap.push o) (o := enObj s.heap.objs.size) rfl
  refine callType_new F.called_enumerate (by decide) (F.typeCall_enumerate_1 _) (F.newCall_enumerate_1 _) (fun x => F.args_object_init_2 x _) F.entry_enumerate_new (meets_enum_one B) ⟨is, ?_⟩
  show _ ∧ _
  rw [more]
  exact ⟨⟨_, rec0, rfl⟩, goal _ rec0 (Heap.get?_push_of_some _ (Heap.get?_push_size _ B.free)) fun c u z => Heap.get?_push_of_some _ (Heap.get?_push_of_some _ z)⟩

/-! ### the walk of enumerate over the tuple at a: the enumerate's record at en, the tuple's iterator at tr -/
def AtTurn (a en tr : Addr) (i : Nat) (h : Heap) : Prop := (∃ v, IsEnum h en tr ((i : Nat) : Int) v) ∧ h.IsTupleIter tr a i ∧ en ≠ tr
theorem two_of {c en tr : Addr} (h : c ∈ [en, tr]) : c = en ∨ c = tr := by simpa using h
theorem AtTurn.obj {a en tr : Addr} {i : Nat} {h : Heap} (T : AtTurn a en tr i h) : ∀ c ∈ [en, tr], ∃ u, h.get? c = some u ∧ ∀ v, u.data ≠ .cell v := fun c hc => by
  obtain ⟨⟨v, isE⟩, ⟨u, isU, _, dat⟩, _⟩ := T
  rcases two_of hc with rfl | rfl
  · exact ⟨_, isE, nofun⟩
  · refine ⟨u, isU, fun v z => ?_⟩
    rw [dat] at z
    cases z
theorem AtTurn.keep {a en tr : Addr} {i : Nat} {h h' : Heap} (T : AtTurn a en tr i h) (k : ∀ c ∈ [en, tr], ∀ u, h.get? c = some u → h'.get? c = some u) : AtTurn a en tr i h' :=
  ⟨⟨T.1.choose, k en (by simp) _ T.1.choose_spec⟩, T.2.1.at fun u z => k tr (by simp) u z, T.2.2⟩
theorem AtTurn.old {a en tr : Addr} {i : Nat} {h : Heap} (T : AtTurn a en tr i h) : ∀ c ∈ [en, tr], c < h.objs.size := fun c hc => by
  obtain ⟨u, isU, _⟩ := T.obj c hc
  exact Heap.lt_size isU
/-- the tuple at a, each item in a new pair -/
def IteT (K : PySem.W.Frag) (a : Addr) : It where
  go := fun i H => ∃ (L : List V) (x : V), SqT K H a L ∧ L[i]? = some x
  yld := fun i H v H' => ∃ T x, v = .ref T ∧ H T = none ∧ H' = upd H T (.tup [.int (i : Nat), x]) ∧ ∀ L, SqT K H a L → L[i]? = some x
  stop := fun i H => ∃ L : List V, SqT K H a L ∧ L.length = i
theorem draws_tup {X : Cx} {pins : List (Addr × Obj)} {σ : L2.St} {H : Hp} {s : Shared} (I : Inv X pins σ H s) (calm : X.calm = true) (tr a : Addr) (ne : a ≠ tr) (us : Array Value) :
    Draws X.prog X.w X.A.in1 tr [tr, a] us.size (fun i v => us[i]? = some v) (fun i h => h.IsTupleIter tr a i ∧ h.IsTuple a us) := Draws.tuple (show X.A.in1.handled = none from I.ok.hd calm) tr a ne us
theorem turn_enumT {P : Program} {w : World} {K : PySem.W.Frag} {elts : List Expr} {kk : Nat} {tpos : Pos} (a en tr : Addr) (ar : a ≠ tr) (ae : a ≠ en) : Turn P w K (.Tuple elts kk tpos) (IteT K a) [en, tr] en (AtTurn a en tr) where
  mem := List.mem_cons_self
  obj := fun _ _ T => T.obj
  keep := fun _ _ _ T => T.keep
  self := fun _ _ _ _ _ T fin => wpAny_pyIter_enum T.1.choose_spec fin
  item := by
    intro X eP ew eK calm i pins s σ H E I fp T go
    subst eP ew eK
    obtain ⟨L, x, sq, at1⟩ := go
    obtain ⟨us, vals, isT, _⟩ := I.tuple sq
    obtain ⟨u, at2, rel⟩ := vals.get at1
    have below : i < us.toArray.size := by
      have z := (List.getElem?_eq_some_iff.mp at2).1
      simpa using z
    have old := T.old
    obtain ⟨⟨before, isE⟩, isI, ne⟩ := T
    refine wpAny_pyNext_enum_itemD (draws_tup I calm tr a ar us.toArray) isE ⟨isI, isT⟩ below ne (fun z => (two_of z).elim ne fun z => ae z.symm) fun y h1 tk at3 out next isNew _ rest => ?_
    obtain rfl : y = u := by
      rw [List.getElem?_toArray, at2] at at3
      exact (Option.some.inj at3).symm
    refine ⟨_, rfl, wpAny_letOwnedTupleGo_enum (s := { s with heap := h1, toks := tk + 1 }) out fun h2 isE2 but => ?_⟩
    have eOld : en < s.heap.objs.size := old en (by simp)
    have pair : ObjOk X.prog X.w (upd H s.heap.objs.size (.tup [.int (i : Nat), x])) h2 s.heap.objs.size (.tup [.int (i : Nat), x]) := by
      refine ⟨by show 2 ≤ sizeLine; decide, [.int i tk, y], .cons ⟨_, rfl⟩ (.cons rel .nil), ⟨{ cls := .type "tuple", data := .seq #[.int i tk, y] }, ?_, rfl, _, rfl⟩⟩
      exact (but.2 _ (Nat.ne_of_gt eOld)).trans isNew
    have others : ∀ c o, c ∉ [en, tr] → s.heap.get? c = some o → h2.get? c = some o := fun c o no z => by
      have n1 : c ≠ en := fun q => no (by simp [q])
      have n2 : c ≠ tr := fun q => no (by simp [q])
      exact (but.2 c n1).trans (rest c o n1 n2 z)
    refine ⟨.ref s.heap.objs.size, _, I.turnedNew (t' := tk + 1) (ch := [en, tr]) others fp (Nat.le_refl _) pair, rfl, ?_, ⟨⟨y, ?_⟩, next.1.at fun o q => (but.2 tr ne.symm).trans q, ne⟩, fun c hc => ?_⟩
    · exact ⟨_, x, rfl, I.hok.fresh (Nat.le_refl _), rfl, fun L' sq' => I.tuple_inj sq sq' ▸ at1⟩
    · rw [Int.natCast_succ]
      exact isE2
    · rw [upd_ne (Nat.ne_of_lt (old c hc))]
      exact (fp c hc).1
  done := by
    intro X eP ew eK calm i pins s σ H E I fp T stop
    subst eP ew eK
    obtain ⟨L, sq, len⟩ := stop
    obtain ⟨us, vals, isT, _⟩ := I.tuple sq
    obtain ⟨⟨before, isE⟩, isI, ne⟩ := T
    have all : us.toArray.size = i := by
      rw [List.size_toArray, ← vals.length, len]
    obtain ⟨g0, g1, g2, g3, g4, g5⟩ := fp tr (by simp)
    exact wpAny_pyNext_enum_endD (draws_tup I calm tr a ar us.toArray) isE (all.symm ▸ ⟨isI, isT⟩) fun h1 ext => ⟨rfl, I.turned (t' := s.toks) (fun c o nc z => ext c o nc z) g0 g1 g3 g4 g5⟩
def iEnumT (K : PySem.W.Frag) (ta : TA) : TI := fun σ H R => ta σ H fun vs H1 => ∃ a L, vs = [.ref a] ∧ SqT K H1 a L ∧ R (IteT K a) H1
theorem pi_enumT {X : Cx} {e : Expr} {ta : TA} {p pos tpos : Pos} {elts : List Expr} {kk : Nat} (gl : Gl X "enumerate") (none_ : X.mg "enumerate" = none) (ha : PA X [e] ta) (plain : starEach [e] X.env = [(false, eval e X.env)] := by rfl) :
    PI X (.Tuple elts kk tpos) (.Call (.Name "enumerate" p) [e] [] pos) (iEnumT X.K ta) := ⟨fun pins s σ H R I want => by
  refine Call_ (ld_blt I gl none_ boot_enumerate (PyProof.Rows.callWith_type1 ?_ plain rfl))
  refine thn (ha.run pos pins s σ H _ I want) fun us s1 ⟨vs, H1, I1, rels, a, L, ev, sq, goal⟩ => ?_
  subst ev
  obtain ⟨u, rfl, rel⟩ := Vals.one rels
  cases rel
  obtain ⟨its, vals, isT, _⟩ := I1.tuple sq
  have old : a < s1.heap.objs.size := by
    obtain ⟨o, z, _⟩ := id isT
    exact Heap.lt_size z
  refine call_enum_one (begins_tuple a its.toArray) isT fun h' isE isI kept => wpAny_pyIter_enum isE ?_
  refine ⟨s1.heap.objs.size + 1, [s1.heap.objs.size + 1, s1.heap.objs.size], _, _, H1, rfl, I1.kept (t' := s1.toks) kept, turn_enumT a (s1.heap.objs.size + 1) s1.heap.objs.size (Nat.ne_of_lt old) (Nat.ne_of_lt (Nat.lt_succ_of_lt old)), ⟨⟨.none, isE⟩, ⟨_, isI, rfl, rfl⟩, Nat.succ_ne_self _⟩, fun c hc => ?_, goal⟩
  have new : s1.heap.objs.size ≤ c := by
    rcases two_of hc with q | q <;> rw [q]
    · exact Nat.le_succ _
    · exact Nat.le_refl _
  exact I1.fpOk new (I1.hok.fresh new)⟩
/-- .. for for_it -/
theorem walk_enumT {K : PySem.W.Frag} {a : Addr} {L : List V} : Walk (IteT K a) L.length (fun H => SqT K H a L) (YPair (fun i => some (.int (i : Nat))) (fun i => L[i]?)) where
  goes := fun i _ below sq => ⟨L, L[i], sq, List.getElem?_eq_getElem below⟩
  stops := fun _ sq => ⟨L, sq, rfl⟩
  yields := fun i _ _ _ _ sq ⟨T, x, ev, new, eH, told⟩ => ⟨T, .int (i : Nat), x, ev, new, eH, rfl, told L sq⟩
end E54
set_option maxHeartbeats 3000000
/-! a tuple times nought or one -/
namespace E54
open PySem PyProof.Rows L2
abbrev tupObj (dd : Option Addr) (us : Array Value) (n : Nat) (sl : Array (Option Value)) : Obj := { cls := .type "tuple", dict := dd, data := .seq us n, slots := sl }
theorem tuple_once (l : Addr) (us : Array Value) (n : Nat) (dd : Option Addr) (sl : Array (Option Value)) (tok : Tok) :
    Meets (Builtin.«tuple.__mul__» ⟨[.ref l, .int 1 tok], []⟩) (fun _ R s => s.heap.get? l = some (tupObj dd us n sl) ∧ R (.ok (.ret (.ref l))) s) := by
  refine Meets.of_wp fun prog w A R s both => ?_
  obtain ⟨hp, gens, drawn, toks, os⟩ := s
  obtain ⟨there, goal⟩ := both
  have index := AutoSeq1.idx_int
  have once : (us.isEmpty || (1 : Int) == 1) = true := by rw [Bool.or_eq_true]; exact .inr rfl
  wp_walk using AutoSeq1.wpAny_loadPart' there
  exact ⟨_, rfl, goal⟩
theorem tuple_never (l : Addr) (us : Array Value) (n : Nat) (dd : Option Addr) (sl : Array (Option Value)) (tok : Tok) (some_ : us.isEmpty = false) :
    Meets (Builtin.«tuple.__mul__» ⟨[.ref l, .int 0 tok], []⟩) (fun _ R s => s.heap.get? l = some (tupObj dd us n sl) ∧
      R (.ok (.ret (Value.ref s.heap.objs.size))) { s with heap := s.heap.push { cls := Value.type "tuple", data := Data.seq #[] } }) := by
  refine Meets.of_wp fun prog w A R s both => ?_
  obtain ⟨hp, gens, drawn, toks, os⟩ := s
  obtain ⟨there, goal⟩ := both
  have index := AutoSeq1.idx_int
  wp_walk using AutoSeq1.wpAny_loadPart' there
  exact ⟨_, rfl, goal⟩
/-- a product of the tuple at l by what k says, from what tuple.__mul__ does -/
theorem tuple_times {prog : Program} {w : World} {A : Around} {E : Value → Shared → Prop} {s : Shared} {l : Addr} {us : Array Value} {n : Nat} {dd : Option Addr} {sl : Array (Option Value)} {k : Int} {tok : Tok} {S : PySem.Spec} {Q : Value → Shared → Prop} (there : s.heap.get? l = some (tupObj dd us n sl))
    (does : Meets (Builtin.«tuple.__mul__» ⟨[.ref l, .int k tok], []⟩) S) (goal : ∀ A' : Around, S A' (wants Q E) s) : wpAny (model prog w) A (binaryOp .Mult (.ref l) (.int k tok)) Q E s := by
  have ty : s.TypeIs (.ref l) "tuple" := ⟨_, there, rfl⟩
  have first := int_rmul_tuple k tok l us n dd sl
  exact wpAny_binaryOp_repeat_ref (T := "tuple") (U := "int") (by decide) ty (fun s' => typeIs_int s' k tok) noFill_tuple_mul F.fills_int_mul F.slot_int_rmul repeat_tuple F.slot_int_index.lookup
    (call_meets F.slot_int_rmul (typeIs_int s k tok) F.entry_int_rmul (F.args_int_rmul_2 _ _) first ⟨there, rfl, ty, call_meets F.slot_tuple_mul ty F.entry_tuple_mul (F.args_tuple_mul_2 _ _) does (goal _)⟩)
/-- t * k, t not empty, k from nought on -/
def rRepA (K : PySem.W.Frag) : R2 := fun x y H Q => ∃ l k xs, x = .ref l ∧ y = .int k ∧ SqT K H l xs ∧ xs ≠ [] ∧ 0 ≤ k ∧ k ≤ 1000 ∧ xs.length ≤ 1000 ∧
  (k = 1 → Q (.ref l) H) ∧ (k ≠ 1 → ∀ p, H p = none → Q (.ref p) (upd H p (.tup (List.replicate k.toNat xs).flatten)))
theorem op_repA {X : Cx} : OpR X (binaryOp .Mult) (rRepA X.K) := fun pins s σ H x y v u Q I relX relY ⟨l, k, L, ex, ey, sq, full, from0, to, size, goal1, goal⟩ => by
  subst ex ey
  rcases (by omega : k = 0 ∨ k = 1 ∨ 2 ≤ k) with rfl | rfl | many
  · cases relX
    obtain ⟨tok, rfl⟩ := relY
    obtain ⟨us, vals, ⟨⟨cls, dd, data, sl⟩, there, isT, n, isS⟩, _⟩ := I.tuple sq
    simp only at isT isS
    subst isT isS
    have some_ : us.toArray.isEmpty = false := by
      cases vals with
      | nil => exact (full rfl).elim
      | cons _ _ => rfl
    refine tuple_times there (tuple_never l us.toArray n dd sl tok some_) fun _ => ⟨there, .ref s.heap.objs.size, _, I.laid (t' := s.toks) (o := .tup (List.replicate (Int.toNat 0) L).flatten) (fun c o z => Heap.get?_push_of_some _ z) (Nat.le_refl _) ?_, rfl, goal (by decide) _ (I.hok.fresh (Nat.le_refl _))⟩
    exact ⟨Nat.zero_le _, [], .nil, IsTup.new _ _⟩
  · cases relX
    obtain ⟨tok, rfl⟩ := relY
    obtain ⟨us, vals, ⟨⟨cls, dd, data, sl⟩, there, isT, n, isS⟩, _⟩ := I.tuple sq
    simp only at isT isS
    subst isT isS
    exact tuple_times there (tuple_once l us.toArray n dd sl tok) fun _ => ⟨there, .ref l, H, I, rfl, goal1 rfl⟩
  · exact op_repT pins s σ H _ _ v u Q I relX relY ⟨l, k, L, rfl, rfl, sq, full, many, to, size, goal (by omega)⟩
end E54
set_option maxHeartbeats 4000000
/-! the text, heaps, and the small defs: is_int, is_in, common_divisor, need_word, need_round -/
namespace E54
open PySem PySem.Spec PyProof.Rows L2
/-! ### the text -/
def top (i : Nat) : Stmt := PySem.Challenge.pw_echowords_k54_whole_unity.main.body.getD i (.Pass ⟨0, 0, 0, 0⟩)
abbrev sIsInt : Stmt := top 7
abbrev sIsIn : Stmt := top 8
abbrev sGcd : Stmt := top 9
abbrev sNeedWord : Stmt := top 10
abbrev sOver : Stmt := top 13
abbrev sCycOf : Stmt := top 14
abbrev sNeedRound : Stmt := top 15
abbrev sCyc : Stmt := top 16
abbrev sReduced : Stmt := top 17
abbrev sSums : Stmt := top 18
abbrev sNeedAt : Stmt := top 19
abbrev sValueAt : Stmt := top 20
abbrev sPlain : Stmt := top 21
abbrev sTurns : Stmt := top 22
abbrev sTaken : Stmt := top 24
abbrev sPick : Stmt := top 25
abbrev sAlike : Stmt := top 26
abbrev sLaw : Stmt := top 27
theorem scIsInt : FnScope ["value"] ["value"] (defScope sIsInt) := ⟨rfl, rfl, rfl, by decide +kernel, rfl, by decide +kernel, by decide +kernel⟩
theorem scIsIn : FnScope ["value", "least", "most"] ["value", "least", "most"] (defScope sIsIn) := ⟨rfl, rfl, rfl, by decide +kernel, rfl, by decide +kernel, by decide +kernel⟩
theorem scGcd : FnScope ["one", "other"] ["one", "other"] (defScope sGcd) := ⟨rfl, rfl, rfl, by decide +kernel, rfl, by decide +kernel, by decide +kernel⟩
theorem scNeedWord : FnScope ["value", "index", "entry"] ["value"] (defScope sNeedWord) := ⟨rfl, rfl, rfl, by decide +kernel, rfl, by decide +kernel, by decide +kernel⟩
theorem scNeedRound : FnScope ["value"] ["value"] (defScope sNeedRound) := ⟨rfl, rfl, rfl, by decide +kernel, rfl, by decide +kernel, by decide +kernel⟩
/-- the module's names that are asked -/
structure Nm (mg : Str → Option Value) : Prop where
  isi : mg "isinstance" = none
  int : mg "int" = none
  bool : mg "bool" = none
  tup : mg "tuple" = none
  lst : mg "list" = none
  len : mg "len" = none
  rng : mg "range" = none
  enu : mg "enumerate" = none
  str : mg "str" = none
  ml : ∃ t, mg "MOST_LENGTH" = some (.int 64 t)
  mr : ∃ t, mg "MOST_ROUND" = some (.int 64 t)
/-! ### heaps -/
theorem same_write {H H' : Hp} {p : Addr} {o : HO} (s : Same H H') (h : H p = none) : Same H (upd H' p o) := fun b x e => by
  rw [upd_ne (ne_of_none e h)]
  exact s b x e
theorem same_new {H H' : Hp} {p : Addr} {o : HO} (s : Same H H') (h : H' p = none) : Same H (upd H' p o) := same_write s (s.free h)
theorem same_one {H : Hp} {p : Addr} {o : HO} (h : H p = none) : Same H (upd H p o) := same_write (Same.refl H) h
theorem Same.seqT {K : PySem.W.Frag} {H H' : Hp} {a : Addr} {xs : List V} (e : Same H H') : SqT K H a xs → SqT K H' a xs
  | .inl (.inl h) => .inl (.inl (e a _ h))
  | .inl (.inr ⟨o, h⟩) => .inl (.inr ⟨o, e a _ h⟩)
  | .inr h => .inr h
theorem get_int {L : List Int} {j : Nat} (h : j < L.length) : (L.map V.int)[j]? = some (.int (L.getD j 0)) := by
  rw [List.getElem?_map, List.getD_eq_getElem?_getD, List.getElem?_eq_getElem h]
  rfl
theorem at_int {L : List Int} {j : Nat} {z : Int} (e : z = (j : Int)) (h : j < L.length) : atI (L.map V.int) z = some (.int (L.getD j 0)) := at_of e (get_int h)
theorem set_int {L : List Int} {j : Nat} {z : Int} : (L.map V.int).set j (.int z) = (L.set j z).map V.int := by
  rw [List.map_set]
theorem ixN_nat {n j : Nat} {z : Int} (e : z = (j : Int)) (h : j < n) : ixN n z = some j := by
  unfold ixN
  rw [if_pos (by omega), if_pos (by omega)]
  congr 1
  omega
theorem small_line {n : Nat} (h : n ≤ 1000) : n ≤ sizeLine := Nat.le_of_lt (small1000 h)
section
variable {P : Program} {w : World} {K : PySem.W.Frag} {mg : Str → Option Value} {base : Heap}
/-! ### is_int, is_in -/
def spIsInt : Sp := fun vs H Q _ => ∃ i : Int, vs = [.int i] ∧ Q (.bl true) H
theorem ok_is_int {f : Addr} {fd : FuncData} (F : Fun K "is_int" "is_int" sIsInt f fd) (N : Nm mg) : FnOk P w K mg base CX0 1 f fd ["value"] spIsInt := by
  refine F.ok scIsInt (fun vs H Q E h => ?_) (fun cdv A outer s H vs Q E hr h => ?_)
  · obtain ⟨i, rfl, _⟩ := h
    rfl
  · obtain ⟨i, rfl, q⟩ := h
    refine ⟨_, pss_one (ps_ret (pe_and (pe_callB call_isi (by rfl) N.isi (by decide +kernel) (pa_cons (pv 0) (pa_cons (pe_bltn (v := .ty "int") (by rfl) N.int PyProof.Rows.boot_int rfl) pa_nil)))
      (pe_one (pe_not (pe_callB call_isi (by rfl) N.isi (by decide +kernel) (pa_cons (pv 0) (pa_cons (pe_bltn (v := .ty "bool") (by rfl) N.bool PyProof.Rows.boot_bool rfl) pa_nil))))))), ?_⟩
    refine ⟨_, rfl, .int i, .ty "int", .type "int", .type "int", true, rfl, .ty "int", .base (.int i), kit_ty (by decide +kernel), true, rfl, iteT ?_⟩
    exact ⟨_, rfl, .int i, .ty "bool", .type "int", .type "bool", false, rfl, .ty "bool", .base (.int i), kit_ty (by decide +kernel), false, rfl, q⟩
def spIsIn : Sp := fun vs H Q _ => ∃ i lo hi : Int, vs = [.int i, .int lo, .int hi] ∧ lo ≤ i ∧ i ≤ hi ∧ Q (.bl true) H
theorem ok_is_in {f g : Addr} {fd gd : FuncData} (F : Fun K "is_in" "is_in" sIsIn f fd) (FI : Fun K "is_int" "is_int" sIsInt g gd) (bI : Binds K gd ["value"] []) (mI : mg "is_int" = some (.ref g)) (N : Nm mg) : FnOk P w K mg base CX0 2 f fd ["value", "least", "most"] spIsIn := by
  have GI : FnOk P w K mg base CX0 1 g gd ["value"] spIsInt := ok_is_int FI N
  refine F.ok scIsIn (fun vs H Q E h => ?_) (fun cdv A outer s H vs Q E hr h => ?_)
  · obtain ⟨i, lo, hi, rfl, _⟩ := h
    rfl
  · obtain ⟨i, lo, hi, rfl, h1, h2, q⟩ := h
    refine ⟨_, pss_one (ps_ret (pe_and (pe_call GI hr (by rfl) mI FI.kp bI .nil pass0 (pa_cons (pv 0) pa_nil)) (pe_one (pe_chain op_le op_le (pv 1) (pv 0) (pv 2))))), ?_⟩
    refine ⟨_, rfl, i, rfl, true, rfl, iteT ?_⟩
    refine ⟨_, rfl, _, rfl, lo, i, rfl, rfl, true, ?_, iteT ?_⟩
    · exact congrArg V.bl (decide_eq_true h1)
    · refine ⟨_, rfl, i, hi, rfl, rfl, ?_⟩
      show Q (V.bl (decide (i ≤ hi))) H
      rw [decide_eq_true h2]
      exact q
/-! ### common_divisor -/
def spGcd : Sp := fun vs H Q _ => ∃ a b : Nat, vs = [.int (a : Int), .int (b : Int)] ∧ Q (.int (Nat.gcd a b : Nat)) H
theorem ok_gcd {f : Addr} {fd : FuncData} (F : Fun K "common_divisor" "common_divisor" sGcd f fd) : FnOk P w K mg base CX0 1 f fd ["one", "other"] spGcd := by
  refine F.ok scGcd (fun vs H Q E h => ?_) (fun cdv A outer s H vs Q E hr h => ?_)
  · obtain ⟨a, b, rfl, _⟩ := h
    rfl
  · obtain ⟨a, b, rfl, q⟩ := h
    refine ⟨_, pss_cons (ps_while PassesOwn.never (pt_cmpR op_ne (pv 1) pe_int (nomark _))
        (pss_one (ps_par (i := 0) (j := 1) rfl scGcd.nd rfl rfl (by decide) rfl rfl (pa_cons (pv 1) (pa_cons (pe_op op_mod (pv 0) (pv 1)) pa_nil)) (by rfl))))
      (pss_one (ps_ret (pv 0))), ?_⟩
    refine ⟨fun m σ H1 => ∃ c : Nat, σ = [some (.int (c : Int)), some (.int (m : Int))] ∧ Nat.gcd c m = Nat.gcd a b ∧ H1 = H, ⟨b, a, rfl, rfl, rfl⟩, ?_⟩
    rintro m σ H1 ⟨c, rfl, e, rfl⟩
    refine ⟨_, rfl, rfl, _, rfl, ?_⟩
    by_cases hm : m = 0
    · subst hm
      refine iteF ?_
      refine ⟨_, rfl, ?_⟩
      rw [Nat.gcd_zero_right] at e
      rw [e]
      exact q
    · have hd : (!decide (V.int (m : Int) = V.int 0)) = true := by
        rw [decide_eq_false (fun z => hm (by injection z with z; omega))]
        rfl
      rw [hd]
      refine iteT ⟨fun σ' H' => ∃ m', m' < m ∧ ∃ c : Nat, σ' = [some (.int (c : Int)), some (.int (m' : Int))] ∧ Nat.gcd c m' = Nat.gcd a b ∧ H' = H1, fun σ' H' h => h, ?_⟩
      refine ⟨_, rfl, _, rfl, _, rfl, _, _, rfl, rfl, by omega, _, _, rfl, ?_⟩
      refine ⟨c % m, Nat.mod_lt _ (by omega), m, ?_, ?_, rfl⟩
      · rw [Int.natCast_emod]
        rfl
      · rw [← e, Nat.gcd_comm, ← Nat.gcd_rec, Nat.gcd_comm]
/-! ### need_word, need_round -/
def spNeedWord : Sp := fun vs H Q _ => ∃ (a : Addr) (ns : List Int), vs = [.ref a] ∧ H a = some (.tup (ns.map V.int)) ∧ 1 ≤ ns.length ∧ ns.length ≤ 64 ∧ (∀ n ∈ ns, -1 ≤ n ∧ n ≤ 1) ∧ ∀ H', Same H H' → Q .non H'
theorem ok_need_word {f g : Addr} {fd gd : FuncData} (F : Fun K "need_word" "need_word" sNeedWord f fd) (GI : FnOk P w K mg base CX0 2 g gd ["value", "least", "most"] spIsIn) (bI : Binds K gd ["value", "least", "most"] []) (kI : PySem.W.keepIn K (.ref g) = true) (mI : mg "is_in" = some (.ref g)) (N : Nm mg) :
    FnOk P w K mg base CX0 3 f fd ["value"] spNeedWord := by
  refine F.ok scNeedWord (fun vs H Q E h => ?_) (fun cdv A outer s H vs Q E hr h => ?_)
  · obtain ⟨a, ns, rfl, _⟩ := h
    rfl
  · obtain ⟨a, ns, rfl, hA, h1, h2, hb, q⟩ := h
    obtain ⟨tl, hml⟩ := N.ml
    refine ⟨_, pss_cons (ps_if (PW.pt (pw_or (pt_not (pt_val (pe_callB call_isi (by rfl) N.isi (by decide +kernel) (pa_cons (pv 0) (pa_cons (pe_bltn (v := .ty "tuple") (by rfl) N.tup PyProof.Rows.boot_tuple rfl) pa_nil)))))
          (pw_or1 (pt_not (pt_chain op_le op_le pe_int (pe_callB call_len_seq (by rfl) N.len PySem.boot_len (pa_cons (pv 0) pa_nil)) (pe_glob (v := .int 64) (by rfl) hml ⟨_, rfl⟩)))))) pss_never pss_nil)
      (pss_one (ps_for PassesOwn.never rfl (pi_enumT (by rfl) N.enu (pa_cons (pv 0) pa_nil))
        (pg_tup rfl (pgs_cons (pg_name (i := 1) scNeedWord.nd rfl (.inl rfl)) (pgs_cons (pg_name (i := 2) scNeedWord.nd rfl (.inl rfl)) pgs_nil)))
        (pss_one (ps_if (pt_not (pt_val (pe_call GI hr (by rfl) mI kI bI .nil pass0 (pa_cons (pv 2) (pa_cons (pe_un un_neg pe_int) (pa_cons pe_int pa_nil)))))) pss_never pss_nil)))), ?_⟩
    refine ⟨_, rfl, .ref a, .ty "tuple", .type "tuple", .type "tuple", true, rfl, .ty "tuple", .base (.tup hA), kit_ty (by decide +kernel), true, rfl, iteF ?_⟩
    refine ⟨_, rfl, a, _, rfl, .inr (SqT.of hA), 1, _, rfl, rfl, true, ?_, iteT ?_⟩
    · rw [List.length_map]
      exact congrArg V.bl (decide_eq_true (by omega))
    refine ⟨_, _, rfl, rfl, true, ?_, iteF ?_⟩
    · rw [List.length_map]
      exact congrArg V.bl (decide_eq_true (by omega))
    refine ⟨_, rfl, a, _, rfl, SqT.of hA, ?_⟩
    refine for_it (walk_enumT (K := K) (a := a) (L := ns.map V.int)) (fun i σ H1 => ∃ y1 y2, σ = [some (.ref a), y1, y2] ∧ Same H H1) ⟨none, none, rfl, Same.refl H⟩ (fun i σ H1 _ ⟨_, _, _, s1⟩ => Same.seqT s1 (SqT.of hA)) ?_ (fun σ H1 ⟨_, _, _, s1⟩ => q H1 s1)
    rintro i x σ H1 H2 hi ⟨y1, y2, rfl, s1⟩ ⟨T, x1, x2, rfl, nT, rfl, e1, e2⟩
    rw [List.length_map] at hi
    cases Option.some.inj e1
    cases Option.some.inj ((get_int hi).symm.trans e2)
    have hm : -1 ≤ ns.getD i 0 ∧ ns.getD i 0 ≤ 1 := by
      have e : ns.getD i 0 = ns[i] := by
        rw [List.getD_eq_getElem?_getD, List.getElem?_eq_getElem hi]
        rfl
      rw [e]
      exact hb _ (List.getElem_mem hi)
    refine ⟨T, _, rfl, .inl (.inl upd_same), rfl, _, _, rfl, _, _, rfl, rfl, ?_⟩
    refine ⟨_, rfl, _, rfl, _, _, _, rfl, hm.1, hm.2, true, rfl, iteF ?_⟩
    exact ⟨_, _, rfl, same_new s1 nT⟩
def spNeedRound : Sp := fun vs H Q _ => ∃ i : Int, vs = [.int i] ∧ 1 ≤ i ∧ i ≤ 64 ∧ Q .non H
theorem ok_need_round {f g : Addr} {fd gd : FuncData} (F : Fun K "need_round" "need_round" sNeedRound f fd) (GI : FnOk P w K mg base CX0 2 g gd ["value", "least", "most"] spIsIn) (bI : Binds K gd ["value", "least", "most"] []) (kI : PySem.W.keepIn K (.ref g) = true) (mI : mg "is_in" = some (.ref g)) (N : Nm mg) :
    FnOk P w K mg base CX0 3 f fd ["value"] spNeedRound := by
  refine F.ok scNeedRound (fun vs H Q E h => ?_) (fun cdv A outer s H vs Q E hr h => ?_)
  · obtain ⟨i, rfl, _⟩ := h
    rfl
  · obtain ⟨i, rfl, h1, h2, q⟩ := h
    obtain ⟨tl, hmr⟩ := N.mr
    refine ⟨_, pss_one (ps_if (pt_not (pt_val (pe_call GI hr (by rfl) mI kI bI .nil pass0 (pa_cons (pv 0) (pa_cons pe_int (pa_cons (pe_glob (v := .int 64) (by rfl) hmr ⟨_, rfl⟩) pa_nil)))))) pss_never pss_nil), ?_⟩
    exact ⟨_, rfl, _, _, _, rfl, h1, h2, true, rfl, iteF q⟩
end
end E54
set_option maxHeartbeats 4000000
/-! over: the quotient of polynomials -/
namespace E54
open PySem PySem.Spec PyProof.Rows L2
theorem scOver : FnScope ["one", "other", "left", "found", "at", "more", "part"] ["one", "other"] (defScope sOver) := ⟨rfl, rfl, rfl, by decide +kernel, rfl, by decide +kernel, by decide +kernel⟩
theorem rep_int (k : Nat) (z : Int) : (List.replicate k [V.int z]).flatten = (List.replicate k z).map V.int := by
  induction k with
  | zero => rfl
  | succ k ih =>
    rw [List.replicate_succ, List.flatten_cons, ih, List.replicate_succ, List.map_cons]
    rfl
theorem getD_set {F : List Int} {k : Nat} {c : Int} (h : k < F.length) : (F.set k c).getD k 0 = c := by
  rw [List.getD_eq_getElem?_getD, List.getElem?_set_self h]
  rfl
theorem bound2 {j : Int} (h : -2 ≤ j ∧ j ≤ 2) {i : Int} : CMul i j := .inr ⟨by omega, by omega⟩
theorem ne_new {H : Hp} {a p : Addr} {o : HO} (n : H p = none) (h : H a = some o) : p ≠ a := fun e => by
  rw [e, h] at n
  cases n
theorem rg_down {n : Nat} (h : n ≤ 1000) : RgC ((n : Int) - 1) (-1) (-1) n := by
  have q := RgC.neg (i := (n : Int) - 1) (j := -1) (by omega) (by omega) (by omega) (by omega)
  rw [show ((n : Int) - 1 - -1).toNat = n by omega] at q
  exact q
section
variable {P : Program} {w : World} {K : PySem.W.Frag} {mg : Str → Option Value} {base : Heap}
def spOver : Sp := fun vs H Q _ => ∃ (a b : Addr) (xs ys : List Int), vs = [.ref a, .ref b] ∧ H a = some (.lst (xs.map V.int)) ∧ H b = some (.lst (ys.map V.int)) ∧ 1 ≤ ys.length ∧ ys.length ≤ xs.length ∧ xs.length ≤ 100 ∧
  (∀ j, -2 ≤ ys.getD j 0 ∧ ys.getD j 0 ≤ 2) ∧ ∀ H' p, Same H H' → H p = none → H' p = some (.lst ((overF xs ys).map V.int)) → Q (.ref p) H'
theorem ok_over {f : Addr} {fd : FuncData} (F : Fun K "over" "over" sOver f fd) (N : Nm mg) : FnOk P w K mg base CX0 1 f fd ["one", "other"] spOver := by
  refine F.ok scOver (fun vs H Q E h => ?_) (fun cdv A outer s H vs Q E hr h => ?_)
  · obtain ⟨a, b, xs, ys, rfl, _⟩ := h
    rfl
  obtain ⟨a, b, xs, ys, rfl, hA, hB, h1, h2, h3, hy, q⟩ := h
  refine ⟨_, pss_cons (ps_par (i := 2) (j := 3) rfl scOver.nd rfl rfl (by decide) rfl rfl
        (pa_cons (pe_callTy call_list_of (by rfl) N.lst PyProof.Rows.boot_list (pa_cons (pv 0) pa_nil))
          (pa_cons (pe_op op_rep (pe_lst (pa_cons pe_int pa_nil)) (pe_op op_add (pe_op op_sub (pe_callB call_len_seq (by rfl) N.len PySem.boot_len (pa_cons (pv 0) pa_nil)) (pe_callB call_len_seq (by rfl) N.len PySem.boot_len (pa_cons (pv 1) pa_nil))) pe_int)) pa_nil)) (by rfl))
    (pss_cons (ps_for PassesOwn.never rfl (pi_range3 (by rfl) N.rng (pa_cons (pe_op op_sub (pe_callB call_len_seq (by rfl) N.len PySem.boot_len (pa_cons (pv 3) pa_nil)) pe_int) (pa_cons (pe_un un_neg pe_int) (pa_cons (pe_un un_neg pe_int) pa_nil))))
        (pg_name (i := 4) scOver.nd rfl (.inl rfl))
        (pss_cons (ps_asg (pe_ix ix_list (pv 2) (pe_op op_sub (pe_op op_add (pv 4) (pe_callB call_len_seq (by rfl) N.len PySem.boot_len (pa_cons (pv 1) pa_nil))) pe_int) (fun _ _ => rfl)) (pg_sub (pv 3) (pv 4) set_list))
          (pss_one (ps_for PassesOwn.never rfl (pi_enum (by rfl) N.enu (pa_cons (pv 1) pa_nil))
            (pg_tup rfl (pgs_cons (pg_name (i := 5) scOver.nd rfl (.inl rfl)) (pgs_cons (pg_name (i := 6) scOver.nd rfl (.inl rfl)) pgs_nil)))
            (pss_one (ps_augS (pv 2) (pe_op op_add (pv 4) (pv 5)) get_list (pe_op op_mul (pe_ix ix_list (pv 3) (pv 4) (fun _ _ => rfl)) (pv 6)) ip_sub set_list))))))
    (pss_one (ps_ret (pv 3)))), ?_⟩
  -- left, found = list(one), [0] * ..
  refine ⟨.ref a, rfl, a, _, rfl, .inl (SqL.of hA), fun l nl => ?_⟩
  refine ⟨by show 1 ≤ sizeLine; decide, fun z nz => ?_⟩
  have s1 : Same H (upd H l (.lst (xs.map V.int))) := same_one nl
  have s2 : Same H (upd (upd H l (.lst (xs.map V.int))) z (.lst [V.int 0])) := same_new s1 nz
  refine ⟨.ref a, rfl, a, _, rfl, .inl (SqL.of (s2 _ _ hA)), .ref b, rfl, b, _, rfl, .inl (SqL.of (s2 _ _ hB)), _, _, rfl, rfl, _, _, rfl, rfl, z, ((xs.length - ys.length + 1 : Nat) : Int), _, rfl, ?_, upd_same, by omega, by omega, ?_, fun fo nfo => ?_⟩
  · rw [List.length_map, List.length_map]
    refine congrArg V.int ?_
    omega
  · refine small_line ?_
    show 1 * _ ≤ 1000
    omega
  rw [rep_int, Int.toNat_natCast]
  generalize hn : xs.length - ys.length + 1 = n at *
  have s3 := same_new (o := .lst ((List.replicate n 0).map V.int)) s2 nfo
  have lfo : l ≠ fo := fun e => by
    rw [← e] at nfo
    by_cases hz : l = z
    · rw [hz, upd_same] at nfo
      cases nfo
    · rw [upd_ne hz, upd_same] at nfo
      cases nfo
  have lz : l ≠ z := fun e => by
    rw [← e, upd_same] at nz
    cases nz
  have nfoH : H fo = none := s2.free nfo
  have hl0 : (upd (upd (upd H l (.lst (xs.map V.int))) z (.lst [V.int 0])) fo (.lst ((List.replicate n 0).map V.int))) l = some (.lst (xs.map V.int)) := by
    rw [upd_ne lfo, upd_ne lz, upd_same]
  refine ⟨_, _, rfl, ?_⟩
  -- for at in range(len(found) - 1, -1, -1)
  refine ⟨_, rfl, fo, _, rfl, .inl (SqL.of upd_same), _, _, rfl, rfl, _, rfl, _, rfl, ((n : Nat) : Int) - 1, -1, -1, n, ?_, ?_, ?_⟩
  · exact congrArg (fun z : Nat => [V.int ((z : Int) - 1), V.int (-1), V.int (-1)]) (by rw [List.length_map, List.length_replicate])
  · exact rg_down (by omega)
  refine for_rangeC (lo := ((n : Nat) : Int) - 1) (c := -1) (n := n) (fun i σ H1 => ∃ (L G : List Int) (y4 y5 y6 : Option V), σ = [some (.ref a), some (.ref b), some (.ref l), some (.ref fo), y4, y5, y6] ∧ Same H H1 ∧
      H1 l = some (.lst (L.map V.int)) ∧ H1 fo = some (.lst (G.map V.int)) ∧ L.length = xs.length ∧ G.length = n ∧ overLoop ys (n - i) (L, G) = overLoop ys n (xs, List.replicate n 0))
    ⟨xs, List.replicate n 0, none, none, none, rfl, s3, hl0, upd_same, rfl, List.length_replicate, rfl⟩ ?_ ?_
  · rintro i σ H1 hi ⟨L, G, y4, y5, y6, rfl, sm, hL, hG, eL, eG, eO⟩
    obtain ⟨k, hk⟩ : ∃ k : Nat, n - i = k + 1 := ⟨n - i - 1, by omega⟩
    have hz : ((n : Nat) : Int) - 1 + (i : Nat) * (-1) = (k : Int) := by omega
    rw [hz]
    have hkl : k + ys.length - 1 < L.length := by omega
    generalize hc : L.getD (k + ys.length - 1) 0 = c at *
    -- found[at] = left[at + len(other) - 1]
    refine ⟨_, rfl, _, rfl, .ref b, rfl, b, _, rfl, .inl (SqL.of (sm _ _ hB)), _, _, rfl, rfl, _, _, rfl, rfl, l, _, _, _, rfl, rfl, SqL.of hL, at_int (j := k + ys.length - 1) (by rw [List.length_map]; omega) hkl, ?_⟩
    rw [hc]
    refine ⟨_, rfl, _, rfl, fo, _, _, k, rfl, rfl, hG, ixN_nat rfl (by rw [List.length_map]; omega), ?_⟩
    rw [set_int]
    have sm2 : Same H (upd H1 fo (.lst ((G.set k c).map V.int))) := same_write sm nfoH
    -- for more, part in enumerate(other)
    refine ⟨_, rfl, b, _, rfl, SqL.of (sm2 _ _ hB), ?_⟩
    refine for_it (walk_enum (K := K) (a := b) (xs := ys.map V.int)) (fun m σ H3 => ∃ y5 y6, σ = [some (.ref a), some (.ref b), some (.ref l), some (.ref fo), some (.int (k : Int)), y5, y6] ∧ Same H H3 ∧
        H3 l = some (.lst ((subAt L k (ys.take m) c).map V.int)) ∧ H3 fo = some (.lst ((G.set k c).map V.int)))
      ⟨y5, y6, rfl, sm2, by rw [upd_ne lfo, List.take_zero, subAt_nil]; exact hL, upd_same⟩ (fun m σ H3 _ ⟨_, _, _, s4, _⟩ => SqL.of (s4 _ _ hB)) ?_ ?_
    · rintro m x σ H3 H4 hm ⟨z5, z6, rfl, s4, hL3, hG3⟩ ⟨T, x1, x2, rfl, nT, rfl, e1, e2⟩
      rw [List.length_map] at hm
      cases Option.some.inj e1
      cases Option.some.inj ((get_int hm).symm.trans e2)
      have s5 : Same H3 (upd H3 T (.tup [.int (m : Nat), .int (ys.getD m 0)])) := same_one nT
      have hkm : k + m < (subAt L k (ys.take m) c).length := by
        rw [subAt_len]
        omega
      refine ⟨T, _, rfl, .inl (.inl upd_same), rfl, _, _, rfl, _, _, rfl, rfl, ?_⟩
      -- left[at + more] -= found[at] * part
      refine ⟨_, rfl, _, rfl, _, rfl, _, _, rfl, rfl, l, _, _, k + m, _, rfl, rfl, rfl, SqL.of (s5 _ _ hL3), get_int hkm, ?_⟩
      refine ⟨_, rfl, _, rfl, fo, _, _, _, rfl, rfl, SqL.of (s5 _ _ hG3), at_int (j := k) rfl (by rw [List.length_set]; omega), _, rfl, _, _, rfl, rfl, bound2 (hy m), _, _, rfl, rfl, ?_⟩
      refine ⟨l, _, _, k + m, rfl, rfl, s5 _ _ hL3, ixN_nat rfl (by rw [List.length_map]; exact hkm), ?_⟩
      rw [set_int, getD_set (by omega), ← subAt_step L ys k c m (by omega) hm]
      refine ⟨_, _, rfl, same_write (s4.trans s5) nl, upd_same, ?_⟩
      rw [upd_ne lfo.symm]
      exact s5 _ _ hG3
    · rintro σ H3 ⟨z5, z6, rfl, s4, hL3, hG3⟩
      rw [List.length_map, List.take_length] at hL3
      refine ⟨_, _, _, _, _, rfl, s4, hL3, hG3, by rw [subAt_len]; exact eL, by rw [List.length_set]; exact eG, ?_⟩
      rw [← eO, hk, show n - (i + 1) = k by omega, ← hc]
      rfl
  · rintro σ H1 ⟨L, G, y4, y5, y6, rfl, sm, hL, hG, eL, eG, eO⟩
    rw [Nat.sub_self] at eO
    have e : G = overF xs ys := by
      unfold overF
      rw [hn, ← eO]
      rfl
    refine ⟨_, rfl, q H1 fo sm nfoH ?_⟩
    rw [← e]
    exact hG
end
end E54
set_option maxHeartbeats 4000000
/-! cyclotomic_of, cyclotomic -/
namespace E54
open PySem PySem.Spec PyProof.Rows L2
theorem scCycOf : FnScope ["number", "found", "part"] ["number"] (defScope sCycOf) := ⟨rfl, rfl, rfl, by decide +kernel, rfl, by decide +kernel, by decide +kernel⟩
theorem scCyc : FnScope ["number"] ["number"] (defScope sCyc) := ⟨rfl, rfl, rfl, by decide +kernel, rfl, by decide +kernel, by decide +kernel⟩
/-- a def of the text at its place -/
structure Df (K : PySem.W.Frag) (mg : Str → Option Value) (x : Str) (st : Stmt) (ps : List Str) (f : Addr) (fd : FuncData) : Prop where
  fn : Fun K x x st f fd
  b : Binds K fd ps []
  m : mg x = some (.ref f)
theorem mod_iff {n i : Nat} : ((n : Int) % (1 + (i : Int)) = 0) ↔ n % (i + 1) = 0 := by
  have e : (1 : Int) + (i : Int) = ((i + 1 : Nat) : Int) := by omega
  rw [e, ← Int.natCast_emod]
  omega
theorem half_of {n i m : Nat} (h : n % (i + 1) = 0) (hi : i + 1 < n) (hn : n < 2 ^ (m + 1)) : i + 1 < 2 ^ m := by
  have e := Nat.div_add_mod n (i + 1)
  rw [h, Nat.add_zero] at e
  generalize n / (i + 1) = q at e
  have hq : 2 ≤ q := by
    match q, e with
    | 0, e =>
      rw [Nat.mul_zero] at e
      omega
    | 1, e =>
      rw [Nat.mul_one] at e
      omega
    | q + 2, _ => exact Nat.le_add_left 2 q
  have h2 : (i + 1) * 2 ≤ (i + 1) * q := Nat.mul_le_mul_left _ hq
  rw [e] at h2
  rw [Nat.pow_succ] at hn
  omega
theorem base_len (n : Nat) (h : 1 ≤ n) : (base n).length = n + 1 := by
  unfold base
  rw [List.length_cons, List.length_append, List.length_replicate]
  show n - 1 + 1 + 1 = n + 1
  omega
theorem base_map (n : Nat) : [V.int (-1)] ++ (List.replicate (n - 1) [V.int 0]).flatten ++ [V.int 1] = (base n).map V.int := by
  rw [rep_int]
  unfold base
  rw [List.map_cons, List.map_append]
  rfl
section
variable {P : Program} {w : World} {K : PySem.W.Frag} {mg : Str → Option Value} {base0 : Heap}
def spCycOf (m : Nat) : Sp := fun vs H Q _ => ∃ n : Nat, vs = [.int (n : Int)] ∧ 1 ≤ n ∧ n < 2 ^ m ∧ n ≤ 64 ∧ ∀ H' p, Same H H' → H p = none → H' p = some (.lst ((cyc n).map V.int)) → Q (.ref p) H'
theorem cyc_none {f : Addr} {fd : FuncData} : FnOk P w K mg base0 CX0 1 f fd ["number"] (spCycOf 0) := by
  have no : ∀ vs H Q E, ¬ spCycOf 0 vs H Q E := fun vs H Q E h => by
    obtain ⟨n, _, h1, h2, _⟩ := h
    omega
  exact ⟨fun vs H Q E h => absurd h (no vs H Q E), fun A outer s H args us vs Q E _ _ _ _ h => absurd h (no vs H Q E)⟩
theorem ok_cyc_of {f g : Addr} {fd gd : FuncData} {m : Nat} (D : Df K mg "cyclotomic_of" sCycOf ["number"] f fd) (O : Df K mg "over" sOver ["one", "other"] g gd) (N : Nm mg)
    (G : FnOk P w K mg base0 CX0 (m + 1) f fd ["number"] (spCycOf m)) : FnOk P w K mg base0 CX0 (m + 2) f fd ["number"] (spCycOf (m + 1)) := by
  have GO : FnOk P w K mg base0 CX0 1 g gd ["one", "other"] spOver := ok_over O.fn N
  refine D.fn.ok scCycOf (fun vs H Q E h => ?_) (fun cdv A outer s H vs Q E hr h => ?_)
  · obtain ⟨n, rfl, _⟩ := h
    rfl
  obtain ⟨n, rfl, h1, hm, h64, q⟩ := h
  refine ⟨_, pss_cons (ps_set (i := 1) scCycOf.nd rfl (.inl rfl) (pe_op op_cat (pe_op op_cat (pe_lst (pa_cons (pe_un un_neg pe_int) pa_nil)) (pe_op op_rep (pe_lst (pa_cons pe_int pa_nil)) (pe_op op_sub (pv 0) pe_int))) (pe_lst (pa_cons pe_int pa_nil))))
    (pss_cons (ps_for PassesOwn.never rfl (pi_range2 (by rfl) N.rng (pa_cons pe_int (pa_cons (pv 0) pa_nil))) (pg_name (i := 2) scCycOf.nd rfl (.inl rfl))
      (pss_one (ps_if (pt_cmpR op_eq (pe_op op_mod (pv 0) (pv 2)) pe_int (nomark _))
        (pss_one (ps_set (i := 1) scCycOf.nd rfl (.inl rfl) (pe_call GO (hr.mono (by omega)) (by rfl) O.m O.fn.kp O.b .nil pass0
          (pa_cons (pv 1) (pa_cons (pe_call G hr (by rfl) D.m D.fn.kp D.b .nil pass0 (pa_cons (pv 2) pa_nil)) pa_nil))))) pss_nil)))
    (pss_one (ps_ret (pv 1)))), ?_⟩
  -- found = [-1] + [0] * (number - 1) + [1]
  refine ⟨1, rfl, by show 1 ≤ sizeLine; decide, fun a na => ?_⟩
  refine ⟨by show 1 ≤ sizeLine; decide, fun b nb => ?_⟩
  have s1 : Same H (upd H a (.lst [V.int (-1)])) := same_one na
  have s2 := same_new (o := .lst [V.int 0]) s1 nb
  refine ⟨_, rfl, _, _, rfl, rfl, b, ((n - 1 : Nat) : Int), _, rfl, ?_, upd_same, by omega, by omega, ?_, fun c nc => ?_⟩
  · exact congrArg V.int (by omega)
  · refine small_line ?_
    show 1 * _ ≤ 1000
    omega
  rw [Int.toNat_natCast]
  have s3 := same_new (o := .lst (List.replicate (n - 1) [V.int 0]).flatten) s2 nc
  have ab : a ≠ b := fun e => by
    rw [← e, upd_same] at nb
    cases nb
  have ac : a ≠ c := fun e => by
    rw [← e, upd_ne ab, upd_same] at nc
    cases nc
  have rl : (List.replicate (n - 1) [V.int 0]).flatten.length = n - 1 := by
    rw [rep_int, List.length_map, List.length_replicate]
  refine ⟨a, c, _, _, rfl, rfl, Eq.trans (upd_ne ac) (Eq.trans (upd_ne ab) upd_same), upd_same, ?_, fun d nd => ?_⟩
  · rw [rl]
    refine small_line ?_
    show 1 + _ ≤ 1000
    omega
  have s4 := same_new (o := .lst ([V.int (-1)] ++ (List.replicate (n - 1) [V.int 0]).flatten)) s3 nd
  refine ⟨by show 1 ≤ sizeLine; decide, fun e ne => ?_⟩
  have s5 := same_new (o := .lst [V.int 1]) s4 ne
  have de : d ≠ e := fun z => by
    rw [← z, upd_same] at ne
    cases ne
  refine ⟨d, e, _, _, rfl, rfl, Eq.trans (upd_ne de) upd_same, upd_same, ?_, fun p np => ?_⟩
  · rw [List.length_append, rl]
    refine small_line ?_
    show 1 + _ + 1 ≤ 1000
    omega
  rw [base_map]
  have s6 := same_new (o := .lst ((base n).map V.int)) s5 np
  have npH : H p = none := s5.free np
  -- the loop
  refine ⟨_, rfl, 1, (n : Int), rfl, ⟨by omega, by omega, by omega, by omega⟩, ?_⟩
  refine for_range (lo := 1) (n := ((n : Int) - 1).toNat) (fun i σ H1 => ∃ (L : List Int) (p : Addr) (y2 : Option V), σ = [some (.int (n : Int)), some (.ref p), y2] ∧ Same H H1 ∧ H p = none ∧ H1 p = some (.lst (L.map V.int)) ∧ chainOk n (n - 1 - i) i L = true)
    ⟨base n, p, none, rfl, s6, npH, upd_same, chain_start h1 h64⟩ ?_ ?_
  · rintro i σ H1 hi ⟨L, p, y2, rfl, sm, np, hp, ok⟩
    refine ⟨_, rfl, _, rfl, _, _, rfl, rfl, by omega, rfl, _, rfl, ?_⟩
    obtain ⟨k, hk⟩ : ∃ k : Nat, n - 1 - i = k + 1 := ⟨n - 1 - i - 1, by omega⟩
    rw [hk] at ok
    have hk' : n - 1 - (i + 1) = k := by omega
    by_cases hd : n % (i + 1) = 0
    · rw [decide_eq_true (congrArg V.int (mod_iff.mpr hd))]
      obtain ⟨c1, c2, c3, c4⟩ := chain_yes ok hd
      have hi64 : i + 1 ≤ 64 := by omega
      refine iteT ?_
      refine ⟨_, rfl, _, rfl, i + 1, congrArg (fun z => [V.int z]) (by omega), by omega, half_of hd (by omega) hm, hi64, fun H2 p2 s2 n2 e2 => ?_⟩
      refine ⟨p, p2, L, cyc (i + 1), rfl, s2 _ _ hp, e2, c1, c2, by omega, fun j => cyc_at (by omega) hi64, fun H3 p3 s3 n3 e3 => ?_⟩
      refine ⟨_, p3, _, rfl, sm.trans (s2.trans s3), sm.free (s2.free n3), e3, ?_⟩
      rw [hk']
      exact c4
    · rw [decide_eq_false (fun z => hd (mod_iff.mp (by injection z)))]
      refine iteF ⟨L, p, _, rfl, sm, np, hp, ?_⟩
      rw [hk']
      exact chain_no ok hd
  · rintro σ H1 ⟨L, p, y2, rfl, sm, np, hp, ok⟩
    rw [show n - 1 - ((n : Int) - 1).toNat = 0 by omega] at ok
    rw [chain_end ok] at hp
    exact ⟨_, rfl, q H1 p sm np hp⟩
theorem all_cyc_of {f g : Addr} {fd gd : FuncData} (D : Df K mg "cyclotomic_of" sCycOf ["number"] f fd) (O : Df K mg "over" sOver ["one", "other"] g gd) (N : Nm mg) : ∀ m : Nat, FnOk P w K mg base0 CX0 (m + 1) f fd ["number"] (spCycOf m)
  | 0 => cyc_none
  | m + 1 => ok_cyc_of D O N (all_cyc_of D O N m)
/-- for every number up to 64 -/
def spCy : Sp := fun vs H Q _ => ∃ n : Nat, vs = [.int (n : Int)] ∧ 1 ≤ n ∧ n ≤ 64 ∧ ∀ H' p, Same H H' → H p = none → H' p = some (.lst ((cyc n).map V.int)) → Q (.ref p) H'
theorem ok_cy {f g : Addr} {fd gd : FuncData} (D : Df K mg "cyclotomic_of" sCycOf ["number"] f fd) (O : Df K mg "over" sOver ["one", "other"] g gd) (N : Nm mg) : FnOk P w K mg base0 CX0 8 f fd ["number"] spCy :=
  (all_cyc_of D O N 7).imp fun vs H Q E ⟨n, e, h1, h2, q⟩ => ⟨n, e, h1, Nat.lt_of_le_of_lt h2 (by decide), h2, q⟩
def spCyc : Sp := fun vs H Q _ => ∃ n : Nat, vs = [.int (n : Int)] ∧ 1 ≤ n ∧ n ≤ 64 ∧ ∀ H' p, Same H H' → H p = none → H' p = some (.tup ((cyc n).map V.int)) → Q (.ref p) H'
theorem ok_cyc {f c r : Addr} {fd cd rd : FuncData} (D : Df K mg "cyclotomic" sCyc ["number"] f fd) (C : Df K mg "cyclotomic_of" sCycOf ["number"] c cd) (R : Df K mg "need_round" sNeedRound ["value"] r rd) (N : Nm mg)
    (GC : FnOk P w K mg base0 CX0 8 c cd ["number"] spCy) (GR : FnOk P w K mg base0 CX0 3 r rd ["value"] spNeedRound) : FnOk P w K mg base0 CX0 9 f fd ["number"] spCyc := by
  refine D.fn.ok scCyc (fun vs H Q E h => ?_) (fun cdv A outer s H vs Q E hr h => ?_)
  · obtain ⟨n, rfl, _⟩ := h
    rfl
  obtain ⟨n, rfl, h1, h2, q⟩ := h
  refine ⟨_, pss_cons (ps_expr (pe_call GR (hr.mono (by decide)) (by rfl) R.m R.fn.kp R.b .nil pass0 (pa_cons (pv 0) pa_nil)))
    (pss_one (ps_ret (pe_callTy call_tuple_of (by rfl) N.tup PyProof.Rows.boot_tuple (pa_cons (pe_call GC hr (by rfl) C.m C.fn.kp C.b .nil pass0 (pa_cons (pv 0) pa_nil)) pa_nil)))), ?_⟩
  refine ⟨_, rfl, (n : Int), rfl, by omega, by omega, ?_⟩
  refine ⟨_, rfl, n, rfl, h1, h2, fun H1 p s1 n1 e1 => ?_⟩
  refine ⟨p, _, rfl, .inl ⟨SqL.of e1, fun l nl => ?_⟩⟩
  exact q _ l (same_new s1 nl) (s1.free nl) upd_same
end
end E54
set_option maxHeartbeats 4000000
/-! reduced, sums_at -/
namespace E54
open PySem PySem.Spec PyProof.Rows L2
theorem scReduced : FnScope ["row", "number", "told", "size", "left", "at", "head", "more"] ["row", "number"] (defScope sReduced) := ⟨rfl, rfl, rfl, by decide +kernel, rfl, by decide +kernel, by decide +kernel⟩
theorem scSums : FnScope ["word", "number", "power", "found", "at", "entry"] ["word", "number", "power"] (defScope sSums) := ⟨rfl, rfl, rfl, by decide +kernel, rfl, by decide +kernel, by decide +kernel⟩
theorem cut_take {xs : List V} {z : Nat} (h : z ≤ xs.length) : cutV xs none (some (z : Int)) = xs.take z := by
  unfold cutV
  rw [HT.sIx_none, HT.sIx_nat, List.drop_zero, Nat.sub_zero, Nat.min_eq_left h]
theorem rg_downTo {m z : Nat} (h : m ≤ 1000) (hz : z ≤ 1000) : RgC ((m : Int) - 1) ((z : Int) - 1) (-1) (m - z) := by
  have q := RgC.neg (i := (m : Int) - 1) (j := (z : Int) - 1) (by omega) (by omega) (by omega) (by omega)
  rw [show ((m : Int) - 1 - ((z : Int) - 1)).toNat = m - z by omega] at q
  exact q
section
variable {P : Program} {w : World} {K : PySem.W.Frag} {mg : Str → Option Value} {base0 : Heap}
def spReduced : Sp := fun vs H Q _ => ∃ (a : Addr) (n : Nat) (row : List Int), vs = [.ref a, .int (n : Int)] ∧ H a = some (.lst (row.map V.int)) ∧ 1 ≤ n ∧ n ≤ 64 ∧ row.length ≤ 100 ∧
  ∀ H' p, Same H H' → H p = none → H' p = some (.tup ((redF row (cyc n)).map V.int)) → Q (.ref p) H'
theorem ok_reduced {f c : Addr} {fd cd : FuncData} (D : Df K mg "reduced" sReduced ["row", "number"] f fd) (C : Df K mg "cyclotomic_of" sCycOf ["number"] c cd) (N : Nm mg)
    (GC : FnOk P w K mg base0 CX0 8 c cd ["number"] spCy) : FnOk P w K mg base0 CX0 9 f fd ["row", "number"] spReduced := by
  refine D.fn.ok scReduced (fun vs H Q E h => ?_) (fun cdv A outer s H vs Q E hr h => ?_)
  · obtain ⟨a, n, row, rfl, _⟩ := h
    rfl
  obtain ⟨a, n, row, rfl, hA, h1, h2, hl, q⟩ := h
  refine ⟨_, pss_cons (ps_set (i := 2) scReduced.nd rfl (.inl rfl) (pe_call GC hr (by rfl) C.m C.fn.kp C.b .nil pass0 (pa_cons (pv 1) pa_nil)))
    (pss_cons (ps_par (i := 3) (j := 4) rfl scReduced.nd rfl rfl (by decide) rfl rfl
        (pa_cons (pe_op op_sub (pe_callB call_len_seq (by rfl) N.len PySem.boot_len (pa_cons (pv 2) pa_nil)) pe_int)
          (pa_cons (pe_callTy call_list_of (by rfl) N.lst PyProof.Rows.boot_list (pa_cons (pv 0) pa_nil)) pa_nil)) (by rfl))
    (pss_cons (ps_for PassesOwn.never rfl (pi_range3 (by rfl) N.rng (pa_cons (pe_op op_sub (pe_callB call_len_seq (by rfl) N.len PySem.boot_len (pa_cons (pv 4) pa_nil)) pe_int) (pa_cons (pe_op op_sub (pv 3) pe_int) (pa_cons (pe_un un_neg pe_int) pa_nil))))
        (pg_name (i := 5) scReduced.nd rfl (.inl rfl))
        (pss_cons (ps_set (i := 6) scReduced.nd rfl (.inl rfl) (pe_ix ix_list (pv 4) (pv 5) (fun _ _ => rfl)))
          (pss_one (ps_for PassesOwn.never rfl (pi_range1 (by rfl) N.rng (pa_cons (pe_op op_add (pv 3) pe_int) pa_nil)) (pg_name (i := 7) scReduced.nd rfl (.inl rfl))
            (pss_one (ps_augS (pv 4) (pe_op op_add (pe_op op_sub (pv 5) (pv 3)) (pv 7)) get_list (pe_op op_mul (pv 6) (pe_ix ix_list (pv 2) (pv 7) (fun _ _ => rfl))) ip_sub set_list))))))
    (pss_one (ps_ret (pe_callTy call_tuple_of (by rfl) N.tup PyProof.Rows.boot_tuple (pa_cons (pe_slice sl_list (pe_op op_cat (pv 4) (pe_op op_rep (pe_lst (pa_cons pe_int pa_nil)) (pv 3))) po_none (po_some (pv 3))) pa_nil)))))), ?_⟩
  obtain ⟨f2, f64, _, _⟩ := cyc_form h1 h2
  obtain ⟨z, hz⟩ : ∃ z : Nat, (cyc n).length = z + 1 := ⟨(cyc n).length - 1, by omega⟩
  have hz1 : (cyc n).length - 1 = z := by omega
  -- told = cyclotomic_of(number)
  refine ⟨_, rfl, n, rfl, h1, h2, fun H1 t s1 nt et => ?_⟩
  -- size, left = len(told) - 1, list(row)
  refine ⟨_, rfl, t, _, rfl, .inl (SqL.of et), _, _, rfl, rfl, ?_⟩
  refine ⟨_, rfl, a, _, rfl, .inl (SqL.of (s1 _ _ hA)), fun l nl => ?_⟩
  have s2 := same_new (o := .lst (row.map V.int)) s1 nl
  have nlH : H l = none := s1.free nl
  have tl : t ≠ l := fun e => by
    rw [← e, et] at nl
    cases nl
  have et2 : (upd H1 l (.lst (row.map V.int))) t = some (.lst ((cyc n).map V.int)) := by
    rw [upd_ne tl]
    exact et
  have ez : V.int ((((cyc n).map V.int).length : Nat) - 1) = V.int (z : Int) := congrArg V.int (by rw [List.length_map]; omega)
  refine ⟨V.int (z : Int), V.ref l, congrArg (fun v => [v, V.ref l]) ez, ?_⟩
  -- for at in range(len(left) - 1, size - 1, -1)
  refine ⟨_, rfl, l, _, rfl, .inl (SqL.of upd_same), _, _, rfl, rfl, _, rfl, _, _, rfl, rfl, _, rfl, ((row.length : Nat) : Int) - 1, (z : Int) - 1, -1, row.length - z, ?_, rg_downTo (by omega) (by omega), ?_⟩
  · exact congrArg (fun m : Nat => [V.int ((m : Int) - 1), V.int ((z : Int) - 1), V.int (-1)]) (List.length_map _)
  refine for_rangeC (lo := ((row.length : Nat) : Int) - 1) (c := -1) (n := row.length - z) (fun i σ H2 => ∃ (L : List Int) (y5 y6 y7 : Option V), σ = [some (.ref a), some (.int (n : Int)), some (.ref t), some (.int (z : Int)), some (.ref l), y5, y6, y7] ∧ Same H H2 ∧
      H2 l = some (.lst (L.map V.int)) ∧ H2 t = some (.lst ((cyc n).map V.int)) ∧ L.length = row.length ∧ redLoop (cyc n) z (row.length - z - i) L = redLoop (cyc n) z (row.length - z) row)
    ⟨row, none, none, none, rfl, s2, upd_same, et2, rfl, rfl⟩ ?_ ?_
  · rintro i σ H2 hi ⟨L, y5, y6, y7, rfl, sm, hL, hT, eL, eO⟩
    obtain ⟨k, hk⟩ : ∃ k : Nat, row.length - z - i = k + 1 := ⟨row.length - z - i - 1, by omega⟩
    have hv : ((row.length : Nat) : Int) - 1 + (i : Nat) * (-1) = ((z + k : Nat) : Int) := by omega
    rw [hv]
    -- head = left[at]
    refine ⟨_, rfl, _, rfl, l, _, _, _, rfl, rfl, SqL.of hL, at_int (j := z + k) rfl (by omega), ?_⟩
    generalize hc : L.getD (z + k) 0 = c at *
    -- for more in range(size + 1)
    refine ⟨_, rfl, _, _, rfl, rfl, (z : Int) + 1, rfl, by omega, by omega, ?_⟩
    refine for_range (lo := 0) (n := ((z : Int) + 1).toNat) (fun m σ H3 => ∃ y7, σ = [some (.ref a), some (.int (n : Int)), some (.ref t), some (.int (z : Int)), some (.ref l), some (.int ((z + k : Nat) : Int)), some (.int c), y7] ∧ Same H H3 ∧
        H3 l = some (.lst ((subAt L k ((cyc n).take m) c).map V.int)) ∧ H3 t = some (.lst ((cyc n).map V.int)))
      ⟨y7, rfl, sm, by rw [List.take_zero, subAt_nil]; exact hL, hT⟩ ?_ ?_
    · rintro m σ H3 hm ⟨z7, rfl, s4, hL3, hT3⟩
      have hm' : m < (cyc n).length := by omega
      have hkm : k + m < (subAt L k ((cyc n).take m) c).length := by
        rw [subAt_len]
        omega
      refine ⟨_, rfl, _, rfl, _, rfl, _, _, rfl, rfl, _, rfl, _, _, rfl, rfl, l, _, _, k + m, _, rfl, rfl, by omega, SqL.of hL3, get_int hkm, ?_⟩
      refine ⟨_, rfl, _, rfl, _, rfl, t, _, _, _, rfl, rfl, SqL.of hT3, at_int (j := m) (by omega) hm', _, _, rfl, rfl, bound2 (cyc_at h1 h2), _, _, rfl, rfl, ?_⟩
      refine ⟨l, _, _, k + m, rfl, rfl, hL3, ixN_nat (by omega) (by rw [List.length_map]; exact hkm), ?_⟩
      rw [set_int, ← subAt_step L (cyc n) k c m (by omega) hm']
      refine ⟨_, rfl, same_write s4 nlH, upd_same, ?_⟩
      rw [upd_ne tl]
      exact hT3
    · rintro σ H3 ⟨z7, rfl, s4, hL3, hT3⟩
      rw [show ((z : Int) + 1).toNat = (cyc n).length by omega, List.take_length] at hL3
      refine ⟨_, _, _, _, rfl, s4, hL3, hT3, by rw [subAt_len]; exact eL, ?_⟩
      rw [← eO, hk, show row.length - z - (i + 1) = k by omega, ← hc]
      rfl
  · rintro σ H2 ⟨L, y5, y6, y7, rfl, sm, hL, hT, eL, eO⟩
    rw [Nat.sub_self] at eO
    -- return tuple((left + [0] * size)[:size])
    refine ⟨_, rfl, by show 1 ≤ sizeLine; decide, fun b nb => ?_⟩
    have s3 := same_new (o := .lst [V.int 0]) sm nb
    have lb : l ≠ b := fun e => by
      rw [← e, hL] at nb
      cases nb
    refine ⟨_, rfl, b, (z : Int), _, rfl, rfl, upd_same, by omega, by omega, ?_, fun d nd => ?_⟩
    · rw [Int.toNat_natCast]
      refine small_line ?_
      show 1 * _ ≤ 1000
      omega
    rw [Int.toNat_natCast, rep_int]
    have s4 := same_new (o := .lst ((List.replicate z 0).map V.int)) s3 nd
    have ld : l ≠ d := fun e => by
      rw [← e, upd_ne lb, hL] at nd
      cases nd
    refine ⟨l, d, _, _, rfl, rfl, Eq.trans (upd_ne ld) (Eq.trans (upd_ne lb) hL), upd_same, ?_, fun e ne => ?_⟩
    · rw [List.length_map, List.length_map, List.length_replicate]
      exact small_line (by omega)
    have s5 := same_new (o := .lst (L.map V.int ++ (List.replicate z 0).map V.int)) s4 ne
    refine ⟨_, rfl, (z : Int), rfl, e, _, rfl, SqL.of upd_same, fun g ng => ?_⟩
    have s6 := same_new (o := .lst (cutV (L.map V.int ++ (List.replicate z 0).map V.int) none (some (z : Int)))) s5 ng
    refine ⟨g, _, rfl, .inl ⟨SqL.of upd_same, fun p np => ?_⟩⟩
    refine q _ p (same_new s6 np) (s6.free np) ?_
    rw [upd_same, cut_take (by rw [List.length_append, List.length_map, List.length_map, List.length_replicate]; omega)]
    unfold redF
    rw [hz1, ← eO, ← List.map_append, ← List.map_take]
    rfl
/-! ### sums_at -/
def spSums : Sp := fun vs H Q _ => ∃ (a : Addr) (n p : Nat) (ws : List Int), vs = [.ref a, .int (n : Int), .int (p : Int)] ∧ H a = some (.tup (ws.map V.int)) ∧ 1 ≤ n ∧ n ≤ 64 ∧ p ≤ 64 ∧ ws.length ≤ 64 ∧
  ∀ H' r, Same H H' → H r = none → H' r = some (.lst ((sumsF ws n p).map V.int)) → Q (.ref r) H'
theorem ok_sums {f : Addr} {fd : FuncData} (D : Df K mg "sums_at" sSums ["word", "number", "power"] f fd) (N : Nm mg) : FnOk P w K mg base0 CX0 1 f fd ["word", "number", "power"] spSums := by
  refine D.fn.ok scSums (fun vs H Q E h => ?_) (fun cdv A outer s H vs Q E hr h => ?_)
  · obtain ⟨a, n, p, ws, rfl, _⟩ := h
    rfl
  obtain ⟨a, n, p, ws, rfl, hA, h1, h2, hp, hw, q⟩ := h
  refine ⟨_, pss_cons (ps_set (i := 3) scSums.nd rfl (.inl rfl) (pe_op op_rep (pe_lst (pa_cons pe_int pa_nil)) (pv 1)))
    (pss_cons (ps_for PassesOwn.never rfl (pi_enumT (by rfl) N.enu (pa_cons (pv 0) pa_nil))
        (pg_tup rfl (pgs_cons (pg_name (i := 4) scSums.nd rfl (.inl rfl)) (pgs_cons (pg_name (i := 5) scSums.nd rfl (.inl rfl)) pgs_nil)))
        (pss_one (ps_augS (pv 3) (pe_op op_mod (pe_op op_mul (pv 4) (pv 2)) (pv 1)) get_list (pv 5) ip_add set_list)))
    (pss_one (ps_ret (pv 3)))), ?_⟩
  refine ⟨by show 1 ≤ sizeLine; decide, fun b nb => ?_⟩
  have s1 : Same H (upd H b (.lst [V.int 0])) := same_one nb
  refine ⟨_, rfl, b, (n : Int), _, rfl, rfl, upd_same, by omega, by omega, ?_, fun fo nf => ?_⟩
  · rw [Int.toNat_natCast]
    refine small_line ?_
    show 1 * _ ≤ 1000
    omega
  rw [Int.toNat_natCast, rep_int]
  have s2 := same_new (o := .lst ((List.replicate n 0).map V.int)) s1 nf
  have nfH : H fo = none := s1.free nf
  refine ⟨_, rfl, a, _, rfl, SqT.of (s2 _ _ hA), ?_⟩
  refine for_it (walk_enumT (K := K) (a := a) (L := ws.map V.int)) (fun i σ H1 => ∃ (F : List Int) (y4 y5 : Option V), σ = [some (.ref a), some (.int (n : Int)), some (.int (p : Int)), some (.ref fo), y4, y5] ∧ Same H H1 ∧
      H1 fo = some (.lst (F.map V.int)) ∧ F.length = n ∧ sumsGo n p i (ws.drop i) F = sumsF ws n p)
    ⟨List.replicate n 0, none, none, rfl, s2, upd_same, List.length_replicate, rfl⟩ (fun i σ H1 _ ⟨_, _, _, _, s3, _⟩ => SqT.of (s3 _ _ hA)) ?_ ?_
  · rintro i x σ H1 H2 hi ⟨F, y4, y5, rfl, sm, hF, eF, eO⟩ ⟨T, x1, x2, rfl, nT, rfl, e1, e2⟩
    rw [List.length_map] at hi
    cases Option.some.inj e1
    cases Option.some.inj ((get_int hi).symm.trans e2)
    have s3 : Same H1 (upd H1 T (.tup [.int (i : Nat), .int (ws.getD i 0)])) := same_one nT
    have hj : i * p % n < F.length := by
      rw [eF]
      exact Nat.mod_lt _ (by omega)
    have ej : (i : Int) * (p : Int) % (n : Int) = ((i * p % n : Nat) : Int) := by
      rw [Int.natCast_emod, Int.natCast_mul]
    refine ⟨T, _, rfl, .inl (.inl upd_same), rfl, _, _, rfl, _, _, rfl, rfl, ?_⟩
    refine ⟨_, rfl, _, rfl, _, rfl, _, _, rfl, rfl, .inl ⟨by omega, by omega⟩, _, rfl, _, _, rfl, rfl, by omega, fo, _, _, i * p % n, _, rfl, rfl, ej, SqL.of (s3 _ _ hF), get_int hj, _, rfl, _, _, rfl, rfl, ?_⟩
    refine ⟨fo, _, _, i * p % n, rfl, rfl, s3 _ _ hF, ixN_nat ej (by rw [List.length_map]; exact hj), ?_⟩
    rw [set_int]
    refine ⟨_, _, _, rfl, same_write (sm.trans s3) nfH, upd_same, by rw [List.length_set]; exact eF, ?_⟩
    rw [← eO, List.drop_eq_getElem_cons hi]
    have ew : ws.getD i 0 = ws[i] := by
      rw [List.getD_eq_getElem?_getD, List.getElem?_eq_getElem hi]
      rfl
    rw [ew]
    rfl
  · rintro σ H1 ⟨F, y4, y5, rfl, sm, hF, eF, eO⟩
    rw [List.length_map, List.drop_length] at eO
    refine ⟨_, rfl, q H1 fo sm nfH ?_⟩
    rw [← eO]
    exact hF
end
end E54
set_option maxHeartbeats 4000000
/-! need_at, value_at, plain, turns -/
namespace E54
open PySem PySem.Spec PyProof.Rows L2
theorem scNeedAt : FnScope ["word", "number", "power"] ["word", "number", "power"] (defScope sNeedAt) := ⟨rfl, rfl, rfl, by decide +kernel, rfl, by decide +kernel, by decide +kernel⟩
theorem scValueAt : FnScope ["word", "number", "power"] ["word", "number", "power"] (defScope sValueAt) := ⟨rfl, rfl, rfl, by decide +kernel, rfl, by decide +kernel, by decide +kernel⟩
theorem scPlain : FnScope ["number", "value"] ["number", "value"] (defScope sPlain) := ⟨rfl, rfl, rfl, by decide +kernel, rfl, by decide +kernel, by decide +kernel⟩
theorem scTurns : FnScope ["number", "power"] ["number"] (defScope sTurns) := ⟨rfl, rfl, rfl, by decide +kernel, rfl, by decide +kernel, by decide +kernel⟩
/-- whole numbers as Int -/
def natsI (l : List Nat) : List Int := l.map fun p => ((p : Nat) : Int)
section
variable {P : Program} {w : World} {K : PySem.W.Frag} {mg : Str → Option Value} {base0 : Heap}
def spNeedAt : Sp := fun vs H Q _ => ∃ (a : Addr) (n p : Nat) (ws : List Int), vs = [.ref a, .int (n : Int), .int (p : Int)] ∧ H a = some (.tup (ws.map V.int)) ∧ 1 ≤ n ∧ n ≤ 64 ∧ p < n ∧ 1 ≤ ws.length ∧ ws.length ≤ 64 ∧ (∀ x ∈ ws, -1 ≤ x ∧ x ≤ 1) ∧
  ∀ H', Same H H' → Q .non H'
theorem ok_need_at {f a1 a2 a3 : Addr} {fd d1 d2 d3 : FuncData} (D : Df K mg "need_at" sNeedAt ["word", "number", "power"] f fd) (W : Df K mg "need_word" sNeedWord ["value"] a1 d1) (R : Df K mg "need_round" sNeedRound ["value"] a2 d2) (I : Df K mg "is_in" sIsIn ["value", "least", "most"] a3 d3) (N : Nm mg)
    (GW : FnOk P w K mg base0 CX0 3 a1 d1 ["value"] spNeedWord) (GR : FnOk P w K mg base0 CX0 3 a2 d2 ["value"] spNeedRound) (GI : FnOk P w K mg base0 CX0 2 a3 d3 ["value", "least", "most"] spIsIn) : FnOk P w K mg base0 CX0 4 f fd ["word", "number", "power"] spNeedAt := by
  refine D.fn.ok scNeedAt (fun vs H Q E h => ?_) (fun cdv A outer s H vs Q E hr h => ?_)
  · obtain ⟨a, n, p, ws, rfl, _⟩ := h
    rfl
  obtain ⟨a, n, p, ws, rfl, hA, h1, h2, hp, w1, w2, wb, q⟩ := h
  refine ⟨_, pss_cons (ps_expr (pe_call GW hr (by rfl) W.m W.fn.kp W.b .nil pass0 (pa_cons (pv 0) pa_nil)))
    (pss_cons (ps_expr (pe_call GR hr (by rfl) R.m R.fn.kp R.b .nil pass0 (pa_cons (pv 1) pa_nil)))
    (pss_one (ps_if (pt_not (pt_val (pe_call GI (hr.mono (by decide)) (by rfl) I.m I.fn.kp I.b .nil pass0 (pa_cons (pv 2) (pa_cons pe_int (pa_cons (pe_op op_sub (pv 1) pe_int) pa_nil)))))) pss_never pss_nil))), ?_⟩
  refine ⟨_, rfl, a, ws, rfl, hA, w1, w2, wb, fun H1 s1 => ?_⟩
  refine ⟨_, rfl, (n : Int), rfl, by omega, by omega, ?_⟩
  exact ⟨_, rfl, _, rfl, _, _, rfl, rfl, (p : Int), 0, (n : Int) - 1, rfl, by omega, by omega, true, rfl, iteF (q H1 s1)⟩
def spValueAt : Sp := fun vs H Q _ => ∃ (a : Addr) (n p : Nat) (ws : List Int), vs = [.ref a, .int (n : Int), .int (p : Int)] ∧ H a = some (.tup (ws.map V.int)) ∧ 1 ≤ n ∧ n ≤ 64 ∧ p < n ∧ 1 ≤ ws.length ∧ ws.length ≤ 64 ∧ (∀ x ∈ ws, -1 ≤ x ∧ x ≤ 1) ∧
  ∀ H' r, Same H H' → H r = none → H' r = some (.tup ((redF (sumsF ws n p) (cyc n)).map V.int)) → Q (.ref r) H'
theorem ok_value_at {f a1 a2 a3 : Addr} {fd d1 d2 d3 : FuncData} (D : Df K mg "value_at" sValueAt ["word", "number", "power"] f fd) (W : Df K mg "need_at" sNeedAt ["word", "number", "power"] a1 d1) (R : Df K mg "reduced" sReduced ["row", "number"] a2 d2) (S : Df K mg "sums_at" sSums ["word", "number", "power"] a3 d3) (N : Nm mg)
    (GW : FnOk P w K mg base0 CX0 4 a1 d1 ["word", "number", "power"] spNeedAt) (GR : FnOk P w K mg base0 CX0 9 a2 d2 ["row", "number"] spReduced) (GS : FnOk P w K mg base0 CX0 1 a3 d3 ["word", "number", "power"] spSums) : FnOk P w K mg base0 CX0 10 f fd ["word", "number", "power"] spValueAt := by
  refine D.fn.ok scValueAt (fun vs H Q E h => ?_) (fun cdv A outer s H vs Q E hr h => ?_)
  · obtain ⟨a, n, p, ws, rfl, _⟩ := h
    rfl
  obtain ⟨a, n, p, ws, rfl, hA, h1, h2, hp, w1, w2, wb, q⟩ := h
  refine ⟨_, pss_cons (ps_expr (pe_call GW (hr.mono (by decide)) (by rfl) W.m W.fn.kp W.b .nil pass0 (pa_cons (pv 0) (pa_cons (pv 1) (pa_cons (pv 2) pa_nil)))))
    (pss_one (ps_ret (pe_call GR hr (by rfl) R.m R.fn.kp R.b .nil pass0 (pa_cons (pe_call GS (hr.mono (by decide)) (by rfl) S.m S.fn.kp S.b .nil pass0 (pa_cons (pv 0) (pa_cons (pv 1) (pa_cons (pv 2) pa_nil)))) (pa_cons (pv 1) pa_nil))))), ?_⟩
  refine ⟨_, rfl, _, rfl, _, rfl, a, n, p, ws, rfl, hA, h1, h2, hp, w1, w2, wb, fun H1 s1 => ?_⟩
  refine ⟨_, rfl, _, rfl, _, rfl, a, n, p, ws, rfl, s1 _ _ hA, h1, h2, by omega, w2, fun H2 r s2 nr er => ?_⟩
  refine ⟨_, rfl, r, n, sumsF ws n p, rfl, er, h1, h2, ?_, fun H3 r3 s3 n3 e3 => ?_⟩
  · unfold sumsF
    rw [sumsGo_len, List.length_replicate]
    omega
  · exact q H3 r3 (s1.trans (s2.trans s3)) (s1.free (s2.free n3)) e3
def spPlain : Sp := fun vs H Q _ => ∃ (n : Nat) (v : Int), vs = [.int (n : Int), .int v] ∧ 1 ≤ n ∧ n ≤ 64 ∧
  ∀ H' r, Same H H' → H r = none → H' r = some (.tup ((v :: List.replicate ((cyc n).length - 2) 0).map V.int)) → Q (.ref r) H'
theorem ok_plain {f a1 a2 : Addr} {fd d1 d2 : FuncData} (D : Df K mg "plain" sPlain ["number", "value"] f fd) (W : Df K mg "need_round" sNeedRound ["value"] a1 d1) (R : Df K mg "reduced" sReduced ["row", "number"] a2 d2) (N : Nm mg)
    (GW : FnOk P w K mg base0 CX0 3 a1 d1 ["value"] spNeedRound) (GR : FnOk P w K mg base0 CX0 9 a2 d2 ["row", "number"] spReduced) : FnOk P w K mg base0 CX0 10 f fd ["number", "value"] spPlain := by
  refine D.fn.ok scPlain (fun vs H Q E h => ?_) (fun cdv A outer s H vs Q E hr h => ?_)
  · obtain ⟨n, v, rfl, _⟩ := h
    rfl
  obtain ⟨n, v, rfl, h1, h2, q⟩ := h
  refine ⟨_, pss_cons (ps_expr (pe_call GW (hr.mono (by decide)) (by rfl) W.m W.fn.kp W.b .nil pass0 (pa_cons (pv 0) pa_nil)))
    (pss_cons (ps_if (PW.pt (pw_or (pt_val (pe_callB call_isi (by rfl) N.isi (by decide +kernel) (pa_cons (pv 1) (pa_cons (pe_bltn (v := .ty "bool") (by rfl) N.bool PyProof.Rows.boot_bool rfl) pa_nil))))
        (pw_or1 (pt_not (pt_val (pe_callB call_isi (by rfl) N.isi (by decide +kernel) (pa_cons (pv 1) (pa_cons (pe_bltn (v := .ty "int") (by rfl) N.int PyProof.Rows.boot_int rfl) pa_nil)))))))) pss_never pss_nil)
    (pss_one (ps_ret (pe_call GR hr (by rfl) R.m R.fn.kp R.b .nil pass0 (pa_cons (pe_lst (pa_cons (pv 1) pa_nil)) (pa_cons (pv 0) pa_nil)))))), ?_⟩
  refine ⟨_, rfl, (n : Int), rfl, by omega, by omega, ?_⟩
  refine ⟨_, rfl, .int v, .ty "bool", .type "int", .type "bool", false, rfl, .ty "bool", .base (.int v), kit_ty (by decide +kernel), false, rfl, iteF ?_⟩
  refine ⟨_, rfl, .int v, .ty "int", .type "int", .type "int", true, rfl, .ty "int", .base (.int v), kit_ty (by decide +kernel), true, rfl, iteF ?_⟩
  refine ⟨_, rfl, by show 1 ≤ sizeLine; decide, fun a na => ?_⟩
  have s1 : Same H (upd H a (.lst [V.int v])) := same_one na
  refine ⟨_, rfl, a, n, [v], rfl, upd_same, h1, h2, by show 1 ≤ 100; decide, fun H3 r3 s3 n3 e3 => ?_⟩
  rw [plain_eq h1 h2 v] at e3
  exact q H3 r3 (s1.trans s3) (s1.free n3) e3
/-! ### turns -/
def spTurns : Sp := fun vs H Q _ => ∃ n : Nat, vs = [.int (n : Int)] ∧ 1 ≤ n ∧ n ≤ 64 ∧ ∀ H' r, Same H H' → H r = none → H' r = some (.lst ((natsI (turnsF n)).map V.int)) → Q (.ref r) H'
theorem ok_turns {f a1 a2 : Addr} {fd d1 d2 : FuncData} (D : Df K mg "turns" sTurns ["number"] f fd) (W : Df K mg "need_round" sNeedRound ["value"] a1 d1) (C : Df K mg "common_divisor" sGcd ["one", "other"] a2 d2) (N : Nm mg)
    (GW : FnOk P w K mg base0 CX0 3 a1 d1 ["value"] spNeedRound) (GC : FnOk P w K mg base0 CX0 1 a2 d2 ["one", "other"] spGcd) : FnOk P w K mg base0 CX0 4 f fd ["number"] spTurns := by
  refine D.fn.ok scTurns (fun vs H Q E h => ?_) (fun cdv A outer s H vs Q E hr h => ?_)
  · obtain ⟨n, rfl, _⟩ := h
    rfl
  obtain ⟨n, rfl, h1, h2, q⟩ := h
  have hr1 : Room 1 (A.deeper (envOfC "turns" (defScope sTurns) s.heap.objs.size f cdv)) := hr.mono (by decide)
  refine ⟨_, pss_cons (ps_expr (pe_call GW hr (by rfl) W.m W.fn.kp W.b .nil pass0 (pa_cons (pv 0) pa_nil)))
    (pss_one (ps_ret (pe_lc (own := [("power", 1)]) (g := gName 1) (by rfl) scTurns.nd (pi_range1 (by rfl) N.rng (pa_cons (pv 0) pa_nil)) (blkOk_by (N := ["number", "power"]) (sc := defScope sTurns) (by decide +kernel))
      (fun _ _ _ _ _ => pg_name (i := 1) scTurns.nd rfl (Or.inl rfl))
      (fun _ _ _ _ _ => pts_one (pt_cmpR op_eq (pe_call GC hr1 (by rfl) C.m C.fn.kp C.b .nil pass0 (pa_cons (pv 1) (pa_cons (pv 0) pa_nil))) pe_int (nomark _)))
      (fun _ _ _ _ _ => pv 1)))), ?_⟩
  refine ⟨_, rfl, (n : Int), rfl, by omega, by omega, ?_⟩
  refine ⟨_, rfl, (n : Int), rfl, by omega, by omega, fun D nD => ?_⟩
  refine lc_range (lo := 0) (n := (n : Int).toNat) (fun i H1 => Same H H1 ∧ H1 D = some (.lst ((natsI ((List.range i).filter fun p => Nat.gcd p n == 1)).map V.int))) ⟨same_one nD, upd_same⟩ ?_ ?_
  · rintro i H1 hi ⟨s1, e1⟩
    refine ⟨rfl, _, rfl, _, rfl, i, n, congrArg (fun z => [V.int z, V.int (n : Int)]) (by omega), rfl, _, rfl, ?_⟩
    have er : (List.range (i + 1)).filter (fun p => Nat.gcd p n == 1) = (List.range i).filter (fun p => Nat.gcd p n == 1) ++ (if Nat.gcd i n == 1 then [i] else []) := by
      rw [List.range_succ, List.filter_append, List.filter_cons, List.filter_nil]
    by_cases hg : Nat.gcd i n = 1
    · rw [decide_eq_true (by rw [hg]; rfl)]
      refine iteT ⟨_, rfl, _, e1, ?_, same_write s1 nD, ?_⟩
      · unfold natsI
        rw [List.length_map, List.length_map]
        refine Nat.lt_of_le_of_lt (List.length_filter_le _ _) (small1000 ?_)
        rw [List.length_range]
        omega
      · rw [upd_same, er, if_pos (by rw [hg]; rfl)]
        unfold natsI
        rw [List.map_append, List.map_append]
        have ez : (0 : Int) + (i : Int) = (i : Int) := by omega
        rw [ez]
        rfl
    · rw [decide_eq_false (fun z => hg (by injection z with z; omega))]
      refine iteF ⟨s1, ?_⟩
      rw [e1, er, if_neg (by simpa using hg), List.append_nil]
  · rintro H1 ⟨s1, e1⟩
    rw [Int.toNat_natCast] at e1
    exact q H1 D s1 nD e1
end
end E54
set_option maxHeartbeats 4000000
/-! the law's helpers -/
namespace E54
open PySem PySem.Spec PyProof.Rows L2
theorem scTaken : FnScope ["_law_row", "_law_many", "_law_found", "_law_cell"] ["_law_row", "_law_many"] (defScope sTaken) := ⟨rfl, rfl, rfl, by decide +kernel, rfl, by decide +kernel, by decide +kernel⟩
theorem scPick : FnScope ["_law_row", "_law_things"] ["_law_row", "_law_things"] (defScope sPick) := ⟨rfl, rfl, rfl, by decide +kernel, rfl, by decide +kernel, by decide +kernel⟩
theorem scAlike : FnScope ["_law_found", "_law_due", "_law_k"] ["_law_found", "_law_due"] (defScope sAlike) := ⟨rfl, rfl, rfl, by decide +kernel, rfl, by decide +kernel, by decide +kernel⟩
/-- all but r is as it was -/
def Keep (r : Addr) (H H' : Hp) : Prop := ∀ b o, b ≠ r → H b = some o → H' b = some o
theorem Keep.refl (r : Addr) (H : Hp) : Keep r H H := fun _ _ _ h => h
theorem Keep.trans {r : Addr} {H H1 H2 : Hp} (a : Keep r H H1) (b : Keep r H1 H2) : Keep r H H2 := fun c o n h => b c o n (a c o n h)
theorem Keep.upd {r : Addr} {H H' : Hp} {o : HO} (a : Keep r H H') : Keep r H (upd H' r o) := fun c x n h => by
  rw [upd_ne n]
  exact a c x n h
/-- the script is read whatever becomes of r -/
def Scr (K : PySem.W.Frag) (r a : Addr) (xs : List V) (H : Hp) : Prop := ∀ H', Keep r H H' → SqL K H' a xs
theorem Scr.keep {K : PySem.W.Frag} {r a : Addr} {xs : List V} {H H' : Hp} (s : Scr K r a xs H) (k : Keep r H H') : Scr K r a xs H' := fun H2 k2 => s H2 (k.trans k2)
theorem Scr.now {K : PySem.W.Frag} {r a : Addr} {xs : List V} {H : Hp} (s : Scr K r a xs H) : SqL K H a xs := s H (Keep.refl r H)
theorem Scr.start {K : PySem.W.Frag} {r a : Addr} {xs : List V} {H : Hp} {o : HO} (h : SqL K H a xs) (n : H r = none) : Scr K r a xs (L2.upd H r o) := fun H' k => by
  rcases h with (h | ⟨u, h⟩) | h
  · exact .inl (.inl (k a _ (ne_of_none h n) (by rw [upd_ne (ne_of_none h n)]; exact h)))
  · exact .inl (.inr ⟨u, k a _ (ne_of_none h n) (by rw [upd_ne (ne_of_none h n)]; exact h)⟩)
  · exact .inr h
/-- the row of draws -/
abbrev rowV (a : Addr) (i j k : Int) : List V := [.ref a, .int i, .int j, .int k]
section
variable {P : Program} {w : World} {K : PySem.W.Frag} {mg : Str → Option Value} {base0 : Heap}
def spTaken (K : PySem.W.Frag) : Sp := fun vs H Q _ => ∃ (r a : Addr) (m i j k : Int) (ns : List Int), vs = [.ref r, .int m] ∧ 0 < m ∧ m < 1073741824 ∧ H r = some (.lst (rowV a i j k)) ∧ 0 ≤ i ∧ Scr K r a (ns.map V.int) H ∧
  ∀ H' v i' j' k', Keep r H H' → H' r = some (.lst (rowV a i' j' k')) → 0 ≤ i' → 0 ≤ v → v < m → Q (.int v) H'
theorem ok_taken {f : Addr} {fd : FuncData} (D : Df K mg "_law_taken" sTaken ["_law_row", "_law_many"] f fd) (N : Nm mg) : FnOk P w K mg base0 CX0 1 f fd ["_law_row", "_law_many"] (spTaken K) := by
  refine D.fn.ok scTaken (fun vs H Q E h => ?_) (fun cdv A outer s H vs Q E hr h => ?_)
  · obtain ⟨r, a, m, i, j, k, ns, rfl, _⟩ := h
    rfl
  obtain ⟨r, a, m, i, j, k, ns, rfl, m0, m1, hR, hi, hS, q⟩ := h
  have md : ∀ x : Int, 0 ≤ x % m ∧ x % m < m := fun x => ⟨Int.emod_nonneg _ (by omega), Int.emod_lt_of_pos _ m0⟩
  refine ⟨_, pss_cons (ps_if (pt_cmpR op_gt (pe_ix ix_list (pv 0) pe_int (fun _ _ => rfl)) pe_int (nomark _))
      (pss_cons (ps_set (i := 2) scTaken.nd rfl (.inl rfl) (pe_op op_mod (pe_callTy call_int1 (by rfl) N.int PyProof.Rows.boot_int (pa_cons (pe_ix ix_list (pv 0) pe_int (fun _ _ => rfl)) pa_nil)) (pv 1)))
        (pss_cons (ps_asg (pe_op op_fdiv (pe_ix ix_list (pv 0) pe_int (fun _ _ => rfl)) (pv 1)) (pg_sub (pv 0) pe_int set_list))
        (pss_one (ps_ret (pv 2))))) pss_nil)
    (pss_cons (ps_asg (pe_op op_add (pe_ix ix_list (pv 0) pe_int (fun _ _ => rfl)) pe_int) (pg_sub (pv 0) pe_int set_list))
    (pss_cons (ps_if (pt_cmpR op_gt (pe_ix ix_list (pv 0) pe_int (fun _ _ => rfl)) (pe_callB call_len_seq (by rfl) N.len PySem.boot_len (pa_cons (pe_ix ix_list (pv 0) pe_int (fun _ _ => rfl)) pa_nil)) (nomark _))
      (pss_cons (ps_asg (pe_op op_mod (pe_callTy call_int1 (by rfl) N.int PyProof.Rows.boot_int (pa_cons (pe_op op_add (pe_op op_mul (pe_ix ix_list (pv 0) pe_int (fun _ _ => rfl)) pe_int) pe_int) pa_nil)) pe_int) (pg_sub (pv 0) pe_int set_list))
        (pss_one (ps_ret (pe_op op_mod (pe_callTy call_int1 (by rfl) N.int PyProof.Rows.boot_int (pa_cons (pe_op op_fdiv (pe_ix ix_list (pv 0) pe_int (fun _ _ => rfl)) pe_int) pa_nil)) (pv 1))))) pss_nil)
    (pss_cons (ps_set (i := 3) scTaken.nd rfl (.inl rfl) (pe_ix ix_list (pe_ix ix_list (pv 0) pe_int (fun _ _ => rfl)) (pe_op op_sub (pe_ix ix_list (pv 0) pe_int (fun _ _ => rfl)) pe_int) (fun _ _ => rfl)))
    (pss_cons (ps_asg (pe_op op_mod (pe_callTy call_int1 (by rfl) N.int PyProof.Rows.boot_int (pa_cons (pe_op op_add (pe_op op_add (pe_op op_mul (pe_ix ix_list (pv 0) pe_int (fun _ _ => rfl)) pe_int) (pv 3)) pe_int) pa_nil)) pe_int) (pg_sub (pv 0) pe_int set_list))
    (pss_cons (ps_if (pt_cmpR op_ge (pv 3) (pe_op op_pow pe_int pe_int) (nomark _)) (pss_one (ps_asg (pe_op op_fdiv (pv 3) (pv 1)) (pg_sub (pv 0) pe_int set_list))) pss_nil)
    (pss_one (ps_ret (pe_op op_mod (pe_callTy call_int1 (by rfl) N.int PyProof.Rows.boot_int (pa_cons (pv 3) pa_nil)) (pv 1))))))))), ?_⟩
  -- if row[3] > 0
  refine ⟨_, rfl, r, _, _, _, rfl, rfl, SqL.of hR, at_of (j := 3) rfl rfl, _, _, rfl, rfl, _, rfl, ite2 (fun _ => ?_) (fun _ => ?_)⟩
  · refine ⟨_, rfl, r, _, _, _, rfl, rfl, SqL.of hR, at_of (j := 3) rfl rfl, .inl ⟨_, rfl, ?_⟩⟩
    refine ⟨_, rfl, _, _, rfl, rfl, m0, ?_⟩
    refine ⟨_, rfl, r, _, _, _, rfl, rfl, SqL.of hR, at_of (j := 3) rfl rfl, _, rfl, _, _, rfl, rfl, ⟨m0, m1⟩, ?_⟩
    refine ⟨_, rfl, r, _, _, 3, rfl, rfl, hR, rfl, ?_⟩
    exact ⟨_, rfl, q _ _ i j (k / m) (Keep.refl r H).upd upd_same hi (md k).1 (md k).2⟩
  -- row[1] = row[1] + 1
  refine ⟨_, rfl, r, _, _, _, rfl, rfl, SqL.of hR, at_of (j := 1) rfl rfl, _, _, rfl, rfl, ?_⟩
  refine ⟨_, rfl, r, _, _, 1, rfl, rfl, hR, rfl, ?_⟩
  have k1 : Keep r H (upd H r (.lst (rowV a (i + 1) j k))) := (Keep.refl r H).upd
  have hR1 : (upd H r (.lst (rowV a (i + 1) j k))) r = some (.lst (rowV a (i + 1) j k)) := upd_same
  show tSeq _ _ _ _ (upd H r (.lst (rowV a (i + 1) j k)))
  generalize (upd H r (.lst (rowV a (i + 1) j k))) = H1 at *
  have hS1 := hS.keep k1
  -- if row[1] > len(row[0])
  refine ⟨_, rfl, r, _, _, _, rfl, rfl, SqL.of hR1, at_of (j := 1) rfl rfl, _, rfl, r, _, _, _, rfl, rfl, SqL.of hR1, at_of (j := 0) rfl rfl, a, _, rfl, .inl hS1.now, _, _, rfl, rfl, _, rfl, ite2 (fun _ => ?_) (fun hl => ?_)⟩
  · refine ⟨_, rfl, r, _, _, _, rfl, rfl, SqL.of hR1, at_of (j := 2) rfl rfl, _, _, rfl, rfl, .inr ⟨by decide, by decide⟩, _, _, rfl, rfl, .inl ⟨_, rfl, ?_⟩⟩
    refine ⟨_, _, rfl, rfl, by show (0 : Int) < 2147483647; decide, ?_⟩
    refine ⟨_, rfl, r, _, _, 2, rfl, rfl, hR1, rfl, ?_⟩
    refine ⟨_, rfl, r, _, _, _, rfl, rfl, SqL.of upd_same, at_of (j := 2) rfl rfl, _, _, rfl, rfl, ⟨by decide, by decide⟩, .inl ⟨_, rfl, ?_⟩⟩
    refine ⟨_, rfl, _, _, rfl, rfl, m0, ?_⟩
    exact q _ _ (i + 1) _ k k1.upd upd_same (by omega) (md _).1 (md _).2
  have hl' : i + 1 ≤ (ns.length : Int) := by
    have z : ¬ (((ns.map V.int).length : Nat) : Int) < i + 1 := fun z => hl (decide_eq_true z)
    rw [List.length_map] at z
    omega
  -- cell = row[0][row[1] - 1]
  refine ⟨_, rfl, r, _, _, _, rfl, rfl, SqL.of hR1, at_of (j := 0) rfl rfl, _, rfl, r, _, _, _, rfl, rfl, SqL.of hR1, at_of (j := 1) rfl rfl, _, _, rfl, rfl, a, _, _, _, rfl, rfl, hS1.now, at_int (j := i.toNat) (by omega) (by omega), ?_⟩
  generalize ns.getD i.toNat 0 = c
  -- row[2] = ..
  refine ⟨_, rfl, r, _, _, _, rfl, rfl, SqL.of hR1, at_of (j := 2) rfl rfl, _, _, rfl, rfl, .inr ⟨by decide, by decide⟩, _, rfl, _, _, rfl, rfl, _, _, rfl, rfl, .inl ⟨_, rfl, ?_⟩⟩
  refine ⟨_, _, rfl, rfl, by show (0 : Int) < 2147483647; decide, ?_⟩
  refine ⟨_, rfl, r, _, _, 2, rfl, rfl, hR1, rfl, ?_⟩
  -- if cell >= 10 ** 18
  refine ⟨_, rfl, _, _, rfl, rfl, ⟨by decide, by decide, by decide⟩, _, _, rfl, rfl, _, rfl, ite2 (fun _ => ?_) (fun _ => ?_)⟩
  · refine ⟨_, rfl, _, rfl, _, _, rfl, rfl, ⟨m0, m1⟩, ?_⟩
    refine ⟨_, rfl, r, _, _, 3, rfl, rfl, upd_same, rfl, ?_⟩
    refine ⟨_, rfl, .inl ⟨_, rfl, ?_⟩⟩
    refine ⟨_, rfl, _, _, rfl, rfl, m0, ?_⟩
    exact q _ _ (i + 1) _ _ k1.upd.upd upd_same (by omega) (md _).1 (md _).2
  · refine ⟨_, rfl, .inl ⟨_, rfl, ?_⟩⟩
    refine ⟨_, rfl, _, _, rfl, rfl, m0, ?_⟩
    exact q _ _ (i + 1) _ _ k1.upd upd_same (by omega) (md _).1 (md _).2
/-! ### _law_pick -/
def spPick (K : PySem.W.Frag) : Sp := fun vs H Q _ => ∃ (r a t : Addr) (i j k : Int) (ns : List Int), vs = [.ref r, .ref t] ∧ t ≠ r ∧ H t = some (.lst [V.int 12, V.int 64]) ∧ H r = some (.lst (rowV a i j k)) ∧ 0 ≤ i ∧ Scr K r a (ns.map V.int) H ∧
  ∀ H' v i' j' k', Keep r H H' → H' r = some (.lst (rowV a i' j' k')) → 0 ≤ i' → v = 12 ∨ v = 64 → Q (.int v) H'
theorem ok_pick {f g : Addr} {fd gd : FuncData} (D : Df K mg "_law_pick" sPick ["_law_row", "_law_things"] f fd) (T : Df K mg "_law_taken" sTaken ["_law_row", "_law_many"] g gd) (N : Nm mg) (GT : FnOk P w K mg base0 CX0 1 g gd ["_law_row", "_law_many"] (spTaken K)) :
    FnOk P w K mg base0 CX0 2 f fd ["_law_row", "_law_things"] (spPick K) := by
  refine D.fn.ok scPick (fun vs H Q E h => ?_) (fun cdv A outer s H vs Q E hr h => ?_)
  · obtain ⟨r, a, t, i, j, k, ns, rfl, _⟩ := h
    rfl
  obtain ⟨r, a, t, i, j, k, ns, rfl, ht, hT, hR, hi, hS, q⟩ := h
  refine ⟨_, pss_one (ps_ret (pe_ix ix_list (pv 1) (pe_call GT hr (by rfl) T.m T.fn.kp T.b .nil pass0 (pa_cons (pv 0) (pa_cons (pe_callB call_len_seq (by rfl) N.len PySem.boot_len (pa_cons (pv 1) pa_nil)) pa_nil))) (fun _ _ => rfl))), ?_⟩
  refine ⟨_, rfl, _, rfl, _, rfl, t, _, rfl, .inl (SqL.of hT), r, a, 2, i, j, k, ns, rfl, by decide, by decide, hR, hi, hS, fun H' v i' j' k' k1 hR' hi' v0 v1 => ?_⟩
  have hT' := k1 t _ ht hT
  have v01 : v = 0 ∨ v = 1 := by omega
  rcases v01 with rfl | rfl
  · exact ⟨t, _, _, _, rfl, rfl, SqL.of hT', at_of (j := 0) rfl rfl, q H' 12 i' j' k' k1 hR' hi' (.inl rfl)⟩
  · exact ⟨t, _, _, _, rfl, rfl, SqL.of hT', at_of (j := 1) rfl rfl, q H' 64 i' j' k' k1 hR' hi' (.inr rfl)⟩
end
end E54
set_option maxHeartbeats 4000000
/-! _law_alike: of two equal ints, of two sequences of one kind with the same ints -/
namespace E54
open PySem PySem.Spec PyProof.Rows L2
/-- a tuple or a list that is tracked -/
def IsSq (H : Hp) (p : Addr) (xs : List V) (b : Bool) : Prop := (b = true ∧ H p = some (.tup xs)) ∨ (b = false ∧ H p = some (.lst xs))
def tyB (b : Bool) : String := if b then "tuple" else "list"
theorem IsSq.same {H H' : Hp} {p : Addr} {xs : List V} {b : Bool} (h : IsSq H p xs b) (s : Same H H') : IsSq H' p xs b := by
  rcases h with ⟨e, h⟩ | ⟨e, h⟩
  · exact .inl ⟨e, s _ _ h⟩
  · exact .inr ⟨e, s _ _ h⟩
theorem IsSq.ty {K : PySem.W.Frag} {H : Hp} {p : Addr} {xs : List V} {b : Bool} (h : IsSq H p xs b) : TyX K H (.ref p) (.type (tyB b)) := by
  rcases h with ⟨rfl, h⟩ | ⟨rfl, h⟩
  · exact .base (.tup h)
  · exact .base (.lst h)
theorem IsSq.sq {K : PySem.W.Frag} {H : Hp} {p : Addr} {xs : List V} {b : Bool} (h : IsSq H p xs b) : SqL K H p xs ∨ SqT K H p xs := by
  rcases h with ⟨_, h⟩ | ⟨_, h⟩
  · exact .inr (SqT.of h)
  · exact .inl (SqL.of h)
theorem IsSq.ix {K : PySem.W.Frag} {H : Hp} {p : Addr} {xs : List V} {b : Bool} {i : Int} {v : V} {Q : VK} (h : IsSq H p xs b) (e : atI xs i = some v) (q : Q v H) : rIx K (.ref p) (.int i) H Q := by
  rcases h with ⟨_, h⟩ | ⟨_, h⟩
  · exact .inr (.inl ⟨p, xs, i, v, rfl, rfl, SqT.of h, e, q⟩)
  · exact .inl ⟨p, xs, i, v, rfl, rfl, SqL.of h, e, q⟩
theorem kit_int {K : PySem.W.Frag} : PySem.W.kitAny K (.type "int") [.type "tuple", .type "list"] = some false :=
  kitAny_cons (b := false) (kit_ty (by decide +kernel)) (fun _ => kitAny_cons (b := false) (kit_ty (by decide +kernel)) (fun _ => kitAny_nil) (fun z => nomatch z)) (fun z => nomatch z)
theorem kit_sq {K : PySem.W.Frag} : ∀ b : Bool, PySem.W.kitAny K (.type (tyB b)) [.type "tuple", .type "list"] = some true
  | true => kitAny_cons (b := true) (kit_ty (by decide +kernel)) (fun z => nomatch z) (fun _ => rfl)
  | false => kitAny_cons (b := false) (kit_ty (by decide +kernel)) (fun _ => kitAny_cons (b := true) (kit_ty (by decide +kernel)) (fun z => nomatch z) (fun _ => rfl)) (fun z => nomatch z)
theorem kit_list {K : PySem.W.Frag} : ∀ b : Bool, PySem.W.kitOne K (.type (tyB b)) (.type "list") = some (!b)
  | true => kit_ty (by decide +kernel)
  | false => kit_ty (by decide +kernel)
section
variable {P : Program} {w : World} {K : PySem.W.Frag} {mg : Str → Option Value} {base0 : Heap}
def spAlikeI : Sp := fun vs H Q _ => ∃ i : Int, vs = [.int i, .int i] ∧ ∀ H', Same H H' → Q (.bl true) H'
theorem ok_alikeI {f : Addr} {fd : FuncData} (D : Df K mg "_law_alike" sAlike ["_law_found", "_law_due"] f fd) (N : Nm mg) : FnOk P w K mg base0 CX0 1 f fd ["_law_found", "_law_due"] spAlikeI := by
  refine D.fn.ok scAlike (fun vs H Q E h => ?_) (fun cdv A outer s H vs Q E hr h => ?_)
  · obtain ⟨i, rfl, _⟩ := h
    rfl
  obtain ⟨i, rfl, q⟩ := h
  refine ⟨_, pss_cons (ps_if (pt_val (pe_callB call_isiT (by rfl) N.isi (by decide +kernel) (pa_cons (pv 1) (pa_cons (pe_tup (pa_cons (pe_bltn (v := .ty "tuple") (by rfl) N.tup PyProof.Rows.boot_tuple rfl) (pa_cons (pe_bltn (v := .ty "list") (by rfl) N.lst PyProof.Rows.boot_list rfl) pa_nil))) pa_nil)))) pss_never pss_nil)
    (pss_cons (ps_if (PW.pt (pw_or (pt_cmpR op_isN (pv 1) pe_non (nomark _)) (pw_or1 (pt_val (pe_callB call_isi (by rfl) N.isi (by decide +kernel) (pa_cons (pv 1) (pa_cons (pe_bltn (v := .ty "str") (by rfl) N.str PyProof.Rows.boot_str rfl) pa_nil))))))) pss_never pss_nil)
    (pss_one (ps_ret (pe_and (pe_callB call_isi (by rfl) N.isi (by decide +kernel) (pa_cons (pv 0) (pa_cons (pe_bltn (v := .ty "int") (by rfl) N.int PyProof.Rows.boot_int rfl) pa_nil)))
      (pe_and (pe_cmpR op_eq (pe_callB call_isi (by rfl) N.isi (by decide +kernel) (pa_cons (pv 0) (pa_cons (pe_bltn (v := .ty "bool") (by rfl) N.bool PyProof.Rows.boot_bool rfl) pa_nil))) (pe_callB call_isi (by rfl) N.isi (by decide +kernel) (pa_cons (pv 1) (pa_cons (pe_bltn (v := .ty "bool") (by rfl) N.bool PyProof.Rows.boot_bool rfl) pa_nil))) (nomark _))
        (pe_one (pe_cmpR op_eq (pv 0) (pv 1) (nomark _)))))))), ?_⟩
  refine ⟨_, rfl, by show 2 ≤ sizeLine; decide, fun tp np => ?_⟩
  have s1 : Same H (upd H tp (.tup [V.ty "tuple", V.ty "list"])) := same_one np
  refine ⟨.int i, tp, [.ty "tuple", .ty "list"], .type "int", [.type "tuple", .type "list"], false, rfl, upd_same, .cons (.ty _) (.cons (.ty _) .nil), .base (.int i), kit_int, false, rfl, iteF ?_⟩
  refine ⟨_, rfl, rfl, false, rfl, iteF ?_⟩
  refine ⟨_, rfl, .int i, .ty "str", .type "int", .type "str", false, rfl, .ty "str", .base (.int i), kit_ty (by decide +kernel), false, rfl, iteF ?_⟩
  refine ⟨_, rfl, .int i, .ty "int", .type "int", .type "int", true, rfl, .ty "int", .base (.int i), kit_ty (by decide +kernel), true, rfl, iteT ?_⟩
  refine ⟨_, rfl, .int i, .ty "bool", .type "int", .type "bool", false, rfl, .ty "bool", .base (.int i), kit_ty (by decide +kernel), ?_⟩
  refine ⟨_, rfl, .int i, .ty "bool", .type "int", .type "bool", false, rfl, .ty "bool", .base (.int i), kit_ty (by decide +kernel), rfl, true, rfl, iteT ?_⟩
  refine ⟨_, rfl, _, rfl, rfl, ?_⟩
  have d : Q (.bl (decide (V.int i = V.int i))) (upd H tp (.tup [V.ty "tuple", V.ty "list"])) := by
    rw [decide_eq_true rfl]
    exact q _ s1
  exact d
def spAlike : Sp := fun vs H Q _ => ∃ (p r : Addr) (ns : List Int) (b : Bool), vs = [.ref p, .ref r] ∧ IsSq H p (ns.map V.int) b ∧ IsSq H r (ns.map V.int) b ∧ ns.length ≤ 1000 ∧ ∀ H', Same H H' → Q (.bl true) H'
theorem ok_alike {f : Addr} {fd : FuncData} (D : Df K mg "_law_alike" sAlike ["_law_found", "_law_due"] f fd) (N : Nm mg) : FnOk P w K mg base0 CX0 2 f fd ["_law_found", "_law_due"] spAlike := by
  have GA : FnOk P w K mg base0 CX0 1 f fd ["_law_found", "_law_due"] spAlikeI := ok_alikeI D N
  refine D.fn.ok scAlike (fun vs H Q E h => ?_) (fun cdv A outer s H vs Q E hr h => ?_)
  · obtain ⟨p, r, ns, b, rfl, _⟩ := h
    rfl
  obtain ⟨p, r, ns, b, rfl, hp, hq, hl, q⟩ := h
  have hr1 : Room 1 (A.deeper (envOfC "_law_alike" (defScope sAlike) s.heap.objs.size f cdv)) := hr
  refine ⟨_, pss_cons (ps_if (pt_val (pe_callB call_isiT (by rfl) N.isi (by decide +kernel) (pa_cons (pv 1) (pa_cons (pe_tup (pa_cons (pe_bltn (v := .ty "tuple") (by rfl) N.tup PyProof.Rows.boot_tuple rfl) (pa_cons (pe_bltn (v := .ty "list") (by rfl) N.lst PyProof.Rows.boot_list rfl) pa_nil))) pa_nil))))
      (pss_cons (ps_if (PW.pt (pw_or (pt_not (pt_val (pe_callB call_isiT (by rfl) N.isi (by decide +kernel) (pa_cons (pv 0) (pa_cons (pe_tup (pa_cons (pe_bltn (v := .ty "tuple") (by rfl) N.tup PyProof.Rows.boot_tuple rfl) (pa_cons (pe_bltn (v := .ty "list") (by rfl) N.lst PyProof.Rows.boot_list rfl) pa_nil))) pa_nil)))))
          (pw_or1 (pt_cmpR op_ne (pe_callB call_isi (by rfl) N.isi (by decide +kernel) (pa_cons (pv 0) (pa_cons (pe_bltn (v := .ty "list") (by rfl) N.lst PyProof.Rows.boot_list rfl) pa_nil))) (pe_callB call_isi (by rfl) N.isi (by decide +kernel) (pa_cons (pv 1) (pa_cons (pe_bltn (v := .ty "list") (by rfl) N.lst PyProof.Rows.boot_list rfl) pa_nil))) (nomark _))))) pss_never pss_nil)
      (pss_cons (ps_if (pt_cmpR op_ne (pe_callB call_len_seq (by rfl) N.len PySem.boot_len (pa_cons (pv 0) pa_nil)) (pe_callB call_len_seq (by rfl) N.len PySem.boot_len (pa_cons (pv 1) pa_nil)) (nomark _)) pss_never pss_nil)
      (pss_one (ps_ret (pe_cmpR (op_eqD hr1.units) (pe_lc (own := [("_law_k", 2)]) (g := gName 2) (by rfl) scAlike.nd (pi_range1 (by rfl) N.rng (pa_cons (pe_callB call_len_seq (by rfl) N.len PySem.boot_len (pa_cons (pv 1) pa_nil)) pa_nil)) (blkOk_by (N := ["_law_found", "_law_due", "_law_k"]) (sc := defScope sAlike) (by decide +kernel))
          (fun _ _ _ _ _ => pg_name (i := 2) scAlike.nd rfl (Or.inl rfl))
          (fun _ _ _ _ _ => pts_one (pt_not (pt_val (pe_call GA hr1 (by rfl) D.m D.fn.kp D.b .nil pass0 (pa_cons (pe_ix (r := rIx K) ix_seq (pv 0) (pv 2) (fun _ _ => rfl)) (pa_cons (pe_ix (r := rIx K) ix_seq (pv 1) (pv 2) (fun _ _ => rfl)) pa_nil))))))
          (fun _ _ _ _ _ => pv 2)) (pe_lst pa_nil) (nomark _)))))) pss_nil)
    (pss_never), ?_⟩
  refine ⟨_, rfl, by show 2 ≤ sizeLine; decide, fun t1 n1 => ?_⟩
  have s1 : Same H (upd H t1 (.tup [V.ty "tuple", V.ty "list"])) := same_one n1
  refine ⟨.ref r, t1, [.ty "tuple", .ty "list"], .type (tyB b), [.type "tuple", .type "list"], true, rfl, upd_same, .cons (.ty _) (.cons (.ty _) .nil), (hq.same s1).ty, kit_sq b, true, rfl, iteT ?_⟩
  refine ⟨_, rfl, by show 2 ≤ sizeLine; decide, fun t2 n2 => ?_⟩
  have s2 := same_new (o := .tup [V.ty "tuple", V.ty "list"]) s1 n2
  refine ⟨.ref p, t2, [.ty "tuple", .ty "list"], .type (tyB b), [.type "tuple", .type "list"], true, rfl, upd_same, .cons (.ty _) (.cons (.ty _) .nil), (hp.same s2).ty, kit_sq b, true, rfl, iteF ?_⟩
  refine ⟨_, rfl, .ref p, .ty "list", .type (tyB b), .type "list", !b, rfl, .ty "list", (hp.same s2).ty, kit_list b, ?_⟩
  refine ⟨_, rfl, .ref r, .ty "list", .type (tyB b), .type "list", !b, rfl, .ty "list", (hq.same s2).ty, kit_list b, rfl, false, ?_, iteF ?_⟩
  · rw [decide_eq_true rfl]
    rfl
  generalize (upd (upd H t1 (.tup [V.ty "tuple", V.ty "list"])) t2 (.tup [V.ty "tuple", V.ty "list"])) = H2 at *
  have hp2 := hp.same s2
  have hq2 := hq.same s2
  refine ⟨_, rfl, p, _, rfl, hp2.sq, _, rfl, r, _, rfl, hq2.sq, rfl, false, ?_, iteF ?_⟩
  · rw [decide_eq_true rfl]
    rfl
  refine ⟨_, rfl, r, _, rfl, hq2.sq, _, rfl, by rw [List.length_map]; omega, by rw [List.length_map]; omega, fun L nL => ?_⟩
  refine lc_range (lo := 0) (n := (((ns.map V.int).length : Nat) : Int).toNat) (fun i H3 => Same H2 H3 ∧ H3 L = some (.lst [])) ⟨same_one nL, upd_same⟩ ?_ ?_
  · rintro i H3 hi ⟨s3, e3⟩
    have hi' : i < ns.length := by
      rw [Int.toNat_natCast, List.length_map] at hi
      exact hi
    refine ⟨rfl, _, rfl, _, rfl, (hp2.same s3).ix (at_int (j := i) (by omega) hi') ?_⟩
    refine ⟨_, rfl, _, rfl, (hq2.same s3).ix (at_int (j := i) (by omega) hi') ?_⟩
    exact ⟨_, rfl, fun H4 s4 => ⟨true, rfl, iteF ⟨s3.trans s4, s4 _ _ e3⟩⟩⟩
  · rintro H3 ⟨s3, e3⟩
    refine ⟨Nat.zero_le _, fun L2 nL2 => ?_⟩
    have s4 := same_new (o := .lst []) s3 nL2
    have e4 : (upd H3 L2 (.lst [])) L = some (.lst []) := by
      rw [upd_ne (ne_of_none e3 nL2)]
      exact e3
    refine ⟨.list [], .list [], .lst (SqL.of e4) .nil, .lst (SqL.of upd_same) .nil, rfl, rfl, ?_⟩
    rw [show PyData.eqv (.list []) (.list []) = true from SeqAt.eqv_refl _ rfl]
    exact q _ (s2.trans s4)
end
end E54
set_option maxHeartbeats 4000000
/-! what the law's own body asks besides -/
namespace E54
open PySem PySem.Spec PyProof.Rows L2
theorem dp_all {K : PySem.W.Frag} {H : Hp} : ∀ L : List Int, DpAll K H (L.map V.int) (L.map PyData.int)
  | [] => .nil
  | x :: xs => .cons (.int x) (dp_all xs)
theorem dp_list {K : PySem.W.Frag} {H : Hp} {p : Addr} {L : List Int} (h : SqL K H p (L.map V.int)) : Dp K H (.ref p) (.list (L.map PyData.int)) := .lst h (dp_all L)
theorem lay_all : ∀ L : List Int, PyData.canLayAll0 (L.map PyData.int) = true
  | [] => rfl
  | x :: xs => by
    show (PyData.canLay0 (.int x) && PyData.canLayAll0 (xs.map PyData.int)) = true
    rw [lay_all xs]
    rfl
theorem depth_all : ∀ L : List Int, PyData.depthAll (L.map PyData.int) = 0
  | [] => rfl
  | x :: xs => by
    have ih := depth_all xs
    show PyData.depthAll (PyData.int x :: xs.map PyData.int) = 0
    simp [PyData.depthAll, PyData.depth, ih]
theorem shaped_list (L : List Int) : SeqAt.shaped (.list (L.map PyData.int)) = true := by
  unfold SeqAt.shaped
  rw [Bool.and_eq_true]
  refine ⟨lay_all L, decide_eq_true ?_⟩
  show PyData.depth (.list (L.map PyData.int)) ≤ 64
  simp [PyData.depth, depth_all]
theorem eqv_same (L : List Int) : PyData.eqv (.list (L.map PyData.int)) (.list (L.map PyData.int)) = true := SeqAt.eqv_refl _ (lay_all L)
theorem eqv_nil : ∀ L : List Int, PyData.eqv (.list (L.map PyData.int)) (.list (([] : List Int).map PyData.int)) = L.isEmpty
  | [] => by
    show PyData.eqv (.list []) (.list []) = true
    simp [PyData.eqv, PyData.eqvAll]
  | x :: xs => by
    show PyData.eqv (.list (PyData.int x :: xs.map PyData.int)) (.list []) = false
    simp [PyData.eqv, PyData.eqvAll]
theorem at_last_int {L : List Int} (h : 1 ≤ L.length) : atI (L.map V.int) (-1) = some (.int (L.getD (L.length - 1) 0)) := by
  unfold atI ixN
  rw [if_neg (by decide), if_pos (by rw [List.length_map]; omega), List.length_map]
  have e : (-1 + (L.length : Int)).toNat = L.length - 1 := by omega
  rw [e]
  show (L.map V.int)[L.length - 1]? = _
  exact get_int (by omega)
/-- t * k in one way -/
theorem rep_way {K : PySem.W.Frag} {H : Hp} {l : Addr} {z y : Int} {k : Nat} {Q : VK} (hl : H l = some (.tup [V.int z])) (hk : k ≤ 1000) (hy : y = (k : Int))
    (q : ∀ p H', Same H H' → H' p = some (.tup ((List.replicate k z).map V.int)) → Q (.ref p) H') : rRepA K (.ref l) (.int y) H Q := by
  subst hy
  refine ⟨l, (k : Int), [V.int z], rfl, rfl, SqT.of hl, List.cons_ne_nil _ _, by omega, by omega, by show 1 ≤ 1000; decide, fun e => ?_, fun _ p np => ?_⟩
  · have e1 : k = 1 := by omega
    subst e1
    exact q l H (Same.refl H) hl
  · rw [Int.toNat_natCast, rep_int]
    exact q p _ (same_one np) upd_same
theorem cat_way {K : PySem.W.Frag} {H : Hp} {a b : Addr} {xs ys : List Int} {Q : VK} (ha : H a = some (.tup (xs.map V.int))) (hb : H b = some (.tup (ys.map V.int))) (hx : xs ≠ []) (hz : xs.length + ys.length ≤ 1000)
    (q : ∀ p H', Same H H' → H' p = some (.tup ((xs ++ ys).map V.int)) → Q (.ref p) H') : rCatA K (.ref a) (.ref b) H Q := by
  refine ⟨a, b, _, _, rfl, rfl, SqT.of ha, SqT.of hb, ?_, fun e => absurd e (by intro z; exact hx (List.map_eq_nil_iff.mp z)), fun _ e => ?_, fun _ _ p np => ?_⟩
  · rw [List.length_map, List.length_map]
    exact small_line hz
  · have e' : ys = [] := List.map_eq_nil_iff.mp e
    subst e'
    refine q a H (Same.refl H) ?_
    rw [List.append_nil]
    exact ha
  · refine q p _ (same_one np) ?_
    rw [upd_same, List.map_append]
theorem sub_add (x l c : Int) : x + l * c = x - (-l) * c := by
  rw [Int.neg_mul, Int.sub_neg]
theorem drop_cons {L : List Int} {i : Nat} (h : i < L.length) : L.drop i = L.getD i 0 :: L.drop (i + 1) := by
  rw [List.drop_eq_getElem_cons h]
  congr 1
  rw [List.getD_eq_getElem?_getD, List.getElem?_eq_getElem h]
  rfl
def dvTo (n p m : Nat) : List Nat := (List.range' 2 m).filter fun f => n % f == 0 && p % f == 0
theorem dvTo_succ (n p m : Nat) : dvTo n p (m + 1) = dvTo n p m ++ (if (n % (2 + m) == 0 && p % (2 + m) == 0) = true then [2 + m] else []) := by
  unfold dvTo
  rw [List.range'_concat, List.filter_append, List.filter_cons, List.filter_nil, Nat.one_mul]
def primeTo (n m : Nat) : List Nat := (List.range m).filter fun p => (dvF n p).isEmpty
theorem primeTo_succ (n m : Nat) : primeTo n (m + 1) = primeTo n m ++ (if (dvF n m).isEmpty = true then [m] else []) := by
  unfold primeTo
  rw [List.range_succ, List.filter_append, List.filter_cons, List.filter_nil]
theorem primeTo_le (n m : Nat) : (primeTo n m).length ≤ m := by
  have h := List.length_filter_le (fun p => (dvF n p).isEmpty) (List.range m)
  rw [List.length_range] at h
  exact h
theorem dvTo_le (n p m : Nat) : (dvTo n p m).length ≤ m := by
  have h := List.length_filter_le (fun f => n % f == 0 && p % f == 0) (List.range' 2 m)
  rw [List.length_range'] at h
  exact h
theorem natsI_len (l : List Nat) : (natsI l).length = l.length := List.length_map _
theorem natsI_app (l m : List Nat) : natsI (l ++ m) = natsI l ++ natsI m := List.map_append
theorem natsI_empty (l : List Nat) : (natsI l).isEmpty = l.isEmpty := by
  cases l <;> rfl
theorem mod_two {n m : Nat} : ((n : Int) % (2 + (m : Int)) = 0) ↔ n % (2 + m) = 0 := by
  have e : (2 : Int) + (m : Int) = ((2 + m : Nat) : Int) := by omega
  rw [e, ← Int.natCast_emod]
  omega
theorem mulF_len (xs ys : List Int) : (mulF xs ys).length = xs.length + ys.length - 1 := by
  have h : ∀ (xs M : List Int) (k : Nat), (mulGo ys k xs M).length = M.length := by
    intro xs
    induction xs with
    | nil => intro M k; rfl
    | cons x xs ih =>
      intro M k
      show (mulGo ys (k + 1) xs (subAt M k ys (-x))).length = M.length
      rw [ih, subAt_len]
  unfold mulF
  rw [h, List.length_replicate]
theorem dueP_at (n : Nat) (b : Bool) : dueP n b = (if b = true then (n : Int) else 0) :: List.replicate ((cyc n).length - 2) 0 := rfl
end E54
set_option maxHeartbeats 16000000
/-! the law's own body -/
namespace E54
open PySem PySem.Spec PyProof.Rows L2
abbrev lawN : List Str := ["_law_script", "_law_row", "_law_number", "_law_product", "_law_part", "_law_told", "_law_more", "_law_at", "_law_place", "_law_prime_to", "_law_value", "_law_power", "_law_whole", "_law_f"]
theorem scLaw : FnScope lawN ["_law_script"] (defScope sLaw) := ⟨rfl, rfl, rfl, by decide +kernel, rfl, by decide +kernel, by decide +kernel⟩
theorem same_keep {H H' : Hp} (s : Same H H') (r : Addr) : Keep r H H' := fun b o _ h => s b o h
section
variable {P : Program} {w : World} {K : PySem.W.Frag} {mg : Str → Option Value} {base0 : Heap}
def spLaw (K : PySem.W.Frag) : Sp := fun vs H Q _ => ∃ (a : Addr) (ns : List Int), vs = [.ref a] ∧ SqL K H a (ns.map V.int) ∧ ns.length ≤ 63 ∧ ∀ H', Q (.bl true) H'
theorem ok_law {f a1 a2 a3 a4 a5 a6 a7 : Addr} {fd d1 d2 d3 d4 d5 d6 d7 : FuncData} (D : Df K mg "law" sLaw ["_law_script"] f fd) (T : Df K mg "_law_taken" sTaken ["_law_row", "_law_many"] a1 d1) (Pk : Df K mg "_law_pick" sPick ["_law_row", "_law_things"] a2 d2)
    (A : Df K mg "_law_alike" sAlike ["_law_found", "_law_due"] a3 d3) (C : Df K mg "cyclotomic" sCyc ["number"] a4 d4) (U : Df K mg "turns" sTurns ["number"] a5 d5) (L : Df K mg "plain" sPlain ["number", "value"] a6 d6) (Va : Df K mg "value_at" sValueAt ["word", "number", "power"] a7 d7) (N : Nm mg)
    (GT : FnOk P w K mg base0 CX0 1 a1 d1 ["_law_row", "_law_many"] (spTaken K)) (GP : FnOk P w K mg base0 CX0 2 a2 d2 ["_law_row", "_law_things"] (spPick K)) (GA : FnOk P w K mg base0 CX0 2 a3 d3 ["_law_found", "_law_due"] spAlike)
    (GC : FnOk P w K mg base0 CX0 9 a4 d4 ["number"] spCyc) (GU : FnOk P w K mg base0 CX0 4 a5 d5 ["number"] spTurns) (GL : FnOk P w K mg base0 CX0 10 a6 d6 ["number", "value"] spPlain) (GV : FnOk P w K mg base0 CX0 10 a7 d7 ["word", "number", "power"] spValueAt) :
    FnOk P w K mg base0 CX0 11 f fd ["_law_script"] (spLaw K) := by
  refine D.fn.ok scLaw (fun vs H Q E h => ?_) (fun cdv Ar outer s H vs Q E hr h => ?_)
  · obtain ⟨a, ns, rfl, _⟩ := h
    rfl
  obtain ⟨a, ns, rfl, hS, h63, q⟩ := h
  have hr1 : Room 1 (Ar.deeper (envOfC "law" (defScope sLaw) s.heap.objs.size f cdv)) := hr.mono (by decide)
  have hr2 : Room 2 (Ar.deeper (envOfC "law" (defScope sLaw) s.heap.objs.size f cdv)) := hr.mono (by decide)
  have hr4 : Room 4 (Ar.deeper (envOfC "law" (defScope sLaw) s.heap.objs.size f cdv)) := hr.mono (by decide)
  have hr9 : Room 9 (Ar.deeper (envOfC "law" (defScope sLaw) s.heap.objs.size f cdv)) := hr.mono (by decide)
  refine ⟨_, pss_cons (ps_set (i := 1) scLaw.nd rfl (.inl rfl) (pe_lst (pa_cons (pv 0) (pa_cons pe_int (pa_cons pe_int (pa_cons pe_int pa_nil))))))
    (pss_cons (ps_set (i := 2) scLaw.nd rfl (.inr rfl) (pe_op op_add pe_int (pe_call GT hr1 (by rfl) T.m T.fn.kp T.b .nil pass0 (pa_cons (pv 1) (pa_cons (pe_call GP hr2 (by rfl) Pk.m Pk.fn.kp Pk.b .nil pass0 (pa_cons (pv 1) (pa_cons (pe_lst (pa_cons pe_int (pa_cons pe_int pa_nil))) pa_nil))) pa_nil)))))
    (pss_cons (ps_set (i := 3) scLaw.nd rfl (.inl rfl) (pe_lst (pa_cons pe_int pa_nil)))
    (pss_cons (ps_for PassesOwn.never rfl (pi_range2 (by rfl) N.rng (pa_cons pe_int (pa_cons (pe_op op_add (pv 2) pe_int) pa_nil))) (pg_name (i := 4) scLaw.nd rfl (.inr rfl))
      (pss_one (ps_if (pt_cmpR op_eq (pe_op op_mod (pv 2) (pv 4)) pe_int (nomark _))
        (pss_cons (ps_set (i := 5) scLaw.nd rfl (.inl rfl) (pe_call GC hr9 (by rfl) C.m C.fn.kp C.b .nil pass0 (pa_cons (pv 4) pa_nil)))
        (pss_cons (ps_set (i := 6) scLaw.nd rfl (.inl rfl) (pe_op op_rep (pe_lst (pa_cons pe_int pa_nil)) (pe_op op_sub (pe_op op_add (pe_callB call_len_seq (by rfl) N.len PySem.boot_len (pa_cons (pv 3) pa_nil)) (pe_callB call_len_seq (by rfl) N.len PySem.boot_len (pa_cons (pv 5) pa_nil))) pe_int)))
        (pss_cons (ps_for PassesOwn.never rfl (pi_range1 (by rfl) N.rng (pa_cons (pe_callB call_len_seq (by rfl) N.len PySem.boot_len (pa_cons (pv 3) pa_nil)) pa_nil)) (pg_name (i := 7) scLaw.nd rfl (.inl rfl))
          (pss_one (ps_for PassesOwn.never rfl (pi_range1 (by rfl) N.rng (pa_cons (pe_callB call_len_seq (by rfl) N.len PySem.boot_len (pa_cons (pv 5) pa_nil)) pa_nil)) (pg_name (i := 8) scLaw.nd rfl (.inl rfl))
            (pss_one (ps_augS (pv 6) (pe_op op_add (pv 7) (pv 8)) get_list (pe_op op_mul (pe_ix ix_list (pv 3) (pv 7) (fun _ _ => rfl)) (pe_ix ix_tup (pv 5) (pv 8) (fun _ _ => rfl))) ip_add set_list)))))
        (pss_one (ps_set (i := 3) scLaw.nd rfl (.inl rfl) (pv 6)))))) pss_nil)))
    (pss_cons (ps_if (pt_cmpR (op_neD hr.units) (pv 3) (pe_op op_cat (pe_op op_cat (pe_lst (pa_cons (pe_un un_neg pe_int) pa_nil)) (pe_op op_rep (pe_lst (pa_cons pe_int pa_nil)) (pe_op op_sub (pv 2) pe_int))) (pe_lst (pa_cons pe_int pa_nil))) (nomark _)) pss_never pss_nil)
    (pss_cons (ps_set (i := 5) scLaw.nd rfl (.inl rfl) (pe_call GC hr9 (by rfl) C.m C.fn.kp C.b .nil pass0 (pa_cons (pv 2) pa_nil)))
    (pss_cons (ps_set (i := 9) scLaw.nd rfl (.inl rfl) (pe_lst pa_nil))
    (pss_cons (ps_for PassesOwn.never rfl (pi_range1 (by rfl) N.rng (pa_cons (pv 2) pa_nil)) (pg_name (i := 4) scLaw.nd rfl (.inr rfl))
      (pss_one (ps_if (pt_cmpR (op_eqD hr.units) (pe_lc (own := [("_law_f", 13)]) (g := gName 13) (by rfl) scLaw.nd (pi_range2 (by rfl) N.rng (pa_cons pe_int (pa_cons (pe_op op_add (pv 2) pe_int) pa_nil))) (blkOk_by (N := lawN) (sc := defScope sLaw) (by decide +kernel))
          (fun _ _ _ _ _ => pg_name (i := 13) scLaw.nd rfl (Or.inl rfl))
          (fun _ _ _ _ _ => pts_one (PW.pt (pw_and (pt_cmpR op_eq (pe_op op_mod (pv 2) (pv 13)) pe_int (nomark _)) (pw_and1 (pt_cmpR op_eq (pe_op op_mod (pv 4) (pv 13)) pe_int (nomark _))))))
          (fun _ _ _ _ _ => pv 13)) (pe_lst pa_nil) (nomark _))
        (pss_one (ps_expr (pe_bm PySem.F.plainAttrs_list PySem.F.slot_list_append PySem.F.type_list_append mt_append (pv 9) (pa_cons (pv 4) pa_nil)))) pss_nil)))
    (pss_cons (ps_if (PW.pt (pw_or (pt_not (pt_val (pe_callB call_isi (by rfl) N.isi (by decide +kernel) (pa_cons (pv 5) (pa_cons (pe_bltn (v := .ty "tuple") (by rfl) N.tup PyProof.Rows.boot_tuple rfl) pa_nil)))))
        (pw_or (pt_cmpR op_ne (pe_callB call_len_seq (by rfl) N.len PySem.boot_len (pa_cons (pv 5) pa_nil)) (pe_op op_add (pe_callB call_len_seq (by rfl) N.len PySem.boot_len (pa_cons (pv 9) pa_nil)) pe_int) (nomark _))
        (pw_or (pt_cmpR op_ne (pe_ix ix_tup (pv 5) (pe_un un_neg pe_int) (fun _ _ => rfl)) pe_int (nomark _))
        (pw_or1 (pt_not (pt_val (pe_call GA hr2 (by rfl) A.m A.fn.kp A.b .nil pass0 (pa_cons (pe_call GU hr4 (by rfl) U.m U.fn.kp U.b .nil pass0 (pa_cons (pv 2) pa_nil)) (pa_cons (pv 9) pa_nil)))))))))) pss_never pss_nil)
    (pss_cons (ps_set (i := 10) scLaw.nd rfl (.inl rfl) (pe_op op_sub (pe_call GT hr1 (by rfl) T.m T.fn.kp T.b .nil pass0 (pa_cons (pv 1) (pa_cons pe_int pa_nil))) pe_int))
    (pss_cons (ps_if (pt_not (pt_val (pe_call GA hr2 (by rfl) A.m A.fn.kp A.b .nil pass0 (pa_cons (pe_call GL hr (by rfl) L.m L.fn.kp L.b .nil pass0 (pa_cons (pv 2) (pa_cons (pv 10) pa_nil)))
        (pa_cons (pe_op op_catA (pe_tup (pa_cons (pv 10) pa_nil)) (pe_op op_repA (pe_tup (pa_cons pe_int pa_nil)) (pe_op op_sub (pe_callB call_len_seq (by rfl) N.len PySem.boot_len (pa_cons (pv 5) pa_nil)) pe_int))) pa_nil))))) pss_never pss_nil)
    (pss_cons (ps_set (i := 11) scLaw.nd rfl (.inl rfl) (pe_call GT hr1 (by rfl) T.m T.fn.kp T.b .nil pass0 (pa_cons (pv 1) (pa_cons (pv 2) pa_nil))))
    (pss_cons (ps_set (i := 12) scLaw.nd rfl (.inl rfl) (pe_call GV hr (by rfl) Va.m Va.fn.kp Va.b .nil pass0 (pa_cons (pe_op op_repA (pe_tup (pa_cons pe_int pa_nil)) (pv 2)) (pa_cons (pv 2) (pa_cons (pv 11) pa_nil)))))
    (pss_one (ps_ret (pe_call GA hr2 (by rfl) A.m A.fn.kp A.b .nil pass0 (pa_cons (pv 12) (pa_cons (pe_call GL hr (by rfl) L.m L.fn.kp L.b .nil pass0 (pa_cons (pv 2) (pa_cons (pe_ifExp (pt_cmpR op_eq (pv 11) pe_int (nomark _)) (pv 2) pe_int) pa_nil))) pa_nil))))))))))))))))), ?_⟩
  -- row = [script, 0, 3554, 0]
  refine ⟨_, rfl, by show 4 ≤ sizeLine; decide, fun r nr => ?_⟩
  have hS1 : Scr K r a (ns.map V.int) (upd H r (.lst (rowV a 0 3554 0))) := Scr.start hS nr
  have hR1 : (upd H r (.lst (rowV a 0 3554 0))) r = some (.lst (rowV a 0 3554 0)) := upd_same
  have e0 : (upd H r (.lst [V.ref a, V.int 0, V.int 3554, V.int 0])) = (upd H r (.lst (rowV a 0 3554 0))) := rfl
  rw [e0]
  generalize (upd H r (.lst (rowV a 0 3554 0))) = HA at *
  -- number = 1 + taken(row, pick(row, [12, 64]))
  refine ⟨_, rfl, _, rfl, by show 2 ≤ sizeLine; decide, fun t0 nt0 => ?_⟩
  have t0r : t0 ≠ r := ne_new nt0 hR1
  have sA := same_one (o := .lst [V.int 12, V.int 64]) nt0
  refine ⟨r, a, t0, 0, 3554, 0, ns, rfl, t0r, upd_same, sA _ _ hR1, by decide, hS1.keep (same_keep sA r), fun HB v i1 j1 k1 kB hRB hi1 hv => ?_⟩
  have hSB := (hS1.keep (same_keep sA r)).keep kB
  refine ⟨r, a, v, i1, j1, k1, ns, rfl, by omega, by omega, hRB, hi1, hSB, fun HC u i2 j2 k2 kC hRC hi2 u0 u1 => ?_⟩
  have hSC := hSB.keep kC
  obtain ⟨n, hn⟩ : ∃ n : Nat, 1 + u = (n : Int) := ⟨(1 + u).toNat, by omega⟩
  have h1 : 1 ≤ n := by omega
  have h64 : n ≤ 64 := by omega
  refine ⟨1, u, rfl, rfl, ?_⟩
  clear hSB kC hRB hi1 kB sA t0r nt0 hS1 hR1 e0 nr
  -- product = [1]
  refine ⟨by show 1 ≤ sizeLine; decide, fun p0 np0 => ?_⟩
  have s0 : Same HC (upd HC p0 (.lst [V.int 1])) := same_one np0
  -- for part in range(1, number + 1)
  refine ⟨_, rfl, _, _, rfl, rfl, 1, (n : Int) + 1, congrArg (fun z => [V.int 1, V.int (z + 1)]) hn, ⟨by omega, by omega, by omega, by omega⟩, ?_⟩
  refine for_range (lo := 1) (n := ((n : Int) + 1 - 1).toNat) (fun i σ H2 => ∃ (G : List Int) (p : Addr) (y4 y5 y6 y7 y8 : Option V), σ = [some (.ref a), some (.ref r), some (.int (n : Int)), some (.ref p), y4, y5, y6, y7, y8, none, none, none, none, none] ∧
      Same HC H2 ∧ HC p = none ∧ H2 p = some (.lst (G.map V.int)) ∧ prodOk n (n - i) i G = true)
    ⟨[1], p0, none, none, none, none, none, congrArg (fun z => [some (V.ref a), some (V.ref r), some (V.int z), some (V.ref p0), none, none, none, none, none, none, none, none, none, none]) hn, s0, np0, upd_same, prod_start h1 h64⟩ ?_ ?_
  · rintro i σ H2 hi ⟨G, p, y4, y5, y6, y7, y8, rfl, sm, np, hp, ok⟩
    refine ⟨_, rfl, _, rfl, _, _, rfl, rfl, by omega, rfl, _, rfl, ?_⟩
    obtain ⟨k, hk⟩ : ∃ k : Nat, n - i = k + 1 := ⟨n - i - 1, by omega⟩
    rw [hk] at ok
    have hk' : n - (i + 1) = k := by omega
    by_cases hd : n % (i + 1) = 0
    · rw [decide_eq_true (congrArg V.int (mod_iff.mpr hd))]
      obtain ⟨c1, c2, c3, c4⟩ := prod_yes ok hd
      have i64 : i + 1 ≤ 64 := by omega
      refine iteT ?_
      -- told = cyclotomic(part)
      refine ⟨_, rfl, i + 1, congrArg (fun z => [V.int z]) (by omega), by omega, i64, fun H3 t s3 nt et => ?_⟩
      generalize hC : cyc (i + 1) = Y at *
      have hY : ∀ j, -2 ≤ Y.getD j 0 ∧ Y.getD j 0 ≤ 2 := fun j => by
        rw [← hC]
        exact cyc_at (by omega) i64
      have hp3 := s3 _ _ hp
      -- more = [0] * (len(product) + len(told) - 1)
      refine ⟨by show 1 ≤ sizeLine; decide, fun z nz => ?_⟩
      have s4 := same_one (o := .lst [V.int 0]) nz
      refine ⟨_, rfl, p, _, rfl, .inl (SqL.of (s4 _ _ hp3)), _, rfl, t, _, rfl, .inr (SqT.of (s4 _ _ et)), _, _, rfl, rfl, _, _, rfl, rfl, z, ((G.length + Y.length - 1 : Nat) : Int), _, rfl, ?_, upd_same, by omega, by omega, ?_, fun m nm => ?_⟩
      · rw [List.length_map, List.length_map]
        refine congrArg V.int ?_
        omega
      · refine small_line ?_
        show 1 * _ ≤ 1000
        omega
      rw [Int.toNat_natCast, rep_int]
      have s5 := same_new (o := .lst ((List.replicate (G.length + Y.length - 1) 0).map V.int)) s4 nm
      have nm3 : H3 m = none := s4.free nm
      -- for at in range(len(product))
      refine ⟨_, rfl, p, _, rfl, .inl (SqL.of (s5 _ _ hp3)), (G.length : Int), congrArg (fun z : Nat => [V.int (z : Int)]) (List.length_map _), by omega, by omega, ?_⟩
      refine for_range (lo := 0) (n := ((G.length : Nat) : Int).toNat) (fun at' σ H5 => ∃ (M : List Int) (y7 y8 : Option V), σ = [some (.ref a), some (.ref r), some (.int (n : Int)), some (.ref p), some (.int (1 + (i : Int))), some (.ref t), some (.ref m), y7, y8, none, none, none, none, none] ∧
          Same H3 H5 ∧ H5 m = some (.lst (M.map V.int)) ∧ M.length = G.length + Y.length - 1 ∧ mulGo Y at' (G.drop at') M = mulF G Y)
        ⟨List.replicate (G.length + Y.length - 1) 0, _, _, rfl, s5, upd_same, List.length_replicate, rfl⟩ ?_ ?_
      · rintro x σ H5 hx ⟨M, z7, z8, rfl, s6, hM, eM, eO⟩
        have hx' : x < G.length := by omega
        -- for place in range(len(told))
        refine ⟨_, rfl, t, _, rfl, .inr (SqT.of (s6 _ _ et)), (Y.length : Int), congrArg (fun z : Nat => [V.int (z : Int)]) (List.length_map _), by omega, by omega, ?_⟩
        refine for_range (lo := 0) (n := ((Y.length : Nat) : Int).toNat) (fun l σ H6 => ∃ (y8 : Option V), σ = [some (.ref a), some (.ref r), some (.int (n : Int)), some (.ref p), some (.int (1 + (i : Int))), some (.ref t), some (.ref m), some (.int (0 + (x : Int))), y8, none, none, none, none, none] ∧
            Same H3 H6 ∧ H6 m = some (.lst ((subAt M x (Y.take l) (-(G.getD x 0))).map V.int)))
          ⟨z8, rfl, s6, by rw [List.take_zero, subAt_nil]; exact hM⟩ ?_ ?_
        · rintro l σ H6 hl ⟨w8, rfl, s7, hM6⟩
          have hl' : l < Y.length := by omega
          have hxl : x + l < (subAt M x (Y.take l) (-(G.getD x 0))).length := by
            rw [subAt_len]
            omega
          refine ⟨_, rfl, _, rfl, _, rfl, _, _, rfl, rfl, m, _, _, x + l, _, rfl, rfl, by omega, SqL.of hM6, get_int hxl, ?_⟩
          refine ⟨_, rfl, _, rfl, p, _, _, _, rfl, rfl, SqL.of (s7 _ _ hp3), at_int (j := x) (by omega) hx', ?_⟩
          refine ⟨_, rfl, _, rfl, t, _, _, _, rfl, rfl, SqT.of (s7 _ _ et), at_int (j := l) (by omega) hl', _, _, rfl, rfl, bound2 (hY l), _, _, rfl, rfl, ?_⟩
          refine ⟨m, _, _, x + l, rfl, rfl, hM6, ixN_nat (by omega) (by rw [List.length_map]; exact hxl), ?_⟩
          have e : (subAt M x (Y.take l) (-(G.getD x 0))).set (x + l) ((subAt M x (Y.take l) (-(G.getD x 0))).getD (x + l) 0 + G.getD x 0 * Y.getD l 0) = subAt M x (Y.take (l + 1)) (-(G.getD x 0)) := by
            rw [sub_add, ← subAt_step M Y x (-(G.getD x 0)) l (by omega) hl']
          rw [set_int]
          refine ⟨_, rfl, same_write s7 nm3, ?_⟩
          rw [← e]
          exact upd_same
        · rintro σ H6 ⟨w8, rfl, s7, hM6⟩
          rw [Int.toNat_natCast, List.take_length] at hM6
          refine ⟨_, _, _, rfl, s7, hM6, by rw [subAt_len]; exact eM, ?_⟩
          rw [← eO, drop_cons hx']
          rfl
      · rintro σ H5 ⟨M, z7, z8, rfl, s6, hM, eM, eO⟩
        rw [Int.toNat_natCast, List.drop_length] at eO
        have e : M = mulF G Y := eO
        -- product = more
        refine ⟨_, rfl, ?_⟩
        refine ⟨M, m, _, _, _, _, _, rfl, sm.trans (s3.trans s6), sm.free (s3.free nm3), hM, ?_⟩
        rw [hk', e]
        exact c4
    · rw [decide_eq_false (fun z => hd (mod_iff.mp (by injection z)))]
      refine iteF ⟨G, p, _, _, _, _, _, rfl, sm, np, hp, ?_⟩
      rw [hk']
      exact prod_no ok hd
  rintro σ HD ⟨G, p, y4, y5, y6, y7, y8, rfl, sD, np, hp, ok⟩
  rw [show n - ((n : Int) + 1 - 1).toNat = 0 by omega] at ok
  rw [prod_end ok] at hp
  clear ok s0 np0
  -- if product != [-1] + [0] * (number - 1) + [1]
  refine ⟨_, rfl, 1, rfl, by show 1 ≤ sizeLine; decide, fun b1 nb1 => ?_⟩
  refine ⟨by show 1 ≤ sizeLine; decide, fun b2 nb2 => ?_⟩
  have s1 : Same HD (upd HD b1 (.lst [V.int (-1)])) := same_one nb1
  have s2 := same_new (o := .lst [V.int 0]) s1 nb2
  refine ⟨_, rfl, _, _, rfl, rfl, b2, ((n - 1 : Nat) : Int), _, rfl, ?_, upd_same, by omega, by omega, ?_, fun b3 nb3 => ?_⟩
  · exact congrArg V.int (by omega)
  · refine small_line ?_
    show 1 * _ ≤ 1000
    omega
  rw [Int.toNat_natCast]
  have s3 := same_new (o := .lst (List.replicate (n - 1) [V.int 0]).flatten) s2 nb3
  have b12 : b1 ≠ b2 := fun e => by
    rw [← e, upd_same] at nb2
    cases nb2
  have b13 : b1 ≠ b3 := fun e => by
    rw [← e, upd_ne b12, upd_same] at nb3
    cases nb3
  have rl : (List.replicate (n - 1) [V.int 0]).flatten.length = n - 1 := by
    rw [rep_int, List.length_map, List.length_replicate]
  refine ⟨b1, b3, _, _, rfl, rfl, Eq.trans (upd_ne b13) (Eq.trans (upd_ne b12) upd_same), upd_same, ?_, fun b4 nb4 => ?_⟩
  · rw [rl]
    refine small_line ?_
    show 1 + _ ≤ 1000
    omega
  have s4 := same_new (o := .lst ([V.int (-1)] ++ (List.replicate (n - 1) [V.int 0]).flatten)) s3 nb4
  refine ⟨by show 1 ≤ sizeLine; decide, fun b5 nb5 => ?_⟩
  have s5 := same_new (o := .lst [V.int 1]) s4 nb5
  have b45 : b4 ≠ b5 := fun z => by
    rw [← z, upd_same] at nb5
    cases nb5
  refine ⟨b4, b5, _, _, rfl, rfl, Eq.trans (upd_ne b45) upd_same, upd_same, ?_, fun b6 nb6 => ?_⟩
  · rw [List.length_append, rl]
    refine small_line ?_
    show 1 + _ + 1 ≤ 1000
    omega
  rw [base_map]
  have s6 := same_new (o := .lst ((base n).map V.int)) s5 nb6
  refine ⟨.list ((base n).map .int), .list ((base n).map .int), dp_list (SqL.of (s6 _ _ hp)), dp_list (SqL.of upd_same), shaped_list _, shaped_list _, false, ?_, iteF ?_⟩
  · rw [eqv_same]
    rfl
  have sE := sD.trans s6
  clear s1 s2 s3 s4 s5 b12 b13 b45 nb1 nb2 nb3 nb4 nb5 nb6 rl
  generalize (upd (upd (upd (upd (upd (upd HD b1 (.lst [V.int (-1)])) b2 (.lst [V.int 0])) b3 (.lst (List.replicate (n - 1) [V.int 0]).flatten)) b4 (.lst ([V.int (-1)] ++ (List.replicate (n - 1) [V.int 0]).flatten))) b5 (.lst [V.int 1])) b6 (.lst ((base n).map V.int))) = HE at *
  clear s6 hp np sD
  -- told = cyclotomic(number)
  refine ⟨_, rfl, n, rfl, h1, h64, fun HF t sF nt et => ?_⟩
  have htr : t ≠ r := ne_new nt (sE _ _ hRC)
  have sF' := sE.trans sF
  clear sF nt sE
  -- prime_to = []
  refine ⟨Nat.zero_le _, fun pl npl => ?_⟩
  -- for part in range(number)
  refine ⟨_, rfl, (n : Int), rfl, by omega, by omega, ?_⟩
  refine for_range (lo := 0) (n := (n : Int).toNat) (fun i σ HG => ∃ (y4 : Option V), σ = [some (.ref a), some (.ref r), some (.int (n : Int)), some (.ref p), y4, some (.ref t), y6, y7, y8, some (.ref pl), none, none, none, none] ∧
      Same HF HG ∧ HG pl = some (.lst ((natsI (primeTo n i)).map V.int)))
    ⟨_, rfl, same_one npl, upd_same⟩ ?_ ?_
  · rintro i σ HG hi ⟨z4, rfl, sG, hpl⟩
    have ei : (0 : Int) + (i : Int) = (i : Int) := by omega
    rw [ei]
    -- the comprehension
    refine ⟨_, rfl, _, _, rfl, rfl, 2, (n : Int) + 1, rfl, ⟨by omega, by omega, by omega, by omega⟩, fun D0 nD => ?_⟩
    refine lc_range (lo := 2) (n := ((n : Int) + 1 - 2).toNat) (fun m H' => Same HG H' ∧ H' D0 = some (.lst ((natsI (dvTo n i m)).map V.int))) ⟨same_one nD, upd_same⟩ ?_ ?_
    · rintro m H' hm ⟨s3, e3⟩
      refine ⟨rfl, ?_⟩
      refine ⟨_, rfl, _, rfl, _, _, rfl, rfl, by omega, rfl, _, rfl, ?_⟩
      by_cases hd : n % (2 + m) = 0
      · rw [decide_eq_true (congrArg V.int (mod_two.mpr hd))]
        refine iteT ⟨_, rfl, _, rfl, _, _, rfl, rfl, by omega, rfl, _, rfl, ?_⟩
        by_cases hd2 : i % (2 + m) = 0
        · rw [decide_eq_true (congrArg V.int (mod_two.mpr hd2))]
          refine iteT ⟨_, rfl, _, e3, ?_, same_write s3 nD, ?_⟩
          · rw [List.length_map, natsI_len]
            exact Nat.lt_of_le_of_lt (dvTo_le n i m) (small1000 (by omega))
          · rw [upd_same, dvTo_succ, if_pos (by simp [hd, hd2]), natsI_app, List.map_append]
            have e2 : (2 : Int) + (m : Int) = ((2 + m : Nat) : Int) := by omega
            rw [e2]
            rfl
        · rw [decide_eq_false (fun z => hd2 (mod_two.mp (by injection z)))]
          refine iteF ⟨s3, ?_⟩
          rw [e3, dvTo_succ, if_neg (by simp [hd2]), List.append_nil]
      · rw [decide_eq_false (fun z => hd (mod_two.mp (by injection z)))]
        refine iteF (iteF ⟨s3, ?_⟩)
        rw [e3, dvTo_succ, if_neg (by simp [hd]), List.append_nil]
    · rintro H' ⟨s3, e3⟩
      rw [show ((n : Int) + 1 - 2).toNat = n - 1 by omega] at e3
      refine ⟨Nat.zero_le _, fun l0 nl0 => ?_⟩
      have s4 := same_new (o := .lst []) s3 nl0
      have e4 : (upd H' l0 (.lst [])) D0 = some (.lst ((natsI (dvF n i)).map V.int)) := by
        rw [upd_ne (ne_of_none e3 nl0)]
        exact e3
      refine ⟨.list ((natsI (dvF n i)).map .int), .list (([] : List Int).map .int), dp_list (SqL.of e4), dp_list (L := []) (SqL.of upd_same), shaped_list _, shaped_list [], _, rfl, ?_⟩
      rw [eqv_nil, natsI_empty]
      have hpl4 := s4 _ _ hpl
      by_cases hh : (dvF n i).isEmpty = true
      · rw [hh]
        refine iteT ⟨.ref pl, rfl, .inl ⟨rfl, _, SqL.of hpl4⟩, _, rfl, pl, _, _, rfl, rfl, hpl4, ?_, ?_⟩
        · rw [List.length_map, natsI_len]
          exact Nat.lt_of_le_of_lt (primeTo_le n i) (small1000 (by omega))
        · refine ⟨_, rfl, same_write (sG.trans s4) npl, ?_⟩
          rw [upd_same, primeTo_succ, if_pos hh, natsI_app, List.map_append]
          rfl
      · rw [Bool.not_eq_true] at hh
        rw [hh]
        refine iteF ⟨_, rfl, sG.trans s4, ?_⟩
        rw [hpl4, primeTo_succ, hh]
        simp
  rintro σ HG ⟨z4, rfl, sG, hpl⟩
  rw [Int.toNat_natCast] at hpl
  have hpl' : HG pl = some (.lst ((natsI (primeF n)).map V.int)) := hpl
  have etG := sG _ _ et
  obtain ⟨f2, f64, fl, _⟩ := cyc_form h1 h64
  obtain ⟨tu, pf⟩ := turns_eq h1 h64
  -- if not isinstance(told, tuple) or ..
  refine ⟨_, rfl, .ref t, .ty "tuple", .type "tuple", .type "tuple", true, rfl, .ty "tuple", .base (.tup etG), kit_ty (by decide +kernel), true, rfl, iteF ?_⟩
  refine ⟨_, rfl, t, _, rfl, .inr (SqT.of etG), _, rfl, pl, _, rfl, .inl (SqL.of hpl'), _, _, rfl, rfl, rfl, false, ?_, iteF ?_⟩
  · have e : V.int ((((cyc n).map V.int).length : Nat) : Int) = V.int (((((natsI (primeF n)).map V.int).length : Nat) : Int) + 1) := by
      rw [List.length_map, List.length_map, natsI_len, ← pf]
      rfl
    have e2 : V.bl (!decide (V.int ((((cyc n).map V.int).length : Nat) : Int) = V.int (((((natsI (primeF n)).map V.int).length : Nat) : Int) + 1))) = V.bl false := by
      rw [decide_eq_true e]
      rfl
    exact e2
  refine ⟨_, rfl, 1, rfl, t, _, _, _, rfl, rfl, SqT.of etG, at_last_int (by omega), rfl, false, ?_, iteF ?_⟩
  · rw [fl, decide_eq_true rfl]
    rfl
  refine ⟨_, rfl, n, rfl, h1, h64, fun HH tl sH ntl etl => ?_⟩
  rw [tu] at etl
  have pn : (natsI (primeF n)).length ≤ 1000 := by
    rw [natsI_len]
    omega
  refine ⟨_, rfl, tl, pl, natsI (primeF n), false, rfl, .inr ⟨rfl, etl⟩, .inr ⟨rfl, sH _ _ hpl'⟩, pn, fun HI sI => ⟨true, rfl, iteF ?_⟩⟩
  have sHI : Same HC HI := sF'.trans (sG.trans (sH.trans sI))
  have hRI := sHI _ _ hRC
  have hSI := hSC.keep (same_keep sHI r)
  have etI := sI _ _ (sH _ _ etG)
  clear sI sH etl pn hpl hpl' sG etG sF' npl
  -- value = taken(row, 99) - 50
  refine ⟨_, rfl, r, a, 99, i2, j2, k2, ns, rfl, by decide, by decide, hRI, hi2, hSI, fun HJ v3 i3 j3 k3 kJ hRJ hi3 v30 v31 => ⟨_, _, rfl, rfl, ?_⟩⟩
  have etJ := kJ t _ htr etI
  have hSJ := hSI.keep kJ
  -- if not alike(plain(number, value), (value,) + (0,) * (len(told) - 2))
  refine ⟨_, rfl, _, rfl, n, v3 - 50, rfl, h1, h64, fun HK tp sK ntp etp => ?_⟩
  refine ⟨_, rfl, by show 1 ≤ sizeLine; decide, fun c1 nc1 => ?_⟩
  have sK1 := same_new (o := .tup [V.int (v3 - 50)]) sK nc1
  refine ⟨by show 1 ≤ sizeLine; decide, fun c2 nc2 => ?_⟩
  have sK2 := same_new (o := .tup [V.int 0]) sK1 nc2
  have c12 : c1 ≠ c2 := fun e => by
    rw [← e, upd_same] at nc2
    cases nc2
  refine ⟨_, rfl, t, _, rfl, .inr (SqT.of (sK2 _ _ etJ)), _, _, rfl, rfl, ?_⟩
  refine rep_way (z := 0) (k := (cyc n).length - 2) upd_same (by omega) (by rw [List.length_map]; omega) fun c3 HL sL ec3 => ?_
  have ec1 : HL c1 = some (.tup (([v3 - 50] : List Int).map V.int)) := sL _ _ (Eq.trans (upd_ne c12) upd_same)
  refine cat_way (xs := [v3 - 50]) (ys := List.replicate ((cyc n).length - 2) 0) ec1 ec3 (List.cons_ne_nil _ _) (by rw [List.length_replicate]; show 1 + _ ≤ 1000; omega) fun c4 HM sM ec4 => ?_
  have etpM : HM tp = some (.tup (((v3 - 50) :: List.replicate ((cyc n).length - 2) 0).map V.int)) := by
    refine sM _ _ (sL _ _ ?_)
    have n1 : tp ≠ c1 := fun e => by
      rw [← e, etp] at nc1
      cases nc1
    have n2 : tp ≠ c2 := fun e => by
      rw [← e, upd_ne n1, etp] at nc2
      cases nc2
    rw [upd_ne n2, upd_ne n1]
    exact etp
  refine ⟨tp, c4, (v3 - 50) :: List.replicate ((cyc n).length - 2) 0, true, rfl, .inl ⟨rfl, etpM⟩, .inl ⟨rfl, ec4⟩, by rw [List.length_cons, List.length_replicate]; omega, fun HN sN => ⟨true, rfl, iteF ?_⟩⟩
  have sJN : Same HJ HN := sK2.trans (sL.trans (sM.trans sN))
  have hRN := sJN _ _ hRJ
  have hSN := hSJ.keep (same_keep sJN r)
  clear sN sM sL sK2 sK1 sK ec1 ec3 ec4 etp etpM ntp nc1 nc2 c12
  -- power = taken(row, number)
  refine ⟨_, rfl, _, rfl, r, a, (n : Int), i3, j3, k3, ns, rfl, by omega, by omega, hRN, hi3, hSN, fun HO v4 i4 j4 k4 kO hRO hi4 v40 v41 => ?_⟩
  obtain ⟨m, rfl⟩ : ∃ m : Nat, v4 = (m : Int) := ⟨v4.toNat, by omega⟩
  have hm : m < n := by omega
  -- whole = value_at((1,) * number, number, power)
  refine ⟨by show 1 ≤ sizeLine; decide, fun c5 nc5 => ?_⟩
  refine ⟨_, rfl, rep_way (z := 1) (k := n) upd_same (by omega) rfl fun o HP sP eo => ?_⟩
  refine ⟨_, rfl, _, rfl, o, n, m, List.replicate n 1, rfl, eo, h1, h64, hm, by rw [List.length_replicate]; omega, by rw [List.length_replicate]; omega, fun x hx => by rw [List.eq_of_mem_replicate hx]; omega, fun HQ wt sQ nwt ewt => ?_⟩
  rw [power_eq h1 h64 hm] at ewt
  have dl : (dueP n (decide (m = 0))).length ≤ 1000 := by
    rw [dueP_at, List.length_cons, List.length_replicate]
    omega
  -- return alike(whole, plain(number, number if power == 0 else 0))
  refine ⟨_, rfl, _, rfl, _, rfl, rfl, _, rfl, ?_⟩
  by_cases hm0 : m = 0
  · rw [decide_eq_true (show V.int (m : Int) = V.int 0 by rw [hm0]; rfl)]
    refine iteT ⟨_, rfl, n, (n : Int), rfl, h1, h64, fun HR tq sR nq eq => ?_⟩
    rw [dueP_at, decide_eq_true hm0, if_pos rfl] at ewt
    rw [dueP_at, decide_eq_true hm0, if_pos rfl] at dl
    exact ⟨wt, tq, _, true, rfl, .inl ⟨rfl, sR _ _ ewt⟩, .inl ⟨rfl, eq⟩, dl, fun HS sS => q HS⟩
  · rw [decide_eq_false (show ¬ V.int (m : Int) = V.int 0 from fun z => hm0 (by injection z with z; omega))]
    refine iteF ⟨n, 0, rfl, h1, h64, fun HR tq sR nq eq => ?_⟩
    rw [dueP_at, decide_eq_false hm0, if_neg Bool.false_ne_true] at ewt
    rw [dueP_at, decide_eq_false hm0, if_neg Bool.false_ne_true] at dl
    exact ⟨wt, tq, _, true, rfl, .inl ⟨rfl, sR _ _ ewt⟩, .inl ⟨rfl, eq⟩, dl, fun HS sS => q HS⟩
end
end E54
set_option maxHeartbeats 4000000
/-! what the top has written; the end -/
namespace E54
open PySem PySem.Spec PyProof.Rows L2
theorem all_mk {l : PySem.W.OpenLaw} {w : World} {K : PySem.W.Frag} {h : Heap} {mg : Str → Option Value} {fa f1 f2 f3 f4 f5 f6 f7 f8 f9 f10 f11 f12 f13 f14 f15 f16 f17 f18 : Addr} (X : K.In h) (G : h.Ns mainGlobals mg) (hfa : mg "law" = some (.ref fa))
    {od1 an1 od2 an2 od3 an3 od4 an4 od5 an5 od6 an6 od7 an7 od8 an8 od9 an9 od10 an10 od11 an11 od12 an12 od13 an13 od14 an14 od15 an15 od16 an16 od17 an17 od18 an18 : Option Addr} {sl1 sl2 sl3 sl4 sl5 sl6 sl7 sl8 sl9 sl10 sl11 sl12 sl13 sl14 sl15 sl16 sl17 sl18 : Array (Option Value)} {oc1 kV1 dc1 pm1 cd1 ct1 oc2 kV2 dc2 pm2 cd2 ct2 oc3 kV3 dc3 pm3 cd3 ct3 oc4 kV4 dc4 pm4 cd4 ct4 oc5 kV5 dc5 pm5 cd5 ct5 oc6 kV6 dc6 pm6 cd6 ct6 oc7 kV7 dc7 pm7 cd7 ct7 oc8 kV8 dc8 pm8 cd8 ct8 oc9 kV9 dc9 pm9 cd9 ct9 oc10 kV10 dc10 pm10 cd10 ct10 oc11 kV11 dc11 pm11 cd11 ct11 oc12 kV12 dc12 pm12 cd12 ct12 oc13 kV13 dc13 pm13 cd13 ct13 oc14 kV14 dc14 pm14 cd14 ct14 oc15 kV15 dc15 pm15 cd15 ct15 oc16 kV16 dc16 pm16 cd16 ct16 oc17 kV17 dc17 pm17 cd17 ct17 oc18 kV18 dc18 pm18 cd18 ct18 : Value} {tl tr : Tok}
    (a1 : PySem.W.nsIn K mainGlobals "is_int" = some (some (.ref f1))) (l1 : K.lookup f1 = some ⟨oc1, od1, .func (PySem.W.fnOf "is_int" "is_int" (defArgs sIsInt) (defBody sIsInt) (defScope sIsInt) .none kV1 dc1 pm1 an1 cd1 ct1), sl1⟩) (c1 : PySem.W.codeIn K cd1 "is_int" = true) (k1 : PySem.W.keepIn K (.ref f1) = true)
    (a2 : PySem.W.nsIn K mainGlobals "is_in" = some (some (.ref f2))) (l2 : K.lookup f2 = some ⟨oc2, od2, .func (PySem.W.fnOf "is_in" "is_in" (defArgs sIsIn) (defBody sIsIn) (defScope sIsIn) .none kV2 dc2 pm2 an2 cd2 ct2), sl2⟩) (c2 : PySem.W.codeIn K cd2 "is_in" = true) (k2 : PySem.W.keepIn K (.ref f2) = true)
    (a3 : PySem.W.nsIn K mainGlobals "common_divisor" = some (some (.ref f3))) (l3 : K.lookup f3 = some ⟨oc3, od3, .func (PySem.W.fnOf "common_divisor" "common_divisor" (defArgs sGcd) (defBody sGcd) (defScope sGcd) .none kV3 dc3 pm3 an3 cd3 ct3), sl3⟩) (c3 : PySem.W.codeIn K cd3 "common_divisor" = true) (k3 : PySem.W.keepIn K (.ref f3) = true)
    (a4 : PySem.W.nsIn K mainGlobals "need_word" = some (some (.ref f4))) (l4 : K.lookup f4 = some ⟨oc4, od4, .func (PySem.W.fnOf "need_word" "need_word" (defArgs sNeedWord) (defBody sNeedWord) (defScope sNeedWord) .none kV4 dc4 pm4 an4 cd4 ct4), sl4⟩) (c4 : PySem.W.codeIn K cd4 "need_word" = true) (k4 : PySem.W.keepIn K (.ref f4) = true)
    (a5 : PySem.W.nsIn K mainGlobals "over" = some (some (.ref f5))) (l5 : K.lookup f5 = some ⟨oc5, od5, .func (PySem.W.fnOf "over" "over" (defArgs sOver) (defBody sOver) (defScope sOver) .none kV5 dc5 pm5 an5 cd5 ct5), sl5⟩) (c5 : PySem.W.codeIn K cd5 "over" = true) (k5 : PySem.W.keepIn K (.ref f5) = true)
    (a6 : PySem.W.nsIn K mainGlobals "cyclotomic_of" = some (some (.ref f6))) (l6 : K.lookup f6 = some ⟨oc6, od6, .func (PySem.W.fnOf "cyclotomic_of" "cyclotomic_of" (defArgs sCycOf) (defBody sCycOf) (defScope sCycOf) .none kV6 dc6 pm6 an6 cd6 ct6), sl6⟩) (c6 : PySem.W.codeIn K cd6 "cyclotomic_of" = true) (k6 : PySem.W.keepIn K (.ref f6) = true)
    (a7 : PySem.W.nsIn K mainGlobals "need_round" = some (some (.ref f7))) (l7 : K.lookup f7 = some ⟨oc7, od7, .func (PySem.W.fnOf "need_round" "need_round" (defArgs sNeedRound) (defBody sNeedRound) (defScope sNeedRound) .none kV7 dc7 pm7 an7 cd7 ct7), sl7⟩) (c7 : PySem.W.codeIn K cd7 "need_round" = true) (k7 : PySem.W.keepIn K (.ref f7) = true)
    (a8 : PySem.W.nsIn K mainGlobals "cyclotomic" = some (some (.ref f8))) (l8 : K.lookup f8 = some ⟨oc8, od8, .func (PySem.W.fnOf "cyclotomic" "cyclotomic" (defArgs sCyc) (defBody sCyc) (defScope sCyc) .none kV8 dc8 pm8 an8 cd8 ct8), sl8⟩) (c8 : PySem.W.codeIn K cd8 "cyclotomic" = true) (k8 : PySem.W.keepIn K (.ref f8) = true)
    (a9 : PySem.W.nsIn K mainGlobals "reduced" = some (some (.ref f9))) (l9 : K.lookup f9 = some ⟨oc9, od9, .func (PySem.W.fnOf "reduced" "reduced" (defArgs sReduced) (defBody sReduced) (defScope sReduced) .none kV9 dc9 pm9 an9 cd9 ct9), sl9⟩) (c9 : PySem.W.codeIn K cd9 "reduced" = true) (k9 : PySem.W.keepIn K (.ref f9) = true)
    (a10 : PySem.W.nsIn K mainGlobals "sums_at" = some (some (.ref f10))) (l10 : K.lookup f10 = some ⟨oc10, od10, .func (PySem.W.fnOf "sums_at" "sums_at" (defArgs sSums) (defBody sSums) (defScope sSums) .none kV10 dc10 pm10 an10 cd10 ct10), sl10⟩) (c10 : PySem.W.codeIn K cd10 "sums_at" = true) (k10 : PySem.W.keepIn K (.ref f10) = true)
    (a11 : PySem.W.nsIn K mainGlobals "need_at" = some (some (.ref f11))) (l11 : K.lookup f11 = some ⟨oc11, od11, .func (PySem.W.fnOf "need_at" "need_at" (defArgs sNeedAt) (defBody sNeedAt) (defScope sNeedAt) .none kV11 dc11 pm11 an11 cd11 ct11), sl11⟩) (c11 : PySem.W.codeIn K cd11 "need_at" = true) (k11 : PySem.W.keepIn K (.ref f11) = true)
    (a12 : PySem.W.nsIn K mainGlobals "value_at" = some (some (.ref f12))) (l12 : K.lookup f12 = some ⟨oc12, od12, .func (PySem.W.fnOf "value_at" "value_at" (defArgs sValueAt) (defBody sValueAt) (defScope sValueAt) .none kV12 dc12 pm12 an12 cd12 ct12), sl12⟩) (c12 : PySem.W.codeIn K cd12 "value_at" = true) (k12 : PySem.W.keepIn K (.ref f12) = true)
    (a13 : PySem.W.nsIn K mainGlobals "plain" = some (some (.ref f13))) (l13 : K.lookup f13 = some ⟨oc13, od13, .func (PySem.W.fnOf "plain" "plain" (defArgs sPlain) (defBody sPlain) (defScope sPlain) .none kV13 dc13 pm13 an13 cd13 ct13), sl13⟩) (c13 : PySem.W.codeIn K cd13 "plain" = true) (k13 : PySem.W.keepIn K (.ref f13) = true)
    (a14 : PySem.W.nsIn K mainGlobals "turns" = some (some (.ref f14))) (l14 : K.lookup f14 = some ⟨oc14, od14, .func (PySem.W.fnOf "turns" "turns" (defArgs sTurns) (defBody sTurns) (defScope sTurns) .none kV14 dc14 pm14 an14 cd14 ct14), sl14⟩) (c14 : PySem.W.codeIn K cd14 "turns" = true) (k14 : PySem.W.keepIn K (.ref f14) = true)
    (a15 : PySem.W.nsIn K mainGlobals "_law_taken" = some (some (.ref f15))) (l15 : K.lookup f15 = some ⟨oc15, od15, .func (PySem.W.fnOf "_law_taken" "_law_taken" (defArgs sTaken) (defBody sTaken) (defScope sTaken) .none kV15 dc15 pm15 an15 cd15 ct15), sl15⟩) (c15 : PySem.W.codeIn K cd15 "_law_taken" = true) (k15 : PySem.W.keepIn K (.ref f15) = true)
    (a16 : PySem.W.nsIn K mainGlobals "_law_pick" = some (some (.ref f16))) (l16 : K.lookup f16 = some ⟨oc16, od16, .func (PySem.W.fnOf "_law_pick" "_law_pick" (defArgs sPick) (defBody sPick) (defScope sPick) .none kV16 dc16 pm16 an16 cd16 ct16), sl16⟩) (c16 : PySem.W.codeIn K cd16 "_law_pick" = true) (k16 : PySem.W.keepIn K (.ref f16) = true)
    (a17 : PySem.W.nsIn K mainGlobals "_law_alike" = some (some (.ref f17))) (l17 : K.lookup f17 = some ⟨oc17, od17, .func (PySem.W.fnOf "_law_alike" "_law_alike" (defArgs sAlike) (defBody sAlike) (defScope sAlike) .none kV17 dc17 pm17 an17 cd17 ct17), sl17⟩) (c17 : PySem.W.codeIn K cd17 "_law_alike" = true) (k17 : PySem.W.keepIn K (.ref f17) = true)
    (a18 : PySem.W.nsIn K mainGlobals "law" = some (some (.ref f18))) (l18 : K.lookup f18 = some ⟨oc18, od18, .func (PySem.W.fnOf "law" "law" (defArgs sLaw) (defBody sLaw) (defScope sLaw) .none kV18 dc18 pm18 an18 cd18 ct18), sl18⟩) (c18 : PySem.W.codeIn K cd18 "law" = true) (k18 : PySem.W.keepIn K (.ref f18) = true)
    (m1 : PySem.W.nsIn K mainGlobals "MOST_LENGTH" = some (some (.int 64 tl))) (m2 : PySem.W.nsIn K mainGlobals "MOST_ROUND" = some (some (.int 64 tr)))
    (z1 : PySem.W.nsIn K mainGlobals "isinstance" = some none) (z2 : PySem.W.nsIn K mainGlobals "int" = some none) (z3 : PySem.W.nsIn K mainGlobals "bool" = some none) (z4 : PySem.W.nsIn K mainGlobals "tuple" = some none) (z5 : PySem.W.nsIn K mainGlobals "list" = some none) (z6 : PySem.W.nsIn K mainGlobals "len" = some none) (z7 : PySem.W.nsIn K mainGlobals "range" = some none) (z8 : PySem.W.nsIn K mainGlobals "enumerate" = some none) (z9 : PySem.W.nsIn K mainGlobals "str" = some none) :
    ∃ fd : FuncData, (∀ (s : Shared) (v : Value), BindsTo s fd ⟨[v], []⟩ [("_law_script", v)]) ∧ ∀ base : Heap, K.In base → base.Ns mainGlobals mg → FnOk l.prog w K mg base CX0 11 fa fd ["_law_script"] (spLaw K) := by
  have e := hfa.symm.trans (PySem.W.mg_of X G a18)
  cases e
  have N : Nm mg := ⟨PySem.W.mg_none_of X G z1, PySem.W.mg_none_of X G z2, PySem.W.mg_none_of X G z3, PySem.W.mg_none_of X G z4, PySem.W.mg_none_of X G z5, PySem.W.mg_none_of X G z6, PySem.W.mg_none_of X G z7, PySem.W.mg_none_of X G z8, PySem.W.mg_none_of X G z9, ⟨_, PySem.W.mg_of X G m1⟩, ⟨_, PySem.W.mg_of X G m2⟩⟩
  have F1 := fun_mk (st := sIsInt) l1 c1 k1
  have D1 : Df K mg "is_int" sIsInt ["value"] f1 _ := ⟨F1, F1.binds (ps := ["value"]) fun _ _ _ _ _ _ us hl => match us, hl with | [_], _ => rfl, PySem.W.mg_of X G a1⟩
  have F2 := fun_mk (st := sIsIn) l2 c2 k2
  have D2 : Df K mg "is_in" sIsIn ["value", "least", "most"] f2 _ := ⟨F2, F2.binds (ps := ["value", "least", "most"]) fun _ _ _ _ _ _ us hl => match us, hl with | [_, _, _], _ => rfl, PySem.W.mg_of X G a2⟩
  have F3 := fun_mk (st := sGcd) l3 c3 k3
  have D3 : Df K mg "common_divisor" sGcd ["one", "other"] f3 _ := ⟨F3, F3.binds (ps := ["one", "other"]) fun _ _ _ _ _ _ us hl => match us, hl with | [_, _], _ => rfl, PySem.W.mg_of X G a3⟩
  have F4 := fun_mk (st := sNeedWord) l4 c4 k4
  have D4 : Df K mg "need_word" sNeedWord ["value"] f4 _ := ⟨F4, F4.binds (ps := ["value"]) fun _ _ _ _ _ _ us hl => match us, hl with | [_], _ => rfl, PySem.W.mg_of X G a4⟩
  have F5 := fun_mk (st := sOver) l5 c5 k5
  have D5 : Df K mg "over" sOver ["one", "other"] f5 _ := ⟨F5, F5.binds (ps := ["one", "other"]) fun _ _ _ _ _ _ us hl => match us, hl with | [_, _], _ => rfl, PySem.W.mg_of X G a5⟩
  have F6 := fun_mk (st := sCycOf) l6 c6 k6
  have D6 : Df K mg "cyclotomic_of" sCycOf ["number"] f6 _ := ⟨F6, F6.binds (ps := ["number"]) fun _ _ _ _ _ _ us hl => match us, hl with | [_], _ => rfl, PySem.W.mg_of X G a6⟩
  have F7 := fun_mk (st := sNeedRound) l7 c7 k7
  have D7 : Df K mg "need_round" sNeedRound ["value"] f7 _ := ⟨F7, F7.binds (ps := ["value"]) fun _ _ _ _ _ _ us hl => match us, hl with | [_], _ => rfl, PySem.W.mg_of X G a7⟩
  have F8 := fun_mk (st := sCyc) l8 c8 k8
  have D8 : Df K mg "cyclotomic" sCyc ["number"] f8 _ := ⟨F8, F8.binds (ps := ["number"]) fun _ _ _ _ _ _ us hl => match us, hl with | [_], _ => rfl, PySem.W.mg_of X G a8⟩
  have F9 := fun_mk (st := sReduced) l9 c9 k9
  have D9 : Df K mg "reduced" sReduced ["row", "number"] f9 _ := ⟨F9, F9.binds (ps := ["row", "number"]) fun _ _ _ _ _ _ us hl => match us, hl with | [_, _], _ => rfl, PySem.W.mg_of X G a9⟩
  have F10 := fun_mk (st := sSums) l10 c10 k10
  have D10 : Df K mg "sums_at" sSums ["word", "number", "power"] f10 _ := ⟨F10, F10.binds (ps := ["word", "number", "power"]) fun _ _ _ _ _ _ us hl => match us, hl with | [_, _, _], _ => rfl, PySem.W.mg_of X G a10⟩
  have F11 := fun_mk (st := sNeedAt) l11 c11 k11
  have D11 : Df K mg "need_at" sNeedAt ["word", "number", "power"] f11 _ := ⟨F11, F11.binds (ps := ["word", "number", "power"]) fun _ _ _ _ _ _ us hl => match us, hl with | [_, _, _], _ => rfl, PySem.W.mg_of X G a11⟩
  have F12 := fun_mk (st := sValueAt) l12 c12 k12
  have D12 : Df K mg "value_at" sValueAt ["word", "number", "power"] f12 _ := ⟨F12, F12.binds (ps := ["word", "number", "power"]) fun _ _ _ _ _ _ us hl => match us, hl with | [_, _, _], _ => rfl, PySem.W.mg_of X G a12⟩
  have F13 := fun_mk (st := sPlain) l13 c13 k13
  have D13 : Df K mg "plain" sPlain ["number", "value"] f13 _ := ⟨F13, F13.binds (ps := ["number", "value"]) fun _ _ _ _ _ _ us hl => match us, hl with | [_, _], _ => rfl, PySem.W.mg_of X G a13⟩
  have F14 := fun_mk (st := sTurns) l14 c14 k14
  have D14 : Df K mg "turns" sTurns ["number"] f14 _ := ⟨F14, F14.binds (ps := ["number"]) fun _ _ _ _ _ _ us hl => match us, hl with | [_], _ => rfl, PySem.W.mg_of X G a14⟩
  have F15 := fun_mk (st := sTaken) l15 c15 k15
  have D15 : Df K mg "_law_taken" sTaken ["_law_row", "_law_many"] f15 _ := ⟨F15, F15.binds (ps := ["_law_row", "_law_many"]) fun _ _ _ _ _ _ us hl => match us, hl with | [_, _], _ => rfl, PySem.W.mg_of X G a15⟩
  have F16 := fun_mk (st := sPick) l16 c16 k16
  have D16 : Df K mg "_law_pick" sPick ["_law_row", "_law_things"] f16 _ := ⟨F16, F16.binds (ps := ["_law_row", "_law_things"]) fun _ _ _ _ _ _ us hl => match us, hl with | [_, _], _ => rfl, PySem.W.mg_of X G a16⟩
  have F17 := fun_mk (st := sAlike) l17 c17 k17
  have D17 : Df K mg "_law_alike" sAlike ["_law_found", "_law_due"] f17 _ := ⟨F17, F17.binds (ps := ["_law_found", "_law_due"]) fun _ _ _ _ _ _ us hl => match us, hl with | [_, _], _ => rfl, PySem.W.mg_of X G a17⟩
  have F18 := fun_mk (st := sLaw) l18 c18 k18
  have D18 : Df K mg "law" sLaw ["_law_script"] fa _ := ⟨F18, F18.binds (ps := ["_law_script"]) fun _ _ _ _ _ _ us hl => match us, hl with | [_], _ => rfl, PySem.W.mg_of X G a18⟩
  refine ⟨PySem.W.fnOf "law" "law" (defArgs sLaw) (defBody sLaw) (defScope sLaw) .none kV18 dc18 pm18 an18 cd18 ct18, fun s v => .of_eq rfl, fun base _ _ => ?_⟩
  have G2 : FnOk l.prog w K mg base CX0 2 f2 _ ["value", "least", "most"] spIsIn := ok_is_in D2.fn D1.fn D1.b D1.m N
  have G3 : FnOk l.prog w K mg base CX0 1 f3 _ ["one", "other"] spGcd := ok_gcd D3.fn
  have G4 : FnOk l.prog w K mg base CX0 3 f4 _ ["value"] spNeedWord := ok_need_word D4.fn G2 D2.b D2.fn.kp D2.m N
  have G6 : FnOk l.prog w K mg base CX0 8 f6 _ ["number"] spCy := ok_cy D6 D5 N
  have G7 : FnOk l.prog w K mg base CX0 3 f7 _ ["value"] spNeedRound := ok_need_round D7.fn G2 D2.b D2.fn.kp D2.m N
  have G8 : FnOk l.prog w K mg base CX0 9 f8 _ ["number"] spCyc := ok_cyc D8 D6 D7 N G6 G7
  have G9 : FnOk l.prog w K mg base CX0 9 f9 _ ["row", "number"] spReduced := ok_reduced D9 D6 N G6
  have G10 : FnOk l.prog w K mg base CX0 1 f10 _ ["word", "number", "power"] spSums := ok_sums D10 N
  have G11 : FnOk l.prog w K mg base CX0 4 f11 _ ["word", "number", "power"] spNeedAt := ok_need_at D11 D4 D7 D2 N G4 G7 G2
  have G12 : FnOk l.prog w K mg base CX0 10 f12 _ ["word", "number", "power"] spValueAt := ok_value_at D12 D11 D9 D10 N G11 G9 G10
  have G13 : FnOk l.prog w K mg base CX0 10 f13 _ ["number", "value"] spPlain := ok_plain D13 D7 D9 N G7 G9
  have G14 : FnOk l.prog w K mg base CX0 4 f14 _ ["number"] spTurns := ok_turns D14 D7 D3 N G7 G3
  have G15 : FnOk l.prog w K mg base CX0 1 f15 _ ["_law_row", "_law_many"] (spTaken K) := ok_taken D15 N
  have G16 : FnOk l.prog w K mg base CX0 2 f16 _ ["_law_row", "_law_things"] (spPick K) := ok_pick D16 D15 N G15
  have G17 : FnOk l.prog w K mg base CX0 2 f17 _ ["_law_found", "_law_due"] spAlike := ok_alike D17 N
  exact ok_law D18 D15 D16 D17 D8 D14 D13 D12 N G15 G16 G17 G8 G14 G13 G12
end E54
open PySem PySem.W PyProof.Rows
set_option maxHeartbeats 0 in
theorem PySem.Challenge.cw_echowords_k54_whole_unity_holds : PySem.Challenge.rw_echowords_k54_whole_unity.Holds := by
  w_on; o_law; k_head; (case hw => w_witness2)
  k_fill
  refine L2.walk_of (l := PySem.Challenge.rw_echowords_k54_whole_unity) (n := 63) (k := 11) (x := "_law_script") (CX := fun _ => L2.CX0) (sp := fun w => E54.spLaw _) rfl (by decide) rfl ⟨rfl, by decide, by decide⟩ (fun w h Y => PySem.W.kIn_of Y) ?F (fun _ _ a ns hl _ hS => ⟨a, ns, rfl, hS, hl, fun _ => rfl⟩) (fun _ _ _ _ _ h => h)
  case F =>
    intro w mg fa h KX G hmg
    refine' E54.all_mk KX G hmg ?a1 ?l1 ?c1 ?k1 ?a2 ?l2 ?c2 ?k2 ?a3 ?l3 ?c3 ?k3 ?a4 ?l4 ?c4 ?k4 ?a5 ?l5 ?c5 ?k5 ?a6 ?l6 ?c6 ?k6 ?a7 ?l7 ?c7 ?k7 ?a8 ?l8 ?c8 ?k8 ?a9 ?l9 ?c9 ?k9 ?a10 ?l10 ?c10 ?k10 ?a11 ?l11 ?c11 ?k11 ?a12 ?l12 ?c12 ?k12 ?a13 ?l13 ?c13 ?k13 ?a14 ?l14 ?c14 ?k14 ?a15 ?l15 ?c15 ?k15 ?a16 ?l16 ?c16 ?k16 ?a17 ?l17 ?c17 ?k17 ?a18 ?l18 ?c18 ?k18 ?m1 ?m2 ?z1 ?z2 ?z3 ?z4 ?z5 ?z6 ?z7 ?z8 ?z9
    (case a1 => k_is)
    (case l1 => k_is)
    (case c1 => k_is)
    (case k1 => k_is)
    (case a2 => k_is)
    (case l2 => k_is)
    (case c2 => k_is)
    (case k2 => k_is)
    (case a3 => k_is)
    (case l3 => k_is)
    (case c3 => k_is)
    (case k3 => k_is)
    (case a4 => k_is)
    (case l4 => k_is)
    (case c4 => k_is)
    (case k4 => k_is)
    (case a5 => k_is)
    (case l5 => k_is)
    (case c5 => k_is)
    (case k5 => k_is)
    (case a6 => k_is)
    (case l6 => k_is)
    (case c6 => k_is)
    (case k6 => k_is)
    (case a7 => k_is)
    (case l7 => k_is)
    (case c7 => k_is)
    (case k7 => k_is)
    (case a8 => k_is)
    (case l8 => k_is)
    (case c8 => k_is)
    (case k8 => k_is)
    (case a9 => k_is)
    (case l9 => k_is)
    (case c9 => k_is)
    (case k9 => k_is)
    (case a10 => k_is)
    (case l10 => k_is)
    (case c10 => k_is)
    (case k10 => k_is)
    (case a11 => k_is)
    (case l11 => k_is)
    (case c11 => k_is)
    (case k11 => k_is)
    (case a12 => k_is)
    (case l12 => k_is)
    (case c12 => k_is)
    (case k12 => k_is)
    (case a13 => k_is)
    (case l13 => k_is)
    (case c13 => k_is)
    (case k13 => k_is)
    (case a14 => k_is)
    (case l14 => k_is)
    (case c14 => k_is)
    (case k14 => k_is)
    (case a15 => k_is)
    (case l15 => k_is)
    (case c15 => k_is)
    (case k15 => k_is)
    (case a16 => k_is)
    (case l16 => k_is)
    (case c16 => k_is)
    (case k16 => k_is)
    (case a17 => k_is)
    (case l17 => k_is)
    (case c17 => k_is)
    (case k17 => k_is)
    (case a18 => k_is)
    (case l18 => k_is)
    (case c18 => k_is)
    (case k18 => k_is)
    (case m1 => k_is)
    (case m2 => k_is)
    (case z1 => k_is)
    (case z2 => k_is)
    (case z3 => k_is)
    (case z4 => k_is)
    (case z5 => k_is)
    (case z6 => k_is)
    (case z7 => k_is)
    (case z8 => k_is)
    (case z9 => k_is)
