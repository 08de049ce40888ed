import PyProof.Rows.All
import Wide.All
import OpenK.AllK
import Wide.FinOn
import HandS.ForMost
import HandS.ForExc
import HandS.Steps
import HandS.Evl
import HandS.Wide
import HandS.IsInst
import HandS.Style
import HandS.ExcIs
import HandS.Deep
import HandS.Rev
import PySem.Challenge.RW_shellstair_k05_a_row
set_option Elab.async false
set_option linter.all false
set_option maxRecDepth 100000
set_option maxHeartbeats 1000000
namespace Sh
/-! the worth of a step, and weighted sums over a list of counts -/
def W : Nat → Int
  | 0 => 1
  | 1 => 2
  | n + 2 => W n + W (n + 1)
/-- f-weighted sum of the counts, the first one on step k -/
def S (f : Nat → Int) : Nat → List Int → Int
  | _, [] => 0
  | k, c :: r => c * f k + S f (k + 1) r
abbrev wt (xs : List Int) : Int := S W 0 xs
theorem W_pos : ∀ n, 0 < W n
  | 0 => by decide
  | 1 => by decide
  | n + 2 => by
    have h1 := W_pos n
    have h2 := W_pos (n + 1)
    show 0 < W n + W (n + 1)
    omega
theorem W_lt : ∀ n, W n < W (n + 1)
  | 0 => by decide
  | n + 1 => by
    have h1 := W_pos n
    show W (n + 1) < W n + W (n + 1)
    omega
theorem W_mono {i j : Nat} (h : i ≤ j) : W i ≤ W j := by
  induction j with
  | zero =>
    have : i = 0 := by omega
    subst this
    exact Int.le_refl _
  | succ j ih =>
    by_cases e : i = j + 1
    · subst e
      exact Int.le_refl _
    · have := ih (by omega)
      have := W_lt j
      omega
theorem W_ge : ∀ n : Nat, (n : Int) < W n
  | 0 => by decide
  | n + 1 => by
    have := W_ge n
    have := W_lt n
    omega
theorem W_bits : ∀ n, W n < 2 ^ (n + 1)
  | 0 => by decide
  | 1 => by decide
  | n + 2 => by
    have h1 := W_bits n
    have h2 := W_bits (n + 1)
    have e1 : (2 : Int) ^ (n + 2 + 1) = 4 * 2 ^ (n + 1) := by
      rw [Int.pow_succ, Int.pow_succ]
      omega
    have e2 : (2 : Int) ^ (n + 1 + 1) = 2 * 2 ^ (n + 1) := by rw [Int.pow_succ]; omega
    have h3 : (0 : Int) < 2 ^ (n + 1) := Int.pow_pos (by decide)
    show W n + W (n + 1) < 2 ^ (n + 2 + 1)
    rw [e2] at h2
    rw [e1]
    generalize (2 : Int) ^ (n + 1) = z at *
    omega
theorem W_bitsN (n : Nat) : (W n).natAbs < 2 ^ (n + 1) := by
  have h1 := W_bits n
  have h2 := W_pos n
  have e : ((2 ^ (n + 1) : Nat) : Int) = 2 ^ (n + 1) := by norm_cast
  omega
/-! sums -/
theorem S_nil (f : Nat → Int) (k : Nat) : S f k [] = 0 := rfl
theorem S_cons (f : Nat → Int) (k : Nat) (c : Int) (r : List Int) : S f k (c :: r) = c * f k + S f (k + 1) r := rfl
theorem S_append (f : Nat → Int) : ∀ (xs ys : List Int) (k : Nat), S f k (xs ++ ys) = S f k xs + S f (k + xs.length) ys
  | [], ys, k => by simp [S]
  | c :: r, ys, k => by
    have ih := S_append f r ys (k + 1)
    show c * f k + S f (k + 1) (r ++ ys) = c * f k + S f (k + 1) r + S f (k + (r.length + 1)) ys
    rw [ih, show k + 1 + r.length = k + (r.length + 1) by omega]
    omega
theorem S_one (f : Nat → Int) (k : Nat) (c : Int) : S f k [c] = c * f k := by simp [S]
theorem take_more {α : Type} {l : List α} {i : Nat} {x : α} (h : l[i]? = some x) : l.take (i + 1) = l.take i ++ [x] := by
  rw [List.take_succ, h]
  rfl
theorem S_take {f : Nat → Int} {xs : List Int} {i : Nat} {c : Int} (h : xs[i]? = some c) (k : Nat) : S f k (xs.take (i + 1)) = S f k (xs.take i) + c * f (k + i) := by
  have hl : i < xs.length := (List.getElem?_eq_some_iff.mp h).1
  rw [take_more h, S_append, S_one, List.length_take, Nat.min_eq_left (Nat.le_of_lt hl)]
theorem S_zeros (f : Nat → Int) : ∀ (n k : Nat), S f k (List.replicate n 0) = 0
  | 0, k => rfl
  | n + 1, k => by
    show 0 * f k + S f (k + 1) (List.replicate n 0) = 0
    rw [S_zeros f n, Int.zero_mul, Int.add_zero]
theorem S_nonneg {f : Nat → Int} (hf : ∀ k, 0 ≤ f k) : ∀ (xs : List Int) (k : Nat), (∀ x ∈ xs, 0 ≤ x) → 0 ≤ S f k xs
  | [], _, _ => Int.le_refl _
  | c :: r, k, h => by
    have h1 := S_nonneg hf r (k + 1) fun x hx => h x (List.mem_cons_of_mem _ hx)
    have h2 := Int.mul_nonneg (h c List.mem_cons_self) (hf k)
    show 0 ≤ c * f k + S f (k + 1) r
    omega
/-! 10 ** 60 -/
def T60 : Int := 10 ^ 60
theorem T60_eq : (10 : Int) ^ (60 : Int).toNat = T60 := by decide +kernel
theorem T60_pos : 0 < T60 := by decide +kernel
theorem T60_pos1 : 0 < T60 + 1 := by decide +kernel
theorem T60_bits : T60.natAbs < 2 ^ 200 := by decide +kernel
/-- a list that is no longer, no greater than a machine could not bear -/
structure Sm (ns : List Int) : Prop where
  len : ns.length ≤ 100000
  mag : ∀ x ∈ ns, x.natAbs < 2 ^ 1000
theorem small60 {x : Int} (h0 : 0 ≤ x) (h : x ≤ T60) : x.natAbs < 2 ^ 1000 := by
  have h1 := T60_bits
  have h2 : (2 : Nat) ^ 200 ≤ 2 ^ 1000 := by decide +kernel
  omega
/-! noughts at the end left out -/
def bare (xs : List Int) : List Int := (xs.reverse.dropWhile (· == 0)).reverse
theorem bare_zero (xs : List Int) : bare (xs ++ [0]) = bare xs := by
  unfold bare
  rw [List.reverse_append]
  rfl
theorem bare_snoc (xs : List Int) {c : Int} (h : c ≠ 0) : bare (xs ++ [c]) = xs ++ [c] := by
  unfold bare
  rw [List.reverse_append]
  show (List.dropWhile (· == 0) (c :: xs.reverse)).reverse = _
  rw [List.dropWhile_cons, if_neg (by simpa using h), List.reverse_cons, List.reverse_reverse]
theorem bare_nil : bare [] = [] := rfl
theorem snoc_of {α : Type} {xs : List α} (h : xs ≠ []) : ∃ ys c, xs = ys ++ [c] := ⟨xs.dropLast, xs.getLast h, (List.dropLast_concat_getLast h).symm⟩
/-- a list is its bare one and noughts -/
theorem bare_rest : ∀ (n : Nat) (xs : List Int), xs.length = n → ∃ k, xs = bare xs ++ List.replicate k 0
  | 0, xs, h => ⟨0, by rw [List.eq_nil_of_length_eq_zero h]; rfl⟩
  | n + 1, xs, h => by
    obtain ⟨ys, c, rfl⟩ := snoc_of (xs := xs) (by intro e; rw [e] at h; cases h)
    rw [List.length_append, List.length_singleton] at h
    by_cases hc : c = 0
    · subst hc
      obtain ⟨k, e⟩ := bare_rest n ys (by omega)
      refine ⟨k + 1, ?_⟩
      rw [bare_zero, List.replicate_succ', ← List.append_assoc, ← e]
    · refine ⟨0, ?_⟩
      rw [bare_snoc ys hc]
      simp
theorem bare_S (f : Nat → Int) (k : Nat) (xs : List Int) : S f k (bare xs) = S f k xs := by
  obtain ⟨n, e⟩ := bare_rest _ xs rfl
  have h := congrArg (S f k) e
  rw [S_append, S_zeros, Int.add_zero] at h
  exact h.symm
theorem bare_mem {xs : List Int} {x : Int} (h : x ∈ bare xs) : x ∈ xs := by
  obtain ⟨n, e⟩ := bare_rest _ xs rfl
  rw [e]
  exact List.mem_append_left _ h
theorem bare_len (xs : List Int) : (bare xs).length ≤ xs.length := by
  obtain ⟨n, e⟩ := bare_rest _ xs rfl
  have h := congrArg List.length e
  rw [List.length_append] at h
  omega
theorem bare_idem (xs : List Int) : bare (bare xs) = bare xs := by
  by_cases h : bare xs = []
  · rw [h]
    rfl
  · obtain ⟨ys, c, e⟩ := snoc_of h
    rw [e]
    refine bare_snoc ys ?_
    intro hc
    unfold bare at e
    have h2 := congrArg List.reverse e
    rw [List.reverse_reverse, List.reverse_append, List.reverse_singleton, List.singleton_append] at h2
    have h3 := List.head?_dropWhile_not (· == 0) xs.reverse
    rw [h2] at h3
    simp [hc] at h3
theorem getD_last (ys : List Int) (c : Int) : (ys ++ [c]).getD ((ys ++ [c]).length - 1) 0 = c := by
  rw [List.getD_eq_getElem?_getD, List.length_append, List.length_singleton, Nat.add_sub_cancel, List.getElem?_append_right (Nat.le_refl _), Nat.sub_self]
  rfl
theorem Sm.bare {xs : List Int} (h : Sm xs) : Sm (bare xs) := ⟨Nat.le_trans (bare_len xs) h.len, fun x hx => h.mag x (bare_mem hx)⟩
/-! still heaps: no step with two, no two neighbours (b: what lies beneath) -/
def stillB : Int → List Int → Bool
  | _, [] => true
  | b, m :: r => !(decide (1 < m) || (decide (0 < m) && decide (0 < b))) && stillB m r
theorem stillB_append : ∀ (xs ys : List Int) (b : Int), stillB b (xs ++ ys) = (stillB b xs && stillB (xs.getLastD b) ys)
  | [], ys, b => by simp [stillB]
  | m :: r, ys, b => by
    show (!(decide (1 < m) || (decide (0 < m) && decide (0 < b))) && stillB m (r ++ ys)) = (!(decide (1 < m) || (decide (0 < m) && decide (0 < b))) && stillB m r && stillB ((m :: r).getLastD b) ys)
    rw [stillB_append r ys m, Bool.and_assoc, List.getLastD_cons]
/-- what lies beneath step i -/
def prev (ns : List Int) (i : Nat) : Int := (ns.take i).getLastD 0
theorem prev_zero (ns : List Int) : prev ns 0 = 0 := by simp [prev]
theorem prev_succ {ns : List Int} {i : Nat} {m : Int} (h : ns[i]? = some m) : prev ns (i + 1) = m := by
  unfold prev
  rw [take_more h]
  simp
theorem stillB_take {ns : List Int} {i : Nat} {m : Int} (h : ns[i]? = some m) : stillB 0 (ns.take (i + 1)) = (stillB 0 (ns.take i) && !(decide (1 < m) || (decide (0 < m) && decide (0 < prev ns i)))) := by
  rw [take_more h, stillB_append]
  show (stillB 0 (ns.take i) && (!(decide (1 < m) || (decide (0 < m) && decide (0 < prev ns i))) && true)) = _
  rw [Bool.and_true]
theorem stillB_stop {ns : List Int} (i : Nat) (h : stillB 0 (ns.take i) = false) : stillB 0 ns = false := by
  have e : ns = ns.take i ++ ns.drop i := (List.take_append_drop i ns).symm
  rw [e, stillB_append, h, Bool.false_and]
theorem getD_of {ns : List Int} {i : Nat} {m : Int} (h : ns[i]? = some m) : ns.getD i 0 = m := by
  rw [List.getD_eq_getElem?_getD, h]
  rfl
theorem get_of {ns : List Int} {i : Nat} (h : i < ns.length) : ns[i]? = some (ns.getD i 0) := by
  rw [List.getD_eq_getElem?_getD, List.getElem?_eq_getElem h]
  rfl
end Sh

/-! Own words over the hand layer: what is evaluated without a change of the tracked heap (Val, Ans), loops with a word that stands over the entry's heap. -/
namespace Sh
open PySem PySem.Spec PyProof.Rows L2
section
variable {σ : L2.St} {H H0 H1 : Hp} {K : PySem.W.Frag} {ta tb tc te tl : TE} {tr : TA} {t u : TT} {x y z v : V} {vs : List V} {D : Ends} {ts tz tu : TS}
def Arg (ta : TA) (σ : L2.St) (H : Hp) (vs : List V) : Prop := ∀ Q : List V → Hp → Prop, Q vs H → ta σ H Q
theorem xg_nil : Arg tNil σ H [] := fun _ q => q
theorem xg_cons (h : Val te σ H v) (hr : Arg tr σ H vs) : Arg (tCons te tr) σ H (v :: vs) := fun _ q => h _ (hr _ q)
theorem xv_go {Q : VK} (h : Val te σ H v) (q : Q v H) : te σ H Q := h Q q
theorem xg_go {ta : TA} {Q : List V → Hp → Prop} (h : Arg ta σ H vs) (q : Q vs H) : ta σ H Q := h Q q
theorem xv_c {w : V} (e : v = w) : Val (tC v) σ H w := fun _ q => by
  subst e
  exact q
theorem xv_I0 {g : Int → Int → V} {i j : Int} (ha : Val ta σ H (.int i)) (hb : Val tb σ H (.int j)) : Val (tOp (rI0 g) ta tb) σ H (g i j) := val_op ha hb fun Q q => ⟨i, j, rfl, rfl, q⟩
theorem xv_I {C : Int → Int → Prop} {g : Int → Int → V} {i j : Int} (ha : Val ta σ H (.int i)) (hb : Val tb σ H (.int j)) (hc : C i j) : Val (tOp (rI C g) ta tb) σ H (g i j) := val_op ha hb fun Q q => ⟨i, j, rfl, rfl, hc, q⟩
theorem xv_U {g : Int → V} {i : Int} (ha : Val ta σ H (.int i)) : Val (tUn (rU g) ta) σ H (g i) := fun Q q => ha _ ⟨i, rfl, q⟩
theorem xv_eq (ha : Val ta σ H x) (hb : Val tb σ H y) (hs : scal x y = true) : Val (tOp rEq ta tb) σ H (.bl (decide (x = y))) := val_op ha hb fun Q q => ⟨hs, q⟩
theorem xv_ne (ha : Val ta σ H x) (hb : Val tb σ H y) (hs : scal x y = true) : Val (tOp rNe ta tb) σ H (.bl (!decide (x = y))) := val_op ha hb fun Q q => ⟨hs, q⟩
theorem xv_to {w : V} (h : Val te σ H v) (e : v = w) : Val te σ H w := e ▸ h
/-- len of a list -/
abbrev rLenQ (K : PySem.W.Frag) : List V → Hp → VK → Prop := fun xs H Q => ∃ p ys, xs = [.ref p] ∧ (SqL K H p ys ∨ SqT K H p ys) ∧ Q (.int ys.length) H
theorem xv_len {p : Addr} {xs : List V} (ha : Val ta σ H (.ref p)) (h : SqL K H p xs) : Val (tCB (rLenQ K) (tCons ta tNil)) σ H (.int (xs.length : Int)) := fun Q q => ha _ ⟨p, xs, rfl, .inl h, q⟩
theorem xv_lenI {p : Addr} {ns : List Int} (ha : Val ta σ H (.ref p)) (h : SqL K H p (ns.map V.int)) : Val (tCB (rLenQ K) (tCons ta tNil)) σ H (.int (ns.length : Int)) := fun Q q => ha _ ⟨p, _, rfl, .inl h, by rw [List.length_map]; exact q⟩
theorem xv_cb {r : List V → Hp → VK → Prop} {ta : TA} (h : Arg ta σ H vs) (hr : ∀ Q : VK, Q v H → r vs H Q) : Val (tCB r ta) σ H v := fun Q q => h _ (hr Q q)
/-- an int of a list at a place -/
theorem atI_int {ns : List Int} {i : Int} (h0 : 0 ≤ i) (h1 : i < ns.length) : atI (ns.map V.int) i = some (.int (ns.getD i.toNat 0)) := by
  obtain ⟨n, rfl⟩ := Int.eq_ofNat_of_zero_le h0
  have hn : n < ns.length := by omega
  refine atI_nat ?_
  rw [List.getElem?_map, List.getD_eq_getElem?_getD]
  show Option.map V.int ns[n]? = some (V.int (ns[n]?.getD 0))
  rw [List.getElem?_eq_getElem hn]
  rfl
theorem xv_ix {p : Addr} {ns : List Int} {i : Int} (ha : Val ta σ H (.ref p)) (hb : Val tb σ H (.int i)) (h : SqL K H p (ns.map V.int)) (h0 : 0 ≤ i) (h1 : i < ns.length) : Val (tOp (rIxL K) ta tb) σ H (.int (ns.getD i.toNat 0)) :=
  val_op ha hb fun Q q => ⟨p, _, i, _, rfl, rfl, h, atI_int h0 h1, q⟩
theorem xv_ixV {p : Addr} {xs : List V} {i : Int} (ha : Val ta σ H (.ref p)) (hb : Val tb σ H (.int i)) (h : SqL K H p xs) (hv : atI xs i = some v) : Val (tOp (rIxL K) ta tb) σ H v :=
  val_op ha hb fun Q q => ⟨p, _, i, _, rfl, rfl, h, hv, q⟩
theorem xv_ixT {p : Addr} {xs : List V} {i : Int} (ha : Val ta σ H (.ref p)) (hb : Val tb σ H (.int i)) (h : SqT K H p xs) (hv : atI xs i = some v) : Val (tOp (rIxT K) ta tb) σ H v :=
  val_op ha hb fun Q q => ⟨p, _, i, _, rfl, rfl, h, hv, q⟩
/-- a def whose promise gives a value and leaves the heap -/
theorem xv_call {sp : Sp} {E : XK} (h : Arg tr σ H vs) (hs : ∀ Q : VK, Q v H → sp (vs ++ []) H Q E) : Val (tCall sp [] E tr) σ H v := fun Q q => h _ (hs Q q)
theorem xv_and {a b : Bool} (h1 : Val ta σ H (.bl a)) (h2 : a = true → Val tb σ H (.bl b)) : Val (tAndV ta tb) σ H (.bl (a && b)) := fun Q q => h1 _ ⟨a, rfl, by
  cases a with
  | true => exact h2 rfl _ q
  | false => exact q⟩
theorem xv_or {a b : Bool} (h1 : Val ta σ H (.bl a)) (h2 : a = false → Val tb σ H (.bl b)) : Val (tOrV ta tb) σ H (.bl (a || b)) := fun Q q => h1 _ ⟨a, rfl, by
  cases a with
  | true => exact q
  | false => exact h2 rfl _ q⟩
theorem xv_not {a : Bool} (h1 : Val ta σ H (.bl a)) : Val (tNotV ta) σ H (.bl (!a)) := fun Q q => h1 _ ⟨a, rfl, q⟩
theorem xv_p60 : Val (tOp (rI CPow fun i j => .int (i ^ j.toNat)) (tC (.int 10)) (tC (.int 60))) σ H (.int T60) := fun Q q => ⟨10, 60, rfl, rfl, ⟨by decide, by decide, by decide⟩, by
  show Q (.int ((10 : Int) ^ (60 : Int).toNat)) H
  rw [T60_eq]
  exact q⟩
/-! tests -/
theorem xa_T {b : Bool} (h : Val te σ H (.bl b)) : Ans (tTest te) σ H b := fun Q q => h _ ⟨b, rfl, q⟩
theorem xa_B {b : Bool} (h : Val te σ H (.bl b)) : Ans (tB te) σ H b := fun Q q => h _ ⟨b, rfl, q⟩
theorem xa_not {a : Bool} (h : Ans t σ H a) : Ans (tNot t) σ H (!a) := fun Q q => h _ q
theorem xa_and {a b : Bool} (h1 : Ans t σ H a) (h2 : a = true → Ans u σ H b) : Ans (tAnd t u) σ H (a && b) := fun Q q => h1 _ (by
  cases a with
  | true => exact h2 rfl _ q
  | false => exact q)
theorem xa_or {a b : Bool} (h1 : Ans t σ H a) (h2 : a = false → Ans u σ H b) : Ans (tOr t u) σ H (a || b) := fun Q q => h1 _ (by
  cases a with
  | true => exact q
  | false => exact h2 rfl _ q)
/-! statements -/
theorem xs_par {i j : Nat} {w : V} {ta : TA} (h : Arg ta σ H [v, w]) (q : D.nx ((σ.set i (some v)).set j (some w)) H) : tPar i j ta D σ H := h _ ⟨v, w, rfl, q⟩
theorem xs_if {b : Bool} (h : Ans t σ H b) (h1 : b = true → ts D σ H) (h2 : b = false → tu D σ H) : tIfS t ts tu D σ H := h _ (by
  cases b with
  | true => exact h1 rfl
  | false => exact h2 rfl)
/-- an if without else, something behind it -/
theorem xs_when {b : Bool} (h : Ans t σ H b) (h1 : b = true → ts { D with nx := tz D } σ H) (h2 : b = false → tz D σ H) : tSeq (tIfS t ts tNext) tz D σ H := xs_if (D := { D with nx := tz D }) h h1 h2
/-- if c: x = e, told by what holds of x behind it -/
theorem xs_ifSet {Pv : V → Prop} {b : Bool} {i : Nat} {v0 : V} (h : Ans t σ H b) (hv : b = true → Val te σ H v) (p1 : b = true → Pv v) (p0 : b = false → Pv v0) (hs : σ.set i (some v0) = σ) (k : ∀ v, Pv v → tz D (σ.set i (some v)) H) :
    tSeq (tIfS t (tAsg te (gName i)) tNext) tz D σ H := xs_when h (fun hb => st_set (D := { D with nx := tz D }) (hv hb) (k v (p1 hb))) fun hb => by
  have q := k v0 (p0 hb)
  rw [hs] at q
  exact q
theorem xs_cut {Mid : L2.St → Hp → Prop} (h : ts { D with nx := Mid } σ H) (k : ∀ σ' H', Mid σ' H' → tz D σ' H') : Evl.tCut ts tz D σ H := ⟨Mid, h, k⟩
theorem xs_seq {D : Ends} (h : ts { D with nx := tz D } σ H) : tSeq ts tz D σ H := h
/-- a for over a list of ints, which stands at H0: what was tracked at H0 stays -/
theorem xs_forI {a : Addr} {ns : List Int} {j : Nat} (hv : Val tl σ H (.ref a)) (e0 : Same H0 H) (hx : SqL K H0 a (ns.map V.int)) (P : Nat → L2.St → Hp → Prop) (h0 : P 0 σ H)
    (hs : ∀ i n σ' H', Same H0 H' → ns[i]? = some n → P i σ' H' → ts { D with nx := fun s h => Same H0 h ∧ P (i + 1) s h, ct := fun s h => Same H0 h ∧ P (i + 1) s h, bk := D.nx } (σ'.set j (some (.int n))) H')
    (hd : ∀ σ' H', Same H0 H' → P ns.length σ' H' → D.nx σ' H') : tFor (iList K tl) (gName j) ts D σ H :=
  hv _ ⟨a, rfl, ⟨_, e0.seq hx⟩, for_list (xs := ns.map V.int) (fun i s h => Same H0 h ∧ P i s h) ⟨e0, h0⟩ (fun _ _ _ _ p => p.1.seq hx)
    (fun i x σ' H' hi p => by
      rw [List.getElem?_map] at hi
      cases e : ns[i]? with
      | none =>
        rw [e] at hi
        cases hi
      | some n =>
        rw [e] at hi
        cases hi
        exact hs i n σ' H' p.1 e p.2)
    (fun σ' H' p => by
      rw [List.length_map] at p
      exact hd σ' H' p.1 p.2)⟩
theorem xs_forV {a : Addr} {xs : List V} {g : TG} (hv : Val tl σ H (.ref a)) (e0 : Same H0 H) (hx : SqL K H0 a xs) (P : Nat → L2.St → Hp → Prop) (h0 : P 0 σ H)
    (hs : ∀ i x σ' H', Same H0 H' → xs[i]? = some x → P i σ' H' → g x σ' H' fun σ2 H2 => ts { D with nx := fun s h => Same H0 h ∧ P (i + 1) s h, ct := fun s h => Same H0 h ∧ P (i + 1) s h, bk := D.nx } σ2 H2)
    (hd : ∀ σ' H', Same H0 H' → P xs.length σ' H' → D.nx σ' H') : tFor (iList K tl) g ts D σ H :=
  hv _ ⟨a, rfl, ⟨_, e0.seq hx⟩, for_list (xs := xs) (fun i s h => Same H0 h ∧ P i s h) ⟨e0, h0⟩ (fun _ _ _ _ p => p.1.seq hx)
    (fun i x σ' H' hi p => hs i x σ' H' p.1 hi p.2) (fun σ' H' p => hd σ' H' p.1 p.2)⟩
/-- a for over range(n) -/
theorem xs_forR {ta : TA} {j : Nat} {n : Nat} (h : Arg ta σ H [.int (n : Int)]) (hn : n < 2 ^ 62) (P : Nat → L2.St → Hp → Prop) (h0 : P 0 σ H)
    (hs : ∀ (i : Nat) σ' H', i < n → P i σ' H' → ts { D with nx := P (i + 1), ct := P (i + 1), bk := D.nx } (σ'.set j (some (.int (i : Int)))) H')
    (hd : ∀ σ' H', P n σ' H' → D.nx σ' H') : tFor (iRng1 ta) (gName j) ts D σ H :=
  h _ ⟨(n : Int), rfl, by omega, by omega, for_range (lo := 0) (n := n) P h0 (fun i σ' H' hi p => by
    show ts { D with nx := P (i + 1), ct := P (i + 1), bk := D.nx } (σ'.set j (some (.int ((0 : Int) + (i : Int))))) H'
    rw [Int.zero_add]
    exact hs i σ' H' hi p) hd⟩
/-- a while whose test leaves the heap: a word and a measure -/
theorem xs_while (P : Nat → L2.St → Hp → Prop) (m0 : Nat) (h0 : P m0 σ H)
    (hs : ∀ m σ' H', P m σ' H' → ∃ b, Ans t σ' H' b ∧ (b = true → ts { D with nx := fun s h => ∃ m', m' < m ∧ P m' s h, ct := fun s h => ∃ m', m' < m ∧ P m' s h, bk := D.nx } σ' H') ∧ (b = false → D.nx σ' H')) : tWhile t ts D σ H :=
  ⟨P, ⟨m0, h0⟩, fun m σ' H' p => by
    obtain ⟨b, hb, h1, h2⟩ := hs m σ' H' p
    refine hb _ ?_
    cases b with
    | true => exact ⟨fun s h => ∃ m', m' < m ∧ P m' s h, fun _ _ z => z, h1 rfl⟩
    | false => exact h2 rfl⟩
/-! the same, something behind -/
theorem xq_set {i : Nat} (h : Val te σ H v) (q : tz D (σ.set i (some v)) H) : tSeq (tAsg te (gName i)) tz D σ H := st_set (D := { D with nx := tz D }) h q
/-- read by hand, step by step -/
theorem xr_ret (h : te σ H fun v H1 => D.rt v H1) : tRet te D σ H := h
theorem xr_and {Q : VK} (h : ta σ H fun x H1 => ∃ c, x = .bl c ∧ if c = true then tb σ H1 Q else Q (.bl false) H1) : tAndV ta tb σ H Q := h
theorem xr_call {sp : Sp} {E : XK} {Q : VK} (h : tr σ H fun vs H1 => sp (vs ++ []) H1 Q E) : tCall sp [] E tr σ H Q := h
theorem xr_cons {Q : List V → Hp → Prop} (h : te σ H fun x H1 => tr σ H1 fun xs H2 => Q (x :: xs) H2) : tCons te tr σ H Q := h
/-- x = e, e read by hand -/
theorem xq_run {i : Nat} (h : te σ H fun v H1 => tz D (σ.set i (some v)) H1) : tSeq (tAsg te (gName i)) tz D σ H := h
theorem xq_par {i j : Nat} {w : V} {ta : TA} (h : Arg ta σ H [v, w]) (q : tz D ((σ.set i (some v)).set j (some w)) H) : tSeq (tPar i j ta) tz D σ H := xs_par (D := { D with nx := tz D }) h q
theorem xq_if {b : Bool} (h : Ans t σ H b) (h1 : b = true → ts { D with nx := tz D } σ H) (h2 : b = false → tu { D with nx := tz D } σ H) : tSeq (tIfS t ts tu) tz D σ H := xs_if (D := { D with nx := tz D }) h h1 h2
theorem xq_forI {a : Addr} {ns : List Int} {j : Nat} (hv : Val tl σ H (.ref a)) (e0 : Same H0 H) (hx : SqL K H0 a (ns.map V.int)) (P : Nat → L2.St → Hp → Prop) (h0 : P 0 σ H)
    (hs : ∀ i n σ' H', Same H0 H' → ns[i]? = some n → P i σ' H' → ts { D with nx := fun s h => Same H0 h ∧ P (i + 1) s h, ct := fun s h => Same H0 h ∧ P (i + 1) s h, bk := tz D } (σ'.set j (some (.int n))) H')
    (hd : ∀ σ' H', Same H0 H' → P ns.length σ' H' → tz D σ' H') : tSeq (tFor (iList K tl) (gName j) ts) tz D σ H := xs_forI (D := { D with nx := tz D }) hv e0 hx P h0 hs hd
theorem xq_forV {a : Addr} {xs : List V} {g : TG} (hv : Val tl σ H (.ref a)) (e0 : Same H0 H) (hx : SqL K H0 a xs) (P : Nat → L2.St → Hp → Prop) (h0 : P 0 σ H)
    (hs : ∀ i x σ' H', Same H0 H' → xs[i]? = some x → P i σ' H' → g x σ' H' fun σ2 H2 => ts { D with nx := fun s h => Same H0 h ∧ P (i + 1) s h, ct := fun s h => Same H0 h ∧ P (i + 1) s h, bk := tz D } σ2 H2)
    (hd : ∀ σ' H', Same H0 H' → P xs.length σ' H' → tz D σ' H') : tSeq (tFor (iList K tl) g ts) tz D σ H := xs_forV (D := { D with nx := tz D }) hv e0 hx P h0 hs hd
theorem xq_forR {ta : TA} {j : Nat} {n : Nat} (h : Arg ta σ H [.int (n : Int)]) (hn : n < 2 ^ 62) (P : Nat → L2.St → Hp → Prop) (h0 : P 0 σ H)
    (hs : ∀ (i : Nat) σ' H', i < n → P i σ' H' → ts { D with nx := P (i + 1), ct := P (i + 1), bk := tz D } (σ'.set j (some (.int (i : Int)))) H')
    (hd : ∀ σ' H', P n σ' H' → tz D σ' H') : tSeq (tFor (iRng1 ta) (gName j) ts) tz D σ H := xs_forR (D := { D with nx := tz D }) h hn P h0 hs hd
theorem xq_while (P : Nat → L2.St → Hp → Prop) (m0 : Nat) (h0 : P m0 σ H)
    (hs : ∀ m σ' H', P m σ' H' → ∃ b, Ans t σ' H' b ∧ (b = true → ts { D with nx := fun s h => ∃ m', m' < m ∧ P m' s h, ct := fun s h => ∃ m', m' < m ∧ P m' s h, bk := tz D } σ' H') ∧ (b = false → tz D σ' H')) : tSeq (tWhile t ts) tz D σ H := xs_while (D := { D with nx := tz D }) P m0 h0 hs
end
/-! ### isinstance -/
section
variable {σ : L2.St} {H : Hp} {K : PySem.W.Frag} {ta : TE}
theorem tyx_L {a : Addr} {xs : List V} (h : SqL K H a xs) : TyX K H (.ref a) (.type "list") := by
  rcases h with (h | ⟨o, h⟩) | ⟨o, its, n, h, hc, _⟩
  · exact .base (.lst h)
  · exact .base (.frz h)
  · exact .kList h hc
theorem xv_isi {x : V} {T a : String} {b : Bool} (ha : Val ta σ H x) (ht : TyX K H x (.type a)) (hk : kitB a T = some b) : Val (tCB (rIsi K) (tCons ta (tCons (tC (.ty T)) tNil))) σ H (.bl b) :=
  fun Q q => ha _ ⟨x, .ty T, .type a, .type T, b, rfl, .ty T, ht, kit_ty hk, q⟩
end
/-! ### what makes new lists (over Evl) -/
section
open Evl
variable {σ : L2.St} {H H' H0 : Hp} {K : PySem.W.Frag} {ta tb tc te tl : TE} {tr : TA} {t u : TT} {x y z v : V} {xs ys vs : List V} {D : Ends} {ts tz tu : TS}
theorem xe_I0 {g : Int → Int → V} {i j : Int} (ha : Ev ta σ H (.int i)) (hb : Ev tb σ H (.int j)) : Ev (tOp (rI0 g) ta tb) σ H (g i j) := ev_op ha hb rv_I0
theorem xe_I {C : Int → Int → Prop} {g : Int → Int → V} {i j : Int} (ha : Ev ta σ H (.int i)) (hb : Ev tb σ H (.int j)) (hc : C i j) : Ev (tOp (rI C g) ta tb) σ H (g i j) := ev_op ha hb (rv_I hc)
theorem xe_p60 : Ev (tOp (rI CPow fun i j => .int (i ^ j.toNat)) (tC (.int 10)) (tC (.int 60))) σ H (.int T60) := fun H1 e Q q => xv_p60 _ (q H1 (Ex.refl H1))
theorem xe_len {p : Addr} (ha : Ev ta σ H (.ref p)) (h : SqL K H p xs) : Ev (tCB (rLenQ K) (tCons ta tNil)) σ H (.int (xs.length : Int)) := fun H1 e Q q => ha H1 e _ fun H2 e2 => ⟨p, xs, rfl, .inl (ex_l (e.trans e2) h), q H2 e2⟩
theorem xe_ix {p : Addr} {ns : List Int} {i : Int} (ha : Ev ta σ H (.ref p)) (hb : Ev tb σ H (.int i)) (h : SqL K H p (ns.map V.int)) (h0 : 0 ≤ i) (h1 : i < ns.length) : Ev (tOp (rIxL K) ta tb) σ H (.int (ns.getD i.toNat 0)) := ev_op ha hb (rv_ixL h (atI_int h0 h1))
theorem xl_rep {k : Int} (ha : EvL ta σ H xs) (hb : Ev tb σ H (.int k)) (hk : -(2 ^ 63) ≤ k ∧ k < 2 ^ 63) (hz : xs.length * k.toNat ≤ 100000) : EvL (tOp rRep ta tb) σ H (List.replicate k.toNat xs).flatten := fun H1 e Q q =>
  ha H1 e _ fun p H2 hp e2 h2 => hb H2 (e.trans e2) _ fun H3 e3 => ⟨p, k, xs, rfl, rfl, e3 p _ h2, hk.1, hk.2, sz_of hz, fun p3 h3 => q p3 _ (fresh_back (e2.trans e3) h3) ((e2.trans e3).trans (Ex.new h3)) upd_same⟩
theorem xl_cat {l : Addr} (ha : Ev ta σ H (.ref l)) (hl : H l = some (.lst xs)) (hb : EvL tb σ H ys) (hz : xs.length + ys.length ≤ 100000) : EvL (tOp rCat ta tb) σ H (xs ++ ys) := fun H1 e Q q =>
  ha H1 e _ fun H2 e2 => hb H2 (e.trans e2) _ fun p H3 hp e3 h3 => ⟨l, p, xs, ys, rfl, rfl, ((e.trans e2).trans e3) l _ hl, h3, sz_of hz, fun p4 h4 => q p4 _ (fresh_back (e2.trans e3) h4) ((e2.trans e3).trans (Ex.new h4)) upd_same⟩
theorem xl_catR {l : Addr} (ha : EvL ta σ H xs) (hb : Ev tb σ H (.ref l)) (hl : H l = some (.lst ys)) (hz : xs.length + ys.length ≤ 100000) : EvL (tOp rCat ta tb) σ H (xs ++ ys) := fun H1 e Q q =>
  ha H1 e _ fun p H2 hp e2 h2 => hb H2 (e.trans e2) _ fun H3 e3 => ⟨p, l, xs, ys, rfl, rfl, e3 p _ h2, ((e.trans e2).trans e3) l _ hl, sz_of hz, fun p4 h4 => q p4 _ (fresh_back (e2.trans e3) h4) ((e2.trans e3).trans (Ex.new h4)) upd_same⟩
theorem xl_catN (ha : EvL ta σ H xs) (hb : EvL tb σ H ys) (hz : xs.length + ys.length ≤ 100000) : EvL (tOp rCat ta tb) σ H (xs ++ ys) := fun H1 e Q q =>
  ha H1 e _ fun p H2 hp e2 h2 => hb H2 (e.trans e2) _ fun p3 H3 hp3 e3 h3 => ⟨p, p3, xs, ys, rfl, rfl, e3 p _ h2, h3, sz_of hz, fun p4 h4 => q p4 _ (fresh_back (e2.trans e3) h4) ((e2.trans e3).trans (Ex.new h4)) upd_same⟩
theorem xl_catV {l m : Addr} (ha : Ev ta σ H (.ref l)) (hl : H l = some (.lst xs)) (hb : Ev tb σ H (.ref m)) (hm : H m = some (.lst ys)) (hz : xs.length + ys.length ≤ 100000) : EvL (tOp rCat ta tb) σ H (xs ++ ys) := fun H1 e Q q =>
  ha H1 e _ fun H2 e2 => hb H2 (e.trans e2) _ fun H3 e3 => ⟨l, m, xs, ys, rfl, rfl, ((e.trans e2).trans e3) l _ hl, ((e.trans e2).trans e3) m _ hm, sz_of hz, fun p4 h4 => q p4 _ (fresh_back (e2.trans e3) h4) ((e2.trans e3).trans (Ex.new h4)) upd_same⟩
/-- list(xs) -/
abbrev rListQ (K : PySem.W.Frag) : List V → Hp → VK → Prop := fun xs H Q => ∃ p ys, xs = [.ref p] ∧ (SqL K H p ys ∨ SqT K H p ys) ∧ ∀ l, H l = none → Q (.ref l) (upd H l (.lst ys))
theorem xl_listQ {p : Addr} (ha : Ev ta σ H (.ref p)) (h : SqL K H p xs) : EvL (tCB (rListQ K) (tCons ta tNil)) σ H xs := fun H1 e Q q =>
  ha H1 e _ fun H2 e2 => ⟨p, xs, rfl, .inl (ex_l (e.trans e2) h), fun l hl => q l _ (fresh_back e2 hl) (e2.trans (Ex.new hl)) upd_same⟩
theorem xl_revL {p : Addr} (ha : Ev ta σ H (.ref p)) (h : SqL K H p xs) : EvL (tRevL K ta) σ H xs.reverse := fun H1 e Q q =>
  ha H1 e _ fun H2 e2 => ⟨p, xs, rfl, ex_l (e.trans e2) h, fun l hl => q l _ (fresh_back e2 hl) (e2.trans (Ex.new hl)) upd_same⟩
/-- [0] * n, of ints -/
theorem flat_rep (k : Nat) (c : Int) : (List.replicate k [V.int c]).flatten = (List.replicate k c).map V.int := by
  induction k with
  | zero => rfl
  | succ k ih => rw [List.replicate_succ, List.flatten_cons, ih] <;> rfl
theorem cut_all (xs : List V) (a b : Nat) : cutV xs (some (a : Int)) (some (b : Int)) = (xs.take b).drop a := by
  unfold cutV
  rw [show HT.sIx xs.length 0 (some (a : Int)) = min a xs.length from HT.sIx_nat xs.length 0 a, show HT.sIx xs.length xs.length (some (b : Int)) = min b xs.length from HT.sIx_nat xs.length xs.length b]
  rw [List.drop_take]
  by_cases ha : a ≤ xs.length
  · have e1 : min a xs.length = a := Nat.min_eq_left ha
    rw [e1]
    by_cases hb : b ≤ xs.length
    · rw [Nat.min_eq_left hb]
    · have e2 : min b xs.length = xs.length := Nat.min_eq_right (by omega)
      rw [e2, List.take_of_length_le (by rw [List.length_drop]; omega), List.take_of_length_le (by rw [List.length_drop]; omega)]
  · have e1 : min a xs.length = xs.length := Nat.min_eq_right (by omega)
    rw [e1, List.drop_length, List.drop_of_length_le (by omega)]
    simp
theorem cut_lo (xs : List V) (a : Nat) : cutV xs (some (a : Int)) none = xs.drop a := by
  unfold cutV
  rw [show HT.sIx xs.length 0 (some (a : Int)) = min a xs.length from HT.sIx_nat xs.length 0 a, HT.sIx_none]
  by_cases ha : a ≤ xs.length
  · rw [Nat.min_eq_left ha, List.take_of_length_le (by rw [List.length_drop]; omega)]
  · rw [Nat.min_eq_right (by omega), List.drop_length, List.drop_of_length_le (by omega)]
    simp
theorem cut_hi (xs : List V) (b : Nat) : cutV xs none (some (b : Int)) = xs.take b := by
  have h := cut_all xs 0 b
  rw [List.drop_zero] at h
  rw [← h]
  unfold cutV
  rw [HT.sIx_none, show HT.sIx xs.length 0 (some ((0 : Nat) : Int)) = min 0 xs.length from HT.sIx_nat xs.length 0 0, Nat.zero_min]
theorem cut_int {ns : List Int} {a b : Int} (ha : 0 ≤ a) (hb : 0 ≤ b) : cutV (ns.map V.int) (some a) (some b) = ((ns.take b.toNat).drop a.toNat).map V.int := by
  obtain ⟨x, rfl⟩ := Int.eq_ofNat_of_zero_le ha
  obtain ⟨y, rfl⟩ := Int.eq_ofNat_of_zero_le hb
  rw [List.map_drop, List.map_take]
  exact cut_all _ x y
/-- [e for x in xs], xs a new list of ints, e's value F x -/
theorem xl_mapI {cs : List Int} {F : Int → V} {j : Nat} {ws : List Nat} (h : EvL tl σ H (cs.map V.int)) (hz : cs.length ≤ 40000) (hw : ∀ x, wipe ((wipe σ ws).set j (some x)) ws = wipe σ ws)
    (he : ∀ x H1, Ex H H1 → x ∈ cs → Ev te ((wipe σ ws).set j (some (.int x))) H1 (F x)) : EvL (tLc (iList K tl) (gName j) tYes te ws) σ H (cs.map F) := by
  have r := el_lcNL (K := K) (vs := ws) (j := j) (t := tYes) (fun _ => true) (fun i => F (cs.getD i 0)) h (by rw [List.length_map]; exact hz) hw (fun i x H1 e hi => fun H2 e2 Q q => q H2 (Ex.refl H2)) (te := te) (fun i x H1 e hi _ => by
    rw [List.getElem?_map] at hi
    cases hc : cs[i]? with
    | none =>
      rw [hc] at hi
      cases hi
    | some c =>
      rw [hc] at hi
      cases hi
      rw [getD_of hc]
      exact he c H1 e (List.mem_of_getElem? hc))
  have e : given (cs.map V.int).length (fun _ => true) (fun i => F (cs.getD i 0)) = cs.map F := by
    unfold given
    rw [List.filter_eq_self.mpr (fun _ _ => rfl), List.length_map]
    refine List.ext_getElem? fun i => ?_
    rw [List.getElem?_map, List.getElem?_map]
    by_cases hi : i < cs.length
    · rw [List.getElem?_range hi, get_of hi]
      rfl
    · rw [List.getElem?_eq_none (by rw [List.length_range]; omega), List.getElem?_eq_none (by omega)]
      rfl
  rw [e] at r
  exact r
/-- what was tracked ahead of a list's making stays when that list is changed -/
theorem same_mut {p : Addr} {o : HO} (e : Same H H') (h : H p = none) : Same H (upd H' p o) := Ex.mut e h
end
/-! ### while len(xs) > 0 and xs[len(xs) - 1] == 0: xs.pop() -/
section
variable {σ : L2.St} {H : Hp} {K : PySem.W.Frag} {D : Ends}
theorem xs_pops {i : Nat} {l : Addr} {xs : List Int} (hσ : σ[i]? = some (some (.ref l))) (hl : H l = some (.lst (xs.map V.int)))
    (q : ∀ H', (∀ b, b ≠ l → H' b = H b) → H' l = some (.lst ((bare xs).map V.int)) → D.nx σ H') :
    tWhile (tAnd (tTest (tOp (rI0 fun i j => .bl (decide (j < i))) (tCB (rLenQ K) (tCons (tVar i) tNil)) (tC (.int 0))))
      (tTest (tOp rEq (tOp (rIxL K) (tVar i) (tOp (rI0 fun i j => .int (i - j)) (tCB (rLenQ K) (tCons (tVar i) tNil)) (tC (.int 1)))) (tC (.int 0)))))
      (tDrop (tBM0 K "list" rPop (tVar i))) D σ H := by
  refine xs_while (fun m s H' => ∃ ys : List Int, s = σ ∧ (∀ b, b ≠ l → H' b = H b) ∧ H' l = some (.lst (ys.map V.int)) ∧ bare ys = bare xs ∧ ys.length = m) _ ⟨xs, rfl, fun _ _ => rfl, hl, rfl, rfl⟩ ?_
  rintro m s H' ⟨ys, rfl, e3, h3, hb, rfl⟩
  refine ⟨_, xa_and (xa_T (xv_I0 (xv_lenI (val_var hσ) (SqL.of h3)) val_c)) fun hc => xa_T (xv_eq (xv_ix (val_var hσ) (xv_I0 (xv_lenI (val_var hσ) (SqL.of h3)) val_c) (SqL.of h3) (by
    have := of_decide_eq_true hc
    omega) (by omega)) val_c rfl), fun hc => ?_, fun hc => ?_⟩
  · rw [Bool.and_eq_true] at hc
    obtain ⟨c1, c2⟩ := hc
    have c1 := of_decide_eq_true c1
    have c2 := V.int.inj (of_decide_eq_true c2)
    obtain ⟨zs, c, rfl⟩ := snoc_of (xs := ys) (by
      rintro rfl
      simp at c1)
    rw [show (((zs ++ [c]).length : Int) - 1).toNat = (zs ++ [c]).length - 1 by omega, getD_last] at c2
    subst c2
    refine ⟨.ref l, hσ, .inl ⟨rfl, _, SqL.of h3⟩, l, _, .int 0, rfl, rfl, h3, ?_, ?_⟩
    · rw [List.length_map, List.getElem?_map, List.length_append, List.length_singleton, Nat.add_sub_cancel, List.getElem?_append_right (Nat.le_refl _), Nat.sub_self]
      rfl
    · refine ⟨zs.length, by rw [List.length_append, List.length_singleton]; omega, zs, rfl, fun b hb => by rw [upd_ne hb]; exact e3 b hb, ?_, ?_, rfl⟩
      · rw [upd_same, List.map_append, List.map_singleton, List.dropLast_concat]
      · rw [← hb, bare_zero]
  · have hy : bare ys = ys := by
      by_cases h0 : ys = []
      · rw [h0]
        rfl
      · obtain ⟨zs, c, rfl⟩ := snoc_of h0
        refine bare_snoc zs fun e => ?_
        subst e
        have c1 := of_decide_eq_false (Bool.and_eq_false_imp.mp hc (decide_eq_true (by rw [List.length_append, List.length_singleton]; omega)))
        refine c1 ?_
        have e9 : (((zs ++ [(0 : Int)]).length : Int) - 1).toNat = (zs ++ [(0 : Int)]).length - 1 := by omega
        rw [e9, getD_last]
    refine q H' e3 ?_
    rw [h3, ← hb, hy]
theorem xq_pops {tz : TS} {i : Nat} {l : Addr} {xs : List Int} (hσ : σ[i]? = some (some (.ref l))) (hl : H l = some (.lst (xs.map V.int)))
    (q : ∀ H', (∀ b, b ≠ l → H' b = H b) → H' l = some (.lst ((bare xs).map V.int)) → tz D σ H') :
    tSeq (tWhile (tAnd (tTest (tOp (rI0 fun i j => .bl (decide (j < i))) (tCB (rLenQ K) (tCons (tVar i) tNil)) (tC (.int 0))))
      (tTest (tOp rEq (tOp (rIxL K) (tVar i) (tOp (rI0 fun i j => .int (i - j)) (tCB (rLenQ K) (tCons (tVar i) tNil)) (tC (.int 1)))) (tC (.int 0)))))
      (tDrop (tBM0 K "list" rPop (tVar i)))) tz D σ H := xs_pops (D := { D with nx := tz D }) hσ hl q
end
/-! ### lists of ints compared -/
section
variable {σ : L2.St} {H : Hp} {K : PySem.W.Frag} {ta tb : TE}
theorem dpAll_int (ns : List Int) : DpAll K H (ns.map V.int) (ns.map PyData.int) := by
  induction ns with
  | nil => exact .nil
  | cons n r ih => exact .cons (.int n) ih
theorem eqvAll_int : ∀ ns ms : List Int, PyData.eqvAll (ns.map PyData.int) (ms.map PyData.int) = decide (ns = ms)
  | [], [] => by simp [PyData.eqvAll]
  | [], m :: ms => by simp [PyData.eqvAll]
  | n :: ns, [] => by simp [PyData.eqvAll]
  | n :: ns, m :: ms => by
    show (n == m && PyData.eqvAll (ns.map PyData.int) (ms.map PyData.int)) = decide (n :: ns = m :: ms)
    rw [eqvAll_int ns ms]
    by_cases h : n = m
    · subst h
      by_cases h2 : ns = ms
      · subst h2
        simp
      · simp [h2]
    · simp [h]
theorem eqv_int (ns ms : List Int) : PyData.eqv (.list (ns.map PyData.int)) (.list (ms.map PyData.int)) = decide (ns = ms) := by
  rw [← eqvAll_int]
  simp [PyData.eqv]
theorem canLayAll_int : ∀ ns : List Int, PyData.canLayAll0 (ns.map PyData.int) = true
  | [] => rfl
  | n :: ns => by
    show (true && PyData.canLayAll0 (ns.map PyData.int)) = true
    rw [canLayAll_int ns]
    rfl
theorem depthAll_int : ∀ ns : List Int, PyData.depthAll (ns.map PyData.int) ≤ 1
  | [] => by simp [PyData.depthAll]
  | n :: ns => by
    have := depthAll_int ns
    simp only [List.map_cons, PyData.depthAll, PyData.depth]
    omega
theorem shaped_int (ns : List Int) : SeqAt.shaped (.list (ns.map PyData.int)) = true := by
  unfold SeqAt.shaped
  rw [Bool.and_eq_true]
  refine ⟨canLayAll_int ns, decide_eq_true ?_⟩
  have := depthAll_int ns
  simp only [PyData.depth]
  omega
/-- xs == ys, xs != ys of lists of ints -/
theorem xv_eqL {a b : Addr} {ns ms : List Int} (ha : Val ta σ H (.ref a)) (hb : Val tb σ H (.ref b)) (h1 : SqL K H a (ns.map V.int)) (h2 : SqL K H b (ms.map V.int)) : Val (tOp (rEqD K) ta tb) σ H (.bl (decide (ns = ms))) :=
  val_op ha hb fun Q q => ⟨_, _, .lst h1 (dpAll_int ns), .lst h2 (dpAll_int ms), shaped_int ns, shaped_int ms, by rw [eqv_int]; exact q⟩
theorem xv_neL {a b : Addr} {ns ms : List Int} (ha : Val ta σ H (.ref a)) (hb : Val tb σ H (.ref b)) (h1 : SqL K H a (ns.map V.int)) (h2 : SqL K H b (ms.map V.int)) : Val (tOp (rNeD K) ta tb) σ H (.bl (!decide (ns = ms))) :=
  val_op ha hb fun Q q => ⟨_, _, .lst h1 (dpAll_int ns), .lst h2 (dpAll_int ms), shaped_int ns, shaped_int ms, by rw [eqv_int]; exact q⟩
end
end Sh

/-! Own words for exceptions: isinstance of what an except suite holds, with the class told by the reading. -/
namespace Sh
open PySem PySem.Spec PyProof.Rows L2
theorem units65 {k : Nat} {A : Around} (hr : Room k A) : A.units + 65 < cLine := by have := hr.un; omega
section
variable {K : PySem.W.Frag} {D Y : Addr}
theorem kit_yes (hc : PySem.W.isClsIn K Y = true) (ht : PySem.W.typeIn K (.ref Y) = some (.type "type")) (hs : PySem.W.subIn K (.ref D) (.ref Y) = some true) : PySem.W.kitOne K (.ref D) (.ref Y) = some true := by
  have e2 : ((PySem.W.clsIn K Y).isSome && PySem.W.typeIn K (.ref Y) == some (.type "type")) = true := by
    have h2 : (PySem.W.clsIn K Y).isSome = true := hc
    rw [h2, ht]
    rfl
  unfold PySem.W.kitOne
  split
  · rfl
  · show (if ((PySem.W.clsIn K Y).isSome && PySem.W.typeIn K (.ref Y) == some (.type "type")) = true then PySem.W.subIn K (.ref D) (.ref Y) else none) = some true
    rw [if_pos e2, hs]
theorem kit_no (hc : PySem.W.isClsIn K Y = true) (ht : PySem.W.typeIn K (.ref Y) = some (.type "type")) (h0 : PySem.W.subIn K (.ref D) (.ref D) = some true) (hs : PySem.W.subIn K (.ref D) (.ref Y) = some false) : PySem.W.kitOne K (.ref D) (.ref Y) = some false := by
  have e2 : ((PySem.W.clsIn K Y).isSome && PySem.W.typeIn K (.ref Y) == some (.type "type")) = true := by
    have h2 : (PySem.W.clsIn K Y).isSome = true := hc
    rw [h2, ht]
    rfl
  unfold PySem.W.kitOne
  split
  · rename_i e
    have e3 : Value.ref D = Value.ref Y := beq_iff_eq.mp e
    cases e3
    rw [h0] at hs
    cases hs
  · show (if ((PySem.W.clsIn K Y).isSome && PySem.W.typeIn K (.ref Y) == some (.type "type")) = true then PySem.W.subIn K (.ref D) (.ref Y) else none) = some false
    rw [if_pos e2, hs]
theorem kit_ve (hs : PySem.W.subIn K (.ref D) (.type "ValueError") = some true) : PySem.W.kitOne K (.ref D) (.type "ValueError") = some true := by
  unfold PySem.W.kitOne
  rw [if_neg (by intro e; cases (beq_iff_eq.mp e))]
  show (if PySem.W.kitMeta "ValueError" = true then PySem.W.subIn K (.ref D) (.type "ValueError") else none) = some true
  rw [if_pos (by decide +kernel), hs]
end
/-- isinstance of what an except suite holds: its class as the reading tells it -/
def rIsX (K : PySem.W.Frag) (a : Addr) (cls : Value) (d : Option Addr) : List V → Hp → VK → Prop := fun xs H Q => ∃ (D : Addr), cls = .ref D ∧ d = none ∧ ExcC K D ∧ rIsE K D a xs H Q
theorem call_isX {X : Cx} {K : PySem.W.Frag} {a : Addr} {oe : Obj} {pn : List (Addr × Obj)} {cls : Value} {d : Option Addr} (hK : X.K = K) (hz : Zc cls d oe) (hf : ∃ vs, oe.data = .fields vs) : CallR (X.suite a ((a, oe) :: pn)) (.builtin "isinstance") (rIsX K a cls d) := by
  subst hK
  rintro pins s σ H xs us Q I r ⟨D, rfl, rfl, C, h⟩
  exact call_isE C hz hf pins s σ H xs us Q I r h
section
variable {σ : L2.St} {H : Hp} {K : PySem.W.Frag} {ta tb : TE} {a D : Addr}
theorem xv_isX {b : Bool} {c : V} {cv : Value} (ha : Val ta σ H (.ref a)) (hb : Val tb σ H c) (hE : ExcC K D) (hc : ∀ u, RelV c u → u = cv) (hk : PySem.W.kitOne K (.ref D) cv = some b) : Val (tCB (rIsX K a (.ref D) none) (tCons ta (tCons tb tNil))) σ H (.bl b) :=
  fun Q q => ha _ (hb _ ⟨D, rfl, rfl, hE, c, cv, b, rfl, hc, hk, q⟩)
theorem xv_isC {b : Bool} {C : Addr} (ha : Val ta σ H (.ref a)) (hE : ExcC K D) (hk : PySem.W.kitOne K (.ref D) (.ref C) = some b) : Val (tCB (rIsX K a (.ref D) none) (tCons ta (tCons (tC (.ref C)) tNil))) σ H (.bl b) :=
  xv_isX ha val_c hE (fun u r => r) hk
theorem xv_isT {b : Bool} {n : String} (ha : Val ta σ H (.ref a)) (hE : ExcC K D) (hk : PySem.W.kitOne K (.ref D) (.type n) = some b) : Val (tCB (rIsX K a (.ref D) none) (tCons ta (tCons (tC (.ty n)) tNil))) σ H (.bl b) :=
  xv_isX ha val_c hE (fun u r => r) hk
end
/-- try: f(..) except C as n: suite -/
theorem xq_try {σ : L2.St} {H : Hp} {K : PySem.W.Frag} {D : Ends} {tz : TS} {sp : Sp} {c : Value} {i : Nat} {ts : Addr → Value → Option Addr → TS} {Wout : WX} {ta : TA} {vs : List V} (h : Arg ta σ H vs)
    (q : sp vs H (fun _ H1 => tz D σ H1) (fun cls d H' => wAs K c i ts Wout { D with nx := tz D } cls d σ H')) : tSeq (fun D σ H => tDrop (tCallS sp (WE (wAs K c i ts Wout D)) ta) D σ H) tz D σ H := h _ q
end Sh

namespace Sh
/-! rows: noughts and ones, no two ones side by side, the last a one; there is one of each weight -/
structure Rw (xs : List Int) : Prop where
  zo : ∀ x ∈ xs, x = 0 ∨ x = 1
  st : stillB 0 xs = true
  ba : xs = [] ∨ xs.getLastD 0 = 1
theorem still_snoc (ys : List Int) (c : Int) : stillB 0 (ys ++ [c]) = (stillB 0 ys && !(decide (1 < c) || (decide (0 < c) && decide (0 < ys.getLastD 0)))) := by
  rw [stillB_append]
  show (stillB 0 ys && (!(decide (1 < c) || (decide (0 < c) && decide (0 < ys.getLastD 0))) && true)) = _
  rw [Bool.and_true]
theorem zo_init {ys : List Int} {c : Int} (h : ∀ x ∈ ys ++ [c], x = 0 ∨ x = 1) : (∀ x ∈ ys, x = 0 ∨ x = 1) ∧ (c = 0 ∨ c = 1) := ⟨fun x hx => h x (List.mem_append_left _ hx), h c (List.mem_append_right _ List.mem_cons_self)⟩
theorem S_snoc (f : Nat → Int) (ys : List Int) (c : Int) : S f 0 (ys ++ [c]) = S f 0 ys + c * f ys.length := by
  rw [S_append, S_one, Nat.zero_add]
theorem Z_lt : ∀ (n : Nat) (xs : List Int), xs.length = n → (∀ x ∈ xs, x = 0 ∨ x = 1) → stillB 0 xs = true → S W 0 xs < W n
  | 0, xs, h, _, _ => by
    rw [List.eq_nil_of_length_eq_zero h]
    decide
  | n + 1, xs, h, hz, hs => by
    obtain ⟨ys, c, rfl⟩ := snoc_of (xs := xs) (by intro e; rw [e] at h; cases h)
    have hl : ys.length = n := by
      rw [List.length_append, List.length_singleton] at h
      omega
    obtain ⟨z1, z2⟩ := zo_init hz
    rw [still_snoc, Bool.and_eq_true] at hs
    obtain ⟨s1, s2⟩ := hs
    have ih := Z_lt n ys hl z1 s1
    rw [S_snoc, hl]
    rcases z2 with rfl | rfl
    · have := W_lt n
      omega
    · match n, ys, hl, z1, s1, s2, ih with
      | 0, ys, hl, _, _, _, _ =>
        rw [List.eq_nil_of_length_eq_zero hl]
        decide
      | m + 1, ys, hl, z1, s1, s2, ih =>
        obtain ⟨zs, d, rfl⟩ := snoc_of (xs := ys) (by intro e; rw [e] at hl; cases hl)
        have hl2 : zs.length = m := by
          rw [List.length_append, List.length_singleton] at hl
          omega
        obtain ⟨y1, y2⟩ := zo_init z1
        rw [still_snoc, Bool.and_eq_true] at s1
        have ih2 := Z_lt m zs hl2 y1 s1.1
        have hd : d = 0 := by
          rcases y2 with e | e
          · exact e
          · subst e
            simp at s2
        subst hd
        rw [S_snoc]
        show _ < W m + W (m + 1)
        omega
/-- greedy, from the top -/
def gr : Nat → Int → List Int
  | 0, _ => []
  | k + 1, n => if W k ≤ n then 1 :: gr k (n - W k) else 0 :: gr k n
theorem gr_len : ∀ (k : Nat) (n : Int), (gr k n).length = k
  | 0, _ => rfl
  | k + 1, n => by
    unfold gr
    split <;> rw [List.length_cons, gr_len k]
theorem zo_nonneg {xs : List Int} (h : ∀ x ∈ xs, x = 0 ∨ x = 1) : ∀ x ∈ xs, 0 ≤ x := fun x hx => by
  rcases h x hx with e | e <;> omega
theorem Z_gr : ∀ (n : Nat) (xs : List Int), xs.length = n → (∀ x ∈ xs, x = 0 ∨ x = 1) → stillB 0 xs = true → gr n (S W 0 xs) = xs.reverse
  | 0, xs, h, _, _ => by
    rw [List.eq_nil_of_length_eq_zero h]
    rfl
  | n + 1, xs, h, hz, hs => by
    obtain ⟨ys, c, rfl⟩ := snoc_of (xs := xs) (by intro e; rw [e] at h; cases h)
    have hl : ys.length = n := by
      rw [List.length_append, List.length_singleton] at h
      omega
    obtain ⟨z1, z2⟩ := zo_init hz
    rw [still_snoc, Bool.and_eq_true] at hs
    have ih := Z_gr n ys hl z1 hs.1
    have hlt := Z_lt n ys hl z1 hs.1
    have h0 := S_nonneg (f := W) (fun k => Int.le_of_lt (W_pos k)) ys 0 (zo_nonneg z1)
    rw [S_snoc, hl, List.reverse_append]
    unfold gr
    rcases z2 with rfl | rfl
    · rw [Int.zero_mul, Int.add_zero, if_neg (by omega), ih]
      rfl
    · rw [Int.one_mul, if_pos (by omega), Int.add_sub_cancel, ih]
      rfl
theorem Rw.nonneg {xs : List Int} (h : Rw xs) : ∀ x ∈ xs, 0 ≤ x := zo_nonneg h.zo
theorem Rw.top {xs : List Int} (h : Rw xs) (hne : xs ≠ []) : W (xs.length - 1) ≤ S W 0 xs := by
  obtain ⟨ys, c, rfl⟩ := snoc_of hne
  have hc : c = 1 := by
    rcases h.ba with e | e
    · simp at e
    · simpa using e
  subst hc
  have h0 := S_nonneg (f := W) (fun k => Int.le_of_lt (W_pos k)) ys 0 (zo_nonneg (zo_init h.zo).1)
  rw [S_snoc, List.length_append, List.length_singleton, Nat.add_sub_cancel]
  omega
theorem Rw.lt {xs : List Int} (h : Rw xs) : S W 0 xs < W xs.length := Z_lt _ xs rfl h.zo h.st
theorem Rw.len_le {xs ys : List Int} (hx : Rw xs) (hy : Rw ys) (e : S W 0 xs = S W 0 ys) : xs.length ≤ ys.length := by
  by_cases h0 : xs = []
  · rw [h0]
    exact Nat.zero_le _
  · have h1 := hx.top h0
    have h2 := hy.lt
    by_cases hl : xs.length ≤ ys.length
    · exact hl
    · have h3 := W_mono (i := ys.length) (j := xs.length - 1) (by omega)
      omega
/-- ONE ROW OF EACH WEIGHT -/
theorem Rw.uniq {xs ys : List Int} (hx : Rw xs) (hy : Rw ys) (e : S W 0 xs = S W 0 ys) : xs = ys := by
  have hl : xs.length = ys.length := Nat.le_antisymm (hx.len_le hy e) (hy.len_le hx e.symm)
  have h1 := Z_gr _ xs rfl hx.zo hx.st
  have h2 := Z_gr _ ys rfl hy.zo hy.st
  rw [hl, e, h2] at h1
  have h3 := congrArg List.reverse h1
  rw [List.reverse_reverse, List.reverse_reverse] at h3
  exact h3.symm
theorem gr_ok : ∀ (k : Nat) (n : Int), 0 ≤ n → n < W k → (∀ x ∈ (gr k n).reverse, x = 0 ∨ x = 1) ∧ stillB 0 (gr k n).reverse = true ∧ S W 0 (gr k n).reverse = n ∧ (0 < k → (W (k - 1) ≤ n ↔ (gr k n).reverse.getLastD 0 = 1))
  | 0, n, h0, h1 => by
    have h1 : n < 1 := h1
    have : n = 0 := by omega
    subst this
    exact ⟨fun x h => (nomatch h), rfl, rfl, fun z => (nomatch z)⟩
  | k + 1, n, h0, h1 => by
    unfold gr
    by_cases hc : W k ≤ n
    · rw [if_pos hc, List.reverse_cons]
      have hlt : n - W k < W k := by
        match k, h1, hc with
        | 0, h1, hc =>
          have h1 : n < 2 := h1
          show n - 1 < 1
          omega
        | j + 1, h1, hc =>
          have h1 : n < W j + W (j + 1) := h1
          have := W_lt j
          omega
      obtain ⟨a1, a2, a3, a4⟩ := gr_ok k (n - W k) (by omega) hlt
      have hlen : (gr k (n - W k)).reverse.length = k := by rw [List.length_reverse, gr_len]
      have hlast : (gr k (n - W k)).reverse.getLastD 0 ≤ 0 := by
        match k, h1, hc, a1, a4, hlen with
        | 0, _, _, _, _, hlen =>
          rw [List.eq_nil_of_length_eq_zero hlen]
          decide
        | j + 1, h1, hc, a1, a4, hlen =>
          obtain ⟨ys, c, e⟩ := snoc_of (xs := (gr (j + 1) (n - W (j + 1))).reverse) (by intro e; rw [e] at hlen; cases hlen)
          rw [e] at a1 a4
          rw [e]
          have h1 : n < W j + W (j + 1) := h1
          have h5 := a4 (Nat.succ_pos j)
          have h6 : ¬ W (j + 1 - 1) ≤ n - W (j + 1) := by
            show ¬ W j ≤ _
            omega
          have hc1 : c ≠ 1 := fun e => h6 (h5.mpr (by rw [e]; simp))
          rcases (zo_init a1).2 with e | e
          · rw [e]
            simp
          · exact absurd e hc1
      refine ⟨fun x hx => ?_, ?_, ?_, fun _ => ⟨fun _ => by simp, fun _ => hc⟩⟩
      · rcases List.mem_append.mp hx with h | h
        · exact a1 x h
        · exact .inr (List.mem_singleton.mp h)
      · rw [still_snoc, a2, decide_eq_false (show ¬ 0 < (gr k (n - W k)).reverse.getLastD 0 by omega)]
        rfl
      · rw [S_snoc, a3, hlen]
        omega
    · rw [if_neg hc, List.reverse_cons]
      obtain ⟨a1, a2, a3, a4⟩ := gr_ok k n h0 (by omega)
      have hlen : (gr k n).reverse.length = k := by rw [List.length_reverse, gr_len]
      refine ⟨fun x hx => ?_, ?_, ?_, fun _ => ⟨fun z => absurd z hc, fun z => ?_⟩⟩
      · rcases List.mem_append.mp hx with h | h
        · exact a1 x h
        · exact .inl (List.mem_singleton.mp h)
      · rw [still_snoc, a2]
        rfl
      · rw [S_snoc, a3]
        omega
      · simp at z
/-- the row of a number, as greed finds it -/
theorem gr_rw {k : Nat} {n : Int} (h0 : 0 ≤ n) (h1 : n < W k) (ht : 0 < k → W (k - 1) ≤ n) : Rw (gr k n).reverse ∧ S W 0 (gr k n).reverse = n := by
  obtain ⟨a1, a2, a3, a4⟩ := gr_ok k n h0 h1
  refine ⟨⟨a1, a2, ?_⟩, a3⟩
  by_cases hk : 0 < k
  · exact .inr ((a4 hk).mp (ht hk))
  · have : k = 0 := by omega
    subst this
    exact .inl rfl
theorem W_two : ∀ j : Nat, (2 : Int) ^ j ≤ W (2 * j)
  | 0 => by decide
  | j + 1 => by
    have ih := W_two j
    have h1 := W_lt (2 * j)
    show (2 : Int) ^ j * 2 ≤ W (2 * j) + W (2 * j + 1)
    omega
theorem T60_W : T60 < W 1000 := by
  have h1 := W_two 500
  have h2 : T60 < (2 : Int) ^ 500 := by decide +kernel
  exact Int.lt_of_lt_of_le h2 h1
/-- as the law asks it of a row: what stands at i, what beneath -/
theorem Rw.at {xs : List Int} (h : Rw xs) {i : Nat} {c : Int} (hi : xs[i]? = some c) : (c = 0 ∨ c = 1) ∧ c + prev xs i ≤ 1 ∧ (prev xs i = 0 ∨ prev xs i = 1) := by
  have h1 := h.zo c (List.mem_of_getElem? hi)
  have hp : prev xs i = 0 ∨ prev xs i = 1 := by
    match i with
    | 0 => exact .inl (prev_zero xs)
    | j + 1 =>
      have hj : j < xs.length := by
        have := (List.getElem?_eq_some_iff.mp hi).1
        omega
      rw [prev_succ (get_of hj)]
      exact h.zo _ (List.mem_of_getElem? (get_of hj))
  refine ⟨h1, ?_, hp⟩
  have h2 := stillB_take hi
  have h3 : stillB 0 (xs.take (i + 1)) = true := by
    cases e : stillB 0 (xs.take (i + 1)) with
    | true => rfl
    | false => exact absurd (stillB_stop _ e) (by rw [h.st]; decide)
  rw [h3] at h2
  have h4 := (Bool.and_eq_true_iff.mp h2.symm).2
  rcases h1 with e | e
  · omega
  · subst e
    rcases hp with e | e
    · omega
    · rw [e] at h4
      simp at h4
theorem Rw.end {xs : List Int} (h : Rw xs) : xs = [] ∨ prev xs xs.length = 1 := by
  unfold prev
  rw [List.take_length]
  exact h.ba
theorem Rw.nil : Rw [] := ⟨fun _ h => (nomatch h), rfl, .inl rfl⟩
theorem Rw.sm {xs : List Int} (h : Rw xs) (hl : xs.length ≤ 100000) : Sm xs := ⟨hl, fun x hx => by
  have h3 : (2 : Nat) ^ 20 ≤ 2 ^ 1000 := by decide +kernel
  have h4 : (2 : Nat) ^ 20 = 1048576 := by decide
  rcases h.zo x hx with e | e <;> omega⟩
end Sh

/-! Own words over the layer for rows: chained comparisons, reversed lists, a list beside the empty one. -/
namespace Sh
open PySem PySem.Spec PyProof.Rows L2
section
variable {σ : L2.St} {H : Hp} {K : PySem.W.Frag} {ta tb tc te : TE} {D : Ends} {ts tz tu : TS} {x y w : V}
theorem xv_chain {r r' : R2} {a b : Bool} (ha : Val ta σ H x) (hb : Val tb σ H y) (hr : ∀ Q : VK, Q (.bl a) H → r x y H Q) (h2 : a = true → Val tc σ H w ∧ ∀ Q : VK, Q (.bl b) H → r' y w H Q) : Val (tChain r r' ta tb tc) σ H (.bl (a && b)) := fun Q q =>
  ha _ (hb _ (hr _ ⟨a, rfl, by
    cases a with
    | true => exact (h2 rfl).1 _ ((h2 rfl).2 _ q)
    | false => exact q⟩))
theorem xq_forRev {ta : TA} {a : Addr} {xs : List V} {j : Nat} (h : Arg ta σ H [.ref a]) (hx : SqL K H a xs) (Pv : Nat → L2.St → Hp → Prop) (h0 : Pv 0 σ H) (hq : ∀ i σ H, Pv i σ H → SqL K H a xs)
    (hs : ∀ (i : Nat) (x : V) (σ' : L2.St) (H' : Hp), i < xs.length → xs[xs.length - 1 - i]? = some x → Pv i σ' H' → ts { D with nx := Pv (i + 1), ct := Pv (i + 1), bk := tz D } (σ'.set j (some x)) H') (hd : ∀ σ' H', Pv xs.length σ' H' → tz D σ' H') :
    tSeq (tFor (iRev K ta) (gName j) ts) tz D σ H := h _ ⟨a, xs, rfl, hx, RT.for_Itv (D := { D with nx := tz D }) Pv h0 hq hs hd⟩
theorem ev_eqI {a : Addr} {ns : List Int} (ha : Evl.Ev ta σ H (.ref a)) (hS : SqL K H a (ns.map V.int)) : Evl.Ev (tOp (rEqD K) ta (tLst tNil)) σ H (.bl (decide (ns = []))) :=
  Evl.ev_opL ha (Evl.el_lst Evl.ea_nil (by decide)) (fun p H1 h1 e1 => fun H2 e2 Q q => ⟨_, _, .lst (Same.seq e2 (Same.seq e1 hS)) (dpAll_int ns), .lst (SqL.of (e2 p _ h1)) .nil, shaped_int ns, by decide +kernel, by rw [show (PyData.list []) = .list (([] : List Int).map PyData.int) from rfl, eqv_int]; exact q H2 (Evl.Ex.refl H2)⟩)
/-- is it a number from 0 to below 10 ** 60 -/
def numB : V → Bool
  | .int n => decide (0 ≤ n) && decide (n < T60)
  | _ => false
theorem numB_int {n : Int} (h0 : 0 ≤ n) (h1 : n < T60) : numB (.int n) = true := by
  show (decide (0 ≤ n) && decide (n < T60)) = true
  rw [decide_eq_true h0, decide_eq_true h1]
  rfl
theorem numB_lo {n : Int} (h0 : n < 0) : numB (.int n) = false := by
  show (decide (0 ≤ n) && decide (n < T60)) = false
  rw [decide_eq_false (by omega)]
  rfl
theorem numB_hi {n : Int} (h0 : T60 ≤ n) : numB (.int n) = false := by
  show (decide (0 ≤ n) && decide (n < T60)) = false
  rw [decide_eq_false (p := n < T60) (by omega), Bool.and_false]
/-- the kinds of things that are asked -/
def Kd (K : PySem.W.Frag) (H : Hp) (x : V) : Prop := (∃ n, x = .int n) ∨ (numB x = false ∧ (TyX K H x (.type "bool") ∨ ∃ t, TyX K H x (.type t) ∧ kitB t "int" = some false))
theorem Kd.int {n : Int} : Kd K H (.int n) := .inl ⟨n, rfl⟩
theorem Kd.bl {b : Bool} : Kd K H (.bl b) := .inr ⟨rfl, .inl (.base (.bl b))⟩
theorem Kd.str {s : Str} : Kd K H (.str s) := .inr ⟨rfl, .inr ⟨"str", .base (.str s), by decide +kernel⟩⟩
theorem Kd.non : Kd K H .non := .inr ⟨rfl, .inr ⟨"NoneType", .base .non, by decide +kernel⟩⟩
theorem Kd.lst {a : Addr} {xs : List V} (h : SqL K H a xs) : Kd K H (.ref a) := .inr ⟨rfl, .inr ⟨"list", tyx_L h, by decide +kernel⟩⟩
theorem xr_lst {Q : VK} {tr : TA} (h : tr σ H fun xs H1 => xs.length ≤ sizeLine ∧ ∀ p, H1 p = none → Q (.ref p) (upd H1 p (.lst xs))) : tLst tr σ H Q := h
theorem xr_nil {Q : List V → Hp → Prop} (h : Q [] H) : tNil σ H Q := h
theorem xr_opR {r : R2} {Q : VK} (h : ta σ H fun x H1 => tb σ H1 fun y H2 => r x y H2 Q) : tOp r ta tb σ H Q := h
end
end Sh

namespace K05
open PySem PySem.Spec PyProof.Rows L2 Sh
def topS (i : Nat) : Stmt := PySem.Challenge.pw_shellstair_k05_a_row.main.body.getD i (.Pass ⟨0, 0, 0, 0⟩)
abbrev st_is_number : Stmt := topS 8
theorem sc_is_number : FnScope ["thing"] ["thing"] (defScope st_is_number) := ⟨rfl, rfl, rfl, by decide +kernel, rfl, by decide +kernel, by decide +kernel⟩
abbrev st_still_heap : Stmt := topS 9
theorem sc_still_heap : FnScope ["number", "worths", "here", "above", "heap", "left", "each"] ["number"] (defScope st_still_heap) := ⟨rfl, rfl, rfl, by decide +kernel, rfl, by decide +kernel, by decide +kernel⟩
abbrev st_row_of : Stmt := topS 10
theorem sc_row_of : FnScope ["number"] ["number"] (defScope st_row_of) := ⟨rfl, rfl, rfl, by decide +kernel, rfl, by decide +kernel, by decide +kernel⟩
abbrev st_l_cell_at : Stmt := topS 12
theorem sc_l_cell_at : FnScope ["_law_script", "_law_k"] ["_law_script", "_law_k"] (defScope st_l_cell_at) := ⟨rfl, rfl, rfl, by decide +kernel, rfl, by decide +kernel, by decide +kernel⟩
abbrev st_l_whole : Stmt := topS 13
theorem sc_l_whole : FnScope ["_law_found"] ["_law_found"] (defScope st_l_whole) := ⟨rfl, rfl, rfl, by decide +kernel, rfl, by decide +kernel, by decide +kernel⟩
abbrev st_l_worth : Stmt := topS 14
theorem sc_l_worth : FnScope ["_law_step", "_law_here", "_law_beyond", "_law_k"] ["_law_step"] (defScope st_l_worth) := ⟨rfl, rfl, rfl, by decide +kernel, rfl, by decide +kernel, by decide +kernel⟩
abbrev st_l_number : Stmt := topS 15
theorem sc_l_number : FnScope ["_law_cell", "_law_near"] ["_law_cell"] (defScope st_l_number) := ⟨rfl, rfl, rfl, by decide +kernel, rfl, by decide +kernel, by decide +kernel⟩
abbrev st_l_weight : Stmt := topS 16
theorem sc_l_weight : FnScope ["_law_heap", "_law_total", "_law_here", "_law_beyond", "_law_count"] ["_law_heap"] (defScope st_l_weight) := ⟨rfl, rfl, rfl, by decide +kernel, rfl, by decide +kernel, by decide +kernel⟩
abbrev st_l_still : Stmt := topS 17
theorem sc_l_still : FnScope ["_law_found", "_law_below", "_law_count"] ["_law_found"] (defScope st_l_still) := ⟨rfl, rfl, rfl, by decide +kernel, rfl, by decide +kernel, by decide +kernel⟩
abbrev st_l_refused : Stmt := topS 18
theorem sc_l_refused : FnScope ["_law_thing", "e"] ["_law_thing"] (defScope st_l_refused) := ⟨rfl, rfl, rfl, by decide +kernel, rfl, by decide +kernel, by decide +kernel⟩
abbrev st_law : Stmt := topS 19
theorem sc_law : FnScope ["_law_script", "_law_cell", "_law_number_here", "_law_found", "_law_first", "_law_far"] ["_law_script"] (defScope st_law) := ⟨rfl, rfl, rfl, by decide +kernel, rfl, by decide +kernel, by decide +kernel⟩
/-- what the top has written -/
structure Txt (K : PySem.W.Frag) (mg : Str → Option Value) where
  C_StairError : Addr
  g_StairError : mg "StairError" = some (.ref C_StairError)
  k_StairError : PySem.W.keepIn K (.ref C_StairError) = true
  x_StairError : PySem.W.excIn K C_StairError [.type "ValueError", .type "Exception", .type "BaseException", .type "object"] "ValueError.__new__" = true
  xb_StairError : PySem.W.subIn K (.ref C_StairError) (.type "BaseException") = some true
  xt_StairError : PySem.W.typeIn K (.ref C_StairError) = some (.type "type")
  C_NoMove : Addr
  g_NoMove : mg "NoMove" = some (.ref C_NoMove)
  k_NoMove : PySem.W.keepIn K (.ref C_NoMove) = true
  x_NoMove : PySem.W.excIn K C_NoMove [.type "ValueError", .type "Exception", .type "BaseException", .type "object"] "ValueError.__new__" = true
  xb_NoMove : PySem.W.subIn K (.ref C_NoMove) (.type "BaseException") = some true
  xt_NoMove : PySem.W.typeIn K (.ref C_NoMove) = some (.type "type")
  C_NoNumber : Addr
  g_NoNumber : mg "NoNumber" = some (.ref C_NoNumber)
  k_NoNumber : PySem.W.keepIn K (.ref C_NoNumber) = true
  x_NoNumber : PySem.W.excIn K C_NoNumber [.type "ValueError", .type "Exception", .type "BaseException", .type "object"] "ValueError.__new__" = true
  xb_NoNumber : PySem.W.subIn K (.ref C_NoNumber) (.type "BaseException") = some true
  xt_NoNumber : PySem.W.typeIn K (.ref C_NoNumber) = some (.type "type")
  C_Short : Addr
  g_Short : mg "Short" = some (.ref C_Short)
  k_Short : PySem.W.keepIn K (.ref C_Short) = true
  x_Short : PySem.W.excIn K C_Short [.type "ValueError", .type "Exception", .type "BaseException", .type "object"] "ValueError.__new__" = true
  xb_Short : PySem.W.subIn K (.ref C_Short) (.type "BaseException") = some true
  xt_Short : PySem.W.typeIn K (.ref C_Short) = some (.type "type")
  C_NoSign : Addr
  g_NoSign : mg "NoSign" = some (.ref C_NoSign)
  k_NoSign : PySem.W.keepIn K (.ref C_NoSign) = true
  x_NoSign : PySem.W.excIn K C_NoSign [.type "ValueError", .type "Exception", .type "BaseException", .type "object"] "ValueError.__new__" = true
  xb_NoSign : PySem.W.subIn K (.ref C_NoSign) (.type "BaseException") = some true
  xt_NoSign : PySem.W.typeIn K (.ref C_NoSign) = some (.type "type")
  C_NoEnd : Addr
  g_NoEnd : mg "NoEnd" = some (.ref C_NoEnd)
  k_NoEnd : PySem.W.keepIn K (.ref C_NoEnd) = true
  x_NoEnd : PySem.W.excIn K C_NoEnd [.type "ValueError", .type "Exception", .type "BaseException", .type "object"] "ValueError.__new__" = true
  xb_NoEnd : PySem.W.subIn K (.ref C_NoEnd) (.type "BaseException") = some true
  xt_NoEnd : PySem.W.typeIn K (.ref C_NoEnd) = some (.type "type")
  f_is_number : Addr
  d_is_number : FuncData
  F_is_number : Fun K "is_number" "is_number" st_is_number f_is_number d_is_number
  g_is_number : mg "is_number" = some (.ref f_is_number)
  b_is_number : Binds K d_is_number ["thing"] []
  f_still_heap : Addr
  d_still_heap : FuncData
  F_still_heap : Fun K "still_heap" "still_heap" st_still_heap f_still_heap d_still_heap
  g_still_heap : mg "still_heap" = some (.ref f_still_heap)
  b_still_heap : Binds K d_still_heap ["number"] []
  f_row_of : Addr
  d_row_of : FuncData
  F_row_of : Fun K "row_of" "row_of" st_row_of f_row_of d_row_of
  g_row_of : mg "row_of" = some (.ref f_row_of)
  b_row_of : Binds K d_row_of ["number"] []
  f_l_cell_at : Addr
  d_l_cell_at : FuncData
  F_l_cell_at : Fun K "_law_cell_at" "_law_cell_at" st_l_cell_at f_l_cell_at d_l_cell_at
  g_l_cell_at : mg "_law_cell_at" = some (.ref f_l_cell_at)
  b_l_cell_at : Binds K d_l_cell_at ["_law_script", "_law_k"] []
  f_l_whole : Addr
  d_l_whole : FuncData
  F_l_whole : Fun K "_law_whole" "_law_whole" st_l_whole f_l_whole d_l_whole
  g_l_whole : mg "_law_whole" = some (.ref f_l_whole)
  b_l_whole : Binds K d_l_whole ["_law_found"] []
  f_l_worth : Addr
  d_l_worth : FuncData
  F_l_worth : Fun K "_law_worth" "_law_worth" st_l_worth f_l_worth d_l_worth
  g_l_worth : mg "_law_worth" = some (.ref f_l_worth)
  b_l_worth : Binds K d_l_worth ["_law_step"] []
  f_l_number : Addr
  d_l_number : FuncData
  F_l_number : Fun K "_law_number" "_law_number" st_l_number f_l_number d_l_number
  g_l_number : mg "_law_number" = some (.ref f_l_number)
  b_l_number : Binds K d_l_number ["_law_cell"] []
  f_l_weight : Addr
  d_l_weight : FuncData
  F_l_weight : Fun K "_law_weight" "_law_weight" st_l_weight f_l_weight d_l_weight
  g_l_weight : mg "_law_weight" = some (.ref f_l_weight)
  b_l_weight : Binds K d_l_weight ["_law_heap"] []
  f_l_still : Addr
  d_l_still : FuncData
  F_l_still : Fun K "_law_still" "_law_still" st_l_still f_l_still d_l_still
  g_l_still : mg "_law_still" = some (.ref f_l_still)
  b_l_still : Binds K d_l_still ["_law_found"] []
  f_l_refused : Addr
  d_l_refused : FuncData
  F_l_refused : Fun K "_law_refused" "_law_refused" st_l_refused f_l_refused d_l_refused
  g_l_refused : mg "_law_refused" = some (.ref f_l_refused)
  b_l_refused : Binds K d_l_refused ["_law_thing"] []
  f_law : Addr
  d_law : FuncData
  F_law : Fun K "law" "law" st_law f_law d_law
  g_law : mg "law" = some (.ref f_law)
  b_law : Binds K d_law ["_law_script"] []
  eg_NoNumber : PySem.W.findIn K (.ref C_NoNumber) "__getattribute__" = some (some (.builtin "BaseException.__getattribute__"))
  ek_NoNumber : PySem.W.findIn K (.ref C_NoNumber) "__getattr__" = some none
  ea_NoNumber : PySem.W.findIn K (.ref C_NoNumber) "__class__" = some (some (.builtin "object.__class__"))
  ed_NoNumber : PySem.W.hasDictIn K C_NoNumber = true
  em_NoNumber : PySem.W.mroIn K C_NoNumber (.type "object") = some true
  i_NoNumber_StairError : PySem.W.kitOne K (.ref C_NoNumber) (.ref C_StairError) = some true
  i_NoNumber_NoMove : PySem.W.kitOne K (.ref C_NoNumber) (.ref C_NoMove) = some false
  i_NoNumber_NoNumber : PySem.W.kitOne K (.ref C_NoNumber) (.ref C_NoNumber) = some true
  i_NoNumber_Short : PySem.W.kitOne K (.ref C_NoNumber) (.ref C_Short) = some false
  i_NoNumber_NoSign : PySem.W.kitOne K (.ref C_NoNumber) (.ref C_NoSign) = some false
  i_NoNumber_NoEnd : PySem.W.kitOne K (.ref C_NoNumber) (.ref C_NoEnd) = some false
  i_NoNumber_VE : PySem.W.kitOne K (.ref C_NoNumber) (.type "ValueError") = some true
  x_NoNumber_StairError : PySem.W.exmOne K (.ref C_NoNumber) (.ref C_StairError) = some true
  en_ : PySem.W.specialIn K (.builtin "object.__class__") "__get__" = some (some (.builtin "getset_descriptor.__get__"))
  et_ : PySem.W.takesIn K (.builtin "object.__class__") = some true
  m_isinstance : mg "isinstance" = none
  m_int : mg "int" = none
  m_bool : mg "bool" = none
  m_reversed : mg "reversed" = none
  m_len : mg "len" = none
  m_range : mg "range" = none
  m_min : mg "min" = none
  m_list : mg "list" = none
  m_ValueError : mg "ValueError" = none
theorem Txt.E_NoNumber {K : PySem.W.Frag} {mg : Str → Option Value} (T : Txt K mg) : ExcC K T.C_NoNumber := ⟨T.eg_NoNumber, T.ek_NoNumber, T.xb_NoNumber, T.ed_NoNumber, T.ea_NoNumber, T.en_, T.et_, T.em_NoNumber⟩
local macro_rules | `(tactic| walk_at "side") => `(tactic| first | assumption | omega | exact ⟨by decide, by decide⟩ | exact ⟨by decide, by decide, by decide⟩ | (show (0 : Int) < _; first | omega | decide | exact T60_pos | exact T60_pos1 | decide +kernel))
local macro_rules | `(tactic| walk_at "sq") => `(tactic| first | assumption | exact SqL.of (by assumption))
local macro_rules | `(tactic| walk_at "val") => `(tactic| first
  | with_reducible exact val_c
  | ((with_reducible apply xv_c) <;> exact rfl)
  | ((with_reducible apply val_var) <;> rfl)
  | with_reducible exact xv_p60
  | ((with_reducible apply xv_I0) <;> walk_at "val")
  | ((with_reducible apply xv_I) <;> first | walk_at "val" | walk_at "side")
  | ((with_reducible apply xv_eq) <;> first | walk_at "val" | rfl)
  | ((with_reducible apply xv_ne) <;> first | walk_at "val" | rfl)
  | ((with_reducible apply xv_U) <;> walk_at "val")
  | ((with_reducible apply xv_lenI) <;> first | walk_at "val" | walk_at "sq")
  | ((with_reducible apply xv_ix) <;> first | walk_at "val" | walk_at "sq" | walk_at "side")
  | ((with_reducible apply xv_and) <;> first | walk_at "val" | (intro hc; (try replace hc := of_decide_eq_true hc); walk_at "val"))
  | ((with_reducible apply xv_or) <;> first | walk_at "val" | (intro hc; (try replace hc := of_decide_eq_false hc); walk_at "val"))
  | ((with_reducible apply xv_not) <;> walk_at "val")
  | walk_at "val+")
local macro_rules | `(tactic| walk_at "val+") => `(tactic| fail "val")
local macro_rules | `(tactic| walk_at "arg") => `(tactic| first | with_reducible exact xg_nil | ((with_reducible apply xg_cons) <;> first | walk_at "val" | walk_at "arg"))
local macro_rules | `(tactic| walk_at "ans") => `(tactic| first
  | ((with_reducible apply xa_T) <;> walk_at "val")
  | ((with_reducible apply xa_B) <;> walk_at "val")
  | ((with_reducible apply xa_not) <;> walk_at "ans")
  | ((with_reducible apply xa_and) <;> first | walk_at "ans" | (intro hc; (try replace hc := of_decide_eq_true hc); walk_at "ans"))
  | ((with_reducible apply xa_or) <;> first | walk_at "ans" | (intro hc; (try replace hc := of_decide_eq_false hc); walk_at "ans")))

section
variable {P : Program} {w : World} {K : PySem.W.Frag} {mg : Str → Option Value} {base : Heap}
/-! ### a cell of the script -/
def sp_cell (K : PySem.W.Frag) : Sp := fun vs H Q _ => ∃ (a : Addr) (ns : List Int) (j : Nat), vs = [.ref a, .int (j : Int)] ∧ SqL K H a (ns.map V.int) ∧ Q (.int (ns.getD j 0)) H
theorem ok_l_cell_at (T : Txt K mg) : FnOk P w K mg base CX0 1 T.f_l_cell_at T.d_l_cell_at ["_law_script", "_law_k"] (sp_cell K) := by
  refine T.F_l_cell_at.ok sc_l_cell_at (fun vs H Q E h => ?_) (fun cdv A outer s H vs Q E hr h => ?_)
  · obtain ⟨a, ns, j, rfl, _⟩ := h
    rfl
  · obtain ⟨a, ns, j, rfl, hS, q⟩ := h
    refine ⟨_, (pss_cons (ps_if (pt_cmpR op_lt (pv 1) (pe_callB call_len_seq (by rfl) T.m_len PySem.boot_len (pa_cons (pv 0) pa_nil)) (nomark _)) (pss_one (ps_ret (pe_ix ix_list (pv 0) (pv 1) (fun _ _ => rfl)))) pss_nil)
      (pss_one (ps_ret pe_int))), ?_⟩
    refine xs_when (xa_T (xv_I0 (val_var rfl) (xv_lenI (val_var rfl) hS))) (fun hc => ?_) (fun hc => ?_)
    · have hj : (j : Int) < ns.length := of_decide_eq_true hc
      exact st_ret (xv_ix (val_var rfl) (val_var rfl) hS (by omega) hj) q
    · have hj : ¬ (j : Int) < ns.length := of_decide_eq_false hc
      refine st_ret val_c ?_
      rw [List.getD_eq_getElem?_getD, List.getElem?_eq_none (by omega)] at q
      exact q
theorem xv_cell {σ : L2.St} {H : Hp} {ta tb : TE} {a : Addr} {ns : List Int} {j : Nat} (h : Val ta σ H (.ref a)) (h2 : Val tb σ H (.int (j : Int))) (hS : SqL K H a (ns.map V.int)) : Val (tCall (sp_cell K) [] E0 (tCons ta (tCons tb tNil))) σ H (.int (ns.getD j 0)) :=
  xv_call (xg_cons h (xg_cons h2 xg_nil)) fun Q q => ⟨a, ns, j, rfl, hS, q⟩
local macro_rules | `(tactic| walk_at "val+") => `(tactic| ((with_reducible apply xv_cell) <;> first | walk_at "val" | walk_at "sq"))
/-! ### whole numbers -/
def sp_whole : Sp := fun vs H Q _ => ∃ i : Int, vs = [.int i] ∧ Q (.bl true) H
theorem ok_l_whole (T : Txt K mg) : FnOk P w K mg base CX0 1 T.f_l_whole T.d_l_whole ["_law_found"] sp_whole := by
  refine T.F_l_whole.ok sc_l_whole (fun vs H Q E h => ?_) (fun cdv A outer s H vs Q E hr h => ?_)
  · obtain ⟨i, rfl, _⟩ := h
    rfl
  · obtain ⟨i, rfl, q⟩ := h
    refine ⟨_, (pss_one (ps_ret (pe_and (pe_callB call_isi (by rfl) T.m_isinstance (by decide +kernel) (pa_cons (pv 0) (pa_cons (pe_bltn (v := .ty "int") (by rfl) T.m_int (by decide +kernel) rfl) pa_nil))) (pe_one (pe_not (pe_callB call_isi (by rfl) T.m_isinstance (by decide +kernel) (pa_cons (pv 0) (pa_cons (pe_bltn (v := .ty "bool") (by rfl) T.m_bool (by decide +kernel) rfl) pa_nil)))))))), ?_⟩
    exact st_ret (xv_and (xv_isi (val_var rfl) (.base (.int i)) (b := true) (by decide +kernel)) fun _ => xv_not (xv_isi (val_var rfl) (.base (.int i)) (b := false) (by decide +kernel))) q
theorem xv_whole {σ : L2.St} {H : Hp} {ta : TE} {i : Int} (h : Val ta σ H (.int i)) : Val (tCall sp_whole [] E0 (tCons ta tNil)) σ H (.bl true) :=
  xv_call (xg_cons h xg_nil) fun Q q => ⟨i, rfl, q⟩
local macro_rules | `(tactic| walk_at "val+") => `(tactic| ((with_reducible apply xv_whole) <;> walk_at "val"))
/-! ### weight of a list -/
def sp_weight (K : PySem.W.Frag) : Sp := fun vs H Q _ => ∃ (a : Addr) (ns : List Int), vs = [.ref a] ∧ SqL K H a (ns.map V.int) ∧ Sm ns ∧ Q (.int (wt ns)) H
theorem ok_l_weight (T : Txt K mg) : FnOk P w K mg base CX0 1 T.f_l_weight T.d_l_weight ["_law_heap"] (sp_weight K) := by
  refine T.F_l_weight.ok sc_l_weight (fun vs H Q E h => ?_) (fun cdv A outer s H vs Q E hr h => ?_)
  · obtain ⟨a, ns, rfl, _⟩ := h
    rfl
  · obtain ⟨a, ns, rfl, hS, hz, q⟩ := h
    refine ⟨_, (pss_cons (ps_set (i := 1) sc_l_weight.nd rfl (Or.inl rfl) pe_int)
      (pss_cons (ps_set (i := 2) sc_l_weight.nd rfl (Or.inl rfl) pe_int)
      (pss_cons (ps_set (i := 3) sc_l_weight.nd rfl (Or.inl rfl) pe_int)
      (pss_cons (ps_for PassesOwn.never rfl (pi_list (pv 0)) (pg_name (i := 4) sc_l_weight.nd rfl (Or.inl rfl)) (pss_cons (ps_set (i := 1) sc_l_weight.nd rfl (Or.inl rfl) (pe_op op_add (pv 1) (pe_op op_mulW (pv 4) (pv 2))))
      (pss_one (ps_par (i := 2) (j := 3) (by rfl) sc_l_weight.nd rfl rfl (by decide) rfl rfl (pa_cons (pv 3) (pa_cons (pe_op op_add (pv 2) (pv 3)) pa_nil)) (by rfl)))))
      (pss_one (ps_ret (pv 1))))))), ?_⟩
    refine xq_set val_c ?_
    refine xq_set val_c ?_
    refine xq_set val_c ?_
    refine xq_forI (ns := ns) (val_var rfl) (Same.refl H) hS (fun i σ H' => ∃ y, σ = [some (.ref a), some (.int (S W 0 (ns.take i))), some (.int (W i)), some (.int (W (i + 1))), y] ∧ H' = H) ⟨_, rfl, rfl⟩ ?_ ?_
    · rintro i n σ H' e hn ⟨y, rfl, rfl⟩
      have hi : i < ns.length := (List.getElem?_eq_some_iff.mp hn).1
      have hc : CMulW n (W i) := wide_mul (hz.mag n (List.mem_of_getElem? hn)) (W_bitsN i) (by decide) (by omega) (by have := hz.len; omega)
      refine xq_set (xv_I0 (val_var rfl) (xv_I (val_var rfl) (val_var rfl) hc)) ?_
      refine xs_par (xg_cons (val_var rfl) (xg_cons (xv_I0 (val_var rfl) (val_var rfl)) xg_nil)) ⟨e, some (.int n), ?_, rfl⟩
      rw [S_take hn, Nat.zero_add]
      rfl
    · rintro σ H' e ⟨y, rfl, rfl⟩
      rw [List.take_length]
      exact st_ret (val_var rfl) q
theorem xv_weight {σ : L2.St} {H : Hp} {ta : TE} {a : Addr} {ns : List Int} (h : Val ta σ H (.ref a)) (hS : SqL K H a (ns.map V.int)) (hz : Sm ns) : Val (tCall (sp_weight K) [] E0 (tCons ta tNil)) σ H (.int (wt ns)) :=
  xv_call (xg_cons h xg_nil) fun Q q => ⟨a, ns, rfl, hS, hz, q⟩
local macro_rules | `(tactic| walk_at "val+") => `(tactic| ((with_reducible apply xv_weight) <;> first | walk_at "val" | walk_at "sq" | walk_at "side"))
/-! ### worth of a step -/
def sp_worth : Sp := fun vs H Q _ => ∃ n : Nat, vs = [.int (n : Int)] ∧ n < 2 ^ 62 ∧ Q (.int (W n)) H
theorem ok_l_worth (T : Txt K mg) : FnOk P w K mg base CX0 1 T.f_l_worth T.d_l_worth ["_law_step"] sp_worth := by
  refine T.F_l_worth.ok sc_l_worth (fun vs H Q E h => ?_) (fun cdv A outer s H vs Q E hr h => ?_)
  · obtain ⟨n, rfl, _⟩ := h
    rfl
  · obtain ⟨n, rfl, hn, q⟩ := h
    refine ⟨_, (pss_cons (ps_set (i := 1) sc_l_worth.nd rfl (Or.inl rfl) pe_int)
      (pss_cons (ps_set (i := 2) sc_l_worth.nd rfl (Or.inl rfl) pe_int)
      (pss_cons (ps_for PassesOwn.never rfl (pi_range1 (by rfl) T.m_range (pa_cons (pv 0) pa_nil)) (pg_name (i := 3) sc_l_worth.nd rfl (Or.inl rfl)) (pss_one (ps_par (i := 1) (j := 2) (by rfl) sc_l_worth.nd rfl rfl (by decide) rfl rfl (pa_cons (pv 2) (pa_cons (pe_op op_add (pv 1) (pv 2)) pa_nil)) (by rfl))))
      (pss_one (ps_ret (pv 1)))))), ?_⟩
    refine xq_set val_c ?_
    refine xq_set val_c ?_
    refine xq_forR (n := n) (xg_cons (val_var rfl) xg_nil) hn (fun i σ H' => ∃ y, σ = [some (.int (n : Int)), some (.int (W i)), some (.int (W (i + 1))), y] ∧ H' = H) ⟨_, rfl, rfl⟩ ?_ ?_
    · rintro i σ H' hi ⟨y, rfl, rfl⟩
      exact xs_par (xg_cons (val_var rfl) (xg_cons (xv_I0 (val_var rfl) (val_var rfl)) xg_nil)) ⟨_, rfl, rfl⟩
    · rintro σ H' ⟨y, rfl, rfl⟩
      exact st_ret (val_var rfl) q
theorem xv_worth {σ : L2.St} {H : Hp} {ta : TE} {n : Nat} (h : Val ta σ H (.int (n : Int))) (hn : n < 2 ^ 62) : Val (tCall sp_worth [] E0 (tCons ta tNil)) σ H (.int (W n)) :=
  xv_call (xg_cons h xg_nil) fun Q q => ⟨n, rfl, hn, q⟩
local macro_rules | `(tactic| walk_at "val+") => `(tactic| ((with_reducible apply xv_worth) <;> first | walk_at "val" | walk_at "side"))
/-! ### is_number -/
def sp_is_number (K : PySem.W.Frag) : Sp := fun vs H Q _ => ∃ x : V, vs = [x] ∧ Kd K H x ∧ Q (.bl (numB x)) H
theorem ok_is_number (T : Txt K mg) : FnOk P w K mg base CX0 1 T.f_is_number T.d_is_number ["thing"] (sp_is_number K) := by
  refine T.F_is_number.ok sc_is_number (fun vs H Q E h => ?_) (fun cdv A outer s H vs Q E hr h => ?_)
  · obtain ⟨x, rfl, _⟩ := h
    rfl
  · obtain ⟨x, rfl, hk, q⟩ := h
    refine ⟨_, (pss_cons (ps_if (PW.pt (pw_or (pt_not (pt_val (pe_callB call_isi (by rfl) T.m_isinstance (by decide +kernel) (pa_cons (pv 0) (pa_cons (pe_bltn (v := .ty "int") (by rfl) T.m_int (by decide +kernel) rfl) pa_nil))))) (pw_or1 (pt_val (pe_callB call_isi (by rfl) T.m_isinstance (by decide +kernel) (pa_cons (pv 0) (pa_cons (pe_bltn (v := .ty "bool") (by rfl) T.m_bool (by decide +kernel) rfl) pa_nil))))))) (pss_one (ps_ret pe_bl)) pss_nil)
      (pss_one (ps_ret (pe_chain op_le op_lt pe_int (pv 0) (pe_op op_pow pe_int pe_int))))), ?_⟩
    rcases hk with ⟨n, rfl⟩ | ⟨hn, ht | ⟨t, ht, hi⟩⟩
    · refine xs_when (b := false) (xa_or (a := false) (xa_not (a := true) (xa_B (xv_isi (val_var rfl) (.base (.int n)) (by decide +kernel)))) fun _ => xa_B (xv_isi (val_var rfl) (.base (.int n)) (by decide +kernel))) (fun z => (nomatch z)) (fun _ => ?_)
      exact st_ret (xv_chain (a := decide (0 ≤ n)) (b := decide (n < T60)) val_c (val_var rfl) (fun Q q => ⟨_, _, rfl, rfl, q⟩) fun _ => ⟨xv_p60, fun Q q => ⟨_, _, rfl, rfl, q⟩⟩) q
    · refine xs_when (b := true) (xa_or (a := false) (xa_not (a := true) (xa_B (xv_isi (val_var rfl) ht (by decide +kernel)))) fun _ => xa_B (xv_isi (val_var rfl) ht (by decide +kernel))) (fun _ => ?_) (fun z => (nomatch z))
      rw [hn] at q
      exact st_ret val_c q
    · refine xs_when (b := true) (xa_or (a := true) (b := true) (xa_not (a := false) (xa_B (xv_isi (val_var rfl) ht hi))) fun z => (nomatch z)) (fun _ => ?_) (fun z => (nomatch z))
      rw [hn] at q
      exact st_ret val_c q
/-! ### still_heap: the row of a number -/
def sp_still_heap : Sp := fun vs H Q _ => ∃ n : Int, vs = [.int n] ∧ 0 ≤ n ∧ n < W 1000 ∧ ∀ H' p (xs : List Int), Same H H' → H p = none → H' p = some (.lst (xs.map V.int)) → Rw xs → S W 0 xs = n → xs.length ≤ 1000 → Q (.ref p) H'
theorem ok_still_heap (T : Txt K mg) : FnOk P w K mg base CX0 1 T.f_still_heap T.d_still_heap ["number"] sp_still_heap := by
  refine T.F_still_heap.ok sc_still_heap (fun vs H Q E h => ?_) (fun cdv A outer s H vs Q E hr h => ?_)
  · obtain ⟨n, rfl, _⟩ := h
    rfl
  · obtain ⟨n, rfl, hn0, hn1, q⟩ := h
    refine ⟨_, (pss_cons (ps_set (i := 1) sc_still_heap.nd rfl (Or.inl rfl) (pe_lst pa_nil))
      (pss_cons (ps_set (i := 2) sc_still_heap.nd rfl (Or.inl rfl) pe_int)
      (pss_cons (ps_set (i := 3) sc_still_heap.nd rfl (Or.inl rfl) pe_int)
      (pss_cons (ps_while PassesOwn.never (pt_cmpR op_le (pv 2) (pv 0) (nomark _)) (pss_cons (ps_expr (pe_bm PySem.F.plainAttrs_list PySem.F.slot_list_append PySem.F.type_list_append mt_append (pv 1) (pa_cons (pv 2) pa_nil)))
      (pss_one (ps_par (i := 2) (j := 3) (by rfl) sc_still_heap.nd rfl rfl (by decide) rfl rfl (pa_cons (pv 3) (pa_cons (pe_op op_add (pv 2) (pv 3)) pa_nil)) (by rfl)))))
      (pss_cons (ps_set (i := 4) sc_still_heap.nd rfl (Or.inl rfl) (pe_lst pa_nil))
      (pss_cons (ps_set (i := 5) sc_still_heap.nd rfl (Or.inl rfl) (pv 0))
      (pss_cons (ps_for PassesOwn.never rfl (pi_reversed (by rfl) T.m_reversed (pa_cons (pv 1) pa_nil)) (pg_name (i := 6) sc_still_heap.nd rfl (Or.inl rfl)) (pss_one (ps_if (pt_cmpR op_le (pv 6) (pv 5) (nomark _)) (pss_cons (ps_expr (pe_bm PySem.F.plainAttrs_list PySem.F.slot_list_append PySem.F.type_list_append mt_append (pv 4) (pa_cons pe_int pa_nil)))
      (pss_one (ps_set (i := 5) sc_still_heap.nd rfl (Or.inl rfl) (pe_op op_sub (pv 5) (pv 6))))) (pss_one (ps_expr (pe_bm PySem.F.plainAttrs_list PySem.F.slot_list_append PySem.F.type_list_append mt_append (pv 4) (pa_cons pe_int pa_nil)))))))
      (pss_one (ps_ret (pe_revL (pv 4))))))))))), ?_⟩
    refine Evl.q_asgL (Evl.el_lst Evl.ea_nil (by decide)) fun l H1 nl e1 h1 => ?_
    refine xq_set val_c ?_
    refine xq_set val_c ?_
    refine xq_while (fun m σ H' => ∃ k : Nat, σ = [some (.int n), some (.ref l), some (.int (W k)), some (.int (W (k + 1))), none, none, none] ∧ Same H H' ∧ H' l = some (.lst (((List.range k).map W).map V.int)) ∧ (0 < k → W (k - 1) ≤ n) ∧ k ≤ 1000 ∧ m = 1000 - k) 1000 ⟨0, rfl, e1, h1, fun z => (nomatch z), by omega, rfl⟩ ?_
    rintro m σ H2 ⟨k, rfl, e2, h2, hk, hk2, rfl⟩
    refine ⟨_, by walk_at "ans", fun hc => ?_, fun hc => ?_⟩
    · have hc : W k ≤ n := of_decide_eq_true hc
      have hlt : k < 1000 := by
        by_cases h : k < 1000
        · exact h
        · have := W_mono (i := 1000) (j := k) (by omega)
          omega
      refine Evl.q_app (l := l) h2 (Evl.ev_var rfl) (Evl.ev_var rfl) (by rw [List.length_map, List.length_map, List.length_range]; omega) fun H3 e3 => ?_
      refine xs_par (xg_cons (val_var rfl) (xg_cons (xv_I0 (val_var rfl) (val_var rfl)) xg_nil)) ⟨1000 - (k + 1), by omega, k + 1, rfl, same_mut (e2.trans e3) nl, ?_, fun _ => hc, by omega, rfl⟩
      rw [upd_same, List.range_succ, List.map_append, List.map_append]
      rfl
    · have hc : n < W k := by
        have := of_decide_eq_false hc
        omega
      refine Evl.q_asgL (Evl.el_lst Evl.ea_nil (by decide)) fun b H3 nb e3 h3 => ?_
      refine xq_set (val_var rfl) ?_
      have hbl : l ≠ b := ne_of_none h2 nb
      have nb0 : H b = none := Same.free e2 nb
      have hlen : (((List.range k).map W).map V.int).length = k := by rw [List.length_map, List.length_map, List.length_range]
      refine xq_forRev (xs := ((List.range k).map W).map V.int) (xg_cons (val_var rfl) xg_nil) (SqL.of (e3 l _ h2)) (fun i σ H' => ∃ (hs : List Int) (left : Int) (y : Option V), σ = [some (.int n), some (.ref l), some (.int (W k)), some (.int (W (k + 1))), some (.ref b), some (.int left), y] ∧ Same H H' ∧ H' l = some (.lst (((List.range k).map W).map V.int)) ∧ H' b = some (.lst (hs.map V.int)) ∧ hs ++ gr (k - i) left = gr k n ∧ hs.length = i)
        ⟨[], n, none, rfl, Same.trans e2 e3, e3 l _ h2, h3, rfl, rfl⟩ (fun i σ H h => by
          obtain ⟨hs, left, y, _, _, h, _⟩ := h
          exact SqL.of h) ?_ ?_
      · rintro i x σ H4 hi hx ⟨hs, left, y, rfl, e4, hl4, hb4, hg, hlen2⟩
        rw [hlen] at hi hx
        obtain ⟨j, hj⟩ : ∃ j, k - i = j + 1 := ⟨k - i - 1, by omega⟩
        have hj2 : k - 1 - i = j := by omega
        have hj3 : k - (i + 1) = j := by omega
        rw [hj2, List.getElem?_map, List.getElem?_map, List.getElem?_range (by omega)] at hx
        obtain rfl : V.int (W j) = x := Option.some.inj hx
        rw [hj] at hg
        refine xs_if (by walk_at "ans") (fun hc => ?_) (fun hc => ?_)
        · have hc := of_decide_eq_true hc
          refine Evl.q_app (l := b) hb4 (Evl.ev_var rfl) Evl.ev_c (by rw [List.length_map]; omega) fun H5 e5 => ?_
          refine st_set (xv_I0 (val_var rfl) (val_var rfl)) ⟨hs ++ [1], left - W j, _, rfl, same_mut (e4.trans e5) nb0, ?_, ?_, ?_, by rw [List.length_append, List.length_singleton, hlen2]⟩
          · rw [upd_ne hbl]
            exact e5 l _ hl4
          · rw [upd_same, List.map_append]
            rfl
          · rw [hj3, ← hg, List.append_assoc]
            congr 1
            show _ = gr (j + 1) left
            conv => rhs; unfold gr
            rw [if_pos hc]
            rfl
        · have hc := of_decide_eq_false hc
          refine Evl.s_app (l := b) hb4 (Evl.ev_var rfl) Evl.ev_c (by rw [List.length_map]; omega) fun H5 e5 => ?_
          refine ⟨hs ++ [0], left, _, rfl, same_mut (e4.trans e5) nb0, ?_, ?_, ?_, by rw [List.length_append, List.length_singleton, hlen2]⟩
          · rw [upd_ne hbl]
            exact e5 l _ hl4
          · rw [upd_same, List.map_append]
            rfl
          · rw [hj3, ← hg, List.append_assoc]
            congr 1
            show _ = gr (j + 1) left
            conv => rhs; unfold gr
            rw [if_neg hc]
            rfl
      · rintro σ H4 ⟨hs, left, y, rfl, e4, hl4, hb4, hg, hlen2⟩
        rw [hlen, Nat.sub_self] at hg
        have hg : hs = gr k n := by
          rw [← hg]
          show hs = hs ++ []
          rw [List.append_nil]
        obtain ⟨r1, r2⟩ := gr_rw hn0 hc hk
        refine Evl.s_retL (xl_revL (Evl.ev_var rfl) (SqL.of hb4)) fun p H5 np e5 h5 => ?_
        rw [← List.map_reverse, hg] at h5
        exact q H5 p _ (e4.trans e5) (Same.free e4 np) h5 r1 r2 (by rw [List.length_reverse, gr_len]; exact hk2)
/-! ### row_of -/
def sp_row_of (K : PySem.W.Frag) (C : Addr) : Sp := fun vs H Q E => ∃ x : V, vs = [x] ∧ Kd K H x ∧
  (∀ n : Int, x = .int n → 0 ≤ n → n < T60 → ∀ H' p (xs : List Int), Same H H' → H p = none → H' p = some (.lst (xs.map V.int)) → Rw xs → S W 0 xs = n → xs.length ≤ 1000 → Q (.ref p) H') ∧ (numB x = false → E (.ref C) none H)
theorem ok_row_of (T : Txt K mg) : FnOk P w K mg base (L2.CX P w) 2 T.f_row_of T.d_row_of ["number"] (sp_row_of K T.C_NoNumber) := by
  refine T.F_row_of.okX sc_row_of (fun vs H Q E h => ?_) (fun cdv A outer s H vs Q E hr h => ?_)
  · obtain ⟨x, rfl, _⟩ := h
    rfl
  · obtain ⟨x, rfl, hk, q1, q2⟩ := h
    refine ⟨_, (pss_cons (ps_if (pt_not (pt_val (pe_call (ok_is_number T) (hr.mono (by decide)) (by rfl) T.g_is_number T.F_is_number.kp T.b_is_number .nil pass0 (pa_cons (pv 0) pa_nil)))) (pss_one (ps_raise rfl (takes_of rfl rfl rfl rfl) (pmk_own PySem.F.excBase_ValueError T.x_NoNumber T.g_NoNumber T.k_NoNumber (raises_own T.xb_NoNumber T.xt_NoNumber) rfl))) pss_nil)
      (pss_one (ps_ret (pe_call (ok_still_heap T) (hr.mono (by decide)) (by rfl) T.g_still_heap T.F_still_heap.kp T.b_still_heap .nil pass0 (pa_cons (pv 0) pa_nil))))), ?_⟩
    refine xs_when (xa_not (xa_B (xv_call (xg_cons (val_var rfl) xg_nil) fun Q q => ⟨x, rfl, hk, q⟩))) (fun hc => ?_) (fun hc => ?_)
    · exact q2 (by simpa using hc)
    · have hc : numB x = true := by simpa using hc
      have hx : ∃ n, x = .int n ∧ 0 ≤ n ∧ n < T60 := by
        rcases hk with ⟨n, rfl⟩ | ⟨hn, _⟩
        · have hc : (decide (0 ≤ n) && decide (n < T60)) = true := hc
          rw [Bool.and_eq_true, decide_eq_true_eq, decide_eq_true_eq] at hc
          exact ⟨n, rfl, hc.1, hc.2⟩
        · rw [hn] at hc
          cases hc
      obtain ⟨n, rfl, h0, h1⟩ := hx
      refine xr_ret (xr_call (xg_go (xg_cons (val_var (i := 0) rfl) xg_nil) ?_))
      exact ⟨n, rfl, h0, Int.lt_trans h1 T60_W, q1 n rfl h0 h1⟩
/-! ### a row, as the law tells it -/
def sp_lrow (K : PySem.W.Frag) : Sp := fun vs H Q _ => ∃ (a : Addr) (xs : List Int), vs = [.ref a] ∧ SqL K H a (xs.map V.int) ∧ Rw xs ∧ ∀ H', Same H H' → Q (.bl true) H'
theorem ok_l_still (T : Txt K mg) : FnOk P w K mg base CX0 2 T.f_l_still T.d_l_still ["_law_found"] (sp_lrow K) := by
  refine T.F_l_still.ok sc_l_still (fun vs H Q E h => ?_) (fun cdv A outer s H vs Q E hr h => ?_)
  · obtain ⟨a, xs, rfl, _⟩ := h
    rfl
  · obtain ⟨a, xs, rfl, hS, hR, q⟩ := h
    refine ⟨_, (pss_cons (ps_if (pt_not (pt_val (pe_callB call_isi (by rfl) T.m_isinstance (by decide +kernel) (pa_cons (pv 0) (pa_cons (pe_bltn (v := .ty "list") (by rfl) T.m_list (by decide +kernel) rfl) pa_nil))))) (pss_one (ps_ret pe_bl)) pss_nil)
      (pss_cons (ps_set (i := 1) sc_l_still.nd rfl (Or.inl rfl) pe_int)
      (pss_cons (ps_for PassesOwn.never rfl (pi_list (pv 0)) (pg_name (i := 2) sc_l_still.nd rfl (Or.inl rfl)) (pss_cons (ps_if (PW.pt (pw_or (pt_not (pt_val (pe_call (ok_l_whole T) (hr.mono (by decide)) (by rfl) T.g_l_whole T.F_l_whole.kp T.b_l_whole .nil pass0 (pa_cons (pv 2) pa_nil)))) (pw_or (pt_cmpR op_lt (pv 2) pe_int (nomark _)) (pw_or (pt_cmpR op_gt (pv 2) pe_int (nomark _)) (pw_or1 (pt_cmpR op_gt (pe_op op_add (pv 2) (pv 1)) pe_int (nomark _))))))) (pss_one (ps_ret pe_bl)) pss_nil)
      (pss_one (ps_set (i := 1) sc_l_still.nd rfl (Or.inl rfl) (pv 2)))))
      (pss_one (ps_ret (pe_or (pe_cmpR (op_eqD hr.units) (pv 0) (pe_lst pa_nil) (nomark _)) (pe_one (pe_cmpR op_eq (pv 1) pe_int (nomark _))))))))), ?_⟩
    refine xs_when (b := false) (xa_not (a := true) (xa_B (xv_isi (val_var rfl) (tyx_L hS) (by decide +kernel)))) (fun z => (nomatch z)) (fun _ => ?_)
    refine xq_set val_c ?_
    refine xq_forI (H0 := H) (ns := xs) (val_var rfl) (Same.refl H) hS (fun i σ H' => ∃ y, σ = [some (.ref a), some (.int (prev xs i)), y] ∧ H' = H) ⟨none, by rw [prev_zero]; rfl, rfl⟩ ?_ ?_
    · rintro i c σ H' e hi ⟨y, rfl, rfl⟩
      obtain ⟨c1, c2, c3⟩ := hR.at hi
      refine xs_when (b := false) (xa_or (a := false) (xa_not (a := true) (xa_B (xv_whole (val_var rfl)))) fun _ => xa_or (a := false) (xa_T (xv_to (xv_I0 (val_var rfl) val_c) (by rw [decide_eq_false (by omega)]))) fun _ => xa_or (a := false) (xa_T (xv_to (xv_I0 (val_var rfl) val_c) (by rw [decide_eq_false (by omega)]))) fun _ =>
        xa_T (xv_to (xv_I0 (xv_I0 (val_var rfl) (val_var rfl)) val_c) (by rw [decide_eq_false (by omega)]))) (fun z => (nomatch z)) (fun _ => ?_)
      refine st_set (val_var rfl) ⟨e, some (.int c), ?_, rfl⟩
      rw [prev_succ hi]
      rfl
    · rintro σ H' e ⟨y, rfl, rfl⟩
      refine Evl.s_ret (v := .bl true) (Evl.ev_is (Evl.ev_orV (ev_eqI (Evl.ev_var rfl) hS) fun hc => Evl.ev_op (Evl.ev_var rfl) Evl.ev_c (Evl.rv_eq rfl)) ?_) fun H1 e1 => q H1 e1
      rcases hR.end with h | h
      · rw [decide_eq_true h]
        rfl
      · rw [h, decide_eq_true (p := V.int 1 = V.int 1) rfl, Bool.or_true]
/-! ### a number drawn -/
def sp_number : Sp := fun vs H Q _ => ∃ c : Int, vs = [.int c] ∧ ∀ n, 0 ≤ n → n < T60 → Q (.int n) H
theorem ok_l_number (T : Txt K mg) : FnOk P w K mg base CX0 2 T.f_l_number T.d_l_number ["_law_cell"] sp_number := by
  refine T.F_l_number.ok sc_l_number (fun vs H Q E h => ?_) (fun cdv A outer s H vs Q E hr h => ?_)
  · obtain ⟨c, rfl, _⟩ := h
    rfl
  · obtain ⟨c, rfl, q⟩ := h
    refine ⟨_, (pss_cons (ps_if (pt_cmpR op_eq (pe_op op_mod (pv 0) pe_int) pe_int (nomark _)) (pss_one (ps_ret (pe_op op_mod (pe_op op_fdiv (pv 0) pe_int) (pe_op op_pow pe_int pe_int)))) pss_nil)
      (pss_cons (ps_if (pt_cmpR op_eq (pe_op op_mod (pv 0) pe_int) pe_int (nomark _)) (pss_one (ps_ret (pe_op op_mod (pe_op op_fdiv (pv 0) pe_int) pe_int))) pss_nil)
      (pss_cons (ps_set (i := 1) sc_l_number.nd rfl (Or.inl rfl) (pe_op op_sub (pe_op op_add (pe_call (ok_l_worth T) (hr.mono (by decide)) (by rfl) T.g_l_worth T.F_l_worth.kp T.b_l_worth .nil pass0 (pa_cons (pe_op op_mod (pe_op op_fdiv (pv 0) pe_int) pe_int) pa_nil)) (pe_op op_mod (pe_op op_fdiv (pv 0) pe_int) pe_int)) pe_int))
      (pss_one (ps_ret (pe_callB (call_min2 rfl) (by rfl) T.m_min (by decide +kernel) (pa_cons (pv 1) (pa_cons (pe_op op_sub (pe_op op_pow pe_int pe_int) pe_int) pa_nil)))))))), ?_⟩
    have h60 : (1000 : Int) < T60 := by decide +kernel
    refine xs_when (by walk_at "ans") (fun _ => st_ret (by walk_at "val") (q _ (Int.emod_nonneg _ (by omega)) (Int.emod_lt_of_pos _ (by omega)))) (fun _ => ?_)
    refine xs_when (by walk_at "ans") (fun _ => st_ret (by walk_at "val") (q _ (Int.emod_nonneg _ (by decide)) (by
      have := Int.emod_lt_of_pos (c / 4) (show (0 : Int) < 1000 by decide)
      omega))) (fun _ => ?_)
    have hk : 0 ≤ c / 4 % 287 ∧ c / 4 % 287 < 287 := ⟨Int.emod_nonneg _ (by decide), Int.emod_lt_of_pos _ (by decide)⟩
    obtain ⟨k, hk2⟩ : ∃ k : Nat, c / 4 % 287 = (k : Int) := ⟨_, (Int.toNat_of_nonneg hk.1).symm⟩
    have hW := W_pos k
    refine xq_set (xv_I0 (xv_I0 (xv_worth (n := k) (xv_to (by walk_at "val") (by rw [hk2])) (by omega)) (by walk_at "val")) val_c) ?_
    have hr : 0 ≤ c / 1148 % 3 := Int.emod_nonneg _ (by decide)
    refine st_ret (xv_cb (v := .int (if T60 - 1 < W k + c / 1148 % 3 - 1 then T60 - 1 else W k + c / 1148 % 3 - 1)) (xg_cons (val_var rfl) (xg_cons (xv_I0 xv_p60 val_c) xg_nil)) fun Q q => ⟨_, _, rfl, q⟩) (q _ ?_ ?_)
    · split <;> omega
    · split <;> omega
/-! ### a refusal -/
def sp_refused (K : PySem.W.Frag) : Sp := fun vs H Q _ => ∃ x : V, vs = [x] ∧ Kd K H x ∧ numB x = false ∧ Q (.bl true) H
theorem ok_l_refused (T : Txt K mg) : FnOk P w K mg base CX0 3 T.f_l_refused T.d_l_refused ["_law_thing"] (sp_refused K) := by
  refine T.F_l_refused.ok sc_l_refused (fun vs H Q E h => ?_) (fun cdv A outer s H vs Q E hr h => ?_)
  · obtain ⟨x, rfl, _⟩ := h
    rfl
  · obtain ⟨x, rfl, hk, hn, q⟩ := h
    refine ⟨_, (pss_cons (ps_try_as (i := 1) rfl rfl sc_l_refused.nd rfl rfl ⟨rfl, by decide, Or.inl T.g_StairError⟩ takes0 (fun W pn xe tk _ => (pss_one (ps_expr (by exact (pe_callS (ok_row_of T) (hr.mono (by decide)) (by rfl) T.g_row_of T.F_row_of.kp T.b_row_of (fun σ => passAt tk σ) (by exact (pa_cons (pv 0) pa_nil))))))) (fun a oe cls d pn hz hf => (pss_cons (ps_if (PW.pt (pw_or (pt_val (pe_callB (call_isX rfl hz hf) (by rfl) T.m_isinstance (by decide +kernel) (pa_cons (pv 1) (pa_cons (pe_glob (v := .ref T.C_NoMove) (by rfl) T.g_NoMove rfl) pa_nil)))) (pw_or (pt_val (pe_callB (call_isX rfl hz hf) (by rfl) T.m_isinstance (by decide +kernel) (pa_cons (pv 1) (pa_cons (pe_glob (v := .ref T.C_Short) (by rfl) T.g_Short rfl) pa_nil)))) (pw_or (pt_val (pe_callB (call_isX rfl hz hf) (by rfl) T.m_isinstance (by decide +kernel) (pa_cons (pv 1) (pa_cons (pe_glob (v := .ref T.C_NoSign) (by rfl) T.g_NoSign rfl) pa_nil)))) (pw_or1 (pt_val (pe_callB (call_isX rfl hz hf) (by rfl) T.m_isinstance (by decide +kernel) (pa_cons (pv 1) (pa_cons (pe_glob (v := .ref T.C_NoEnd) (by rfl) T.g_NoEnd rfl) pa_nil))))))))) (pss_one (ps_ret pe_bl)) pss_nil)
      (pss_one (ps_ret (pe_and (pe_callB (call_isX rfl hz hf) (by rfl) T.m_isinstance (by decide +kernel) (pa_cons (pv 1) (pa_cons (pe_glob (v := .ref T.C_NoNumber) (by rfl) T.g_NoNumber rfl) pa_nil))) (pe_one (pe_callB (call_isX rfl hz hf) (by rfl) T.m_isinstance (by decide +kernel) (pa_cons (pv 1) (pa_cons (pe_bltn (v := .ty "ValueError") (by rfl) T.m_ValueError (by decide +kernel) rfl) pa_nil))))))))))
      (pss_one (ps_ret pe_bl))), ?_⟩
    refine xq_try (xg_cons (val_var (i := 0) rfl) xg_nil) ?_
    refine ⟨x, rfl, hk, fun n e h0 h1 => ?_, fun _ => ?_⟩
    · subst e
      rw [numB_int h0 h1] at hn
      cases hn
    · refine ⟨true, T.x_NoNumber_StairError, fun _ e he => ?_, fun z => (nomatch z)⟩
      refine xs_when (b := false) (xa_or (a := false) (xa_B (xv_isC (val_var rfl) T.E_NoNumber T.i_NoNumber_NoMove)) fun _ => xa_or (a := false) (xa_B (xv_isC (val_var rfl) T.E_NoNumber T.i_NoNumber_Short)) fun _ => xa_or (a := false) (xa_B (xv_isC (val_var rfl) T.E_NoNumber T.i_NoNumber_NoSign)) fun _ => xa_B (xv_isC (val_var rfl) T.E_NoNumber T.i_NoNumber_NoEnd)) (fun z => (nomatch z)) (fun _ => ?_)
      exact st_ret (xv_and (xv_isC (val_var rfl) T.E_NoNumber T.i_NoNumber_NoNumber) fun _ => xv_isT (val_var rfl) T.E_NoNumber T.i_NoNumber_VE) q
/-! ### the law -/
def sp_law (K : PySem.W.Frag) : Sp := fun vs H Q _ => ∃ (a : Addr) (ns : List Int), vs = [.ref a] ∧ SqL K H a (ns.map V.int) ∧ ns.length ≤ 63 ∧ ∀ H', Q (.bl true) H'
theorem ok_law (T : Txt K mg) : FnOk P w K mg base CX0 4 T.f_law T.d_law ["_law_script"] (sp_law K) := by
  refine T.F_law.ok sc_law (fun vs H Q E h => ?_) (fun cdv A outer s H vs Q E hr h => ?_)
  · obtain ⟨a, ns, rfl, _⟩ := h
    rfl
  · obtain ⟨a, ns, rfl, hS, hl, q⟩ := h
    refine ⟨_, (pss_cons (ps_for PassesOwn.never rfl (pi_list (pe_op op_cat (pe_lst (pa_cons pe_int pa_nil)) (pe_slice sl_list (pv 0) (po_some pe_int) (po_some pe_int)))) (pg_name (i := 1) sc_law.nd rfl (Or.inl rfl)) (pss_cons (ps_set (i := 2) sc_law.nd rfl (Or.inl rfl) (pe_call (ok_l_number T) (hr.mono (by decide)) (by rfl) T.g_l_number T.F_l_number.kp T.b_l_number .nil pass0 (pa_cons (pv 1) pa_nil)))
      (pss_cons (ps_set (i := 3) sc_law.nd rfl (Or.inl rfl) (pe_call (ok_row_of T) (hr.mono (by decide)) (by rfl) T.g_row_of T.F_row_of.kp T.b_row_of .nil passL (pa_cons (pv 2) pa_nil)))
      (pss_one (ps_if (PW.pt (pw_or (pt_not (pt_val (pe_call (ok_l_still T) (hr.mono (by decide)) (by rfl) T.g_l_still T.F_l_still.kp T.b_l_still .nil pass0 (pa_cons (pv 3) pa_nil)))) (pw_or1 (pt_cmpR op_ne (pe_call (ok_l_weight T) (hr.mono (by decide)) (by rfl) T.g_l_weight T.F_l_weight.kp T.b_l_weight .nil pass0 (pa_cons (pv 3) pa_nil)) (pv 2) (nomark _))))) (pss_one (ps_ret pe_bl)) pss_nil)))))
      (pss_cons (ps_set (i := 4) sc_law.nd rfl (Or.inl rfl) (pe_call (ok_l_cell_at T) (hr.mono (by decide)) (by rfl) T.g_l_cell_at T.F_l_cell_at.kp T.b_l_cell_at .nil pass0 (pa_cons (pv 0) (pa_cons pe_int pa_nil))))
      (pss_cons (ps_set (i := 5) sc_law.nd rfl (Or.inl rfl) (pe_op op_mod (pe_op op_fdiv (pv 4) pe_int) (pe_op op_pow pe_int pe_int)))
      (pss_one (ps_ret (pe_call (ok_l_refused T) (hr.mono (by decide)) (by rfl) T.g_l_refused T.F_l_refused.kp T.b_l_refused .nil pass0 (pa_cons (pe_ix ix_list (pe_lst (pa_cons (pe_op op_sub (pe_op op_sub pe_int pe_int) (pv 5)) (pa_cons (pe_op op_add (pe_op op_pow pe_int pe_int) (pv 5)) (pa_cons pe_bl (pa_cons pe_bl (pa_cons pe_non (pa_cons pe_str (pa_cons pe_str (pa_cons (pe_lst (pa_cons pe_int pa_nil)) (pa_cons (pe_lst pa_nil) pa_nil)))))))))) (pe_op op_mod (pv 4) pe_int) (fun _ _ => rfl)) pa_nil))))))), ?_⟩
    have hcl : ((ns.take (9 : Int).toNat).drop (1 : Int).toNat).length ≤ 8 := by
      rw [List.length_drop, List.length_take]
      omega
    refine Evl.q_forNLn (xs := ((0 :: (ns.take (9 : Int).toNat).drop (1 : Int).toNat).map V.int)) (by
      have h := xl_catN (Evl.el_lst (Evl.ea_cons (Evl.ev_c (σ := [some (.ref a), none, none, none, none, none]) (H := H) (v := V.int 0)) Evl.ea_nil) (by show 1 ≤ 100000; omega)) (Evl.el_sl (Evl.ev_var (i := 0) rfl) (Evl.eo_some (Evl.ev_c (v := V.int 1))) (Evl.eo_some (Evl.ev_c (v := V.int 9))) hS) (by
        rw [cut_int (by decide) (by decide), List.length_map]
        show 1 + _ ≤ _
        omega)
      rw [cut_int (by decide) (by decide)] at h
      exact h) (fun p i σ H' => ∃ (y1 y2 y3 : Option V), σ = [some (.ref a), y1, y2, y3, none, none] ∧ Same H H' ∧ SqL K H' p ((0 :: (ns.take (9 : Int).toNat).drop (1 : Int).toNat).map V.int)) (fun p H1 np e1 h1 => ⟨none, none, none, rfl, e1, SqL.of h1⟩) (fun p i σ' H' _ h => by
        obtain ⟨_, _, _, _, _, h⟩ := h
        exact h) ?_ ?_
    · rintro p i x σ H1 hi ⟨y1, y2, y3, rfl, e1, hp⟩
      rw [List.getElem?_map] at hi
      obtain ⟨c, hc, rfl⟩ := Option.map_eq_some_iff.mp hi
      refine xq_run (xr_call (xg_go (xg_cons (val_var (i := 1) rfl) xg_nil) ⟨c, rfl, fun n h0 h1 => ?_⟩))
      refine xq_run (xr_call (xg_go (xg_cons (val_var (i := 2) rfl) xg_nil) ?_))
      refine ⟨.int n, rfl, .int, fun n' en _ _ H2 r xs e2 nr h2 hR hw hlen => ?_, fun z => (nomatch (numB_int h0 h1).symm.trans z)⟩
      obtain rfl := V.int.inj en
      refine Evl.s_when (b := false) (Evl.et_or (a := false) (Evl.et_not (a := true) (Evl.et_B fun H3 e3 Q q => xr_call (xg_go (xg_cons (val_var (i := 3) rfl) xg_nil) ⟨r, xs, rfl, SqL.of (e3 r _ h2), hR, fun H4 e4 => q H4 e4⟩))) fun _ => Evl.et_test (fun H3 e3 Q q =>
        xv_to (xv_ne (xv_weight (val_var (i := 3) rfl) (SqL.of (e3 r _ h2)) (hR.sm (by omega))) (val_var (i := 2) rfl) rfl) (by rw [show wt xs = n from hw, decide_eq_true rfl]; rfl) _ (q H3 (Evl.Ex.refl H3)))) (fun z => (nomatch z)) (fun _ H3 e3 => ?_)
      exact ⟨_, _, _, rfl, Same.trans e1 (Same.trans e2 e3), Same.seq e3 (Same.seq e2 hp)⟩
    · rintro p σ H1 ⟨y1, y2, y3, rfl, e1, _⟩
      have hS1 := Same.seq e1 hS
      refine xq_set (by walk_at "val") ?_
      generalize ns.getD 0 0 = fi
      refine xq_set (by walk_at "val") ?_
      have hf : 0 ≤ fi / 9 % T60 := Int.emod_nonneg _ (by have := T60_pos; omega)
      generalize fi / 9 % T60 = far at hf
      refine xr_ret (xr_call (xr_cons (xr_opR (xr_lst ?_))))
      refine xr_cons (xv_go (by walk_at "val") (xr_cons (xv_go (by walk_at "val") (xr_cons (xv_go val_c (xr_cons (xv_go val_c (xr_cons (xv_go val_c (xr_cons (xv_go val_c (xr_cons (xv_go val_c (xr_cons ?_))))))))))))))
      refine (Evl.el_lst (Evl.ea_cons Evl.ev_c Evl.ea_nil) (by decide)) H1 (Evl.Ex.refl H1) _ fun p1 H2 np1 e2 h2 => ?_
      refine xr_cons ?_
      refine (Evl.el_lst Evl.ea_nil (by decide)) H2 (Evl.Ex.refl H2) _ fun p2 H3 np2 e3 h3 => ?_
      refine xr_nil ⟨Evl.sz_of (by show 9 ≤ 100000; omega), fun p3 np3 => ?_⟩
      have e4 : Same H3 (upd H3 p3 (.lst [.int (0 - 1 - far), .int (T60 + far), .bl true, .bl false, .non, .str "1", .str "", .ref p1, .ref p2])) := Evl.Ex.new np3
      have h4 : (upd H3 p3 (.lst [.int (0 - 1 - far), .int (T60 + far), .bl true, .bl false, .non, .str "1", .str "", .ref p1, .ref p2])) p3 = some (.lst [.int (0 - 1 - far), .int (T60 + far), .bl true, .bl false, .non, .str "1", .str "", .ref p1, .ref p2]) := upd_same
      have k1 := e4 p1 _ (e3 p1 _ h2)
      have k2 := e4 p2 _ h3
      generalize upd H3 p3 (.lst [.int (0 - 1 - far), .int (T60 + far), .bl true, .bl false, .non, .str "1", .str "", .ref p1, .ref p2]) = H4 at h4 k1 k2
      refine xv_go (by walk_at "val") ?_
      have hx : ∃ x, atI [V.int (0 - 1 - far), .int (T60 + far), .bl true, .bl false, .non, .str "1", .str "", .ref p1, .ref p2] (fi % 9) = some x ∧ Kd K H4 x ∧ numB x = false := by
        rcases (show fi % 9 = 0 ∨ fi % 9 = 1 ∨ fi % 9 = 2 ∨ fi % 9 = 3 ∨ fi % 9 = 4 ∨ fi % 9 = 5 ∨ fi % 9 = 6 ∨ fi % 9 = 7 ∨ fi % 9 = 8 by omega) with h | h | h | h | h | h | h | h | h <;> rw [h]
        · exact ⟨_, rfl, .int, numB_lo (by omega)⟩
        · exact ⟨_, rfl, .int, numB_hi (by omega)⟩
        · exact ⟨_, rfl, .bl, rfl⟩
        · exact ⟨_, rfl, .bl, rfl⟩
        · exact ⟨_, rfl, .non, rfl⟩
        · exact ⟨_, rfl, .str, rfl⟩
        · exact ⟨_, rfl, .str, rfl⟩
        · exact ⟨_, rfl, .lst (SqL.of k1), rfl⟩
        · exact ⟨_, rfl, .lst (SqL.of k2), rfl⟩
      obtain ⟨x, hx1, hx2, hx3⟩ := hx
      refine ⟨p3, _, _, x, rfl, rfl, SqL.of h4, hx1, xr_nil ?_⟩
      exact ⟨x, rfl, hx2, hx3, q H4⟩
end
theorem all_mk {l : PySem.W.OpenLaw} {w : World} {K : PySem.W.Frag} {h : Heap} {mg : Str → Option Value} {fa : Addr} (X : K.In h) (G : h.Ns mainGlobals mg) (hfa : mg "law" = some (.ref fa))
    {C_StairError : Addr} (a_StairError : PySem.W.nsIn K mainGlobals "StairError" = some (some (.ref C_StairError)))
    (k_StairError : PySem.W.keepIn K (.ref C_StairError) = true) (x_StairError : PySem.W.excIn K C_StairError [.type "ValueError", .type "Exception", .type "BaseException", .type "object"] "ValueError.__new__" = true) (xb_StairError : PySem.W.subIn K (.ref C_StairError) (.type "BaseException") = some true) (xt_StairError : PySem.W.typeIn K (.ref C_StairError) = some (.type "type"))
    {C_NoMove : Addr} (a_NoMove : PySem.W.nsIn K mainGlobals "NoMove" = some (some (.ref C_NoMove)))
    (k_NoMove : PySem.W.keepIn K (.ref C_NoMove) = true) (x_NoMove : PySem.W.excIn K C_NoMove [.type "ValueError", .type "Exception", .type "BaseException", .type "object"] "ValueError.__new__" = true) (xb_NoMove : PySem.W.subIn K (.ref C_NoMove) (.type "BaseException") = some true) (xt_NoMove : PySem.W.typeIn K (.ref C_NoMove) = some (.type "type"))
    {C_NoNumber : Addr} (a_NoNumber : PySem.W.nsIn K mainGlobals "NoNumber" = some (some (.ref C_NoNumber)))
    (k_NoNumber : PySem.W.keepIn K (.ref C_NoNumber) = true) (x_NoNumber : PySem.W.excIn K C_NoNumber [.type "ValueError", .type "Exception", .type "BaseException", .type "object"] "ValueError.__new__" = true) (xb_NoNumber : PySem.W.subIn K (.ref C_NoNumber) (.type "BaseException") = some true) (xt_NoNumber : PySem.W.typeIn K (.ref C_NoNumber) = some (.type "type"))
    {C_Short : Addr} (a_Short : PySem.W.nsIn K mainGlobals "Short" = some (some (.ref C_Short)))
    (k_Short : PySem.W.keepIn K (.ref C_Short) = true) (x_Short : PySem.W.excIn K C_Short [.type "ValueError", .type "Exception", .type "BaseException", .type "object"] "ValueError.__new__" = true) (xb_Short : PySem.W.subIn K (.ref C_Short) (.type "BaseException") = some true) (xt_Short : PySem.W.typeIn K (.ref C_Short) = some (.type "type"))
    {C_NoSign : Addr} (a_NoSign : PySem.W.nsIn K mainGlobals "NoSign" = some (some (.ref C_NoSign)))
    (k_NoSign : PySem.W.keepIn K (.ref C_NoSign) = true) (x_NoSign : PySem.W.excIn K C_NoSign [.type "ValueError", .type "Exception", .type "BaseException", .type "object"] "ValueError.__new__" = true) (xb_NoSign : PySem.W.subIn K (.ref C_NoSign) (.type "BaseException") = some true) (xt_NoSign : PySem.W.typeIn K (.ref C_NoSign) = some (.type "type"))
    {C_NoEnd : Addr} (a_NoEnd : PySem.W.nsIn K mainGlobals "NoEnd" = some (some (.ref C_NoEnd)))
    (k_NoEnd : PySem.W.keepIn K (.ref C_NoEnd) = true) (x_NoEnd : PySem.W.excIn K C_NoEnd [.type "ValueError", .type "Exception", .type "BaseException", .type "object"] "ValueError.__new__" = true) (xb_NoEnd : PySem.W.subIn K (.ref C_NoEnd) (.type "BaseException") = some true) (xt_NoEnd : PySem.W.typeIn K (.ref C_NoEnd) = some (.type "type"))
    {f_is_number : Addr} (a_is_number : PySem.W.nsIn K mainGlobals "is_number" = some (some (.ref f_is_number)))
    {od_is_number an_is_number : Option Addr} {sl_is_number : Array (Option Value)} {oc_is_number kV_is_number dc_is_number pm_is_number cd_is_number ct_is_number : Value} (l_is_number : K.lookup f_is_number = some ⟨oc_is_number, od_is_number, .func (PySem.W.fnOf "is_number" "is_number" (defArgs st_is_number) (defBody st_is_number) (defScope st_is_number) .none kV_is_number dc_is_number pm_is_number an_is_number cd_is_number ct_is_number), sl_is_number⟩) (c_is_number : PySem.W.codeIn K cd_is_number "is_number" = true) (k_is_number : PySem.W.keepIn K (.ref f_is_number) = true)
    {f_still_heap : Addr} (a_still_heap : PySem.W.nsIn K mainGlobals "still_heap" = some (some (.ref f_still_heap)))
    {od_still_heap an_still_heap : Option Addr} {sl_still_heap : Array (Option Value)} {oc_still_heap kV_still_heap dc_still_heap pm_still_heap cd_still_heap ct_still_heap : Value} (l_still_heap : K.lookup f_still_heap = some ⟨oc_still_heap, od_still_heap, .func (PySem.W.fnOf "still_heap" "still_heap" (defArgs st_still_heap) (defBody st_still_heap) (defScope st_still_heap) .none kV_still_heap dc_still_heap pm_still_heap an_still_heap cd_still_heap ct_still_heap), sl_still_heap⟩) (c_still_heap : PySem.W.codeIn K cd_still_heap "still_heap" = true) (k_still_heap : PySem.W.keepIn K (.ref f_still_heap) = true)
    {f_row_of : Addr} (a_row_of : PySem.W.nsIn K mainGlobals "row_of" = some (some (.ref f_row_of)))
    {od_row_of an_row_of : Option Addr} {sl_row_of : Array (Option Value)} {oc_row_of kV_row_of dc_row_of pm_row_of cd_row_of ct_row_of : Value} (l_row_of : K.lookup f_row_of = some ⟨oc_row_of, od_row_of, .func (PySem.W.fnOf "row_of" "row_of" (defArgs st_row_of) (defBody st_row_of) (defScope st_row_of) .none kV_row_of dc_row_of pm_row_of an_row_of cd_row_of ct_row_of), sl_row_of⟩) (c_row_of : PySem.W.codeIn K cd_row_of "row_of" = true) (k_row_of : PySem.W.keepIn K (.ref f_row_of) = true)
    {f_l_cell_at : Addr} (a_l_cell_at : PySem.W.nsIn K mainGlobals "_law_cell_at" = some (some (.ref f_l_cell_at)))
    {od_l_cell_at an_l_cell_at : Option Addr} {sl_l_cell_at : Array (Option Value)} {oc_l_cell_at kV_l_cell_at dc_l_cell_at pm_l_cell_at cd_l_cell_at ct_l_cell_at : Value} (l_l_cell_at : K.lookup f_l_cell_at = some ⟨oc_l_cell_at, od_l_cell_at, .func (PySem.W.fnOf "_law_cell_at" "_law_cell_at" (defArgs st_l_cell_at) (defBody st_l_cell_at) (defScope st_l_cell_at) .none kV_l_cell_at dc_l_cell_at pm_l_cell_at an_l_cell_at cd_l_cell_at ct_l_cell_at), sl_l_cell_at⟩) (c_l_cell_at : PySem.W.codeIn K cd_l_cell_at "_law_cell_at" = true) (k_l_cell_at : PySem.W.keepIn K (.ref f_l_cell_at) = true)
    {f_l_whole : Addr} (a_l_whole : PySem.W.nsIn K mainGlobals "_law_whole" = some (some (.ref f_l_whole)))
    {od_l_whole an_l_whole : Option Addr} {sl_l_whole : Array (Option Value)} {oc_l_whole kV_l_whole dc_l_whole pm_l_whole cd_l_whole ct_l_whole : Value} (l_l_whole : K.lookup f_l_whole = some ⟨oc_l_whole, od_l_whole, .func (PySem.W.fnOf "_law_whole" "_law_whole" (defArgs st_l_whole) (defBody st_l_whole) (defScope st_l_whole) .none kV_l_whole dc_l_whole pm_l_whole an_l_whole cd_l_whole ct_l_whole), sl_l_whole⟩) (c_l_whole : PySem.W.codeIn K cd_l_whole "_law_whole" = true) (k_l_whole : PySem.W.keepIn K (.ref f_l_whole) = true)
    {f_l_worth : Addr} (a_l_worth : PySem.W.nsIn K mainGlobals "_law_worth" = some (some (.ref f_l_worth)))
    {od_l_worth an_l_worth : Option Addr} {sl_l_worth : Array (Option Value)} {oc_l_worth kV_l_worth dc_l_worth pm_l_worth cd_l_worth ct_l_worth : Value} (l_l_worth : K.lookup f_l_worth = some ⟨oc_l_worth, od_l_worth, .func (PySem.W.fnOf "_law_worth" "_law_worth" (defArgs st_l_worth) (defBody st_l_worth) (defScope st_l_worth) .none kV_l_worth dc_l_worth pm_l_worth an_l_worth cd_l_worth ct_l_worth), sl_l_worth⟩) (c_l_worth : PySem.W.codeIn K cd_l_worth "_law_worth" = true) (k_l_worth : PySem.W.keepIn K (.ref f_l_worth) = true)
    {f_l_number : Addr} (a_l_number : PySem.W.nsIn K mainGlobals "_law_number" = some (some (.ref f_l_number)))
    {od_l_number an_l_number : Option Addr} {sl_l_number : Array (Option Value)} {oc_l_number kV_l_number dc_l_number pm_l_number cd_l_number ct_l_number : Value} (l_l_number : K.lookup f_l_number = some ⟨oc_l_number, od_l_number, .func (PySem.W.fnOf "_law_number" "_law_number" (defArgs st_l_number) (defBody st_l_number) (defScope st_l_number) .none kV_l_number dc_l_number pm_l_number an_l_number cd_l_number ct_l_number), sl_l_number⟩) (c_l_number : PySem.W.codeIn K cd_l_number "_law_number" = true) (k_l_number : PySem.W.keepIn K (.ref f_l_number) = true)
    {f_l_weight : Addr} (a_l_weight : PySem.W.nsIn K mainGlobals "_law_weight" = some (some (.ref f_l_weight)))
    {od_l_weight an_l_weight : Option Addr} {sl_l_weight : Array (Option Value)} {oc_l_weight kV_l_weight dc_l_weight pm_l_weight cd_l_weight ct_l_weight : Value} (l_l_weight : K.lookup f_l_weight = some ⟨oc_l_weight, od_l_weight, .func (PySem.W.fnOf "_law_weight" "_law_weight" (defArgs st_l_weight) (defBody st_l_weight) (defScope st_l_weight) .none kV_l_weight dc_l_weight pm_l_weight an_l_weight cd_l_weight ct_l_weight), sl_l_weight⟩) (c_l_weight : PySem.W.codeIn K cd_l_weight "_law_weight" = true) (k_l_weight : PySem.W.keepIn K (.ref f_l_weight) = true)
    {f_l_still : Addr} (a_l_still : PySem.W.nsIn K mainGlobals "_law_still" = some (some (.ref f_l_still)))
    {od_l_still an_l_still : Option Addr} {sl_l_still : Array (Option Value)} {oc_l_still kV_l_still dc_l_still pm_l_still cd_l_still ct_l_still : Value} (l_l_still : K.lookup f_l_still = some ⟨oc_l_still, od_l_still, .func (PySem.W.fnOf "_law_still" "_law_still" (defArgs st_l_still) (defBody st_l_still) (defScope st_l_still) .none kV_l_still dc_l_still pm_l_still an_l_still cd_l_still ct_l_still), sl_l_still⟩) (c_l_still : PySem.W.codeIn K cd_l_still "_law_still" = true) (k_l_still : PySem.W.keepIn K (.ref f_l_still) = true)
    {f_l_refused : Addr} (a_l_refused : PySem.W.nsIn K mainGlobals "_law_refused" = some (some (.ref f_l_refused)))
    {od_l_refused an_l_refused : Option Addr} {sl_l_refused : Array (Option Value)} {oc_l_refused kV_l_refused dc_l_refused pm_l_refused cd_l_refused ct_l_refused : Value} (l_l_refused : K.lookup f_l_refused = some ⟨oc_l_refused, od_l_refused, .func (PySem.W.fnOf "_law_refused" "_law_refused" (defArgs st_l_refused) (defBody st_l_refused) (defScope st_l_refused) .none kV_l_refused dc_l_refused pm_l_refused an_l_refused cd_l_refused ct_l_refused), sl_l_refused⟩) (c_l_refused : PySem.W.codeIn K cd_l_refused "_law_refused" = true) (k_l_refused : PySem.W.keepIn K (.ref f_l_refused) = true)
    {f_law : Addr} (a_law : PySem.W.nsIn K mainGlobals "law" = some (some (.ref f_law)))
    {od_law an_law : Option Addr} {sl_law : Array (Option Value)} {oc_law kV_law dc_law pm_law cd_law ct_law : Value} (l_law : K.lookup f_law = some ⟨oc_law, od_law, .func (PySem.W.fnOf "law" "law" (defArgs st_law) (defBody st_law) (defScope st_law) .none kV_law dc_law pm_law an_law cd_law ct_law), sl_law⟩) (c_law : PySem.W.codeIn K cd_law "law" = true) (k_law : PySem.W.keepIn K (.ref f_law) = true)
    (z_isinstance : PySem.W.nsIn K mainGlobals "isinstance" = some none)
    (z_int : PySem.W.nsIn K mainGlobals "int" = some none)
    (z_bool : PySem.W.nsIn K mainGlobals "bool" = some none)
    (z_reversed : PySem.W.nsIn K mainGlobals "reversed" = some none)
    (z_len : PySem.W.nsIn K mainGlobals "len" = some none)
    (z_range : PySem.W.nsIn K mainGlobals "range" = some none)
    (z_min : PySem.W.nsIn K mainGlobals "min" = some none)
    (z_list : PySem.W.nsIn K mainGlobals "list" = some none)
    (z_ValueError : PySem.W.nsIn K mainGlobals "ValueError" = some none)
    (cl_StairError : PySem.W.isClsIn K C_StairError = true)
    (hd_StairError : PySem.W.hasDictIn K C_StairError = true)
    (cl_NoMove : PySem.W.isClsIn K C_NoMove = true)
    (hd_NoMove : PySem.W.hasDictIn K C_NoMove = true)
    (cl_NoNumber : PySem.W.isClsIn K C_NoNumber = true)
    (hd_NoNumber : PySem.W.hasDictIn K C_NoNumber = true)
    (cl_Short : PySem.W.isClsIn K C_Short = true)
    (hd_Short : PySem.W.hasDictIn K C_Short = true)
    (cl_NoSign : PySem.W.isClsIn K C_NoSign = true)
    (hd_NoSign : PySem.W.hasDictIn K C_NoSign = true)
    (cl_NoEnd : PySem.W.isClsIn K C_NoEnd = true)
    (hd_NoEnd : PySem.W.hasDictIn K C_NoEnd = true)
    (s_NoNumber_StairError : PySem.W.subIn K (.ref C_NoNumber) (.ref C_StairError) = some true)
    (s_NoNumber_NoMove : PySem.W.subIn K (.ref C_NoNumber) (.ref C_NoMove) = some false)
    (s_NoNumber_NoNumber : PySem.W.subIn K (.ref C_NoNumber) (.ref C_NoNumber) = some true)
    (s_NoNumber_Short : PySem.W.subIn K (.ref C_NoNumber) (.ref C_Short) = some false)
    (s_NoNumber_NoSign : PySem.W.subIn K (.ref C_NoNumber) (.ref C_NoSign) = some false)
    (s_NoNumber_NoEnd : PySem.W.subIn K (.ref C_NoNumber) (.ref C_NoEnd) = some false)
    (s_NoNumber_VE : PySem.W.subIn K (.ref C_NoNumber) (.type "ValueError") = some true)
    (eg_NoNumber : PySem.W.findIn K (.ref C_NoNumber) "__getattribute__" = some (some (.builtin "BaseException.__getattribute__")))
    (ek_NoNumber : PySem.W.findIn K (.ref C_NoNumber) "__getattr__" = some none)
    (ea_NoNumber : PySem.W.findIn K (.ref C_NoNumber) "__class__" = some (some (.builtin "object.__class__")))
    (em_NoNumber : PySem.W.mroIn K C_NoNumber (.type "object") = some true)
    (en_ : PySem.W.specialIn K (.builtin "object.__class__") "__get__" = some (some (.builtin "getset_descriptor.__get__")))
    (et_ : PySem.W.takesIn K (.builtin "object.__class__") = some true) :
    ∃ fd : FuncData, (∀ (s : Shared) (v : Value), BindsTo s fd ⟨[v], []⟩ [("_law_script", v)]) ∧ ∀ base : Heap, K.In base → base.Ns mainGlobals mg → FnOk l.prog w K mg base CX0 4 fa fd ["_law_script"] (sp_law K) := by
  have e := hfa.symm.trans (PySem.W.mg_of X G a_law)
  cases e
  let T : Txt K mg := { C_StairError := C_StairError, g_StairError := PySem.W.mg_of X G a_StairError, k_StairError := k_StairError, x_StairError := x_StairError, xb_StairError := xb_StairError, xt_StairError := xt_StairError, C_NoMove := C_NoMove, g_NoMove := PySem.W.mg_of X G a_NoMove, k_NoMove := k_NoMove, x_NoMove := x_NoMove, xb_NoMove := xb_NoMove, xt_NoMove := xt_NoMove, C_NoNumber := C_NoNumber, g_NoNumber := PySem.W.mg_of X G a_NoNumber, k_NoNumber := k_NoNumber, x_NoNumber := x_NoNumber, xb_NoNumber := xb_NoNumber, xt_NoNumber := xt_NoNumber, C_Short := C_Short, g_Short := PySem.W.mg_of X G a_Short, k_Short := k_Short, x_Short := x_Short, xb_Short := xb_Short, xt_Short := xt_Short, C_NoSign := C_NoSign, g_NoSign := PySem.W.mg_of X G a_NoSign, k_NoSign := k_NoSign, x_NoSign := x_NoSign, xb_NoSign := xb_NoSign, xt_NoSign := xt_NoSign, C_NoEnd := C_NoEnd, g_NoEnd := PySem.W.mg_of X G a_NoEnd, k_NoEnd := k_NoEnd, x_NoEnd := x_NoEnd, xb_NoEnd := xb_NoEnd, xt_NoEnd := xt_NoEnd, f_is_number := f_is_number, d_is_number := _, F_is_number := fun_mk (st := st_is_number) l_is_number c_is_number k_is_number, g_is_number := PySem.W.mg_of X G a_is_number, b_is_number := (fun_mk (st := st_is_number) l_is_number c_is_number k_is_number).binds (ps := ["thing"]) (fun _ _ _ _ _ _ us hl => match us, hl with | [_], _ => rfl), f_still_heap := f_still_heap, d_still_heap := _, F_still_heap := fun_mk (st := st_still_heap) l_still_heap c_still_heap k_still_heap, g_still_heap := PySem.W.mg_of X G a_still_heap, b_still_heap := (fun_mk (st := st_still_heap) l_still_heap c_still_heap k_still_heap).binds (ps := ["number"]) (fun _ _ _ _ _ _ us hl => match us, hl with | [_], _ => rfl), f_row_of := f_row_of, d_row_of := _, F_row_of := fun_mk (st := st_row_of) l_row_of c_row_of k_row_of, g_row_of := PySem.W.mg_of X G a_row_of, b_row_of := (fun_mk (st := st_row_of) l_row_of c_row_of k_row_of).binds (ps := ["number"]) (fun _ _ _ _ _ _ us hl => match us, hl with | [_], _ => rfl), f_l_cell_at := f_l_cell_at, d_l_cell_at := _, F_l_cell_at := fun_mk (st := st_l_cell_at) l_l_cell_at c_l_cell_at k_l_cell_at, g_l_cell_at := PySem.W.mg_of X G a_l_cell_at, b_l_cell_at := (fun_mk (st := st_l_cell_at) l_l_cell_at c_l_cell_at k_l_cell_at).binds (ps := ["_law_script", "_law_k"]) (fun _ _ _ _ _ _ us hl => match us, hl with | [_, _], _ => rfl), f_l_whole := f_l_whole, d_l_whole := _, F_l_whole := fun_mk (st := st_l_whole) l_l_whole c_l_whole k_l_whole, g_l_whole := PySem.W.mg_of X G a_l_whole, b_l_whole := (fun_mk (st := st_l_whole) l_l_whole c_l_whole k_l_whole).binds (ps := ["_law_found"]) (fun _ _ _ _ _ _ us hl => match us, hl with | [_], _ => rfl), f_l_worth := f_l_worth, d_l_worth := _, F_l_worth := fun_mk (st := st_l_worth) l_l_worth c_l_worth k_l_worth, g_l_worth := PySem.W.mg_of X G a_l_worth, b_l_worth := (fun_mk (st := st_l_worth) l_l_worth c_l_worth k_l_worth).binds (ps := ["_law_step"]) (fun _ _ _ _ _ _ us hl => match us, hl with | [_], _ => rfl), f_l_number := f_l_number, d_l_number := _, F_l_number := fun_mk (st := st_l_number) l_l_number c_l_number k_l_number, g_l_number := PySem.W.mg_of X G a_l_number, b_l_number := (fun_mk (st := st_l_number) l_l_number c_l_number k_l_number).binds (ps := ["_law_cell"]) (fun _ _ _ _ _ _ us hl => match us, hl with | [_], _ => rfl), f_l_weight := f_l_weight, d_l_weight := _, F_l_weight := fun_mk (st := st_l_weight) l_l_weight c_l_weight k_l_weight, g_l_weight := PySem.W.mg_of X G a_l_weight, b_l_weight := (fun_mk (st := st_l_weight) l_l_weight c_l_weight k_l_weight).binds (ps := ["_law_heap"]) (fun _ _ _ _ _ _ us hl => match us, hl with | [_], _ => rfl), f_l_still := f_l_still, d_l_still := _, F_l_still := fun_mk (st := st_l_still) l_l_still c_l_still k_l_still, g_l_still := PySem.W.mg_of X G a_l_still, b_l_still := (fun_mk (st := st_l_still) l_l_still c_l_still k_l_still).binds (ps := ["_law_found"]) (fun _ _ _ _ _ _ us hl => match us, hl with | [_], _ => rfl), f_l_refused := f_l_refused, d_l_refused := _, F_l_refused := fun_mk (st := st_l_refused) l_l_refused c_l_refused k_l_refused, g_l_refused := PySem.W.mg_of X G a_l_refused, b_l_refused := (fun_mk (st := st_l_refused) l_l_refused c_l_refused k_l_refused).binds (ps := ["_law_thing"]) (fun _ _ _ _ _ _ us hl => match us, hl with | [_], _ => rfl), f_law := _, d_law := _, F_law := fun_mk (st := st_law) l_law c_law k_law, g_law := PySem.W.mg_of X G a_law, b_law := (fun_mk (st := st_law) l_law c_law k_law).binds (ps := ["_law_script"]) (fun _ _ _ _ _ _ us hl => match us, hl with | [_], _ => rfl), m_isinstance := PySem.W.mg_none_of X G z_isinstance, m_int := PySem.W.mg_none_of X G z_int, m_bool := PySem.W.mg_none_of X G z_bool, m_reversed := PySem.W.mg_none_of X G z_reversed, m_len := PySem.W.mg_none_of X G z_len, m_range := PySem.W.mg_none_of X G z_range, m_min := PySem.W.mg_none_of X G z_min, m_list := PySem.W.mg_none_of X G z_list, m_ValueError := PySem.W.mg_none_of X G z_ValueError, eg_NoNumber := eg_NoNumber, ek_NoNumber := ek_NoNumber, ea_NoNumber := ea_NoNumber, ed_NoNumber := hd_NoNumber, em_NoNumber := em_NoNumber, i_NoNumber_StairError := kit_yes cl_StairError xt_StairError s_NoNumber_StairError, i_NoNumber_NoMove := kit_no cl_NoMove xt_NoMove s_NoNumber_NoNumber s_NoNumber_NoMove, i_NoNumber_NoNumber := kit_yes cl_NoNumber xt_NoNumber s_NoNumber_NoNumber, i_NoNumber_Short := kit_no cl_Short xt_Short s_NoNumber_NoNumber s_NoNumber_Short, i_NoNumber_NoSign := kit_no cl_NoSign xt_NoSign s_NoNumber_NoNumber s_NoNumber_NoSign, i_NoNumber_NoEnd := kit_no cl_NoEnd xt_NoEnd s_NoNumber_NoNumber s_NoNumber_NoEnd, i_NoNumber_VE := kit_ve s_NoNumber_VE, x_NoNumber_StairError := PySem.W.exm_ref xb_StairError hd_StairError xt_StairError s_NoNumber_StairError, en_ := en_, et_ := et_ }
  exact ⟨PySem.W.fnOf "law" "law" (defArgs st_law) (defBody st_law) (defScope st_law) .none kV_law dc_law pm_law an_law cd_law ct_law, fun s v => .of_eq rfl, fun base _ _ => ok_law T⟩
end K05
open PySem PySem.W PyProof.Rows
set_option maxHeartbeats 0 in
theorem PySem.Challenge.cw_shellstair_k05_a_row_holds : PySem.Challenge.rw_shellstair_k05_a_row.Holds := by
  w_on; o_law; k_head; (case hw => w_witness2)
  k_fill
  refine L2.walk_of (l := PySem.Challenge.rw_shellstair_k05_a_row) (n := 63) (k := 4) (x := "_law_script") (CX := fun _ => L2.CX0) (sp := fun w => K05.sp_law _) rfl (by decide) rfl ⟨rfl, by decide, by decide⟩ (fun w h Y => PySem.W.kIn_of Y) ?F (fun _ _ a ns hl _ hS => ⟨a, ns, rfl, hS, hl, fun _ => rfl⟩) (fun _ _ _ _ _ h => h)
  case F =>
    intro w mg fa h KX G hmg
    refine' K05.all_mk KX G hmg ?a_StairError ?k_StairError ?x_StairError ?xb_StairError ?xt_StairError ?a_NoMove ?k_NoMove ?x_NoMove ?xb_NoMove ?xt_NoMove ?a_NoNumber ?k_NoNumber ?x_NoNumber ?xb_NoNumber ?xt_NoNumber ?a_Short ?k_Short ?x_Short ?xb_Short ?xt_Short ?a_NoSign ?k_NoSign ?x_NoSign ?xb_NoSign ?xt_NoSign ?a_NoEnd ?k_NoEnd ?x_NoEnd ?xb_NoEnd ?xt_NoEnd ?a_is_number ?l_is_number ?c_is_number ?k_is_number ?a_still_heap ?l_still_heap ?c_still_heap ?k_still_heap ?a_row_of ?l_row_of ?c_row_of ?k_row_of ?a_l_cell_at ?l_l_cell_at ?c_l_cell_at ?k_l_cell_at ?a_l_whole ?l_l_whole ?c_l_whole ?k_l_whole ?a_l_worth ?l_l_worth ?c_l_worth ?k_l_worth ?a_l_number ?l_l_number ?c_l_number ?k_l_number ?a_l_weight ?l_l_weight ?c_l_weight ?k_l_weight ?a_l_still ?l_l_still ?c_l_still ?k_l_still ?a_l_refused ?l_l_refused ?c_l_refused ?k_l_refused ?a_law ?l_law ?c_law ?k_law ?z_isinstance ?z_int ?z_bool ?z_reversed ?z_len ?z_range ?z_min ?z_list ?z_ValueError ?cl_StairError ?hd_StairError ?cl_NoMove ?hd_NoMove ?cl_NoNumber ?hd_NoNumber ?cl_Short ?hd_Short ?cl_NoSign ?hd_NoSign ?cl_NoEnd ?hd_NoEnd ?s_NoNumber_StairError ?s_NoNumber_NoMove ?s_NoNumber_NoNumber ?s_NoNumber_Short ?s_NoNumber_NoSign ?s_NoNumber_NoEnd ?s_NoNumber_VE ?eg_NoNumber ?ek_NoNumber ?ea_NoNumber ?em_NoNumber ?en_ ?et_
    (case a_StairError => k_is); (case k_StairError => k_is); (case x_StairError => k_exc); (case xb_StairError => k_is); (case xt_StairError => k_is); (case a_NoMove => k_is)
    (case k_NoMove => k_is); (case x_NoMove => k_exc); (case xb_NoMove => k_is); (case xt_NoMove => k_is); (case a_NoNumber => k_is); (case k_NoNumber => k_is)
    (case x_NoNumber => k_exc); (case xb_NoNumber => k_is); (case xt_NoNumber => k_is); (case a_Short => k_is); (case k_Short => k_is); (case x_Short => k_exc)
    (case xb_Short => k_is); (case xt_Short => k_is); (case a_NoSign => k_is); (case k_NoSign => k_is); (case x_NoSign => k_exc); (case xb_NoSign => k_is)
    (case xt_NoSign => k_is); (case a_NoEnd => k_is); (case k_NoEnd => k_is); (case x_NoEnd => k_exc); (case xb_NoEnd => k_is); (case xt_NoEnd => k_is)
    (case a_is_number => k_is); (case l_is_number => k_is); (case c_is_number => k_is); (case k_is_number => k_is); (case a_still_heap => k_is); (case l_still_heap => k_is)
    (case c_still_heap => k_is); (case k_still_heap => k_is); (case a_row_of => k_is); (case l_row_of => k_is); (case c_row_of => k_is); (case k_row_of => k_is)
    (case a_l_cell_at => k_is); (case l_l_cell_at => k_is); (case c_l_cell_at => k_is); (case k_l_cell_at => k_is); (case a_l_whole => k_is); (case l_l_whole => k_is)
    (case c_l_whole => k_is); (case k_l_whole => k_is); (case a_l_worth => k_is); (case l_l_worth => k_is); (case c_l_worth => k_is); (case k_l_worth => k_is)
    (case a_l_number => k_is); (case l_l_number => k_is); (case c_l_number => k_is); (case k_l_number => k_is); (case a_l_weight => k_is); (case l_l_weight => k_is)
    (case c_l_weight => k_is); (case k_l_weight => k_is); (case a_l_still => k_is); (case l_l_still => k_is); (case c_l_still => k_is); (case k_l_still => k_is)
    (case a_l_refused => k_is); (case l_l_refused => k_is); (case c_l_refused => k_is); (case k_l_refused => k_is); (case a_law => k_is); (case l_law => k_is)
    (case c_law => k_is); (case k_law => k_is); (case z_isinstance => k_is); (case z_int => k_is); (case z_bool => k_is); (case z_reversed => k_is)
    (case z_len => k_is); (case z_range => k_is); (case z_min => k_is); (case z_list => k_is); (case z_ValueError => k_is); (case cl_StairError => k_is)
    (case hd_StairError => k_is); (case cl_NoMove => k_is); (case hd_NoMove => k_is); (case cl_NoNumber => k_is); (case hd_NoNumber => k_is); (case cl_Short => k_is)
    (case hd_Short => k_is); (case cl_NoSign => k_is); (case hd_NoSign => k_is); (case cl_NoEnd => k_is); (case hd_NoEnd => k_is); (case s_NoNumber_StairError => k_is)
    (case s_NoNumber_NoMove => k_is); (case s_NoNumber_NoNumber => k_is); (case s_NoNumber_Short => k_is); (case s_NoNumber_NoSign => k_is); (case s_NoNumber_NoEnd => k_is); (case s_NoNumber_VE => k_is)
    (case eg_NoNumber => k_is); (case ek_NoNumber => k_is); (case ea_NoNumber => k_is); (case em_NoNumber => k_is); (case en_ => k_is); (case et_ => k_is)
