import PyProof.Rows.All
import Wide.All
import OpenK.AllK
import Wide.FinOn
import HandS.ForMost
import HandS.ForExc
import HandS.Steps
import HandS.Evl
import HandS.Wide
import HandS.IsInst
import HandS.Style
import HandS.ExcIs
import HandS.Deep
import KE.KTryMore
import HandS.Exc
import HandS.ExcOwn
import HandS.Rev
import PySem.Challenge.RW_shellstair_k07_before_plus_minus
set_option Elab.async false
set_option linter.all false
set_option maxRecDepth 100000
set_option maxHeartbeats 1000000
namespace Sh
/-! the worth of a step, and weighted sums over a list of counts -/
def W : Nat → Int
  | 0 => 1
  | 1 => 2
  | n + 2 => W n + W (n + 1)
/-- f-weighted sum of the counts, the first one on step k -/
def S (f : Nat → Int) : Nat → List Int → Int
  | _, [] => 0
  | k, c :: r => c * f k + S f (k + 1) r
abbrev wt (xs : List Int) : Int := S W 0 xs
theorem W_pos : ∀ n, 0 < W n
  | 0 => by decide
  | 1 => by decide
  | n + 2 => by
    have h1 := W_pos n
    have h2 := W_pos (n + 1)
    show 0 < W n + W (n + 1)
    omega
theorem W_lt : ∀ n, W n < W (n + 1)
  | 0 => by decide
  | n + 1 => by
    have h1 := W_pos n
    show W (n + 1) < W n + W (n + 1)
    omega
theorem W_mono {i j : Nat} (h : i ≤ j) : W i ≤ W j := by
  induction j with
  | zero =>
    have : i = 0 := by omega
    subst this
    exact Int.le_refl _
  | succ j ih =>
    by_cases e : i = j + 1
    · subst e
      exact Int.le_refl _
    · have := ih (by omega)
      have := W_lt j
      omega
theorem W_ge : ∀ n : Nat, (n : Int) < W n
  | 0 => by decide
  | n + 1 => by
    have := W_ge n
    have := W_lt n
    omega
theorem W_bits : ∀ n, W n < 2 ^ (n + 1)
  | 0 => by decide
  | 1 => by decide
  | n + 2 => by
    have h1 := W_bits n
    have h2 := W_bits (n + 1)
    have e1 : (2 : Int) ^ (n + 2 + 1) = 4 * 2 ^ (n + 1) := by
      rw [Int.pow_succ, Int.pow_succ]
      omega
    have e2 : (2 : Int) ^ (n + 1 + 1) = 2 * 2 ^ (n + 1) := by rw [Int.pow_succ]; omega
    have h3 : (0 : Int) < 2 ^ (n + 1) := Int.pow_pos (by decide)
    show W n + W (n + 1) < 2 ^ (n + 2 + 1)
    rw [e2] at h2
    rw [e1]
    generalize (2 : Int) ^ (n + 1) = z at *
    omega
theorem W_bitsN (n : Nat) : (W n).natAbs < 2 ^ (n + 1) := by
  have h1 := W_bits n
  have h2 := W_pos n
  have e : ((2 ^ (n + 1) : Nat) : Int) = 2 ^ (n + 1) := by norm_cast
  omega
/-! sums -/
theorem S_nil (f : Nat → Int) (k : Nat) : S f k [] = 0 := rfl
theorem S_cons (f : Nat → Int) (k : Nat) (c : Int) (r : List Int) : S f k (c :: r) = c * f k + S f (k + 1) r := rfl
theorem S_append (f : Nat → Int) : ∀ (xs ys : List Int) (k : Nat), S f k (xs ++ ys) = S f k xs + S f (k + xs.length) ys
  | [], ys, k => by simp [S]
  | c :: r, ys, k => by
    have ih := S_append f r ys (k + 1)
    show c * f k + S f (k + 1) (r ++ ys) = c * f k + S f (k + 1) r + S f (k + (r.length + 1)) ys
    rw [ih, show k + 1 + r.length = k + (r.length + 1) by omega]
    omega
theorem S_one (f : Nat → Int) (k : Nat) (c : Int) : S f k [c] = c * f k := by simp [S]
theorem take_more {α : Type} {l : List α} {i : Nat} {x : α} (h : l[i]? = some x) : l.take (i + 1) = l.take i ++ [x] := by
  rw [List.take_succ, h]
  rfl
theorem S_take {f : Nat → Int} {xs : List Int} {i : Nat} {c : Int} (h : xs[i]? = some c) (k : Nat) : S f k (xs.take (i + 1)) = S f k (xs.take i) + c * f (k + i) := by
  have hl : i < xs.length := (List.getElem?_eq_some_iff.mp h).1
  rw [take_more h, S_append, S_one, List.length_take, Nat.min_eq_left (Nat.le_of_lt hl)]
theorem S_zeros (f : Nat → Int) : ∀ (n k : Nat), S f k (List.replicate n 0) = 0
  | 0, k => rfl
  | n + 1, k => by
    show 0 * f k + S f (k + 1) (List.replicate n 0) = 0
    rw [S_zeros f n, Int.zero_mul, Int.add_zero]
theorem S_nonneg {f : Nat → Int} (hf : ∀ k, 0 ≤ f k) : ∀ (xs : List Int) (k : Nat), (∀ x ∈ xs, 0 ≤ x) → 0 ≤ S f k xs
  | [], _, _ => Int.le_refl _
  | c :: r, k, h => by
    have h1 := S_nonneg hf r (k + 1) fun x hx => h x (List.mem_cons_of_mem _ hx)
    have h2 := Int.mul_nonneg (h c List.mem_cons_self) (hf k)
    show 0 ≤ c * f k + S f (k + 1) r
    omega
/-! 10 ** 60 -/
def T60 : Int := 10 ^ 60
theorem T60_eq : (10 : Int) ^ (60 : Int).toNat = T60 := by decide +kernel
theorem T60_pos : 0 < T60 := by decide +kernel
theorem T60_pos1 : 0 < T60 + 1 := by decide +kernel
theorem T60_bits : T60.natAbs < 2 ^ 200 := by decide +kernel
/-- a list that is no longer, no greater than a machine could not bear -/
structure Sm (ns : List Int) : Prop where
  len : ns.length ≤ 100000
  mag : ∀ x ∈ ns, x.natAbs < 2 ^ 1000
theorem small60 {x : Int} (h0 : 0 ≤ x) (h : x ≤ T60) : x.natAbs < 2 ^ 1000 := by
  have h1 := T60_bits
  have h2 : (2 : Nat) ^ 200 ≤ 2 ^ 1000 := by decide +kernel
  omega
/-! noughts at the end left out -/
def bare (xs : List Int) : List Int := (xs.reverse.dropWhile (· == 0)).reverse
theorem bare_zero (xs : List Int) : bare (xs ++ [0]) = bare xs := by
  unfold bare
  rw [List.reverse_append]
  rfl
theorem bare_snoc (xs : List Int) {c : Int} (h : c ≠ 0) : bare (xs ++ [c]) = xs ++ [c] := by
  unfold bare
  rw [List.reverse_append]
  show (List.dropWhile (· == 0) (c :: xs.reverse)).reverse = _
  rw [List.dropWhile_cons, if_neg (by simpa using h), List.reverse_cons, List.reverse_reverse]
theorem bare_nil : bare [] = [] := rfl
theorem snoc_of {α : Type} {xs : List α} (h : xs ≠ []) : ∃ ys c, xs = ys ++ [c] := ⟨xs.dropLast, xs.getLast h, (List.dropLast_concat_getLast h).symm⟩
/-- a list is its bare one and noughts -/
theorem bare_rest : ∀ (n : Nat) (xs : List Int), xs.length = n → ∃ k, xs = bare xs ++ List.replicate k 0
  | 0, xs, h => ⟨0, by rw [List.eq_nil_of_length_eq_zero h]; rfl⟩
  | n + 1, xs, h => by
    obtain ⟨ys, c, rfl⟩ := snoc_of (xs := xs) (by intro e; rw [e] at h; cases h)
    rw [List.length_append, List.length_singleton] at h
    by_cases hc : c = 0
    · subst hc
      obtain ⟨k, e⟩ := bare_rest n ys (by omega)
      refine ⟨k + 1, ?_⟩
      rw [bare_zero, List.replicate_succ', ← List.append_assoc, ← e]
    · refine ⟨0, ?_⟩
      rw [bare_snoc ys hc]
      simp
theorem bare_S (f : Nat → Int) (k : Nat) (xs : List Int) : S f k (bare xs) = S f k xs := by
  obtain ⟨n, e⟩ := bare_rest _ xs rfl
  have h := congrArg (S f k) e
  rw [S_append, S_zeros, Int.add_zero] at h
  exact h.symm
theorem bare_mem {xs : List Int} {x : Int} (h : x ∈ bare xs) : x ∈ xs := by
  obtain ⟨n, e⟩ := bare_rest _ xs rfl
  rw [e]
  exact List.mem_append_left _ h
theorem bare_len (xs : List Int) : (bare xs).length ≤ xs.length := by
  obtain ⟨n, e⟩ := bare_rest _ xs rfl
  have h := congrArg List.length e
  rw [List.length_append] at h
  omega
theorem bare_idem (xs : List Int) : bare (bare xs) = bare xs := by
  by_cases h : bare xs = []
  · rw [h]
    rfl
  · obtain ⟨ys, c, e⟩ := snoc_of h
    rw [e]
    refine bare_snoc ys ?_
    intro hc
    unfold bare at e
    have h2 := congrArg List.reverse e
    rw [List.reverse_reverse, List.reverse_append, List.reverse_singleton, List.singleton_append] at h2
    have h3 := List.head?_dropWhile_not (· == 0) xs.reverse
    rw [h2] at h3
    simp [hc] at h3
theorem getD_last (ys : List Int) (c : Int) : (ys ++ [c]).getD ((ys ++ [c]).length - 1) 0 = c := by
  rw [List.getD_eq_getElem?_getD, List.length_append, List.length_singleton, Nat.add_sub_cancel, List.getElem?_append_right (Nat.le_refl _), Nat.sub_self]
  rfl
theorem Sm.bare {xs : List Int} (h : Sm xs) : Sm (bare xs) := ⟨Nat.le_trans (bare_len xs) h.len, fun x hx => h.mag x (bare_mem hx)⟩
/-! still heaps: no step with two, no two neighbours (b: what lies beneath) -/
def stillB : Int → List Int → Bool
  | _, [] => true
  | b, m :: r => !(decide (1 < m) || (decide (0 < m) && decide (0 < b))) && stillB m r
theorem stillB_append : ∀ (xs ys : List Int) (b : Int), stillB b (xs ++ ys) = (stillB b xs && stillB (xs.getLastD b) ys)
  | [], ys, b => by simp [stillB]
  | m :: r, ys, b => by
    show (!(decide (1 < m) || (decide (0 < m) && decide (0 < b))) && stillB m (r ++ ys)) = (!(decide (1 < m) || (decide (0 < m) && decide (0 < b))) && stillB m r && stillB ((m :: r).getLastD b) ys)
    rw [stillB_append r ys m, Bool.and_assoc, List.getLastD_cons]
/-- what lies beneath step i -/
def prev (ns : List Int) (i : Nat) : Int := (ns.take i).getLastD 0
theorem prev_zero (ns : List Int) : prev ns 0 = 0 := by simp [prev]
theorem prev_succ {ns : List Int} {i : Nat} {m : Int} (h : ns[i]? = some m) : prev ns (i + 1) = m := by
  unfold prev
  rw [take_more h]
  simp
theorem stillB_take {ns : List Int} {i : Nat} {m : Int} (h : ns[i]? = some m) : stillB 0 (ns.take (i + 1)) = (stillB 0 (ns.take i) && !(decide (1 < m) || (decide (0 < m) && decide (0 < prev ns i)))) := by
  rw [take_more h, stillB_append]
  show (stillB 0 (ns.take i) && (!(decide (1 < m) || (decide (0 < m) && decide (0 < prev ns i))) && true)) = _
  rw [Bool.and_true]
theorem stillB_stop {ns : List Int} (i : Nat) (h : stillB 0 (ns.take i) = false) : stillB 0 ns = false := by
  have e : ns = ns.take i ++ ns.drop i := (List.take_append_drop i ns).symm
  rw [e, stillB_append, h, Bool.false_and]
theorem getD_of {ns : List Int} {i : Nat} {m : Int} (h : ns[i]? = some m) : ns.getD i 0 = m := by
  rw [List.getD_eq_getElem?_getD, h]
  rfl
theorem get_of {ns : List Int} {i : Nat} (h : i < ns.length) : ns[i]? = some (ns.getD i 0) := by
  rw [List.getD_eq_getElem?_getD, List.getElem?_eq_getElem h]
  rfl
end Sh

/-! Own words over the hand layer: what is evaluated without a change of the tracked heap (Val, Ans), loops with a word that stands over the entry's heap. -/
namespace Sh
open PySem PySem.Spec PyProof.Rows L2
section
variable {σ : L2.St} {H H0 H1 : Hp} {K : PySem.W.Frag} {ta tb tc te tl : TE} {tr : TA} {t u : TT} {x y z v : V} {vs : List V} {D : Ends} {ts tz tu : TS}
def Arg (ta : TA) (σ : L2.St) (H : Hp) (vs : List V) : Prop := ∀ Q : List V → Hp → Prop, Q vs H → ta σ H Q
theorem xg_nil : Arg tNil σ H [] := fun _ q => q
theorem xg_cons (h : Val te σ H v) (hr : Arg tr σ H vs) : Arg (tCons te tr) σ H (v :: vs) := fun _ q => h _ (hr _ q)
theorem xv_go {Q : VK} (h : Val te σ H v) (q : Q v H) : te σ H Q := h Q q
theorem xg_go {ta : TA} {Q : List V → Hp → Prop} (h : Arg ta σ H vs) (q : Q vs H) : ta σ H Q := h Q q
theorem xv_c {w : V} (e : v = w) : Val (tC v) σ H w := fun _ q => by
  subst e
  exact q
theorem xv_I0 {g : Int → Int → V} {i j : Int} (ha : Val ta σ H (.int i)) (hb : Val tb σ H (.int j)) : Val (tOp (rI0 g) ta tb) σ H (g i j) := val_op ha hb fun Q q => ⟨i, j, rfl, rfl, q⟩
theorem xv_I {C : Int → Int → Prop} {g : Int → Int → V} {i j : Int} (ha : Val ta σ H (.int i)) (hb : Val tb σ H (.int j)) (hc : C i j) : Val (tOp (rI C g) ta tb) σ H (g i j) := val_op ha hb fun Q q => ⟨i, j, rfl, rfl, hc, q⟩
theorem xv_U {g : Int → V} {i : Int} (ha : Val ta σ H (.int i)) : Val (tUn (rU g) ta) σ H (g i) := fun Q q => ha _ ⟨i, rfl, q⟩
theorem xv_eq (ha : Val ta σ H x) (hb : Val tb σ H y) (hs : scal x y = true) : Val (tOp rEq ta tb) σ H (.bl (decide (x = y))) := val_op ha hb fun Q q => ⟨hs, q⟩
theorem xv_ne (ha : Val ta σ H x) (hb : Val tb σ H y) (hs : scal x y = true) : Val (tOp rNe ta tb) σ H (.bl (!decide (x = y))) := val_op ha hb fun Q q => ⟨hs, q⟩
theorem xv_to {w : V} (h : Val te σ H v) (e : v = w) : Val te σ H w := e ▸ h
/-- len of a list -/
abbrev rLenQ (K : PySem.W.Frag) : List V → Hp → VK → Prop := fun xs H Q => ∃ p ys, xs = [.ref p] ∧ (SqL K H p ys ∨ SqT K H p ys) ∧ Q (.int ys.length) H
theorem xv_len {p : Addr} {xs : List V} (ha : Val ta σ H (.ref p)) (h : SqL K H p xs) : Val (tCB (rLenQ K) (tCons ta tNil)) σ H (.int (xs.length : Int)) := fun Q q => ha _ ⟨p, xs, rfl, .inl h, q⟩
theorem xv_lenI {p : Addr} {ns : List Int} (ha : Val ta σ H (.ref p)) (h : SqL K H p (ns.map V.int)) : Val (tCB (rLenQ K) (tCons ta tNil)) σ H (.int (ns.length : Int)) := fun Q q => ha _ ⟨p, _, rfl, .inl h, by rw [List.length_map]; exact q⟩
theorem xv_cb {r : List V → Hp → VK → Prop} {ta : TA} (h : Arg ta σ H vs) (hr : ∀ Q : VK, Q v H → r vs H Q) : Val (tCB r ta) σ H v := fun Q q => h _ (hr Q q)
/-- an int of a list at a place -/
theorem atI_int {ns : List Int} {i : Int} (h0 : 0 ≤ i) (h1 : i < ns.length) : atI (ns.map V.int) i = some (.int (ns.getD i.toNat 0)) := by
  obtain ⟨n, rfl⟩ := Int.eq_ofNat_of_zero_le h0
  have hn : n < ns.length := by omega
  refine atI_nat ?_
  rw [List.getElem?_map, List.getD_eq_getElem?_getD]
  show Option.map V.int ns[n]? = some (V.int (ns[n]?.getD 0))
  rw [List.getElem?_eq_getElem hn]
  rfl
theorem xv_ix {p : Addr} {ns : List Int} {i : Int} (ha : Val ta σ H (.ref p)) (hb : Val tb σ H (.int i)) (h : SqL K H p (ns.map V.int)) (h0 : 0 ≤ i) (h1 : i < ns.length) : Val (tOp (rIxL K) ta tb) σ H (.int (ns.getD i.toNat 0)) :=
  val_op ha hb fun Q q => ⟨p, _, i, _, rfl, rfl, h, atI_int h0 h1, q⟩
theorem xv_ixV {p : Addr} {xs : List V} {i : Int} (ha : Val ta σ H (.ref p)) (hb : Val tb σ H (.int i)) (h : SqL K H p xs) (hv : atI xs i = some v) : Val (tOp (rIxL K) ta tb) σ H v :=
  val_op ha hb fun Q q => ⟨p, _, i, _, rfl, rfl, h, hv, q⟩
theorem xv_ixT {p : Addr} {xs : List V} {i : Int} (ha : Val ta σ H (.ref p)) (hb : Val tb σ H (.int i)) (h : SqT K H p xs) (hv : atI xs i = some v) : Val (tOp (rIxT K) ta tb) σ H v :=
  val_op ha hb fun Q q => ⟨p, _, i, _, rfl, rfl, h, hv, q⟩
/-- a def whose promise gives a value and leaves the heap -/
theorem xv_call {sp : Sp} {E : XK} (h : Arg tr σ H vs) (hs : ∀ Q : VK, Q v H → sp (vs ++ []) H Q E) : Val (tCall sp [] E tr) σ H v := fun Q q => h _ (hs Q q)
theorem xv_and {a b : Bool} (h1 : Val ta σ H (.bl a)) (h2 : a = true → Val tb σ H (.bl b)) : Val (tAndV ta tb) σ H (.bl (a && b)) := fun Q q => h1 _ ⟨a, rfl, by
  cases a with
  | true => exact h2 rfl _ q
  | false => exact q⟩
theorem xv_or {a b : Bool} (h1 : Val ta σ H (.bl a)) (h2 : a = false → Val tb σ H (.bl b)) : Val (tOrV ta tb) σ H (.bl (a || b)) := fun Q q => h1 _ ⟨a, rfl, by
  cases a with
  | true => exact q
  | false => exact h2 rfl _ q⟩
theorem xv_not {a : Bool} (h1 : Val ta σ H (.bl a)) : Val (tNotV ta) σ H (.bl (!a)) := fun Q q => h1 _ ⟨a, rfl, q⟩
theorem xv_p60 : Val (tOp (rI CPow fun i j => .int (i ^ j.toNat)) (tC (.int 10)) (tC (.int 60))) σ H (.int T60) := fun Q q => ⟨10, 60, rfl, rfl, ⟨by decide, by decide, by decide⟩, by
  show Q (.int ((10 : Int) ^ (60 : Int).toNat)) H
  rw [T60_eq]
  exact q⟩
/-! tests -/
theorem xa_T {b : Bool} (h : Val te σ H (.bl b)) : Ans (tTest te) σ H b := fun Q q => h _ ⟨b, rfl, q⟩
theorem xa_B {b : Bool} (h : Val te σ H (.bl b)) : Ans (tB te) σ H b := fun Q q => h _ ⟨b, rfl, q⟩
theorem xa_not {a : Bool} (h : Ans t σ H a) : Ans (tNot t) σ H (!a) := fun Q q => h _ q
theorem xa_and {a b : Bool} (h1 : Ans t σ H a) (h2 : a = true → Ans u σ H b) : Ans (tAnd t u) σ H (a && b) := fun Q q => h1 _ (by
  cases a with
  | true => exact h2 rfl _ q
  | false => exact q)
theorem xa_or {a b : Bool} (h1 : Ans t σ H a) (h2 : a = false → Ans u σ H b) : Ans (tOr t u) σ H (a || b) := fun Q q => h1 _ (by
  cases a with
  | true => exact q
  | false => exact h2 rfl _ q)
/-! statements -/
theorem xs_par {i j : Nat} {w : V} {ta : TA} (h : Arg ta σ H [v, w]) (q : D.nx ((σ.set i (some v)).set j (some w)) H) : tPar i j ta D σ H := h _ ⟨v, w, rfl, q⟩
theorem xs_if {b : Bool} (h : Ans t σ H b) (h1 : b = true → ts D σ H) (h2 : b = false → tu D σ H) : tIfS t ts tu D σ H := h _ (by
  cases b with
  | true => exact h1 rfl
  | false => exact h2 rfl)
/-- an if without else, something behind it -/
theorem xs_when {b : Bool} (h : Ans t σ H b) (h1 : b = true → ts { D with nx := tz D } σ H) (h2 : b = false → tz D σ H) : tSeq (tIfS t ts tNext) tz D σ H := xs_if (D := { D with nx := tz D }) h h1 h2
/-- if c: x = e, told by what holds of x behind it -/
theorem xs_ifSet {Pv : V → Prop} {b : Bool} {i : Nat} {v0 : V} (h : Ans t σ H b) (hv : b = true → Val te σ H v) (p1 : b = true → Pv v) (p0 : b = false → Pv v0) (hs : σ.set i (some v0) = σ) (k : ∀ v, Pv v → tz D (σ.set i (some v)) H) :
    tSeq (tIfS t (tAsg te (gName i)) tNext) tz D σ H := xs_when h (fun hb => st_set (D := { D with nx := tz D }) (hv hb) (k v (p1 hb))) fun hb => by
  have q := k v0 (p0 hb)
  rw [hs] at q
  exact q
theorem xs_cut {Mid : L2.St → Hp → Prop} (h : ts { D with nx := Mid } σ H) (k : ∀ σ' H', Mid σ' H' → tz D σ' H') : Evl.tCut ts tz D σ H := ⟨Mid, h, k⟩
theorem xs_seq {D : Ends} (h : ts { D with nx := tz D } σ H) : tSeq ts tz D σ H := h
/-- a for over a list of ints, which stands at H0: what was tracked at H0 stays -/
theorem xs_forI {a : Addr} {ns : List Int} {j : Nat} (hv : Val tl σ H (.ref a)) (e0 : Same H0 H) (hx : SqL K H0 a (ns.map V.int)) (P : Nat → L2.St → Hp → Prop) (h0 : P 0 σ H)
    (hs : ∀ i n σ' H', Same H0 H' → ns[i]? = some n → P i σ' H' → ts { D with nx := fun s h => Same H0 h ∧ P (i + 1) s h, ct := fun s h => Same H0 h ∧ P (i + 1) s h, bk := D.nx } (σ'.set j (some (.int n))) H')
    (hd : ∀ σ' H', Same H0 H' → P ns.length σ' H' → D.nx σ' H') : tFor (iList K tl) (gName j) ts D σ H :=
  hv _ ⟨a, rfl, ⟨_, e0.seq hx⟩, for_list (xs := ns.map V.int) (fun i s h => Same H0 h ∧ P i s h) ⟨e0, h0⟩ (fun _ _ _ _ p => p.1.seq hx)
    (fun i x σ' H' hi p => by
      rw [List.getElem?_map] at hi
      cases e : ns[i]? with
      | none =>
        rw [e] at hi
        cases hi
      | some n =>
        rw [e] at hi
        cases hi
        exact hs i n σ' H' p.1 e p.2)
    (fun σ' H' p => by
      rw [List.length_map] at p
      exact hd σ' H' p.1 p.2)⟩
theorem xs_forV {a : Addr} {xs : List V} {g : TG} (hv : Val tl σ H (.ref a)) (e0 : Same H0 H) (hx : SqL K H0 a xs) (P : Nat → L2.St → Hp → Prop) (h0 : P 0 σ H)
    (hs : ∀ i x σ' H', Same H0 H' → xs[i]? = some x → P i σ' H' → g x σ' H' fun σ2 H2 => ts { D with nx := fun s h => Same H0 h ∧ P (i + 1) s h, ct := fun s h => Same H0 h ∧ P (i + 1) s h, bk := D.nx } σ2 H2)
    (hd : ∀ σ' H', Same H0 H' → P xs.length σ' H' → D.nx σ' H') : tFor (iList K tl) g ts D σ H :=
  hv _ ⟨a, rfl, ⟨_, e0.seq hx⟩, for_list (xs := xs) (fun i s h => Same H0 h ∧ P i s h) ⟨e0, h0⟩ (fun _ _ _ _ p => p.1.seq hx)
    (fun i x σ' H' hi p => hs i x σ' H' p.1 hi p.2) (fun σ' H' p => hd σ' H' p.1 p.2)⟩
/-- a for over range(n) -/
theorem xs_forR {ta : TA} {j : Nat} {n : Nat} (h : Arg ta σ H [.int (n : Int)]) (hn : n < 2 ^ 62) (P : Nat → L2.St → Hp → Prop) (h0 : P 0 σ H)
    (hs : ∀ (i : Nat) σ' H', i < n → P i σ' H' → ts { D with nx := P (i + 1), ct := P (i + 1), bk := D.nx } (σ'.set j (some (.int (i : Int)))) H')
    (hd : ∀ σ' H', P n σ' H' → D.nx σ' H') : tFor (iRng1 ta) (gName j) ts D σ H :=
  h _ ⟨(n : Int), rfl, by omega, by omega, for_range (lo := 0) (n := n) P h0 (fun i σ' H' hi p => by
    show ts { D with nx := P (i + 1), ct := P (i + 1), bk := D.nx } (σ'.set j (some (.int ((0 : Int) + (i : Int))))) H'
    rw [Int.zero_add]
    exact hs i σ' H' hi p) hd⟩
/-- a while whose test leaves the heap: a word and a measure -/
theorem xs_while (P : Nat → L2.St → Hp → Prop) (m0 : Nat) (h0 : P m0 σ H)
    (hs : ∀ m σ' H', P m σ' H' → ∃ b, Ans t σ' H' b ∧ (b = true → ts { D with nx := fun s h => ∃ m', m' < m ∧ P m' s h, ct := fun s h => ∃ m', m' < m ∧ P m' s h, bk := D.nx } σ' H') ∧ (b = false → D.nx σ' H')) : tWhile t ts D σ H :=
  ⟨P, ⟨m0, h0⟩, fun m σ' H' p => by
    obtain ⟨b, hb, h1, h2⟩ := hs m σ' H' p
    refine hb _ ?_
    cases b with
    | true => exact ⟨fun s h => ∃ m', m' < m ∧ P m' s h, fun _ _ z => z, h1 rfl⟩
    | false => exact h2 rfl⟩
/-! the same, something behind -/
theorem xq_set {i : Nat} (h : Val te σ H v) (q : tz D (σ.set i (some v)) H) : tSeq (tAsg te (gName i)) tz D σ H := st_set (D := { D with nx := tz D }) h q
/-- read by hand, step by step -/
theorem xr_ret (h : te σ H fun v H1 => D.rt v H1) : tRet te D σ H := h
theorem xr_and {Q : VK} (h : ta σ H fun x H1 => ∃ c, x = .bl c ∧ if c = true then tb σ H1 Q else Q (.bl false) H1) : tAndV ta tb σ H Q := h
theorem xr_call {sp : Sp} {E : XK} {Q : VK} (h : tr σ H fun vs H1 => sp (vs ++ []) H1 Q E) : tCall sp [] E tr σ H Q := h
theorem xr_cons {Q : List V → Hp → Prop} (h : te σ H fun x H1 => tr σ H1 fun xs H2 => Q (x :: xs) H2) : tCons te tr σ H Q := h
/-- x = e, e read by hand -/
theorem xq_run {i : Nat} (h : te σ H fun v H1 => tz D (σ.set i (some v)) H1) : tSeq (tAsg te (gName i)) tz D σ H := h
theorem xq_par {i j : Nat} {w : V} {ta : TA} (h : Arg ta σ H [v, w]) (q : tz D ((σ.set i (some v)).set j (some w)) H) : tSeq (tPar i j ta) tz D σ H := xs_par (D := { D with nx := tz D }) h q
theorem xq_if {b : Bool} (h : Ans t σ H b) (h1 : b = true → ts { D with nx := tz D } σ H) (h2 : b = false → tu { D with nx := tz D } σ H) : tSeq (tIfS t ts tu) tz D σ H := xs_if (D := { D with nx := tz D }) h h1 h2
theorem xq_forI {a : Addr} {ns : List Int} {j : Nat} (hv : Val tl σ H (.ref a)) (e0 : Same H0 H) (hx : SqL K H0 a (ns.map V.int)) (P : Nat → L2.St → Hp → Prop) (h0 : P 0 σ H)
    (hs : ∀ i n σ' H', Same H0 H' → ns[i]? = some n → P i σ' H' → ts { D with nx := fun s h => Same H0 h ∧ P (i + 1) s h, ct := fun s h => Same H0 h ∧ P (i + 1) s h, bk := tz D } (σ'.set j (some (.int n))) H')
    (hd : ∀ σ' H', Same H0 H' → P ns.length σ' H' → tz D σ' H') : tSeq (tFor (iList K tl) (gName j) ts) tz D σ H := xs_forI (D := { D with nx := tz D }) hv e0 hx P h0 hs hd
theorem xq_forV {a : Addr} {xs : List V} {g : TG} (hv : Val tl σ H (.ref a)) (e0 : Same H0 H) (hx : SqL K H0 a xs) (P : Nat → L2.St → Hp → Prop) (h0 : P 0 σ H)
    (hs : ∀ i x σ' H', Same H0 H' → xs[i]? = some x → P i σ' H' → g x σ' H' fun σ2 H2 => ts { D with nx := fun s h => Same H0 h ∧ P (i + 1) s h, ct := fun s h => Same H0 h ∧ P (i + 1) s h, bk := tz D } σ2 H2)
    (hd : ∀ σ' H', Same H0 H' → P xs.length σ' H' → tz D σ' H') : tSeq (tFor (iList K tl) g ts) tz D σ H := xs_forV (D := { D with nx := tz D }) hv e0 hx P h0 hs hd
theorem xq_forR {ta : TA} {j : Nat} {n : Nat} (h : Arg ta σ H [.int (n : Int)]) (hn : n < 2 ^ 62) (P : Nat → L2.St → Hp → Prop) (h0 : P 0 σ H)
    (hs : ∀ (i : Nat) σ' H', i < n → P i σ' H' → ts { D with nx := P (i + 1), ct := P (i + 1), bk := tz D } (σ'.set j (some (.int (i : Int)))) H')
    (hd : ∀ σ' H', P n σ' H' → tz D σ' H') : tSeq (tFor (iRng1 ta) (gName j) ts) tz D σ H := xs_forR (D := { D with nx := tz D }) h hn P h0 hs hd
theorem xq_while (P : Nat → L2.St → Hp → Prop) (m0 : Nat) (h0 : P m0 σ H)
    (hs : ∀ m σ' H', P m σ' H' → ∃ b, Ans t σ' H' b ∧ (b = true → ts { D with nx := fun s h => ∃ m', m' < m ∧ P m' s h, ct := fun s h => ∃ m', m' < m ∧ P m' s h, bk := tz D } σ' H') ∧ (b = false → tz D σ' H')) : tSeq (tWhile t ts) tz D σ H := xs_while (D := { D with nx := tz D }) P m0 h0 hs
end
/-! ### isinstance -/
section
variable {σ : L2.St} {H : Hp} {K : PySem.W.Frag} {ta : TE}
theorem tyx_L {a : Addr} {xs : List V} (h : SqL K H a xs) : TyX K H (.ref a) (.type "list") := by
  rcases h with (h | ⟨o, h⟩) | ⟨o, its, n, h, hc, _⟩
  · exact .base (.lst h)
  · exact .base (.frz h)
  · exact .kList h hc
theorem xv_isi {x : V} {T a : String} {b : Bool} (ha : Val ta σ H x) (ht : TyX K H x (.type a)) (hk : kitB a T = some b) : Val (tCB (rIsi K) (tCons ta (tCons (tC (.ty T)) tNil))) σ H (.bl b) :=
  fun Q q => ha _ ⟨x, .ty T, .type a, .type T, b, rfl, .ty T, ht, kit_ty hk, q⟩
end
/-! ### what makes new lists (over Evl) -/
section
open Evl
variable {σ : L2.St} {H H' H0 : Hp} {K : PySem.W.Frag} {ta tb tc te tl : TE} {tr : TA} {t u : TT} {x y z v : V} {xs ys vs : List V} {D : Ends} {ts tz tu : TS}
theorem xe_I0 {g : Int → Int → V} {i j : Int} (ha : Ev ta σ H (.int i)) (hb : Ev tb σ H (.int j)) : Ev (tOp (rI0 g) ta tb) σ H (g i j) := ev_op ha hb rv_I0
theorem xe_I {C : Int → Int → Prop} {g : Int → Int → V} {i j : Int} (ha : Ev ta σ H (.int i)) (hb : Ev tb σ H (.int j)) (hc : C i j) : Ev (tOp (rI C g) ta tb) σ H (g i j) := ev_op ha hb (rv_I hc)
theorem xe_p60 : Ev (tOp (rI CPow fun i j => .int (i ^ j.toNat)) (tC (.int 10)) (tC (.int 60))) σ H (.int T60) := fun H1 e Q q => xv_p60 _ (q H1 (Ex.refl H1))
theorem xe_len {p : Addr} (ha : Ev ta σ H (.ref p)) (h : SqL K H p xs) : Ev (tCB (rLenQ K) (tCons ta tNil)) σ H (.int (xs.length : Int)) := fun H1 e Q q => ha H1 e _ fun H2 e2 => ⟨p, xs, rfl, .inl (ex_l (e.trans e2) h), q H2 e2⟩
theorem xe_ix {p : Addr} {ns : List Int} {i : Int} (ha : Ev ta σ H (.ref p)) (hb : Ev tb σ H (.int i)) (h : SqL K H p (ns.map V.int)) (h0 : 0 ≤ i) (h1 : i < ns.length) : Ev (tOp (rIxL K) ta tb) σ H (.int (ns.getD i.toNat 0)) := ev_op ha hb (rv_ixL h (atI_int h0 h1))
theorem xl_rep {k : Int} (ha : EvL ta σ H xs) (hb : Ev tb σ H (.int k)) (hk : -(2 ^ 63) ≤ k ∧ k < 2 ^ 63) (hz : xs.length * k.toNat ≤ 100000) : EvL (tOp rRep ta tb) σ H (List.replicate k.toNat xs).flatten := fun H1 e Q q =>
  ha H1 e _ fun p H2 hp e2 h2 => hb H2 (e.trans e2) _ fun H3 e3 => ⟨p, k, xs, rfl, rfl, e3 p _ h2, hk.1, hk.2, sz_of hz, fun p3 h3 => q p3 _ (fresh_back (e2.trans e3) h3) ((e2.trans e3).trans (Ex.new h3)) upd_same⟩
theorem xl_cat {l : Addr} (ha : Ev ta σ H (.ref l)) (hl : H l = some (.lst xs)) (hb : EvL tb σ H ys) (hz : xs.length + ys.length ≤ 100000) : EvL (tOp rCat ta tb) σ H (xs ++ ys) := fun H1 e Q q =>
  ha H1 e _ fun H2 e2 => hb H2 (e.trans e2) _ fun p H3 hp e3 h3 => ⟨l, p, xs, ys, rfl, rfl, ((e.trans e2).trans e3) l _ hl, h3, sz_of hz, fun p4 h4 => q p4 _ (fresh_back (e2.trans e3) h4) ((e2.trans e3).trans (Ex.new h4)) upd_same⟩
theorem xl_catR {l : Addr} (ha : EvL ta σ H xs) (hb : Ev tb σ H (.ref l)) (hl : H l = some (.lst ys)) (hz : xs.length + ys.length ≤ 100000) : EvL (tOp rCat ta tb) σ H (xs ++ ys) := fun H1 e Q q =>
  ha H1 e _ fun p H2 hp e2 h2 => hb H2 (e.trans e2) _ fun H3 e3 => ⟨p, l, xs, ys, rfl, rfl, e3 p _ h2, ((e.trans e2).trans e3) l _ hl, sz_of hz, fun p4 h4 => q p4 _ (fresh_back (e2.trans e3) h4) ((e2.trans e3).trans (Ex.new h4)) upd_same⟩
theorem xl_catN (ha : EvL ta σ H xs) (hb : EvL tb σ H ys) (hz : xs.length + ys.length ≤ 100000) : EvL (tOp rCat ta tb) σ H (xs ++ ys) := fun H1 e Q q =>
  ha H1 e _ fun p H2 hp e2 h2 => hb H2 (e.trans e2) _ fun p3 H3 hp3 e3 h3 => ⟨p, p3, xs, ys, rfl, rfl, e3 p _ h2, h3, sz_of hz, fun p4 h4 => q p4 _ (fresh_back (e2.trans e3) h4) ((e2.trans e3).trans (Ex.new h4)) upd_same⟩
theorem xl_catV {l m : Addr} (ha : Ev ta σ H (.ref l)) (hl : H l = some (.lst xs)) (hb : Ev tb σ H (.ref m)) (hm : H m = some (.lst ys)) (hz : xs.length + ys.length ≤ 100000) : EvL (tOp rCat ta tb) σ H (xs ++ ys) := fun H1 e Q q =>
  ha H1 e _ fun H2 e2 => hb H2 (e.trans e2) _ fun H3 e3 => ⟨l, m, xs, ys, rfl, rfl, ((e.trans e2).trans e3) l _ hl, ((e.trans e2).trans e3) m _ hm, sz_of hz, fun p4 h4 => q p4 _ (fresh_back (e2.trans e3) h4) ((e2.trans e3).trans (Ex.new h4)) upd_same⟩
/-- list(xs) -/
abbrev rListQ (K : PySem.W.Frag) : List V → Hp → VK → Prop := fun xs H Q => ∃ p ys, xs = [.ref p] ∧ (SqL K H p ys ∨ SqT K H p ys) ∧ ∀ l, H l = none → Q (.ref l) (upd H l (.lst ys))
theorem xl_listQ {p : Addr} (ha : Ev ta σ H (.ref p)) (h : SqL K H p xs) : EvL (tCB (rListQ K) (tCons ta tNil)) σ H xs := fun H1 e Q q =>
  ha H1 e _ fun H2 e2 => ⟨p, xs, rfl, .inl (ex_l (e.trans e2) h), fun l hl => q l _ (fresh_back e2 hl) (e2.trans (Ex.new hl)) upd_same⟩
theorem xl_revL {p : Addr} (ha : Ev ta σ H (.ref p)) (h : SqL K H p xs) : EvL (tRevL K ta) σ H xs.reverse := fun H1 e Q q =>
  ha H1 e _ fun H2 e2 => ⟨p, xs, rfl, ex_l (e.trans e2) h, fun l hl => q l _ (fresh_back e2 hl) (e2.trans (Ex.new hl)) upd_same⟩
/-- [0] * n, of ints -/
theorem flat_rep (k : Nat) (c : Int) : (List.replicate k [V.int c]).flatten = (List.replicate k c).map V.int := by
  induction k with
  | zero => rfl
  | succ k ih => rw [List.replicate_succ, List.flatten_cons, ih] <;> rfl
theorem cut_all (xs : List V) (a b : Nat) : cutV xs (some (a : Int)) (some (b : Int)) = (xs.take b).drop a := by
  unfold cutV
  rw [show HT.sIx xs.length 0 (some (a : Int)) = min a xs.length from HT.sIx_nat xs.length 0 a, show HT.sIx xs.length xs.length (some (b : Int)) = min b xs.length from HT.sIx_nat xs.length xs.length b]
  rw [List.drop_take]
  by_cases ha : a ≤ xs.length
  · have e1 : min a xs.length = a := Nat.min_eq_left ha
    rw [e1]
    by_cases hb : b ≤ xs.length
    · rw [Nat.min_eq_left hb]
    · have e2 : min b xs.length = xs.length := Nat.min_eq_right (by omega)
      rw [e2, List.take_of_length_le (by rw [List.length_drop]; omega), List.take_of_length_le (by rw [List.length_drop]; omega)]
  · have e1 : min a xs.length = xs.length := Nat.min_eq_right (by omega)
    rw [e1, List.drop_length, List.drop_of_length_le (by omega)]
    simp
theorem cut_lo (xs : List V) (a : Nat) : cutV xs (some (a : Int)) none = xs.drop a := by
  unfold cutV
  rw [show HT.sIx xs.length 0 (some (a : Int)) = min a xs.length from HT.sIx_nat xs.length 0 a, HT.sIx_none]
  by_cases ha : a ≤ xs.length
  · rw [Nat.min_eq_left ha, List.take_of_length_le (by rw [List.length_drop]; omega)]
  · rw [Nat.min_eq_right (by omega), List.drop_length, List.drop_of_length_le (by omega)]
    simp
theorem cut_hi (xs : List V) (b : Nat) : cutV xs none (some (b : Int)) = xs.take b := by
  have h := cut_all xs 0 b
  rw [List.drop_zero] at h
  rw [← h]
  unfold cutV
  rw [HT.sIx_none, show HT.sIx xs.length 0 (some ((0 : Nat) : Int)) = min 0 xs.length from HT.sIx_nat xs.length 0 0, Nat.zero_min]
theorem cut_int {ns : List Int} {a b : Int} (ha : 0 ≤ a) (hb : 0 ≤ b) : cutV (ns.map V.int) (some a) (some b) = ((ns.take b.toNat).drop a.toNat).map V.int := by
  obtain ⟨x, rfl⟩ := Int.eq_ofNat_of_zero_le ha
  obtain ⟨y, rfl⟩ := Int.eq_ofNat_of_zero_le hb
  rw [List.map_drop, List.map_take]
  exact cut_all _ x y
/-- [e for x in xs], xs a new list of ints, e's value F x -/
theorem xl_mapI {cs : List Int} {F : Int → V} {j : Nat} {ws : List Nat} (h : EvL tl σ H (cs.map V.int)) (hz : cs.length ≤ 40000) (hw : ∀ x, wipe ((wipe σ ws).set j (some x)) ws = wipe σ ws)
    (he : ∀ x H1, Ex H H1 → x ∈ cs → Ev te ((wipe σ ws).set j (some (.int x))) H1 (F x)) : EvL (tLc (iList K tl) (gName j) tYes te ws) σ H (cs.map F) := by
  have r := el_lcNL (K := K) (vs := ws) (j := j) (t := tYes) (fun _ => true) (fun i => F (cs.getD i 0)) h (by rw [List.length_map]; exact hz) hw (fun i x H1 e hi => fun H2 e2 Q q => q H2 (Ex.refl H2)) (te := te) (fun i x H1 e hi _ => by
    rw [List.getElem?_map] at hi
    cases hc : cs[i]? with
    | none =>
      rw [hc] at hi
      cases hi
    | some c =>
      rw [hc] at hi
      cases hi
      rw [getD_of hc]
      exact he c H1 e (List.mem_of_getElem? hc))
  have e : given (cs.map V.int).length (fun _ => true) (fun i => F (cs.getD i 0)) = cs.map F := by
    unfold given
    rw [List.filter_eq_self.mpr (fun _ _ => rfl), List.length_map]
    refine List.ext_getElem? fun i => ?_
    rw [List.getElem?_map, List.getElem?_map]
    by_cases hi : i < cs.length
    · rw [List.getElem?_range hi, get_of hi]
      rfl
    · rw [List.getElem?_eq_none (by rw [List.length_range]; omega), List.getElem?_eq_none (by omega)]
      rfl
  rw [e] at r
  exact r
/-- what was tracked ahead of a list's making stays when that list is changed -/
theorem same_mut {p : Addr} {o : HO} (e : Same H H') (h : H p = none) : Same H (upd H' p o) := Ex.mut e h
end
/-! ### while len(xs) > 0 and xs[len(xs) - 1] == 0: xs.pop() -/
section
variable {σ : L2.St} {H : Hp} {K : PySem.W.Frag} {D : Ends}
theorem xs_pops {i : Nat} {l : Addr} {xs : List Int} (hσ : σ[i]? = some (some (.ref l))) (hl : H l = some (.lst (xs.map V.int)))
    (q : ∀ H', (∀ b, b ≠ l → H' b = H b) → H' l = some (.lst ((bare xs).map V.int)) → D.nx σ H') :
    tWhile (tAnd (tTest (tOp (rI0 fun i j => .bl (decide (j < i))) (tCB (rLenQ K) (tCons (tVar i) tNil)) (tC (.int 0))))
      (tTest (tOp rEq (tOp (rIxL K) (tVar i) (tOp (rI0 fun i j => .int (i - j)) (tCB (rLenQ K) (tCons (tVar i) tNil)) (tC (.int 1)))) (tC (.int 0)))))
      (tDrop (tBM0 K "list" rPop (tVar i))) D σ H := by
  refine xs_while (fun m s H' => ∃ ys : List Int, s = σ ∧ (∀ b, b ≠ l → H' b = H b) ∧ H' l = some (.lst (ys.map V.int)) ∧ bare ys = bare xs ∧ ys.length = m) _ ⟨xs, rfl, fun _ _ => rfl, hl, rfl, rfl⟩ ?_
  rintro m s H' ⟨ys, rfl, e3, h3, hb, rfl⟩
  refine ⟨_, xa_and (xa_T (xv_I0 (xv_lenI (val_var hσ) (SqL.of h3)) val_c)) fun hc => xa_T (xv_eq (xv_ix (val_var hσ) (xv_I0 (xv_lenI (val_var hσ) (SqL.of h3)) val_c) (SqL.of h3) (by
    have := of_decide_eq_true hc
    omega) (by omega)) val_c rfl), fun hc => ?_, fun hc => ?_⟩
  · rw [Bool.and_eq_true] at hc
    obtain ⟨c1, c2⟩ := hc
    have c1 := of_decide_eq_true c1
    have c2 := V.int.inj (of_decide_eq_true c2)
    obtain ⟨zs, c, rfl⟩ := snoc_of (xs := ys) (by
      rintro rfl
      simp at c1)
    rw [show (((zs ++ [c]).length : Int) - 1).toNat = (zs ++ [c]).length - 1 by omega, getD_last] at c2
    subst c2
    refine ⟨.ref l, hσ, .inl ⟨rfl, _, SqL.of h3⟩, l, _, .int 0, rfl, rfl, h3, ?_, ?_⟩
    · rw [List.length_map, List.getElem?_map, List.length_append, List.length_singleton, Nat.add_sub_cancel, List.getElem?_append_right (Nat.le_refl _), Nat.sub_self]
      rfl
    · refine ⟨zs.length, by rw [List.length_append, List.length_singleton]; omega, zs, rfl, fun b hb => by rw [upd_ne hb]; exact e3 b hb, ?_, ?_, rfl⟩
      · rw [upd_same, List.map_append, List.map_singleton, List.dropLast_concat]
      · rw [← hb, bare_zero]
  · have hy : bare ys = ys := by
      by_cases h0 : ys = []
      · rw [h0]
        rfl
      · obtain ⟨zs, c, rfl⟩ := snoc_of h0
        refine bare_snoc zs fun e => ?_
        subst e
        have c1 := of_decide_eq_false (Bool.and_eq_false_imp.mp hc (decide_eq_true (by rw [List.length_append, List.length_singleton]; omega)))
        refine c1 ?_
        have e9 : (((zs ++ [(0 : Int)]).length : Int) - 1).toNat = (zs ++ [(0 : Int)]).length - 1 := by omega
        rw [e9, getD_last]
    refine q H' e3 ?_
    rw [h3, ← hb, hy]
theorem xq_pops {tz : TS} {i : Nat} {l : Addr} {xs : List Int} (hσ : σ[i]? = some (some (.ref l))) (hl : H l = some (.lst (xs.map V.int)))
    (q : ∀ H', (∀ b, b ≠ l → H' b = H b) → H' l = some (.lst ((bare xs).map V.int)) → tz D σ H') :
    tSeq (tWhile (tAnd (tTest (tOp (rI0 fun i j => .bl (decide (j < i))) (tCB (rLenQ K) (tCons (tVar i) tNil)) (tC (.int 0))))
      (tTest (tOp rEq (tOp (rIxL K) (tVar i) (tOp (rI0 fun i j => .int (i - j)) (tCB (rLenQ K) (tCons (tVar i) tNil)) (tC (.int 1)))) (tC (.int 0)))))
      (tDrop (tBM0 K "list" rPop (tVar i)))) tz D σ H := xs_pops (D := { D with nx := tz D }) hσ hl q
end
/-! ### lists of ints compared -/
section
variable {σ : L2.St} {H : Hp} {K : PySem.W.Frag} {ta tb : TE}
theorem dpAll_int (ns : List Int) : DpAll K H (ns.map V.int) (ns.map PyData.int) := by
  induction ns with
  | nil => exact .nil
  | cons n r ih => exact .cons (.int n) ih
theorem eqvAll_int : ∀ ns ms : List Int, PyData.eqvAll (ns.map PyData.int) (ms.map PyData.int) = decide (ns = ms)
  | [], [] => by simp [PyData.eqvAll]
  | [], m :: ms => by simp [PyData.eqvAll]
  | n :: ns, [] => by simp [PyData.eqvAll]
  | n :: ns, m :: ms => by
    show (n == m && PyData.eqvAll (ns.map PyData.int) (ms.map PyData.int)) = decide (n :: ns = m :: ms)
    rw [eqvAll_int ns ms]
    by_cases h : n = m
    · subst h
      by_cases h2 : ns = ms
      · subst h2
        simp
      · simp [h2]
    · simp [h]
theorem eqv_int (ns ms : List Int) : PyData.eqv (.list (ns.map PyData.int)) (.list (ms.map PyData.int)) = decide (ns = ms) := by
  rw [← eqvAll_int]
  simp [PyData.eqv]
theorem canLayAll_int : ∀ ns : List Int, PyData.canLayAll0 (ns.map PyData.int) = true
  | [] => rfl
  | n :: ns => by
    show (true && PyData.canLayAll0 (ns.map PyData.int)) = true
    rw [canLayAll_int ns]
    rfl
theorem depthAll_int : ∀ ns : List Int, PyData.depthAll (ns.map PyData.int) ≤ 1
  | [] => by simp [PyData.depthAll]
  | n :: ns => by
    have := depthAll_int ns
    simp only [List.map_cons, PyData.depthAll, PyData.depth]
    omega
theorem shaped_int (ns : List Int) : SeqAt.shaped (.list (ns.map PyData.int)) = true := by
  unfold SeqAt.shaped
  rw [Bool.and_eq_true]
  refine ⟨canLayAll_int ns, decide_eq_true ?_⟩
  have := depthAll_int ns
  simp only [PyData.depth]
  omega
/-- xs == ys, xs != ys of lists of ints -/
theorem xv_eqL {a b : Addr} {ns ms : List Int} (ha : Val ta σ H (.ref a)) (hb : Val tb σ H (.ref b)) (h1 : SqL K H a (ns.map V.int)) (h2 : SqL K H b (ms.map V.int)) : Val (tOp (rEqD K) ta tb) σ H (.bl (decide (ns = ms))) :=
  val_op ha hb fun Q q => ⟨_, _, .lst h1 (dpAll_int ns), .lst h2 (dpAll_int ms), shaped_int ns, shaped_int ms, by rw [eqv_int]; exact q⟩
theorem xv_neL {a b : Addr} {ns ms : List Int} (ha : Val ta σ H (.ref a)) (hb : Val tb σ H (.ref b)) (h1 : SqL K H a (ns.map V.int)) (h2 : SqL K H b (ms.map V.int)) : Val (tOp (rNeD K) ta tb) σ H (.bl (!decide (ns = ms))) :=
  val_op ha hb fun Q q => ⟨_, _, .lst h1 (dpAll_int ns), .lst h2 (dpAll_int ms), shaped_int ns, shaped_int ms, by rw [eqv_int]; exact q⟩
end
end Sh

/-! Own words for exceptions: isinstance of what an except suite holds, with the class told by the reading. -/
namespace Sh
open PySem PySem.Spec PyProof.Rows L2
theorem units65 {k : Nat} {A : Around} (hr : Room k A) : A.units + 65 < cLine := by have := hr.un; omega
section
variable {K : PySem.W.Frag} {D Y : Addr}
theorem kit_yes (hc : PySem.W.isClsIn K Y = true) (ht : PySem.W.typeIn K (.ref Y) = some (.type "type")) (hs : PySem.W.subIn K (.ref D) (.ref Y) = some true) : PySem.W.kitOne K (.ref D) (.ref Y) = some true := by
  have e2 : ((PySem.W.clsIn K Y).isSome && PySem.W.typeIn K (.ref Y) == some (.type "type")) = true := by
    have h2 : (PySem.W.clsIn K Y).isSome = true := hc
    rw [h2, ht]
    rfl
  unfold PySem.W.kitOne
  split
  · rfl
  · show (if ((PySem.W.clsIn K Y).isSome && PySem.W.typeIn K (.ref Y) == some (.type "type")) = true then PySem.W.subIn K (.ref D) (.ref Y) else none) = some true
    rw [if_pos e2, hs]
theorem kit_no (hc : PySem.W.isClsIn K Y = true) (ht : PySem.W.typeIn K (.ref Y) = some (.type "type")) (h0 : PySem.W.subIn K (.ref D) (.ref D) = some true) (hs : PySem.W.subIn K (.ref D) (.ref Y) = some false) : PySem.W.kitOne K (.ref D) (.ref Y) = some false := by
  have e2 : ((PySem.W.clsIn K Y).isSome && PySem.W.typeIn K (.ref Y) == some (.type "type")) = true := by
    have h2 : (PySem.W.clsIn K Y).isSome = true := hc
    rw [h2, ht]
    rfl
  unfold PySem.W.kitOne
  split
  · rename_i e
    have e3 : Value.ref D = Value.ref Y := beq_iff_eq.mp e
    cases e3
    rw [h0] at hs
    cases hs
  · show (if ((PySem.W.clsIn K Y).isSome && PySem.W.typeIn K (.ref Y) == some (.type "type")) = true then PySem.W.subIn K (.ref D) (.ref Y) else none) = some false
    rw [if_pos e2, hs]
theorem kit_ve (hs : PySem.W.subIn K (.ref D) (.type "ValueError") = some true) : PySem.W.kitOne K (.ref D) (.type "ValueError") = some true := by
  unfold PySem.W.kitOne
  rw [if_neg (by intro e; cases (beq_iff_eq.mp e))]
  show (if PySem.W.kitMeta "ValueError" = true then PySem.W.subIn K (.ref D) (.type "ValueError") else none) = some true
  rw [if_pos (by decide +kernel), hs]
end
/-- isinstance of what an except suite holds: its class as the reading tells it -/
def rIsX (K : PySem.W.Frag) (a : Addr) (cls : Value) (d : Option Addr) : List V → Hp → VK → Prop := fun xs H Q => ∃ (D : Addr), cls = .ref D ∧ d = none ∧ ExcC K D ∧ rIsE K D a xs H Q
theorem call_isX {X : Cx} {K : PySem.W.Frag} {a : Addr} {oe : Obj} {pn : List (Addr × Obj)} {cls : Value} {d : Option Addr} (hK : X.K = K) (hz : Zc cls d oe) (hf : ∃ vs, oe.data = .fields vs) : CallR (X.suite a ((a, oe) :: pn)) (.builtin "isinstance") (rIsX K a cls d) := by
  subst hK
  rintro pins s σ H xs us Q I r ⟨D, rfl, rfl, C, h⟩
  exact call_isE C hz hf pins s σ H xs us Q I r h
section
variable {σ : L2.St} {H : Hp} {K : PySem.W.Frag} {ta tb : TE} {a D : Addr}
theorem xv_isX {b : Bool} {c : V} {cv : Value} (ha : Val ta σ H (.ref a)) (hb : Val tb σ H c) (hE : ExcC K D) (hc : ∀ u, RelV c u → u = cv) (hk : PySem.W.kitOne K (.ref D) cv = some b) : Val (tCB (rIsX K a (.ref D) none) (tCons ta (tCons tb tNil))) σ H (.bl b) :=
  fun Q q => ha _ (hb _ ⟨D, rfl, rfl, hE, c, cv, b, rfl, hc, hk, q⟩)
theorem xv_isC {b : Bool} {C : Addr} (ha : Val ta σ H (.ref a)) (hE : ExcC K D) (hk : PySem.W.kitOne K (.ref D) (.ref C) = some b) : Val (tCB (rIsX K a (.ref D) none) (tCons ta (tCons (tC (.ref C)) tNil))) σ H (.bl b) :=
  xv_isX ha val_c hE (fun u r => r) hk
theorem xv_isT {b : Bool} {n : String} (ha : Val ta σ H (.ref a)) (hE : ExcC K D) (hk : PySem.W.kitOne K (.ref D) (.type n) = some b) : Val (tCB (rIsX K a (.ref D) none) (tCons ta (tCons (tC (.ty n)) tNil))) σ H (.bl b) :=
  xv_isX ha val_c hE (fun u r => r) hk
end
/-- try: f(..) except C as n: suite -/
theorem xq_try {σ : L2.St} {H : Hp} {K : PySem.W.Frag} {D : Ends} {tz : TS} {sp : Sp} {c : Value} {i : Nat} {ts : Addr → Value → Option Addr → TS} {Wout : WX} {ta : TA} {vs : List V} (h : Arg ta σ H vs)
    (q : sp vs H (fun _ H1 => tz D σ H1) (fun cls d H' => wAs K c i ts Wout { D with nx := tz D } cls d σ H')) : tSeq (fun D σ H => tDrop (tCallS sp (WE (wAs K c i ts Wout D)) ta) D σ H) tz D σ H := h _ q
end Sh

/-! An own rule of the layer: try: body / except (A, B, ..): a suite that is never reached / except C as n: suite. -/
namespace Sh
open PySem PySem.Spec PyProof.Rows L2
/-- the names in the tuple of a clause, and the classes that they stand for -/
inductive TNames (X : Cx) : List Expr → List Value → Prop
  | nil : TNames X [] []
  | cons {x : Str} {p : Pos} {c : Value} {es : List Expr} {cs : List Value} (hc : Names X x c) (r : TNames X es cs) : TNames X (.Name x p :: es) (c :: cs)
/-- a tuple of such many classes is told of -/
def TupTold (cs : List Value) : Prop := ∀ {M : Model} {K : PySem.W.Frag} {cls : Value} {tp e : Addr} {b : Bool} {h : Heap}, K.In h → PySem.W.Looks M h (typeOf (.ref e)) cls → h.get? tp = some { cls := .type "tuple", data := .seq cs.toArray } → PySem.W.exmAny K cls cs = some b →
  PySem.W.Looks M h (excMatches (.ref e) (.ref tp)) b
theorem told2 {c1 c2 : Value} : TupTold [c1, c2] := fun X L hp hx => PySem.W.exm_tup2 X L hp hx
theorem told4 {c1 c2 c3 c4 : Value} : TupTold [c1, c2, c3, c4] := fun X L hp hx => PySem.W.exm_tup4 X L hp hx
theorem any_no {K : PySem.W.Frag} {cls c : Value} {r : List Value} (h : PySem.W.exmOne K cls c = some false) (hr : PySem.W.exmAny K cls r = some false) : PySem.W.exmAny K cls (c :: r) = some false := by
  unfold PySem.W.exmAny
  rw [h, hr]
  rfl
theorem fly_push {B : Heap} {l : List Env} {a : Addr} {Z : Obj → Prop} {h : Heap} (o : Obj) (f : HandSPX.FlyingZ B l a Z h) : HandSPX.FlyingZ B l a Z (h.push o) := by
  obtain ⟨k1, k2, k3, oe, vs, T, oT, ts, he, hz, hd, h1, hnT, hTe, hT, hdT, h3⟩ := f
  exact ⟨fun b o' e => Heap.get?_push_of_some _ (k1 b o' e), k2, k3.of_keeps fun b o' e _ => ⟨o', Heap.get?_push_of_some _ e, rfl⟩, oe, vs, T, oT, ts, Heap.get?_push_of_some _ he, hz, hd, h1, hnT, hTe, Heap.get?_push_of_some _ hT, hdT, h3⟩
/-- what the two clauses wish of an exception: the tuple does not take it, the second one as ever -/
def wTwo (K : PySem.W.Frag) (cs : List Value) (c : Value) (i : Nat) (ts : Addr → Value → Option Addr → TS) (Wout : WX) (D : Ends) : WX := fun cls d σ H => PySem.W.exmAny K cls cs = some false ∧ wAs K c i ts Wout D cls d σ H
section
variable {X : Cx} {x n : Str} {c : Value} {cs : List Value} {es : List Expr} {i : Nat} {body suite s₀ : List Stmt} {b₀ b₁ : Stmt} {np pos pos' p0 p1 : Pos} {kk : Nat} {tb : WX → TS} {ts : Addr → Value → Option Addr → TS} {Wout : WX}
/-- one name of a class, read while a is handled: nothing changes -/
theorem name_run {a : Addr} {pn : List (Addr × Obj)} {σ : L2.St} {H : Hp} {s : Shared} {E : Value → Shared → Prop} {Q : Value → Shared → Prop} {p : Pos} (S : Inv (X.suite a pn) [] σ H s) (hc : Names X x c) (q : Q c s) : wpAny (model X.prog X.w) (X.A.mark (some (.ref a))) (eval (.Name x p) X.env) Q E s := by
  rcases hc with ⟨gl, nd, own | ⟨no, bt, nn⟩⟩
  · exact ld_glob (X := X.suite a pn) S gl own q nd
  · exact ld_blt (X := X.suite a pn) S gl no bt q nn nd
/-- the names of the tuple, one after the other -/
theorem names_run {a : Addr} {pn : List (Addr × Obj)} {σ : L2.St} {H : Hp} {s : Shared} {E : Value → Shared → Prop} {ps : Pos} (S : Inv (X.suite a pn) [] σ H s) : ∀ {es : List Expr} {cs : List Value}, TNames X es cs → ∀ {Q : List Value → Shared → Prop}, Q cs s →
    wpAny (model X.prog X.w) (X.A.mark (some (.ref a))) (spliced (backTo ps (starEach es X.env))) Q E s
  | [], [], _, _, q => spliced_none q
  | _ :: _, _ :: _, .cons hc r, _, q => spliced_more (name_run S hc (names_run S r q))
/-- an exception that lies before the clauses: a lies at h, nothing else has changed since sI -/
structure Lies (X : Cx) (pins : List (Addr × Obj)) (σ : L2.St) (H : Hp) (B : Heap) (a : Addr) (cls : Value) (d : Option Addr) (sI s : Shared) : Prop where
  inv : Inv X pins σ H sI
  nb : ∀ b o, sI.heap.get? b = some o → b ∉ frs X.stack → B.get? b = some o
  up : sI.heap.UpToSlots s.heap
  fly : HandSPX.FlyingZ B (X.env :: X.outer) a (Zc cls d) s.heap
  na : H a = none
  os : s.os = sI.os
  ag : AllBare s.gens
section
variable {pins : List (Addr × Obj)} {σ : L2.St} {H : Hp} {B : Heap} {a : Addr} {cls : Value} {d : Option Addr} {sI s : Shared}
theorem Lies.here (L : Lies X pins σ H B a cls d sI s) : Inv X pins σ H s := L.inv.landed L.nb L.fly.1 L.up L.os L.ag
theorem Lies.heap (L : Lies X pins σ H B a cls d sI s) {h : Heap} (f : HandSPX.FlyingZ B (X.env :: X.outer) a (Zc cls d) h) (u : s.heap.UpToSlots h) : Lies X pins σ H B a cls d sI { s with heap := h } := ⟨L.inv, L.nb, L.up.trans u, f, L.na, L.os, L.ag⟩
theorem Lies.push (L : Lies X pins σ H B a cls d sI s) (o : Obj) : Lies X pins σ H B a cls d sI { s with heap := s.heap.push o } := L.heap (fly_push o L.fly) (Heap.UpToSlots.of_keeps fun _ _ e => Heap.get?_push_of_some _ e)
theorem Lies.suiteOf (L : Lies X pins σ H B a cls d sI s) (hf : X.env.frame = some X.env.locals) : ∃ oe vs, s.heap.get? a = some oe ∧ Zc cls d oe ∧ oe.data = .fields vs ∧ Inv (X.suite a ((a, oe) :: (X.pn ++ pins))) [] σ H s := by
  obtain ⟨oe, vs, he, hz, hd⟩ := L.fly.there
  have nfr : a ∉ frs (X.env :: X.outer) := fun hm => by
    obtain ⟨_, o', e', hnf⟩ := L.fly.2.2.1.mem hm
    rw [he] at e'
    cases e'
    exact hnf _ hd
  refine ⟨oe, vs, he, hz, hd, L.here.suite he hd L.na (fun z => nfr (List.mem_filterMap.mpr ⟨X.env, List.mem_cons_self, by rw [hf, z]⟩)) fun hm => ?_⟩
  obtain ⟨e, he2, q⟩ := List.mem_filterMap.mp hm
  exact nfr (List.mem_filterMap.mpr ⟨e, List.mem_cons_of_mem _ he2, q⟩)
/-- no clause is left: it flies on -/
theorem Lies.on {D : Ends} (L : Lies X pins σ H B a cls d sI s) (hs : X.stack = X.env :: X.outer) (hf : X.env.frame = some X.env.locals) (tk : Takes X Wout) (w : Wout cls d σ H) : wpAny (model X.prog X.w) X.A (handleBy (.ref a) X.env []) (SP X pins D) X.xe s := by
  have away : wpAny (model X.prog X.w) X.A (setFlight (.ref a) X.env.frame) (fun _ s2 => wpAny (model X.prog X.w) X.A (throw (.ref a) : Sem Flow) (SP X pins D) X.xe s2) X.xe s := by
    rw [hf]
    refine HandSPX.setFlight_upZ L.fly fun h2 hh up => wpAny_throw (tk _ _ ⟨a, B, sI, pins, σ, H, cls, d, rfl, L.inv, L.nb, L.up.trans up, .inr (.inr ?_), L.na, L.os, L.ag, w⟩)
    rw [hs]
    exact hh
  obtain ⟨_, _, _, oe, vs, T, _, _, he, _, hd, tb, _⟩ := id L.fly
  have some_tb : (Value.ref T == Value.none) = false := by simp
  apply wpAny_handleBy_nil
  unfold PySem.passOn
  refine wpAny_bind (wpAny_field he hd tb (by
    rw [some_tb, if_neg Bool.false_ne_true]
    first | exact wpAny_bind away | exact wpAny_bind (wpAny_pure (wpAny_bind away))))
/-- the clause with a name -/
theorem Lies.as {D : Ends} (L : Lies X pins σ H B a cls d sI s) (hs : X.stack = X.env :: X.outer) (hf : X.env.frame = some X.env.locals) (hN : X.N.Nodup) (hi : X.N[i]? = some n) (hln : X.env.kindOf n = some .local) (hc : Names X x c) (tk : Takes X Wout)
    (hsu : ∀ (b : Addr) (ob : Obj) (cl : Value) (e : Option Addr) (ps : List (Addr × Obj)), Zc cl e ob → (∃ fs, ob.data = .fields fs) → PSs (X.suite b ((b, ob) :: ps)) (b₀ :: suite) (ts b cl e))
    (w : wAs X.K c i ts Wout D cls d σ H) : wpAny (model X.prog X.w) X.A (handleBy (.ref a) X.env [.ExceptHandler (some (.Name x np)) (some n) (b₀ :: suite) pos']) (SP X pins D) X.xe s := by
  obtain ⟨takes, told, yes, no⟩ := w
  obtain ⟨oe, vs, he, hz, hd, S⟩ := L.suiteOf hf
  have type_of : PySem.W.Looks (model X.prog X.w) s.heap (typeOf (.ref a)) cls := fun A Q E s2 keeps q => wpAny_typeOf_ref (keeps _ _ he) (hz.1 ▸ q)
  have matches_ := PySem.W.exm_one (M := model X.prog X.w) L.here.kIn type_of told
  apply wpAny_handleBy_cons _ (by intro z; cases z)
  apply codeAny_handlers_test
  refine name_run S hc (matches_.here ?_)
  cases takes
  · exact L.on hs hf tk (no rfl)
  · refine codeAny_handlers_suite_as (HandSPX.lands_againZ L.fly fun h4 fl up => ?_)
    obtain ⟨o4, v4, he4, hz4, hd4, S4⟩ := (L.heap fl up).suiteOf hf
    -- behind the suite the name is gone
    have leave : ∀ {τ : L2.St} {G : Hp} {R : Shared → Prop} {s6 : Shared}, Inv (X.suite a ((a, o4) :: (X.pn ++ pins))) [] τ G s6 → (∀ s7, Inv X pins (τ.set i none) G s7 → R s7) → wpAny (model X.prog X.w) X.A (bindName X.env n .none >>= fun _ => unbindBehindTheSuite X.env n pos') (fun _ s7 => R s7) X.xe s6 :=
      fun S6 r => gone_ok (S6.unsuite L.inv.ok) hN hi hln r
    refine store_ok (X := X.suite a ((a, o4) :: (X.pn ++ pins))) (v := .ref a) S4 hN hi (.inl hln) rfl (fun s5 S5 => ?_) (.inr hln)
    refine wpAny_mono ((hsu a o4 cls d (X.pn ++ pins) hz4 ⟨v4, hd4⟩).run [] s5 _ H _ S5 (yes rfl a L.na)) ?_ fun _ _ z => z.elim
    intro f s6 z
    cases f
    case ret u =>
      obtain ⟨v, τ, G, S6, rel, fin⟩ := z
      exact leave S6 fun s7 J => ⟨v, τ.set i none, G, J, rel, fin⟩
    all_goals
      obtain ⟨τ, G, S6, fin⟩ := z
      exact leave S6 fun s7 J => ⟨τ.set i none, G, J, fin⟩
/-- the clause with a tuple, which does not take it -/
theorem Lies.tup {D : Ends} {rest : List ExceptHandler} (L : Lies X pins σ H B a cls d sI s) (hf : X.env.frame = some X.env.locals) (hc : TNames X es cs) (ht : TupTold cs) (hl : cs.length ≤ 1000) (hx : PySem.W.exmAny X.K cls cs = some false)
    (k : ∀ s', Lies X pins σ H B a cls d sI s' → wpAny (model X.prog X.w) X.A (handleBy (.ref a) X.env rest) (SP X pins D) X.xe s') :
    wpAny (model X.prog X.w) X.A (handleBy (.ref a) X.env (.ExceptHandler (some (.Tuple es kk p0)) none (b₁ :: s₀) p1 :: rest)) (SP X pins D) X.xe s := by
  obtain ⟨oe, vs, he, hz, hd, S⟩ := L.suiteOf hf
  apply wpAny_handleBy_cons _ (by intro z; cases z)
  apply codeAny_handlers_test
  refine Tuple_ (names_run (Q := fun vs s1 => wpAny _ _ (newTuple vs) _ _ s1) S hc ?_)
  refine wpAny_newObj_type ?_ (by show cs.toArray.size ≤ sizeLine; rw [List.size_toArray]; exact Nat.le_trans hl (by decide))
  have L' := L.push { cls := .type "tuple", dict := none, data := .seq cs.toArray }
  have LT : PySem.W.Looks (model X.prog X.w) (s.heap.push { cls := .type "tuple", dict := none, data := .seq cs.toArray }) (typeOf (.ref a)) cls := fun A Q E s' k q => wpAny_typeOf_ref (k _ _ (Heap.get?_push_of_some _ he)) (by rw [hz.1]; exact q)
  have LM := ht (M := model X.prog X.w) L'.here.kIn LT (Heap.get?_push_size _ rfl) hx
  refine LM.here ?_
  exact k _ L'
end
theorem ps_try_two (hs : X.stack = X.env :: X.outer) (hf : X.env.frame = some X.env.locals) (hN : X.N.Nodup) (hi : X.N[i]? = some n) (hln : X.env.kindOf n = some .local) (hcs : TNames X es cs) (ht : TupTold cs) (hl : cs.length ≤ 1000) (hc : Names X x c) (tk : Takes X Wout)
    (hb : ∀ (V : WX) (ps : List (Addr × Obj)) (xe : Value → Shared → Prop), Takes (X.tr ps xe) V → PassesOwn (model X.prog X.w) X.A X.env xe → PSs (X.tr ps xe) body (tb V))
    (hsu : ∀ (b : Addr) (ob : Obj) (cl : Value) (e : Option Addr) (ps : List (Addr × Obj)), Zc cl e ob → (∃ fs, ob.data = .fields fs) → PSs (X.suite b ((b, ob) :: ps)) (b₀ :: suite) (ts b cl e)) :
    PS X (.Try body [.ExceptHandler (some (.Tuple es kk p0)) none (b₁ :: s₀) p1, .ExceptHandler (some (.Name x np)) (some n) (b₀ :: suite) pos'] [] [] pos) (fun D σ H => tb (wTwo X.K cs c i ts Wout D) D σ H) := by
  constructor
  intro pins s σ H D I h
  have ok := I.ok
  have frames := ok.frames
  rw [hs] at frames
  apply wpAny_Try_except
  -- what the two clauses do with an exception that comes to them
  have caught : Takes (X.tr (X.pn ++ pins) fun e s1 => wpAny (model X.prog X.w) X.A (noteFrame e X.env) (fun _ s2 => wpAny (model X.prog X.w) X.A (setFlight e none) (fun _ s3 =>
      wpAny (model X.prog X.w) X.A (handleBy e X.env [.ExceptHandler (some (.Tuple es kk p0)) none (b₁ :: s₀) p1, .ExceptHandler (some (.Name x np)) (some n) (b₀ :: suite) pos']) (SP X pins D) X.xe s3) X.xe s2) X.xe s1) (wTwo X.K cs c i ts Wout D) := by
    rintro u s1 ⟨a, B, sI, pins2, τ, G, cls, d, rfl, J, nb, up, sky, na, os, ag, none_of, second⟩
    have above : Sky B (X.env :: X.outer) a (Zc cls d) X.env.locals s1.heap := hs ▸ sky
    refine Sky.land Zc.steady frames hf above ?_
    intro h3 fl up3
    have L : Lies X pins τ G B a cls d sI { s1 with heap := h3 } := ⟨J.ofTry ok, nb, up.trans up3, fl, na, os, ag⟩
    exact L.tup hf hcs ht hl none_of fun s5 L5 => L5.as hs hf hN hi hln hc tk hsu second
  refine wpAny_mono ((hb _ _ _ caught PassesOwn.looking).run [] s σ H D (I.toTry _) h) ?_ fun _ _ z => z
  intro f s1 z
  cases f
  case next =>
    obtain ⟨τ, G, J, fin⟩ := z
    exact wpAny_execs_nil ⟨τ, G, J.ofTry ok, fin⟩
  case ret u =>
    obtain ⟨v, τ, G, J, rel, fin⟩ := z
    exact ⟨v, τ, G, J.ofTry ok, rel, fin⟩
  all_goals
    obtain ⟨τ, G, J, fin⟩ := z
    exact ⟨τ, G, J.ofTry ok, fin⟩
end
/-- try: f(..) with two such clauses -/
theorem xq_two {σ : L2.St} {H : Hp} {K : PySem.W.Frag} {D : Ends} {tz : TS} {sp : Sp} {cs : List Value} {c : Value} {i : Nat} {ts : Addr → Value → Option Addr → TS} {Wout : WX} {ta : TA} {vs : List V} (h : Arg ta σ H vs)
    (q : sp vs H (fun _ H1 => tz D σ H1) (fun cls d H' => wTwo K cs c i ts Wout { D with nx := tz D } cls d σ H')) : tSeq (fun D σ H => tDrop (tCallS sp (WE (wTwo K cs c i ts Wout D)) ta) D σ H) tz D σ H := h _ q
end Sh

namespace Sh
/-! rows: noughts and ones, no two ones side by side, the last a one; there is one of each weight -/
structure Rw (xs : List Int) : Prop where
  zo : ∀ x ∈ xs, x = 0 ∨ x = 1
  st : stillB 0 xs = true
  ba : xs = [] ∨ xs.getLastD 0 = 1
theorem still_snoc (ys : List Int) (c : Int) : stillB 0 (ys ++ [c]) = (stillB 0 ys && !(decide (1 < c) || (decide (0 < c) && decide (0 < ys.getLastD 0)))) := by
  rw [stillB_append]
  show (stillB 0 ys && (!(decide (1 < c) || (decide (0 < c) && decide (0 < ys.getLastD 0))) && true)) = _
  rw [Bool.and_true]
theorem zo_init {ys : List Int} {c : Int} (h : ∀ x ∈ ys ++ [c], x = 0 ∨ x = 1) : (∀ x ∈ ys, x = 0 ∨ x = 1) ∧ (c = 0 ∨ c = 1) := ⟨fun x hx => h x (List.mem_append_left _ hx), h c (List.mem_append_right _ List.mem_cons_self)⟩
theorem S_snoc (f : Nat → Int) (ys : List Int) (c : Int) : S f 0 (ys ++ [c]) = S f 0 ys + c * f ys.length := by
  rw [S_append, S_one, Nat.zero_add]
theorem Z_lt : ∀ (n : Nat) (xs : List Int), xs.length = n → (∀ x ∈ xs, x = 0 ∨ x = 1) → stillB 0 xs = true → S W 0 xs < W n
  | 0, xs, h, _, _ => by
    rw [List.eq_nil_of_length_eq_zero h]
    decide
  | n + 1, xs, h, hz, hs => by
    obtain ⟨ys, c, rfl⟩ := snoc_of (xs := xs) (by intro e; rw [e] at h; cases h)
    have hl : ys.length = n := by
      rw [List.length_append, List.length_singleton] at h
      omega
    obtain ⟨z1, z2⟩ := zo_init hz
    rw [still_snoc, Bool.and_eq_true] at hs
    obtain ⟨s1, s2⟩ := hs
    have ih := Z_lt n ys hl z1 s1
    rw [S_snoc, hl]
    rcases z2 with rfl | rfl
    · have := W_lt n
      omega
    · match n, ys, hl, z1, s1, s2, ih with
      | 0, ys, hl, _, _, _, _ =>
        rw [List.eq_nil_of_length_eq_zero hl]
        decide
      | m + 1, ys, hl, z1, s1, s2, ih =>
        obtain ⟨zs, d, rfl⟩ := snoc_of (xs := ys) (by intro e; rw [e] at hl; cases hl)
        have hl2 : zs.length = m := by
          rw [List.length_append, List.length_singleton] at hl
          omega
        obtain ⟨y1, y2⟩ := zo_init z1
        rw [still_snoc, Bool.and_eq_true] at s1
        have ih2 := Z_lt m zs hl2 y1 s1.1
        have hd : d = 0 := by
          rcases y2 with e | e
          · exact e
          · subst e
            simp at s2
        subst hd
        rw [S_snoc]
        show _ < W m + W (m + 1)
        omega
/-- greedy, from the top -/
def gr : Nat → Int → List Int
  | 0, _ => []
  | k + 1, n => if W k ≤ n then 1 :: gr k (n - W k) else 0 :: gr k n
theorem gr_len : ∀ (k : Nat) (n : Int), (gr k n).length = k
  | 0, _ => rfl
  | k + 1, n => by
    unfold gr
    split <;> rw [List.length_cons, gr_len k]
theorem zo_nonneg {xs : List Int} (h : ∀ x ∈ xs, x = 0 ∨ x = 1) : ∀ x ∈ xs, 0 ≤ x := fun x hx => by
  rcases h x hx with e | e <;> omega
theorem Z_gr : ∀ (n : Nat) (xs : List Int), xs.length = n → (∀ x ∈ xs, x = 0 ∨ x = 1) → stillB 0 xs = true → gr n (S W 0 xs) = xs.reverse
  | 0, xs, h, _, _ => by
    rw [List.eq_nil_of_length_eq_zero h]
    rfl
  | n + 1, xs, h, hz, hs => by
    obtain ⟨ys, c, rfl⟩ := snoc_of (xs := xs) (by intro e; rw [e] at h; cases h)
    have hl : ys.length = n := by
      rw [List.length_append, List.length_singleton] at h
      omega
    obtain ⟨z1, z2⟩ := zo_init hz
    rw [still_snoc, Bool.and_eq_true] at hs
    have ih := Z_gr n ys hl z1 hs.1
    have hlt := Z_lt n ys hl z1 hs.1
    have h0 := S_nonneg (f := W) (fun k => Int.le_of_lt (W_pos k)) ys 0 (zo_nonneg z1)
    rw [S_snoc, hl, List.reverse_append]
    unfold gr
    rcases z2 with rfl | rfl
    · rw [Int.zero_mul, Int.add_zero, if_neg (by omega), ih]
      rfl
    · rw [Int.one_mul, if_pos (by omega), Int.add_sub_cancel, ih]
      rfl
theorem Rw.nonneg {xs : List Int} (h : Rw xs) : ∀ x ∈ xs, 0 ≤ x := zo_nonneg h.zo
theorem Rw.top {xs : List Int} (h : Rw xs) (hne : xs ≠ []) : W (xs.length - 1) ≤ S W 0 xs := by
  obtain ⟨ys, c, rfl⟩ := snoc_of hne
  have hc : c = 1 := by
    rcases h.ba with e | e
    · simp at e
    · simpa using e
  subst hc
  have h0 := S_nonneg (f := W) (fun k => Int.le_of_lt (W_pos k)) ys 0 (zo_nonneg (zo_init h.zo).1)
  rw [S_snoc, List.length_append, List.length_singleton, Nat.add_sub_cancel]
  omega
theorem Rw.lt {xs : List Int} (h : Rw xs) : S W 0 xs < W xs.length := Z_lt _ xs rfl h.zo h.st
theorem Rw.len_le {xs ys : List Int} (hx : Rw xs) (hy : Rw ys) (e : S W 0 xs = S W 0 ys) : xs.length ≤ ys.length := by
  by_cases h0 : xs = []
  · rw [h0]
    exact Nat.zero_le _
  · have h1 := hx.top h0
    have h2 := hy.lt
    by_cases hl : xs.length ≤ ys.length
    · exact hl
    · have h3 := W_mono (i := ys.length) (j := xs.length - 1) (by omega)
      omega
/-- ONE ROW OF EACH WEIGHT -/
theorem Rw.uniq {xs ys : List Int} (hx : Rw xs) (hy : Rw ys) (e : S W 0 xs = S W 0 ys) : xs = ys := by
  have hl : xs.length = ys.length := Nat.le_antisymm (hx.len_le hy e) (hy.len_le hx e.symm)
  have h1 := Z_gr _ xs rfl hx.zo hx.st
  have h2 := Z_gr _ ys rfl hy.zo hy.st
  rw [hl, e, h2] at h1
  have h3 := congrArg List.reverse h1
  rw [List.reverse_reverse, List.reverse_reverse] at h3
  exact h3.symm
theorem gr_ok : ∀ (k : Nat) (n : Int), 0 ≤ n → n < W k → (∀ x ∈ (gr k n).reverse, x = 0 ∨ x = 1) ∧ stillB 0 (gr k n).reverse = true ∧ S W 0 (gr k n).reverse = n ∧ (0 < k → (W (k - 1) ≤ n ↔ (gr k n).reverse.getLastD 0 = 1))
  | 0, n, h0, h1 => by
    have h1 : n < 1 := h1
    have : n = 0 := by omega
    subst this
    exact ⟨fun x h => (nomatch h), rfl, rfl, fun z => (nomatch z)⟩
  | k + 1, n, h0, h1 => by
    unfold gr
    by_cases hc : W k ≤ n
    · rw [if_pos hc, List.reverse_cons]
      have hlt : n - W k < W k := by
        match k, h1, hc with
        | 0, h1, hc =>
          have h1 : n < 2 := h1
          show n - 1 < 1
          omega
        | j + 1, h1, hc =>
          have h1 : n < W j + W (j + 1) := h1
          have := W_lt j
          omega
      obtain ⟨a1, a2, a3, a4⟩ := gr_ok k (n - W k) (by omega) hlt
      have hlen : (gr k (n - W k)).reverse.length = k := by rw [List.length_reverse, gr_len]
      have hlast : (gr k (n - W k)).reverse.getLastD 0 ≤ 0 := by
        match k, h1, hc, a1, a4, hlen with
        | 0, _, _, _, _, hlen =>
          rw [List.eq_nil_of_length_eq_zero hlen]
          decide
        | j + 1, h1, hc, a1, a4, hlen =>
          obtain ⟨ys, c, e⟩ := snoc_of (xs := (gr (j + 1) (n - W (j + 1))).reverse) (by intro e; rw [e] at hlen; cases hlen)
          rw [e] at a1 a4
          rw [e]
          have h1 : n < W j + W (j + 1) := h1
          have h5 := a4 (Nat.succ_pos j)
          have h6 : ¬ W (j + 1 - 1) ≤ n - W (j + 1) := by
            show ¬ W j ≤ _
            omega
          have hc1 : c ≠ 1 := fun e => h6 (h5.mpr (by rw [e]; simp))
          rcases (zo_init a1).2 with e | e
          · rw [e]
            simp
          · exact absurd e hc1
      refine ⟨fun x hx => ?_, ?_, ?_, fun _ => ⟨fun _ => by simp, fun _ => hc⟩⟩
      · rcases List.mem_append.mp hx with h | h
        · exact a1 x h
        · exact .inr (List.mem_singleton.mp h)
      · rw [still_snoc, a2, decide_eq_false (show ¬ 0 < (gr k (n - W k)).reverse.getLastD 0 by omega)]
        rfl
      · rw [S_snoc, a3, hlen]
        omega
    · rw [if_neg hc, List.reverse_cons]
      obtain ⟨a1, a2, a3, a4⟩ := gr_ok k n h0 (by omega)
      have hlen : (gr k n).reverse.length = k := by rw [List.length_reverse, gr_len]
      refine ⟨fun x hx => ?_, ?_, ?_, fun _ => ⟨fun z => absurd z hc, fun z => ?_⟩⟩
      · rcases List.mem_append.mp hx with h | h
        · exact a1 x h
        · exact .inl (List.mem_singleton.mp h)
      · rw [still_snoc, a2]
        rfl
      · rw [S_snoc, a3]
        omega
      · simp at z
/-- the row of a number, as greed finds it -/
theorem gr_rw {k : Nat} {n : Int} (h0 : 0 ≤ n) (h1 : n < W k) (ht : 0 < k → W (k - 1) ≤ n) : Rw (gr k n).reverse ∧ S W 0 (gr k n).reverse = n := by
  obtain ⟨a1, a2, a3, a4⟩ := gr_ok k n h0 h1
  refine ⟨⟨a1, a2, ?_⟩, a3⟩
  by_cases hk : 0 < k
  · exact .inr ((a4 hk).mp (ht hk))
  · have : k = 0 := by omega
    subst this
    exact .inl rfl
theorem W_two : ∀ j : Nat, (2 : Int) ^ j ≤ W (2 * j)
  | 0 => by decide
  | j + 1 => by
    have ih := W_two j
    have h1 := W_lt (2 * j)
    show (2 : Int) ^ j * 2 ≤ W (2 * j) + W (2 * j + 1)
    omega
theorem T60_W : T60 < W 1000 := by
  have h1 := W_two 500
  have h2 : T60 < (2 : Int) ^ 500 := by decide +kernel
  exact Int.lt_of_lt_of_le h2 h1
/-- as the law asks it of a row: what stands at i, what beneath -/
theorem Rw.at {xs : List Int} (h : Rw xs) {i : Nat} {c : Int} (hi : xs[i]? = some c) : (c = 0 ∨ c = 1) ∧ c + prev xs i ≤ 1 ∧ (prev xs i = 0 ∨ prev xs i = 1) := by
  have h1 := h.zo c (List.mem_of_getElem? hi)
  have hp : prev xs i = 0 ∨ prev xs i = 1 := by
    match i with
    | 0 => exact .inl (prev_zero xs)
    | j + 1 =>
      have hj : j < xs.length := by
        have := (List.getElem?_eq_some_iff.mp hi).1
        omega
      rw [prev_succ (get_of hj)]
      exact h.zo _ (List.mem_of_getElem? (get_of hj))
  refine ⟨h1, ?_, hp⟩
  have h2 := stillB_take hi
  have h3 : stillB 0 (xs.take (i + 1)) = true := by
    cases e : stillB 0 (xs.take (i + 1)) with
    | true => rfl
    | false => exact absurd (stillB_stop _ e) (by rw [h.st]; decide)
  rw [h3] at h2
  have h4 := (Bool.and_eq_true_iff.mp h2.symm).2
  rcases h1 with e | e
  · omega
  · subst e
    rcases hp with e | e
    · omega
    · rw [e] at h4
      simp at h4
theorem Rw.end {xs : List Int} (h : Rw xs) : xs = [] ∨ prev xs xs.length = 1 := by
  unfold prev
  rw [List.take_length]
  exact h.ba
theorem Rw.nil : Rw [] := ⟨fun _ h => (nomatch h), rfl, .inl rfl⟩
theorem Rw.sm {xs : List Int} (h : Rw xs) (hl : xs.length ≤ 100000) : Sm xs := ⟨hl, fun x hx => by
  have h3 : (2 : Nat) ^ 20 ≤ 2 ^ 1000 := by decide +kernel
  have h4 : (2 : Nat) ^ 20 = 1048576 := by decide
  rcases h.zo x hx with e | e <;> omega⟩
end Sh

namespace Sh
/-! the row of a number, named -/
def top (n : Int) : Nat → Nat
  | 0 => 0
  | k + 1 => if W k ≤ n then k + 1 else top n k
theorem top_ok {n : Int} : ∀ K : Nat, n < W K → n < W (top n K) ∧ (0 < top n K → W (top n K - 1) ≤ n) ∧ top n K ≤ K
  | 0, h => ⟨h, fun z => (nomatch z), Nat.le_refl _⟩
  | k + 1, h => by
    unfold top
    by_cases hc : W k ≤ n
    · rw [if_pos hc]
      exact ⟨h, fun _ => hc, Nat.le_refl _⟩
    · rw [if_neg hc]
      obtain ⟨a, b, c⟩ := top_ok k (show n < W k by omega)
      exact ⟨a, b, by omega⟩
def rowOf (n : Int) : List Int := (gr (top n 1000) n).reverse
theorem rowOf_rw {n : Int} (h0 : 0 ≤ n) (h1 : n < W 1000) : Rw (rowOf n) := (gr_rw h0 (top_ok 1000 h1).1 (top_ok 1000 h1).2.1).1
theorem rowOf_wt {n : Int} (h0 : 0 ≤ n) (h1 : n < W 1000) : S W 0 (rowOf n) = n := (gr_rw h0 (top_ok 1000 h1).1 (top_ok 1000 h1).2.1).2
theorem rowOf_len {n : Int} (h1 : n < W 1000) : (rowOf n).length ≤ 1000 := by
  unfold rowOf
  rw [List.length_reverse, gr_len]
  exact (top_ok 1000 h1).2.2
theorem rowOf_sm {n : Int} (h0 : 0 ≤ n) (h1 : n < W 1000) : Sm (rowOf n) := (rowOf_rw h0 h1).sm (Nat.le_trans (rowOf_len h1) (by decide))
theorem rowOf_is {n : Int} (h0 : 0 ≤ n) (h1 : n < W 1000) {xs : List Int} (hR : Rw xs) (hw : S W 0 xs = n) : xs = rowOf n := hR.uniq (rowOf_rw h0 h1) (by rw [hw, rowOf_wt h0 h1])
theorem W_900 : 2 * W 900 ≤ W 1000 := by
  have h1 := W_lt 900
  have h2 : W 902 = W 900 + W 901 := rfl
  have h3 : W 902 ≤ W 1000 := W_mono (by decide)
  have h4 : W 900 < W 901 := h1
  omega
def BB : Int := W 420
theorem BB_W : BB + 100 < W 900 := by
  have h1 : ((421 : Nat) : Int) < W 421 := W_ge 421
  have h2 : W 422 = W 420 + W 421 := rfl
  have h3 : W 422 ≤ W 900 := W_mono (by decide)
  have h4 : BB = W 420 := rfl
  omega
theorem BB_0 : 0 < BB := W_pos 420
theorem BB_62 : (10 : Int) ^ (62 : Int).toNat ≤ BB := by
  have h1 := W_two 210
  have h2 : (10 : Int) ^ (62 : Int).toNat ≤ (2 : Int) ^ 210 := by decide +kernel
  exact Int.le_trans h2 h1
theorem W_BB {k : Nat} (h : k < 290) : W k ≤ BB := W_mono (by omega)
end Sh

/-! Own words over the layer for rows: chained comparisons, reversed lists, a list beside the empty one. -/
namespace Sh
open PySem PySem.Spec PyProof.Rows L2
section
variable {σ : L2.St} {H : Hp} {K : PySem.W.Frag} {ta tb tc te : TE} {D : Ends} {ts tz tu : TS} {x y w : V}
theorem xv_chain {r r' : R2} {a b : Bool} (ha : Val ta σ H x) (hb : Val tb σ H y) (hr : ∀ Q : VK, Q (.bl a) H → r x y H Q) (h2 : a = true → Val tc σ H w ∧ ∀ Q : VK, Q (.bl b) H → r' y w H Q) : Val (tChain r r' ta tb tc) σ H (.bl (a && b)) := fun Q q =>
  ha _ (hb _ (hr _ ⟨a, rfl, by
    cases a with
    | true => exact (h2 rfl).1 _ ((h2 rfl).2 _ q)
    | false => exact q⟩))
theorem xq_forRev {ta : TA} {a : Addr} {xs : List V} {j : Nat} (h : Arg ta σ H [.ref a]) (hx : SqL K H a xs) (Pv : Nat → L2.St → Hp → Prop) (h0 : Pv 0 σ H) (hq : ∀ i σ H, Pv i σ H → SqL K H a xs)
    (hs : ∀ (i : Nat) (x : V) (σ' : L2.St) (H' : Hp), i < xs.length → xs[xs.length - 1 - i]? = some x → Pv i σ' H' → ts { D with nx := Pv (i + 1), ct := Pv (i + 1), bk := tz D } (σ'.set j (some x)) H') (hd : ∀ σ' H', Pv xs.length σ' H' → tz D σ' H') :
    tSeq (tFor (iRev K ta) (gName j) ts) tz D σ H := h _ ⟨a, xs, rfl, hx, RT.for_Itv (D := { D with nx := tz D }) Pv h0 hq hs hd⟩
theorem ev_eqI {a : Addr} {ns : List Int} (ha : Evl.Ev ta σ H (.ref a)) (hS : SqL K H a (ns.map V.int)) : Evl.Ev (tOp (rEqD K) ta (tLst tNil)) σ H (.bl (decide (ns = []))) :=
  Evl.ev_opL ha (Evl.el_lst Evl.ea_nil (by decide)) (fun p H1 h1 e1 => fun H2 e2 Q q => ⟨_, _, .lst (Same.seq e2 (Same.seq e1 hS)) (dpAll_int ns), .lst (SqL.of (e2 p _ h1)) .nil, shaped_int ns, by decide +kernel, by rw [show (PyData.list []) = .list (([] : List Int).map PyData.int) from rfl, eqv_int]; exact q H2 (Evl.Ex.refl H2)⟩)
/-- is it a number from 0 to below 10 ** 60 -/
def numB : V → Bool
  | .int n => decide (0 ≤ n) && decide (n < T60)
  | _ => false
theorem numB_int {n : Int} (h0 : 0 ≤ n) (h1 : n < T60) : numB (.int n) = true := by
  show (decide (0 ≤ n) && decide (n < T60)) = true
  rw [decide_eq_true h0, decide_eq_true h1]
  rfl
theorem numB_lo {n : Int} (h0 : n < 0) : numB (.int n) = false := by
  show (decide (0 ≤ n) && decide (n < T60)) = false
  rw [decide_eq_false (by omega)]
  rfl
theorem numB_hi {n : Int} (h0 : T60 ≤ n) : numB (.int n) = false := by
  show (decide (0 ≤ n) && decide (n < T60)) = false
  rw [decide_eq_false (p := n < T60) (by omega), Bool.and_false]
/-- the kinds of things that are asked -/
def Kd (K : PySem.W.Frag) (H : Hp) (x : V) : Prop := (∃ n, x = .int n) ∨ (numB x = false ∧ (TyX K H x (.type "bool") ∨ ∃ t, TyX K H x (.type t) ∧ kitB t "int" = some false))
theorem Kd.int {n : Int} : Kd K H (.int n) := .inl ⟨n, rfl⟩
theorem Kd.bl {b : Bool} : Kd K H (.bl b) := .inr ⟨rfl, .inl (.base (.bl b))⟩
theorem Kd.str {s : Str} : Kd K H (.str s) := .inr ⟨rfl, .inr ⟨"str", .base (.str s), by decide +kernel⟩⟩
theorem Kd.non : Kd K H .non := .inr ⟨rfl, .inr ⟨"NoneType", .base .non, by decide +kernel⟩⟩
theorem Kd.lst {a : Addr} {xs : List V} (h : SqL K H a xs) : Kd K H (.ref a) := .inr ⟨rfl, .inr ⟨"list", tyx_L h, by decide +kernel⟩⟩
theorem xr_lst {Q : VK} {tr : TA} (h : tr σ H fun xs H1 => xs.length ≤ sizeLine ∧ ∀ p, H1 p = none → Q (.ref p) (upd H1 p (.lst xs))) : tLst tr σ H Q := h
theorem xr_nil {Q : List V → Hp → Prop} (h : Q [] H) : tNil σ H Q := h
theorem xr_opR {r : R2} {Q : VK} (h : ta σ H fun x H1 => tb σ H1 fun y H2 => r x y H2 Q) : tOp r ta tb σ H Q := h
end
end Sh

/-! Own words over the layer: lists of two lists compared, rows by name. -/
namespace Sh
open PySem PySem.Spec PyProof.Rows L2
theorem shaped_two (xs ys : List Int) : SeqAt.shaped (.list [.list (xs.map PyData.int), .list (ys.map PyData.int)]) = true := by
  unfold SeqAt.shaped
  rw [Bool.and_eq_true]
  refine ⟨?_, decide_eq_true ?_⟩
  · show (PyData.canLayAll0 (xs.map PyData.int) && (PyData.canLayAll0 (ys.map PyData.int) && true)) = true
    rw [canLayAll_int xs, canLayAll_int ys]
    rfl
  · have h1 := depthAll_int xs
    have h2 := depthAll_int ys
    simp only [PyData.depth, PyData.depthAll]
    omega
theorem eqv_two (xs ys : List Int) : PyData.eqv (.list [.list (xs.map PyData.int), .list (ys.map PyData.int)]) (.list [.list (xs.map PyData.int), .list (ys.map PyData.int)]) = true := by
  have h := eqvAll_int xs xs
  have h2 := eqvAll_int ys ys
  rw [decide_eq_true rfl] at h h2
  simp [PyData.eqv, PyData.eqvAll, h, h2]
section
variable {σ : L2.St} {H : Hp} {K : PySem.W.Frag} {ta tb te : TE} {D : Ends} {ts tz tu : TS} {p : Addr}
/-- xs.clear() -/
theorem xq_clear {l : Addr} {xs : List V} (ha : Val ta σ H (.ref l)) (hl : H l = some (.lst xs)) (k : tz D σ (upd H l (.lst []))) : tSeq (tDrop (tBM0 K "list" rClear ta)) tz D σ H :=
  ha _ ⟨.inl ⟨rfl, _, SqL.of hl⟩, l, xs, rfl, rfl, hl, k⟩
/-- a for over a list that is made on the way: read by hand up to the list -/
theorem xr_forL {tl : TE} {g : TG} (h : tl σ H fun x H1 => ∃ a, x = .ref a ∧ (∃ xs, SqL K H1 a xs) ∧ tFor (fun σ H R => R (Itl K a) H) g ts { D with nx := tz D } σ H1) : tSeq (tFor (iList K tl) g ts) tz D σ H := h
theorem xs_at {a : Addr} {xs : List V} {g : TG} (Pv : Nat → L2.St → Hp → Prop) (h0 : Pv 0 σ H) (hl : ∀ i σ H, i ≤ xs.length → Pv i σ H → SqL K H a xs)
    (hs : ∀ (i : Nat) (x : V) (σ' : L2.St) (H' : Hp), xs[i]? = some x → Pv i σ' H' → g x σ' H' fun σ2 H2 => ts { D with nx := Pv (i + 1), ct := Pv (i + 1), bk := D.nx } σ2 H2) (hd : ∀ σ' H', Pv xs.length σ' H' → D.nx σ' H') : tFor (fun σ H R => R (Itl K a) H) g ts D σ H :=
  for_list Pv h0 hl hs hd
theorem xr_tupS {Q : VK} {tr : TA} (h : tr σ H fun xs H1 => xs.length ≤ sizeLine ∧ ∀ p, H1 p = none → Q (.ref p) (upd H1 p (.tup xs))) : tTup tr σ H Q := h
/-- (x, y) = e, e read by hand -/
theorem xq_tup {g : TG} (h : te σ H fun v H1 => g v σ H1 fun σ2 H2 => tz D σ2 H2) : tSeq (tAsg te g) tz D σ H := h
theorem xv_ans {t : TT} {a b : Bool} (h : Ans t σ H a) (e : a = b) : Ans t σ H b := e ▸ h
theorem xg_v {tr : TA} {v : V} {vs : List V} (h : Val te σ H v) (hr : Arg tr σ H vs) : Arg (tCons te tr) σ H (v :: vs) := xg_cons h hr
end
end Sh

namespace K07
open PySem PySem.Spec PyProof.Rows L2 Sh
def topS (i : Nat) : Stmt := PySem.Challenge.pw_shellstair_k07_before_plus_minus.main.body.getD i (.Pass ⟨0, 0, 0, 0⟩)
abbrev st_weight : Stmt := topS 8
theorem sc_weight : FnScope ["heap", "total", "here", "above", "many"] ["heap"] (defScope st_weight) := ⟨rfl, rfl, rfl, by decide +kernel, rfl, by decide +kernel, by decide +kernel⟩
abbrev st_still_heap : Stmt := topS 10
theorem sc_still_heap : FnScope ["number", "worths", "here", "above", "heap", "left", "each"] ["number"] (defScope st_still_heap) := ⟨rfl, rfl, rfl, by decide +kernel, rfl, by decide +kernel, by decide +kernel⟩
abbrev st_before : Stmt := topS 11
theorem sc_before : FnScope ["one", "other"] ["one", "other"] (defScope st_before) := ⟨rfl, rfl, rfl, by decide +kernel, rfl, by decide +kernel, by decide +kernel⟩
abbrev st_plus : Stmt := topS 12
theorem sc_plus : FnScope ["one", "other"] ["one", "other"] (defScope st_plus) := ⟨rfl, rfl, rfl, by decide +kernel, rfl, by decide +kernel, by decide +kernel⟩
abbrev st_minus : Stmt := topS 13
theorem sc_minus : FnScope ["one", "other", "left"] ["one", "other"] (defScope st_minus) := ⟨rfl, rfl, rfl, by decide +kernel, rfl, by decide +kernel, by decide +kernel⟩
abbrev st_l_cell : Stmt := topS 15
theorem sc_l_cell : FnScope ["_law_script", "_law_k"] ["_law_script", "_law_k"] (defScope st_l_cell) := ⟨rfl, rfl, rfl, by decide +kernel, rfl, by decide +kernel, by decide +kernel⟩
abbrev st_l_whole : Stmt := topS 16
theorem sc_l_whole : FnScope ["_law_found"] ["_law_found"] (defScope st_l_whole) := ⟨rfl, rfl, rfl, by decide +kernel, rfl, by decide +kernel, by decide +kernel⟩
abbrev st_l_heap : Stmt := topS 17
theorem sc_l_heap : FnScope ["_law_number", "_law_worths", "_law_here", "_law_there", "_law_heap_here", "_law_each", "_law_shell"] ["_law_number"] (defScope st_l_heap) := ⟨rfl, rfl, rfl, by decide +kernel, rfl, by decide +kernel, by decide +kernel⟩
abbrev st_l_alike : Stmt := topS 18
theorem sc_l_alike : FnScope ["_law_found", "_law_due", "_law_k"] ["_law_found", "_law_due"] (defScope st_l_alike) := ⟨rfl, rfl, rfl, by decide +kernel, rfl, by decide +kernel, by decide +kernel⟩
abbrev st_l_worth : Stmt := topS 19
theorem sc_l_worth : FnScope ["_law_step", "_law_here", "_law_there", "_law_k"] ["_law_step"] (defScope st_l_worth) := ⟨rfl, rfl, rfl, by decide +kernel, rfl, by decide +kernel, by decide +kernel⟩
abbrev st_l_pair : Stmt := topS 20
theorem sc_l_pair : FnScope ["_law_script", "_law_size", "_law_one", "_law_other", "_law_way"] ["_law_script"] (defScope st_l_pair) := ⟨rfl, rfl, rfl, by decide +kernel, rfl, by decide +kernel, by decide +kernel⟩
abbrev st_l_short : Stmt := topS 21
theorem sc_l_short : FnScope ["_law_left", "_law_right", "e"] ["_law_left", "_law_right"] (defScope st_l_short) := ⟨rfl, rfl, rfl, by decide +kernel, rfl, by decide +kernel, by decide +kernel⟩
abbrev st_l_order : Stmt := topS 22
theorem sc_l_order : FnScope ["_law_left", "_law_right", "_law_one", "_law_other", "_law_found", "_law_due"] ["_law_left", "_law_right", "_law_one", "_law_other"] (defScope st_l_order) := ⟨rfl, rfl, rfl, by decide +kernel, rfl, by decide +kernel, by decide +kernel⟩
abbrev st_l_taken : Stmt := topS 23
theorem sc_l_taken : FnScope ["_law_left", "_law_right", "_law_one", "_law_other", "_law_found", "_law_kept"] ["_law_left", "_law_right", "_law_one", "_law_other"] (defScope st_l_taken) := ⟨rfl, rfl, rfl, by decide +kernel, rfl, by decide +kernel, by decide +kernel⟩
abbrev st_law : Stmt := topS 24
theorem sc_law : FnScope ["_law_script", "_law_one", "_law_other", "_law_left", "_law_right", "_law_handed", "_law_due", "_law_told", "_law_again", "_law_rest"] ["_law_script"] (defScope st_law) := ⟨rfl, rfl, rfl, by decide +kernel, rfl, by decide +kernel, by decide +kernel⟩
/-- what the top has written -/
structure Txt (K : PySem.W.Frag) (mg : Str → Option Value) where
  C_StairError : Addr
  g_StairError : mg "StairError" = some (.ref C_StairError)
  k_StairError : PySem.W.keepIn K (.ref C_StairError) = true
  x_StairError : PySem.W.excIn K C_StairError [.type "ValueError", .type "Exception", .type "BaseException", .type "object"] "ValueError.__new__" = true
  xb_StairError : PySem.W.subIn K (.ref C_StairError) (.type "BaseException") = some true
  xt_StairError : PySem.W.typeIn K (.ref C_StairError) = some (.type "type")
  C_NoMove : Addr
  g_NoMove : mg "NoMove" = some (.ref C_NoMove)
  k_NoMove : PySem.W.keepIn K (.ref C_NoMove) = true
  x_NoMove : PySem.W.excIn K C_NoMove [.type "ValueError", .type "Exception", .type "BaseException", .type "object"] "ValueError.__new__" = true
  xb_NoMove : PySem.W.subIn K (.ref C_NoMove) (.type "BaseException") = some true
  xt_NoMove : PySem.W.typeIn K (.ref C_NoMove) = some (.type "type")
  C_NoNumber : Addr
  g_NoNumber : mg "NoNumber" = some (.ref C_NoNumber)
  k_NoNumber : PySem.W.keepIn K (.ref C_NoNumber) = true
  x_NoNumber : PySem.W.excIn K C_NoNumber [.type "ValueError", .type "Exception", .type "BaseException", .type "object"] "ValueError.__new__" = true
  xb_NoNumber : PySem.W.subIn K (.ref C_NoNumber) (.type "BaseException") = some true
  xt_NoNumber : PySem.W.typeIn K (.ref C_NoNumber) = some (.type "type")
  C_Short : Addr
  g_Short : mg "Short" = some (.ref C_Short)
  k_Short : PySem.W.keepIn K (.ref C_Short) = true
  x_Short : PySem.W.excIn K C_Short [.type "ValueError", .type "Exception", .type "BaseException", .type "object"] "ValueError.__new__" = true
  xb_Short : PySem.W.subIn K (.ref C_Short) (.type "BaseException") = some true
  xt_Short : PySem.W.typeIn K (.ref C_Short) = some (.type "type")
  C_NoSign : Addr
  g_NoSign : mg "NoSign" = some (.ref C_NoSign)
  k_NoSign : PySem.W.keepIn K (.ref C_NoSign) = true
  x_NoSign : PySem.W.excIn K C_NoSign [.type "ValueError", .type "Exception", .type "BaseException", .type "object"] "ValueError.__new__" = true
  xb_NoSign : PySem.W.subIn K (.ref C_NoSign) (.type "BaseException") = some true
  xt_NoSign : PySem.W.typeIn K (.ref C_NoSign) = some (.type "type")
  C_NoEnd : Addr
  g_NoEnd : mg "NoEnd" = some (.ref C_NoEnd)
  k_NoEnd : PySem.W.keepIn K (.ref C_NoEnd) = true
  x_NoEnd : PySem.W.excIn K C_NoEnd [.type "ValueError", .type "Exception", .type "BaseException", .type "object"] "ValueError.__new__" = true
  xb_NoEnd : PySem.W.subIn K (.ref C_NoEnd) (.type "BaseException") = some true
  xt_NoEnd : PySem.W.typeIn K (.ref C_NoEnd) = some (.type "type")
  f_weight : Addr
  d_weight : FuncData
  F_weight : Fun K "weight" "weight" st_weight f_weight d_weight
  g_weight : mg "weight" = some (.ref f_weight)
  b_weight : Binds K d_weight ["heap"] []
  f_still_heap : Addr
  d_still_heap : FuncData
  F_still_heap : Fun K "still_heap" "still_heap" st_still_heap f_still_heap d_still_heap
  g_still_heap : mg "still_heap" = some (.ref f_still_heap)
  b_still_heap : Binds K d_still_heap ["number"] []
  f_before : Addr
  d_before : FuncData
  F_before : Fun K "before" "before" st_before f_before d_before
  g_before : mg "before" = some (.ref f_before)
  b_before : Binds K d_before ["one", "other"] []
  f_plus : Addr
  d_plus : FuncData
  F_plus : Fun K "plus" "plus" st_plus f_plus d_plus
  g_plus : mg "plus" = some (.ref f_plus)
  b_plus : Binds K d_plus ["one", "other"] []
  f_minus : Addr
  d_minus : FuncData
  F_minus : Fun K "minus" "minus" st_minus f_minus d_minus
  g_minus : mg "minus" = some (.ref f_minus)
  b_minus : Binds K d_minus ["one", "other"] []
  f_l_cell : Addr
  d_l_cell : FuncData
  F_l_cell : Fun K "_law_cell" "_law_cell" st_l_cell f_l_cell d_l_cell
  g_l_cell : mg "_law_cell" = some (.ref f_l_cell)
  b_l_cell : Binds K d_l_cell ["_law_script", "_law_k"] []
  f_l_whole : Addr
  d_l_whole : FuncData
  F_l_whole : Fun K "_law_whole" "_law_whole" st_l_whole f_l_whole d_l_whole
  g_l_whole : mg "_law_whole" = some (.ref f_l_whole)
  b_l_whole : Binds K d_l_whole ["_law_found"] []
  f_l_heap : Addr
  d_l_heap : FuncData
  F_l_heap : Fun K "_law_heap" "_law_heap" st_l_heap f_l_heap d_l_heap
  g_l_heap : mg "_law_heap" = some (.ref f_l_heap)
  b_l_heap : Binds K d_l_heap ["_law_number"] []
  f_l_alike : Addr
  d_l_alike : FuncData
  F_l_alike : Fun K "_law_alike" "_law_alike" st_l_alike f_l_alike d_l_alike
  g_l_alike : mg "_law_alike" = some (.ref f_l_alike)
  b_l_alike : Binds K d_l_alike ["_law_found", "_law_due"] []
  f_l_worth : Addr
  d_l_worth : FuncData
  F_l_worth : Fun K "_law_worth" "_law_worth" st_l_worth f_l_worth d_l_worth
  g_l_worth : mg "_law_worth" = some (.ref f_l_worth)
  b_l_worth : Binds K d_l_worth ["_law_step"] []
  f_l_pair : Addr
  d_l_pair : FuncData
  F_l_pair : Fun K "_law_pair" "_law_pair" st_l_pair f_l_pair d_l_pair
  g_l_pair : mg "_law_pair" = some (.ref f_l_pair)
  b_l_pair : Binds K d_l_pair ["_law_script"] []
  f_l_short : Addr
  d_l_short : FuncData
  F_l_short : Fun K "_law_short" "_law_short" st_l_short f_l_short d_l_short
  g_l_short : mg "_law_short" = some (.ref f_l_short)
  b_l_short : Binds K d_l_short ["_law_left", "_law_right"] []
  f_l_order : Addr
  d_l_order : FuncData
  F_l_order : Fun K "_law_order" "_law_order" st_l_order f_l_order d_l_order
  g_l_order : mg "_law_order" = some (.ref f_l_order)
  b_l_order : Binds K d_l_order ["_law_left", "_law_right", "_law_one", "_law_other"] []
  f_l_taken : Addr
  d_l_taken : FuncData
  F_l_taken : Fun K "_law_taken" "_law_taken" st_l_taken f_l_taken d_l_taken
  g_l_taken : mg "_law_taken" = some (.ref f_l_taken)
  b_l_taken : Binds K d_l_taken ["_law_left", "_law_right", "_law_one", "_law_other"] []
  f_law : Addr
  d_law : FuncData
  F_law : Fun K "law" "law" st_law f_law d_law
  g_law : mg "law" = some (.ref f_law)
  b_law : Binds K d_law ["_law_script"] []
  eg_Short : PySem.W.findIn K (.ref C_Short) "__getattribute__" = some (some (.builtin "BaseException.__getattribute__"))
  ek_Short : PySem.W.findIn K (.ref C_Short) "__getattr__" = some none
  ea_Short : PySem.W.findIn K (.ref C_Short) "__class__" = some (some (.builtin "object.__class__"))
  ed_Short : PySem.W.hasDictIn K C_Short = true
  em_Short : PySem.W.mroIn K C_Short (.type "object") = some true
  i_Short_StairError : PySem.W.kitOne K (.ref C_Short) (.ref C_StairError) = some true
  i_Short_NoMove : PySem.W.kitOne K (.ref C_Short) (.ref C_NoMove) = some false
  i_Short_NoNumber : PySem.W.kitOne K (.ref C_Short) (.ref C_NoNumber) = some false
  i_Short_Short : PySem.W.kitOne K (.ref C_Short) (.ref C_Short) = some true
  i_Short_NoSign : PySem.W.kitOne K (.ref C_Short) (.ref C_NoSign) = some false
  i_Short_NoEnd : PySem.W.kitOne K (.ref C_Short) (.ref C_NoEnd) = some false
  i_Short_VE : PySem.W.kitOne K (.ref C_Short) (.type "ValueError") = some true
  x_Short_NoEnd : PySem.W.exmOne K (.ref C_Short) (.ref C_NoEnd) = some false
  x_Short_NoMove : PySem.W.exmOne K (.ref C_Short) (.ref C_NoMove) = some false
  x_Short_NoNumber : PySem.W.exmOne K (.ref C_Short) (.ref C_NoNumber) = some false
  x_Short_NoSign : PySem.W.exmOne K (.ref C_Short) (.ref C_NoSign) = some false
  x_Short_Short : PySem.W.exmOne K (.ref C_Short) (.ref C_Short) = some true
  en_ : PySem.W.specialIn K (.builtin "object.__class__") "__get__" = some (some (.builtin "getset_descriptor.__get__"))
  et_ : PySem.W.takesIn K (.builtin "object.__class__") = some true
  m_reversed : mg "reversed" = none
  m_len : mg "len" = none
  m_isinstance : mg "isinstance" = none
  m_int : mg "int" = none
  m_bool : mg "bool" = none
  m_list : mg "list" = none
  m_range : mg "range" = none
  m_ValueError : mg "ValueError" = none
  m_abs : mg "abs" = none
theorem Txt.E_Short {K : PySem.W.Frag} {mg : Str → Option Value} (T : Txt K mg) : ExcC K T.C_Short := ⟨T.eg_Short, T.ek_Short, T.xb_Short, T.ed_Short, T.ea_Short, T.en_, T.et_, T.em_Short⟩
local macro_rules | `(tactic| walk_at "side") => `(tactic| first | assumption | omega | exact ⟨by decide, by decide⟩ | exact ⟨by decide, by decide, by decide⟩ | (show (0 : Int) < _; first | omega | decide | exact T60_pos | exact T60_pos1 | decide +kernel))
local macro_rules | `(tactic| walk_at "sq") => `(tactic| first | assumption | exact SqL.of (by assumption))
local macro_rules | `(tactic| walk_at "val") => `(tactic| first
  | with_reducible exact val_c
  | ((with_reducible apply xv_c) <;> exact rfl)
  | ((with_reducible apply val_var) <;> rfl)
  | with_reducible exact xv_p60
  | ((with_reducible apply xv_I0) <;> walk_at "val")
  | ((with_reducible apply xv_I) <;> first | walk_at "val" | walk_at "side")
  | ((with_reducible apply xv_eq) <;> first | walk_at "val" | rfl)
  | ((with_reducible apply xv_ne) <;> first | walk_at "val" | rfl)
  | ((with_reducible apply xv_U) <;> walk_at "val")
  | ((with_reducible apply xv_lenI) <;> first | walk_at "val" | walk_at "sq")
  | ((with_reducible apply xv_ix) <;> first | walk_at "val" | walk_at "sq" | walk_at "side")
  | ((with_reducible apply xv_and) <;> first | walk_at "val" | (intro hc; (try replace hc := of_decide_eq_true hc); walk_at "val"))
  | ((with_reducible apply xv_or) <;> first | walk_at "val" | (intro hc; (try replace hc := of_decide_eq_false hc); walk_at "val"))
  | ((with_reducible apply xv_not) <;> walk_at "val")
  | walk_at "val+")
local macro_rules | `(tactic| walk_at "val+") => `(tactic| fail "val")
local macro_rules | `(tactic| walk_at "arg") => `(tactic| first | with_reducible exact xg_nil | ((with_reducible apply xg_cons) <;> first | walk_at "val" | walk_at "arg"))
local macro_rules | `(tactic| walk_at "ans") => `(tactic| first
  | ((with_reducible apply xa_T) <;> walk_at "val")
  | ((with_reducible apply xa_B) <;> walk_at "val")
  | ((with_reducible apply xa_not) <;> walk_at "ans")
  | ((with_reducible apply xa_and) <;> first | walk_at "ans" | (intro hc; (try replace hc := of_decide_eq_true hc); walk_at "ans"))
  | ((with_reducible apply xa_or) <;> first | walk_at "ans" | (intro hc; (try replace hc := of_decide_eq_false hc); walk_at "ans")))

section
variable {P : Program} {w : World} {K : PySem.W.Frag} {mg : Str → Option Value} {base : Heap}
/-! ### a cell of the script -/
def sp_cell (K : PySem.W.Frag) : Sp := fun vs H Q _ => ∃ (a : Addr) (ns : List Int) (j : Nat), vs = [.ref a, .int (j : Int)] ∧ SqL K H a (ns.map V.int) ∧ Q (.int (ns.getD j 0)) H
theorem ok_l_cell (T : Txt K mg) : FnOk P w K mg base CX0 1 T.f_l_cell T.d_l_cell ["_law_script", "_law_k"] (sp_cell K) := by
  refine T.F_l_cell.ok sc_l_cell (fun vs H Q E h => ?_) (fun cdv A outer s H vs Q E hr h => ?_)
  · obtain ⟨a, ns, j, rfl, _⟩ := h
    rfl
  · obtain ⟨a, ns, j, rfl, hS, q⟩ := h
    refine ⟨_, (pss_cons (ps_if (pt_cmpR op_lt (pv 1) (pe_callB call_len_seq (by rfl) T.m_len PySem.boot_len (pa_cons (pv 0) pa_nil)) (nomark _)) (pss_one (ps_ret (pe_ix ix_list (pv 0) (pv 1) (fun _ _ => rfl)))) pss_nil)
      (pss_one (ps_ret pe_int))), ?_⟩
    refine xs_when (xa_T (xv_I0 (val_var rfl) (xv_lenI (val_var rfl) hS))) (fun hc => ?_) (fun hc => ?_)
    · have hj : (j : Int) < ns.length := of_decide_eq_true hc
      exact st_ret (xv_ix (val_var rfl) (val_var rfl) hS (by omega) hj) q
    · have hj : ¬ (j : Int) < ns.length := of_decide_eq_false hc
      refine st_ret val_c ?_
      rw [List.getD_eq_getElem?_getD, List.getElem?_eq_none (by omega)] at q
      exact q
theorem xv_cell {σ : L2.St} {H : Hp} {ta tb : TE} {a : Addr} {ns : List Int} {j : Nat} (h : Val ta σ H (.ref a)) (h2 : Val tb σ H (.int (j : Int))) (hS : SqL K H a (ns.map V.int)) : Val (tCall (sp_cell K) [] E0 (tCons ta (tCons tb tNil))) σ H (.int (ns.getD j 0)) :=
  xv_call (xg_cons h (xg_cons h2 xg_nil)) fun Q q => ⟨a, ns, j, rfl, hS, q⟩
local macro_rules | `(tactic| walk_at "val+") => `(tactic| ((with_reducible apply xv_cell) <;> first | walk_at "val" | walk_at "sq"))
/-! ### whole numbers -/
def sp_whole : Sp := fun vs H Q _ => ∃ i : Int, vs = [.int i] ∧ Q (.bl true) H
theorem ok_l_whole (T : Txt K mg) : FnOk P w K mg base CX0 1 T.f_l_whole T.d_l_whole ["_law_found"] sp_whole := by
  refine T.F_l_whole.ok sc_l_whole (fun vs H Q E h => ?_) (fun cdv A outer s H vs Q E hr h => ?_)
  · obtain ⟨i, rfl, _⟩ := h
    rfl
  · obtain ⟨i, rfl, q⟩ := h
    refine ⟨_, (pss_one (ps_ret (pe_and (pe_callB call_isi (by rfl) T.m_isinstance (by decide +kernel) (pa_cons (pv 0) (pa_cons (pe_bltn (v := .ty "int") (by rfl) T.m_int (by decide +kernel) rfl) pa_nil))) (pe_one (pe_not (pe_callB call_isi (by rfl) T.m_isinstance (by decide +kernel) (pa_cons (pv 0) (pa_cons (pe_bltn (v := .ty "bool") (by rfl) T.m_bool (by decide +kernel) rfl) pa_nil)))))))), ?_⟩
    exact st_ret (xv_and (xv_isi (val_var rfl) (.base (.int i)) (b := true) (by decide +kernel)) fun _ => xv_not (xv_isi (val_var rfl) (.base (.int i)) (b := false) (by decide +kernel))) q
theorem xv_whole {σ : L2.St} {H : Hp} {ta : TE} {i : Int} (h : Val ta σ H (.int i)) : Val (tCall sp_whole [] E0 (tCons ta tNil)) σ H (.bl true) :=
  xv_call (xg_cons h xg_nil) fun Q q => ⟨i, rfl, q⟩
local macro_rules | `(tactic| walk_at "val+") => `(tactic| ((with_reducible apply xv_whole) <;> walk_at "val"))
/-! ### weight of a list -/
def sp_weight (K : PySem.W.Frag) : Sp := fun vs H Q _ => ∃ (a : Addr) (ns : List Int), vs = [.ref a] ∧ SqL K H a (ns.map V.int) ∧ Sm ns ∧ Q (.int (wt ns)) H
theorem ok_weight (T : Txt K mg) : FnOk P w K mg base CX0 1 T.f_weight T.d_weight ["heap"] (sp_weight K) := by
  refine T.F_weight.ok sc_weight (fun vs H Q E h => ?_) (fun cdv A outer s H vs Q E hr h => ?_)
  · obtain ⟨a, ns, rfl, _⟩ := h
    rfl
  · obtain ⟨a, ns, rfl, hS, hz, q⟩ := h
    refine ⟨_, (pss_cons (ps_set (i := 1) sc_weight.nd rfl (Or.inl rfl) pe_int)
      (pss_cons (ps_set (i := 2) sc_weight.nd rfl (Or.inl rfl) pe_int)
      (pss_cons (ps_set (i := 3) sc_weight.nd rfl (Or.inl rfl) pe_int)
      (pss_cons (ps_for PassesOwn.never rfl (pi_list (pv 0)) (pg_name (i := 4) sc_weight.nd rfl (Or.inl rfl)) (pss_cons (ps_set (i := 1) sc_weight.nd rfl (Or.inl rfl) (pe_op op_add (pv 1) (pe_op op_mulW (pv 4) (pv 2))))
      (pss_one (ps_par (i := 2) (j := 3) (by rfl) sc_weight.nd rfl rfl (by decide) rfl rfl (pa_cons (pv 3) (pa_cons (pe_op op_add (pv 2) (pv 3)) pa_nil)) (by rfl)))))
      (pss_one (ps_ret (pv 1))))))), ?_⟩
    refine xq_set val_c ?_
    refine xq_set val_c ?_
    refine xq_set val_c ?_
    refine xq_forI (ns := ns) (val_var rfl) (Same.refl H) hS (fun i σ H' => ∃ y, σ = [some (.ref a), some (.int (S W 0 (ns.take i))), some (.int (W i)), some (.int (W (i + 1))), y] ∧ H' = H) ⟨_, rfl, rfl⟩ ?_ ?_
    · rintro i n σ H' e hn ⟨y, rfl, rfl⟩
      have hi : i < ns.length := (List.getElem?_eq_some_iff.mp hn).1
      have hc : CMulW n (W i) := wide_mul (hz.mag n (List.mem_of_getElem? hn)) (W_bitsN i) (by decide) (by omega) (by have := hz.len; omega)
      refine xq_set (xv_I0 (val_var rfl) (xv_I (val_var rfl) (val_var rfl) hc)) ?_
      refine xs_par (xg_cons (val_var rfl) (xg_cons (xv_I0 (val_var rfl) (val_var rfl)) xg_nil)) ⟨e, some (.int n), ?_, rfl⟩
      rw [S_take hn, Nat.zero_add]
      rfl
    · rintro σ H' e ⟨y, rfl, rfl⟩
      rw [List.take_length]
      exact st_ret (val_var rfl) q
theorem xv_weight {σ : L2.St} {H : Hp} {ta : TE} {a : Addr} {ns : List Int} (h : Val ta σ H (.ref a)) (hS : SqL K H a (ns.map V.int)) (hz : Sm ns) : Val (tCall (sp_weight K) [] E0 (tCons ta tNil)) σ H (.int (wt ns)) :=
  xv_call (xg_cons h xg_nil) fun Q q => ⟨a, ns, rfl, hS, hz, q⟩
local macro_rules | `(tactic| walk_at "val+") => `(tactic| ((with_reducible apply xv_weight) <;> first | walk_at "val" | walk_at "sq" | walk_at "side"))
/-! ### worth of a step -/
def sp_worth : Sp := fun vs H Q _ => ∃ n : Nat, vs = [.int (n : Int)] ∧ n < 2 ^ 62 ∧ Q (.int (W n)) H
theorem ok_l_worth (T : Txt K mg) : FnOk P w K mg base CX0 1 T.f_l_worth T.d_l_worth ["_law_step"] sp_worth := by
  refine T.F_l_worth.ok sc_l_worth (fun vs H Q E h => ?_) (fun cdv A outer s H vs Q E hr h => ?_)
  · obtain ⟨n, rfl, _⟩ := h
    rfl
  · obtain ⟨n, rfl, hn, q⟩ := h
    refine ⟨_, (pss_cons (ps_set (i := 1) sc_l_worth.nd rfl (Or.inl rfl) pe_int)
      (pss_cons (ps_set (i := 2) sc_l_worth.nd rfl (Or.inl rfl) pe_int)
      (pss_cons (ps_for PassesOwn.never rfl (pi_range1 (by rfl) T.m_range (pa_cons (pv 0) pa_nil)) (pg_name (i := 3) sc_l_worth.nd rfl (Or.inl rfl)) (pss_one (ps_par (i := 1) (j := 2) (by rfl) sc_l_worth.nd rfl rfl (by decide) rfl rfl (pa_cons (pv 2) (pa_cons (pe_op op_add (pv 1) (pv 2)) pa_nil)) (by rfl))))
      (pss_one (ps_ret (pv 1)))))), ?_⟩
    refine xq_set val_c ?_
    refine xq_set val_c ?_
    refine xq_forR (n := n) (xg_cons (val_var rfl) xg_nil) hn (fun i σ H' => ∃ y, σ = [some (.int (n : Int)), some (.int (W i)), some (.int (W (i + 1))), y] ∧ H' = H) ⟨_, rfl, rfl⟩ ?_ ?_
    · rintro i σ H' hi ⟨y, rfl, rfl⟩
      exact xs_par (xg_cons (val_var rfl) (xg_cons (xv_I0 (val_var rfl) (val_var rfl)) xg_nil)) ⟨_, rfl, rfl⟩
    · rintro σ H' ⟨y, rfl, rfl⟩
      exact st_ret (val_var rfl) q
theorem xv_worth {σ : L2.St} {H : Hp} {ta : TE} {n : Nat} (h : Val ta σ H (.int (n : Int))) (hn : n < 2 ^ 62) : Val (tCall sp_worth [] E0 (tCons ta tNil)) σ H (.int (W n)) :=
  xv_call (xg_cons h xg_nil) fun Q q => ⟨n, rfl, hn, q⟩
local macro_rules | `(tactic| walk_at "val+") => `(tactic| ((with_reducible apply xv_worth) <;> first | walk_at "val" | walk_at "side"))
/-! ### lists of ints alike -/
def sp_alike (K : PySem.W.Frag) : Sp := fun vs H Q _ => ∃ (a b : Addr) (ns : List Int), vs = [.ref a, .ref b] ∧ SqL K H a (ns.map V.int) ∧ SqL K H b (ns.map V.int) ∧ ns.length ≤ 100000 ∧ Q (.bl true) H
theorem ok_l_alike (T : Txt K mg) : FnOk P w K mg base CX0 2 T.f_l_alike T.d_l_alike ["_law_found", "_law_due"] (sp_alike K) := by
  refine T.F_l_alike.ok sc_l_alike (fun vs H Q E h => ?_) (fun cdv A outer s H vs Q E hr h => ?_)
  · obtain ⟨a, b, ns, rfl, _⟩ := h
    rfl
  · obtain ⟨a, b, ns, rfl, hS, hB, hz, q⟩ := h
    refine ⟨_, (pss_cons (ps_if (PW.pt (pw_or (pt_not (pt_val (pe_callB call_isi (by rfl) T.m_isinstance (by decide +kernel) (pa_cons (pv 0) (pa_cons (pe_bltn (v := .ty "list") (by rfl) T.m_list (by decide +kernel) rfl) pa_nil))))) (pw_or1 (pt_cmpR op_ne (pe_callB call_len_seq (by rfl) T.m_len PySem.boot_len (pa_cons (pv 0) pa_nil)) (pe_callB call_len_seq (by rfl) T.m_len PySem.boot_len (pa_cons (pv 1) pa_nil)) (nomark _))))) (pss_one (ps_ret pe_bl)) pss_nil)
      (pss_cons (ps_for PassesOwn.never rfl (pi_range1 (by rfl) T.m_range (pa_cons (pe_callB call_len_seq (by rfl) T.m_len PySem.boot_len (pa_cons (pv 1) pa_nil)) pa_nil)) (pg_name (i := 2) sc_l_alike.nd rfl (Or.inl rfl)) (pss_one (ps_if (PW.pt (pw_or (pt_not (pt_val (pe_call (ok_l_whole T) (hr.mono (by decide)) (by rfl) T.g_l_whole T.F_l_whole.kp T.b_l_whole .nil pass0 (pa_cons (pe_ix ix_list (pv 0) (pv 2) (fun _ _ => rfl)) pa_nil)))) (pw_or1 (pt_cmpR op_ne (pe_ix ix_list (pv 0) (pv 2) (fun _ _ => rfl)) (pe_ix ix_list (pv 1) (pv 2) (fun _ _ => rfl)) (nomark _))))) (pss_one (ps_ret pe_bl)) pss_nil)))
      (pss_one (ps_ret pe_bl)))), ?_⟩
    refine xs_when (b := false) (xa_or (a := false) (xa_not (a := true) (xa_B (xv_isi (val_var rfl) (tyx_L hS) (by decide +kernel)))) fun _ => xa_T (xv_to (xv_ne (xv_lenI (val_var rfl) hS) (xv_lenI (val_var rfl) hB) rfl) (by rw [decide_eq_true rfl]; rfl))) (fun z => (nomatch z)) (fun _ => ?_)
    refine xq_forR (n := ns.length) (by walk_at "arg") (by omega) (fun i σ H' => ∃ y, σ = [some (.ref a), some (.ref b), y] ∧ H' = H) ⟨none, rfl, rfl⟩ ?_ ?_
    · rintro i σ H' hi ⟨y, rfl, rfl⟩
      refine xs_if (b := false) (xa_or (a := false) (xa_not (a := true) (xa_B (xv_whole (xv_ix (i := (i : Int)) (val_var rfl) (val_var rfl) hS (by omega) (by omega))))) fun _ => xa_T (xv_to (xv_ne (xv_ix (i := (i : Int)) (val_var rfl) (val_var rfl) hS (by omega) (by omega)) (xv_ix (i := (i : Int)) (val_var rfl) (val_var rfl) hB (by omega) (by omega)) rfl) (by rw [decide_eq_true rfl]; rfl))) (fun z => (nomatch z)) (fun _ => ?_)
      exact ⟨_, rfl, rfl⟩
    · rintro σ H' ⟨y, rfl, rfl⟩
      exact st_ret val_c q
/-! ### is_number -/
def sp_is_number (K : PySem.W.Frag) : Sp := fun vs H Q _ => ∃ x : V, vs = [x] ∧ Kd K H x ∧ Q (.bl (numB x)) H
/-! ### still_heap: the row of a number -/
def sp_still_heap : Sp := fun vs H Q _ => ∃ n : Int, vs = [.int n] ∧ 0 ≤ n ∧ n < W 1000 ∧ ∀ H' p (xs : List Int), Same H H' → H p = none → H' p = some (.lst (xs.map V.int)) → Rw xs → S W 0 xs = n → xs.length ≤ 1000 → Q (.ref p) H'
theorem ok_still_heap (T : Txt K mg) : FnOk P w K mg base CX0 1 T.f_still_heap T.d_still_heap ["number"] sp_still_heap := by
  refine T.F_still_heap.ok sc_still_heap (fun vs H Q E h => ?_) (fun cdv A outer s H vs Q E hr h => ?_)
  · obtain ⟨n, rfl, _⟩ := h
    rfl
  · obtain ⟨n, rfl, hn0, hn1, q⟩ := h
    refine ⟨_, (pss_cons (ps_set (i := 1) sc_still_heap.nd rfl (Or.inl rfl) (pe_lst pa_nil))
      (pss_cons (ps_set (i := 2) sc_still_heap.nd rfl (Or.inl rfl) pe_int)
      (pss_cons (ps_set (i := 3) sc_still_heap.nd rfl (Or.inl rfl) pe_int)
      (pss_cons (ps_while PassesOwn.never (pt_cmpR op_le (pv 2) (pv 0) (nomark _)) (pss_cons (ps_expr (pe_bm PySem.F.plainAttrs_list PySem.F.slot_list_append PySem.F.type_list_append mt_append (pv 1) (pa_cons (pv 2) pa_nil)))
      (pss_one (ps_par (i := 2) (j := 3) (by rfl) sc_still_heap.nd rfl rfl (by decide) rfl rfl (pa_cons (pv 3) (pa_cons (pe_op op_add (pv 2) (pv 3)) pa_nil)) (by rfl)))))
      (pss_cons (ps_set (i := 4) sc_still_heap.nd rfl (Or.inl rfl) (pe_lst pa_nil))
      (pss_cons (ps_set (i := 5) sc_still_heap.nd rfl (Or.inl rfl) (pv 0))
      (pss_cons (ps_for PassesOwn.never rfl (pi_reversed (by rfl) T.m_reversed (pa_cons (pv 1) pa_nil)) (pg_name (i := 6) sc_still_heap.nd rfl (Or.inl rfl)) (pss_one (ps_if (pt_cmpR op_le (pv 6) (pv 5) (nomark _)) (pss_cons (ps_expr (pe_bm PySem.F.plainAttrs_list PySem.F.slot_list_append PySem.F.type_list_append mt_append (pv 4) (pa_cons pe_int pa_nil)))
      (pss_one (ps_set (i := 5) sc_still_heap.nd rfl (Or.inl rfl) (pe_op op_sub (pv 5) (pv 6))))) (pss_one (ps_expr (pe_bm PySem.F.plainAttrs_list PySem.F.slot_list_append PySem.F.type_list_append mt_append (pv 4) (pa_cons pe_int pa_nil)))))))
      (pss_one (ps_ret (pe_revL (pv 4))))))))))), ?_⟩
    refine Evl.q_asgL (Evl.el_lst Evl.ea_nil (by decide)) fun l H1 nl e1 h1 => ?_
    refine xq_set val_c ?_
    refine xq_set val_c ?_
    refine xq_while (fun m σ H' => ∃ k : Nat, σ = [some (.int n), some (.ref l), some (.int (W k)), some (.int (W (k + 1))), none, none, none] ∧ Same H H' ∧ H' l = some (.lst (((List.range k).map W).map V.int)) ∧ (0 < k → W (k - 1) ≤ n) ∧ k ≤ 1000 ∧ m = 1000 - k) 1000 ⟨0, rfl, e1, h1, fun z => (nomatch z), by omega, rfl⟩ ?_
    rintro m σ H2 ⟨k, rfl, e2, h2, hk, hk2, rfl⟩
    refine ⟨_, by walk_at "ans", fun hc => ?_, fun hc => ?_⟩
    · have hc : W k ≤ n := of_decide_eq_true hc
      have hlt : k < 1000 := by
        by_cases h : k < 1000
        · exact h
        · have := W_mono (i := 1000) (j := k) (by omega)
          omega
      refine Evl.q_app (l := l) h2 (Evl.ev_var rfl) (Evl.ev_var rfl) (by rw [List.length_map, List.length_map, List.length_range]; omega) fun H3 e3 => ?_
      refine xs_par (xg_cons (val_var rfl) (xg_cons (xv_I0 (val_var rfl) (val_var rfl)) xg_nil)) ⟨1000 - (k + 1), by omega, k + 1, rfl, same_mut (e2.trans e3) nl, ?_, fun _ => hc, by omega, rfl⟩
      rw [upd_same, List.range_succ, List.map_append, List.map_append]
      rfl
    · have hc : n < W k := by
        have := of_decide_eq_false hc
        omega
      refine Evl.q_asgL (Evl.el_lst Evl.ea_nil (by decide)) fun b H3 nb e3 h3 => ?_
      refine xq_set (val_var rfl) ?_
      have hbl : l ≠ b := ne_of_none h2 nb
      have nb0 : H b = none := Same.free e2 nb
      have hlen : (((List.range k).map W).map V.int).length = k := by rw [List.length_map, List.length_map, List.length_range]
      refine xq_forRev (xs := ((List.range k).map W).map V.int) (xg_cons (val_var rfl) xg_nil) (SqL.of (e3 l _ h2)) (fun i σ H' => ∃ (hs : List Int) (left : Int) (y : Option V), σ = [some (.int n), some (.ref l), some (.int (W k)), some (.int (W (k + 1))), some (.ref b), some (.int left), y] ∧ Same H H' ∧ H' l = some (.lst (((List.range k).map W).map V.int)) ∧ H' b = some (.lst (hs.map V.int)) ∧ hs ++ gr (k - i) left = gr k n ∧ hs.length = i)
        ⟨[], n, none, rfl, Same.trans e2 e3, e3 l _ h2, h3, rfl, rfl⟩ (fun i σ H h => by
          obtain ⟨hs, left, y, _, _, h, _⟩ := h
          exact SqL.of h) ?_ ?_
      · rintro i x σ H4 hi hx ⟨hs, left, y, rfl, e4, hl4, hb4, hg, hlen2⟩
        rw [hlen] at hi hx
        obtain ⟨j, hj⟩ : ∃ j, k - i = j + 1 := ⟨k - i - 1, by omega⟩
        have hj2 : k - 1 - i = j := by omega
        have hj3 : k - (i + 1) = j := by omega
        rw [hj2, List.getElem?_map, List.getElem?_map, List.getElem?_range (by omega)] at hx
        obtain rfl : V.int (W j) = x := Option.some.inj hx
        rw [hj] at hg
        refine xs_if (by walk_at "ans") (fun hc => ?_) (fun hc => ?_)
        · have hc := of_decide_eq_true hc
          refine Evl.q_app (l := b) hb4 (Evl.ev_var rfl) Evl.ev_c (by rw [List.length_map]; omega) fun H5 e5 => ?_
          refine st_set (xv_I0 (val_var rfl) (val_var rfl)) ⟨hs ++ [1], left - W j, _, rfl, same_mut (e4.trans e5) nb0, ?_, ?_, ?_, by rw [List.length_append, List.length_singleton, hlen2]⟩
          · rw [upd_ne hbl]
            exact e5 l _ hl4
          · rw [upd_same, List.map_append]
            rfl
          · rw [hj3, ← hg, List.append_assoc]
            congr 1
            show _ = gr (j + 1) left
            conv => rhs; unfold gr
            rw [if_pos hc]
            rfl
        · have hc := of_decide_eq_false hc
          refine Evl.s_app (l := b) hb4 (Evl.ev_var rfl) Evl.ev_c (by rw [List.length_map]; omega) fun H5 e5 => ?_
          refine ⟨hs ++ [0], left, _, rfl, same_mut (e4.trans e5) nb0, ?_, ?_, ?_, by rw [List.length_append, List.length_singleton, hlen2]⟩
          · rw [upd_ne hbl]
            exact e5 l _ hl4
          · rw [upd_same, List.map_append]
            rfl
          · rw [hj3, ← hg, List.append_assoc]
            congr 1
            show _ = gr (j + 1) left
            conv => rhs; unfold gr
            rw [if_neg hc]
            rfl
      · rintro σ H4 ⟨hs, left, y, rfl, e4, hl4, hb4, hg, hlen2⟩
        rw [hlen, Nat.sub_self] at hg
        have hg : hs = gr k n := by
          rw [← hg]
          show hs = hs ++ []
          rw [List.append_nil]
        obtain ⟨r1, r2⟩ := gr_rw hn0 hc hk
        refine Evl.s_retL (xl_revL (Evl.ev_var rfl) (SqL.of hb4)) fun p H5 np e5 h5 => ?_
        rw [← List.map_reverse, hg] at h5
        exact q H5 p _ (e4.trans e5) (Same.free e4 np) h5 r1 r2 (by rw [List.length_reverse, gr_len]; exact hk2)
/-! ### row_of -/
def sp_row_of (K : PySem.W.Frag) (C : Addr) : Sp := fun vs H Q E => ∃ x : V, vs = [x] ∧ Kd K H x ∧
  (∀ n : Int, x = .int n → 0 ≤ n → n < T60 → ∀ H' p (xs : List Int), Same H H' → H p = none → H' p = some (.lst (xs.map V.int)) → Rw xs → S W 0 xs = n → xs.length ≤ 1000 → Q (.ref p) H') ∧ (numB x = false → E (.ref C) none H)
/-! ### before, plus, minus -/
def sp_before (K : PySem.W.Frag) : Sp := fun vs H Q _ => ∃ (a b : Addr) (m n : Int), vs = [.ref a, .ref b] ∧ SqL K H a ((rowOf m).map V.int) ∧ SqL K H b ((rowOf n).map V.int) ∧ (0 ≤ m ∧ m < W 1000) ∧ (0 ≤ n ∧ n < W 1000) ∧ Q (.bl (decide (m < n))) H
theorem xv_wrow {σ : L2.St} {H : Hp} {ta : TE} {a : Addr} {n : Int} (h : Val ta σ H (.ref a)) (hS : SqL K H a ((rowOf n).map V.int)) (hn : 0 ≤ n ∧ n < W 1000) : Val (tCall (sp_weight K) [] E0 (tCons ta tNil)) σ H (.int n) :=
  xv_to (xv_weight h hS (rowOf_sm hn.1 hn.2)) (congrArg V.int (rowOf_wt hn.1 hn.2))
theorem ok_before (T : Txt K mg) : FnOk P w K mg base CX0 2 T.f_before T.d_before ["one", "other"] (sp_before K) := by
  refine T.F_before.ok sc_before (fun vs H Q E h => ?_) (fun cdv A outer s H vs Q E hr h => ?_)
  · obtain ⟨a, b, m, n, rfl, _⟩ := h
    rfl
  · obtain ⟨a, b, m, n, rfl, hA, hB, hm, hn, q⟩ := h
    refine ⟨_, (pss_one (ps_ret (pe_cmpR op_lt (pe_call (ok_weight T) (hr.mono (by decide)) (by rfl) T.g_weight T.F_weight.kp T.b_weight .nil pass0 (pa_cons (pv 0) pa_nil)) (pe_call (ok_weight T) (hr.mono (by decide)) (by rfl) T.g_weight T.F_weight.kp T.b_weight .nil pass0 (pa_cons (pv 1) pa_nil)) (nomark _)))), ?_⟩
    exact st_ret (xv_I0 (xv_wrow (val_var rfl) hA hm) (xv_wrow (val_var rfl) hB hn)) q
theorem xv_before {σ : L2.St} {H : Hp} {ta tb : TE} {a b : Addr} {m n : Int} (h : Val ta σ H (.ref a)) (h2 : Val tb σ H (.ref b)) (hA : SqL K H a ((rowOf m).map V.int)) (hB : SqL K H b ((rowOf n).map V.int)) (hm : 0 ≤ m ∧ m < W 1000) (hn : 0 ≤ n ∧ n < W 1000) : Val (tCall (sp_before K) [] E0 (tCons ta (tCons tb tNil))) σ H (.bl (decide (m < n))) :=
  xv_call (xg_cons h (xg_cons h2 xg_nil)) fun Q q => ⟨a, b, m, n, rfl, hA, hB, hm, hn, q⟩
def sp_plus (K : PySem.W.Frag) : Sp := fun vs H Q _ => ∃ (a b : Addr) (m n : Int), vs = [.ref a, .ref b] ∧ SqL K H a ((rowOf m).map V.int) ∧ SqL K H b ((rowOf n).map V.int) ∧ (0 ≤ m ∧ m < W 1000) ∧ (0 ≤ n ∧ n < W 1000) ∧ m + n < W 1000 ∧ ∀ H' p, Same H H' → H p = none → H' p = some (.lst ((rowOf (m + n)).map V.int)) → Q (.ref p) H'
theorem ok_plus (T : Txt K mg) : FnOk P w K mg base CX0 2 T.f_plus T.d_plus ["one", "other"] (sp_plus K) := by
  refine T.F_plus.ok sc_plus (fun vs H Q E h => ?_) (fun cdv A outer s H vs Q E hr h => ?_)
  · obtain ⟨a, b, m, n, rfl, _⟩ := h
    rfl
  · obtain ⟨a, b, m, n, rfl, hA, hB, hm, hn, hmn, q⟩ := h
    refine ⟨_, (pss_one (ps_ret (pe_call (ok_still_heap T) (hr.mono (by decide)) (by rfl) T.g_still_heap T.F_still_heap.kp T.b_still_heap .nil pass0 (pa_cons (pe_op op_add (pe_call (ok_weight T) (hr.mono (by decide)) (by rfl) T.g_weight T.F_weight.kp T.b_weight .nil pass0 (pa_cons (pv 0) pa_nil)) (pe_call (ok_weight T) (hr.mono (by decide)) (by rfl) T.g_weight T.F_weight.kp T.b_weight .nil pass0 (pa_cons (pv 1) pa_nil))) pa_nil)))), ?_⟩
    refine xr_ret (xr_call (xg_go (xg_cons (xv_I0 (xv_wrow (val_var (i := 0) rfl) hA hm) (xv_wrow (val_var (i := 1) rfl) hB hn)) xg_nil) ?_))
    refine ⟨m + n, rfl, by omega, hmn, fun H' p xs e np hp hR hw _ => q H' p e np ?_⟩
    rw [← rowOf_is (by omega) hmn hR hw]
    exact hp
def sp_minus (K : PySem.W.Frag) (C : Addr) : Sp := fun vs H Q E => ∃ (a b : Addr) (m n : Int), vs = [.ref a, .ref b] ∧ SqL K H a ((rowOf m).map V.int) ∧ SqL K H b ((rowOf n).map V.int) ∧ (0 ≤ m ∧ m < W 1000) ∧ (0 ≤ n ∧ n < W 1000) ∧ (n ≤ m → ∀ H' p, Same H H' → H p = none → H' p = some (.lst ((rowOf (m - n)).map V.int)) → Q (.ref p) H') ∧ (m < n → E (.ref C) none H)
theorem ok_minus (T : Txt K mg) : FnOk P w K mg base (L2.CX P w) 2 T.f_minus T.d_minus ["one", "other"] (sp_minus K T.C_Short) := by
  refine T.F_minus.okX sc_minus (fun vs H Q E h => ?_) (fun cdv A outer s H vs Q E hr h => ?_)
  · obtain ⟨a, b, m, n, rfl, _⟩ := h
    rfl
  · obtain ⟨a, b, m, n, rfl, hA, hB, hm, hn, q1, q2⟩ := h
    refine ⟨_, (pss_cons (ps_set (i := 2) sc_minus.nd rfl (Or.inl rfl) (pe_op op_sub (pe_call (ok_weight T) (hr.mono (by decide)) (by rfl) T.g_weight T.F_weight.kp T.b_weight .nil pass0 (pa_cons (pv 0) pa_nil)) (pe_call (ok_weight T) (hr.mono (by decide)) (by rfl) T.g_weight T.F_weight.kp T.b_weight .nil pass0 (pa_cons (pv 1) pa_nil))))
      (pss_cons (ps_if (pt_cmpR op_lt (pv 2) pe_int (nomark _)) (pss_one (ps_raise rfl (takes_of rfl rfl rfl rfl) (pmk_own PySem.F.excBase_ValueError T.x_Short T.g_Short T.k_Short (raises_own T.xb_Short T.xt_Short) rfl))) pss_nil)
      (pss_one (ps_ret (pe_call (ok_still_heap T) (hr.mono (by decide)) (by rfl) T.g_still_heap T.F_still_heap.kp T.b_still_heap .nil pass0 (pa_cons (pv 2) pa_nil)))))), ?_⟩
    refine xq_set (xv_I0 (xv_wrow (val_var (i := 0) rfl) hA hm) (xv_wrow (val_var (i := 1) rfl) hB hn)) ?_
    refine xs_when (by walk_at "ans") (fun hc => ?_) (fun hc => ?_)
    · have hc := of_decide_eq_true hc
      exact q2 (by omega)
    · have hc := of_decide_eq_false hc
      refine xr_ret (xr_call (xg_go (xg_cons (val_var (i := 2) rfl) xg_nil) ?_))
      refine ⟨m - n, rfl, by omega, by omega, fun H' p xs e np hp hR hw _ => q1 (by omega) H' p e np ?_⟩
      rw [← rowOf_is (by omega) (by omega) hR hw]
      exact hp
/-! ### the law's own row of a number -/
def sp_lheap : Sp := fun vs H Q _ => ∃ n : Int, vs = [.int n] ∧ 0 ≤ n ∧ n < W 1000 ∧ ∀ H' p, Same H H' → H p = none → H' p = some (.lst ((rowOf n).map V.int)) → Q (.ref p) H'
theorem ok_l_heap (T : Txt K mg) : FnOk P w K mg base CX0 1 T.f_l_heap T.d_l_heap ["_law_number"] sp_lheap := by
  refine T.F_l_heap.ok sc_l_heap (fun vs H Q E h => ?_) (fun cdv A outer s H vs Q E hr h => ?_)
  · obtain ⟨n, rfl, _⟩ := h
    rfl
  · obtain ⟨n, rfl, hn0, hn1, q⟩ := h
    refine ⟨_, (pss_cons (ps_set (i := 1) sc_l_heap.nd rfl (Or.inl rfl) (pe_lst pa_nil))
      (pss_cons (ps_set (i := 2) sc_l_heap.nd rfl (Or.inl rfl) pe_int)
      (pss_cons (ps_set (i := 3) sc_l_heap.nd rfl (Or.inl rfl) pe_int)
      (pss_cons (ps_while PassesOwn.never (pt_cmpR op_le (pv 2) (pv 0) (nomark _)) (pss_cons (ps_expr (pe_bm PySem.F.plainAttrs_list PySem.F.slot_list_append PySem.F.type_list_append mt_append (pv 1) (pa_cons (pv 2) pa_nil)))
      (pss_one (ps_par (i := 2) (j := 3) (by rfl) sc_l_heap.nd rfl rfl (by decide) rfl rfl (pa_cons (pv 3) (pa_cons (pe_op op_add (pv 2) (pv 3)) pa_nil)) (by rfl)))))
      (pss_cons (ps_set (i := 4) sc_l_heap.nd rfl (Or.inl rfl) (pe_lst pa_nil))
      (pss_cons (ps_for PassesOwn.never rfl (pi_reversed (by rfl) T.m_reversed (pa_cons (pv 1) pa_nil)) (pg_name (i := 5) sc_l_heap.nd rfl (Or.inl rfl)) (pss_cons (ps_set (i := 6) sc_l_heap.nd rfl (Or.inl rfl) (pe_callTy call_int1 (by rfl) T.m_int (by decide +kernel) (pa_cons (pe_cmpR op_le (pv 5) (pv 0) (nomark _)) pa_nil)))
      (pss_cons (ps_set (i := 0) sc_l_heap.nd rfl (Or.inl rfl) (pe_op op_sub (pv 0) (pe_op op_mulW (pv 6) (pv 5))))
      (pss_one (ps_expr (pe_bm PySem.F.plainAttrs_list PySem.F.slot_list_append PySem.F.type_list_append mt_append (pv 4) (pa_cons (pv 6) pa_nil)))))))
      (pss_one (ps_ret (pe_revL (pv 4)))))))))), ?_⟩
    refine Evl.q_asgL (Evl.el_lst Evl.ea_nil (by decide)) fun l H1 nl e1 h1 => ?_
    refine xq_set val_c ?_
    refine xq_set val_c ?_
    refine xq_while (fun m σ H' => ∃ k : Nat, σ = [some (.int n), some (.ref l), some (.int (W k)), some (.int (W (k + 1))), none, none, none] ∧ Same H H' ∧ H' l = some (.lst (((List.range k).map W).map V.int)) ∧ (0 < k → W (k - 1) ≤ n) ∧ k ≤ 1000 ∧ m = 1000 - k) 1000 ⟨0, rfl, e1, h1, fun z => (nomatch z), by omega, rfl⟩ ?_
    rintro m σ H2 ⟨k, rfl, e2, h2, hk, hk2, rfl⟩
    refine ⟨_, by walk_at "ans", fun hc => ?_, fun hc => ?_⟩
    · have hc : W k ≤ n := of_decide_eq_true hc
      have hlt : k < 1000 := by
        by_cases h : k < 1000
        · exact h
        · have := W_mono (i := 1000) (j := k) (by omega)
          omega
      refine Evl.q_app (l := l) h2 (Evl.ev_var rfl) (Evl.ev_var rfl) (by rw [List.length_map, List.length_map, List.length_range]; omega) fun H3 e3 => ?_
      refine xs_par (xg_cons (val_var rfl) (xg_cons (xv_I0 (val_var rfl) (val_var rfl)) xg_nil)) ⟨1000 - (k + 1), by omega, k + 1, rfl, same_mut (e2.trans e3) nl, ?_, fun _ => hc, by omega, rfl⟩
      rw [upd_same, List.range_succ, List.map_append, List.map_append]
      rfl
    · have hc : n < W k := by
        have := of_decide_eq_false hc
        omega
      refine Evl.q_asgL (Evl.el_lst Evl.ea_nil (by decide)) fun b H3 nb e3 h3 => ?_
      have hbl : l ≠ b := ne_of_none h2 nb
      have nb0 : H b = none := Same.free e2 nb
      have hlen : (((List.range k).map W).map V.int).length = k := by rw [List.length_map, List.length_map, List.length_range]
      refine xq_forRev (xs := ((List.range k).map W).map V.int) (xg_cons (val_var rfl) xg_nil) (SqL.of (e3 l _ h2)) (fun i σ H' => ∃ (hs : List Int) (left : Int) (y z : Option V), σ = [some (.int left), some (.ref l), some (.int (W k)), some (.int (W (k + 1))), some (.ref b), y, z] ∧ Same H H' ∧ H' l = some (.lst (((List.range k).map W).map V.int)) ∧ H' b = some (.lst (hs.map V.int)) ∧ hs ++ gr (k - i) left = gr k n ∧ hs.length = i)
        ⟨[], n, none, none, rfl, Same.trans e2 e3, e3 l _ h2, h3, rfl, rfl⟩ (fun i σ H h => by
          obtain ⟨hs, left, y, z, _, _, h, _⟩ := h
          exact SqL.of h) ?_ ?_
      · rintro i x σ H4 hi hx ⟨hs, left, y, z, rfl, e4, hl4, hb4, hg, hlen2⟩
        rw [hlen] at hi hx
        obtain ⟨j, hj⟩ : ∃ j, k - i = j + 1 := ⟨k - i - 1, by omega⟩
        have hj2 : k - 1 - i = j := by omega
        have hj3 : k - (i + 1) = j := by omega
        rw [hj2, List.getElem?_map, List.getElem?_map, List.getElem?_range (by omega)] at hx
        obtain rfl : V.int (W j) = x := Option.some.inj hx
        rw [hj] at hg
        have hjb := W_bitsN j
        refine xq_set (xv_cb (v := .int (if decide (W j ≤ left) = true then 1 else 0)) (xg_cons (xv_I0 (val_var rfl) (val_var rfl)) xg_nil) fun Q q => .inr ⟨_, rfl, q⟩) ?_
        have hcm : CMulW (if decide (W j ≤ left) = true then 1 else 0) (W j) := wide_mul (a := 2) (by split <;> decide) hjb (by decide) (by omega) (by omega)
        refine xq_set (xv_I0 (val_var rfl) (xv_I (val_var rfl) (val_var rfl) hcm)) ?_
        refine Evl.s_app (l := b) hb4 (Evl.ev_var rfl) (Evl.ev_var rfl) (by rw [List.length_map]; omega) fun H5 e5 => ?_
        by_cases hc : W j ≤ left
        · rw [if_pos (decide_eq_true hc), Int.one_mul]
          refine ⟨hs ++ [1], left - W j, _, _, rfl, same_mut (e4.trans e5) nb0, ?_, ?_, ?_, by rw [List.length_append, List.length_singleton, hlen2]⟩
          · rw [upd_ne hbl]
            exact e5 l _ hl4
          · rw [upd_same, List.map_append]
            rfl
          · rw [hj3, ← hg, List.append_assoc]
            congr 1
            show _ = gr (j + 1) left
            conv => rhs; unfold gr
            rw [if_pos hc]
            rfl
        · rw [if_neg (by rw [decide_eq_true_eq]; exact hc), Int.zero_mul, Int.sub_zero]
          refine ⟨hs ++ [0], left, _, _, rfl, same_mut (e4.trans e5) nb0, ?_, ?_, ?_, by rw [List.length_append, List.length_singleton, hlen2]⟩
          · rw [upd_ne hbl]
            exact e5 l _ hl4
          · rw [upd_same, List.map_append]
            rfl
          · rw [hj3, ← hg, List.append_assoc]
            congr 1
            show _ = gr (j + 1) left
            conv => rhs; unfold gr
            rw [if_neg hc]
            rfl
      · rintro σ H4 ⟨hs, left, y, z, rfl, e4, hl4, hb4, hg, hlen2⟩
        rw [hlen, Nat.sub_self] at hg
        have hg : hs = gr k n := by
          rw [← hg]
          show hs = hs ++ []
          rw [List.append_nil]
        obtain ⟨r1, r2⟩ := gr_rw hn0 hc hk
        refine Evl.s_retL (xl_revL (Evl.ev_var rfl) (SqL.of hb4)) fun p H5 np e5 h5 => ?_
        rw [← List.map_reverse, hg, rowOf_is hn0 hn1 r1 r2] at h5
        exact q H5 p (e4.trans e5) (Same.free e4 np) h5
/-! ### the pair of numbers -/
def sp_pair (K : PySem.W.Frag) : Sp := fun vs H Q _ => ∃ (a : Addr) (ns : List Int), vs = [.ref a] ∧ SqL K H a (ns.map V.int) ∧ ∀ H' p m n, Same H H' → 0 ≤ m → m < W 900 → 0 ≤ n → n < W 900 → H' p = some (.tup [.int m, .int n]) → Q (.ref p) H'
theorem ok_l_pair (T : Txt K mg) : FnOk P w K mg base CX0 2 T.f_l_pair T.d_l_pair ["_law_script"] (sp_pair K) := by
  refine T.F_l_pair.ok sc_l_pair (fun vs H Q E h => ?_) (fun cdv A outer s H vs Q E hr h => ?_)
  · obtain ⟨a, ns, rfl, _⟩ := h
    rfl
  · obtain ⟨a, ns, rfl, hS, q⟩ := h
    refine ⟨_, (pss_cons (ps_set (i := 1) sc_l_pair.nd rfl (Or.inl rfl) (pe_ix ix_list (pe_lst (pa_cons (pe_op op_pow pe_int pe_int) (pa_cons (pe_op op_pow pe_int pe_int) (pa_cons pe_int (pa_cons pe_int pa_nil))))) (pe_op op_mod (pe_call (ok_l_cell T) (hr.mono (by decide)) (by rfl) T.g_l_cell T.F_l_cell.kp T.b_l_cell .nil pass0 (pa_cons (pv 0) (pa_cons pe_int pa_nil))) pe_int) (fun _ _ => rfl)))
      (pss_cons (ps_set (i := 2) sc_l_pair.nd rfl (Or.inl rfl) (pe_op op_mod (pe_call (ok_l_cell T) (hr.mono (by decide)) (by rfl) T.g_l_cell T.F_l_cell.kp T.b_l_cell .nil pass0 (pa_cons (pv 0) (pa_cons pe_int pa_nil))) (pv 1)))
      (pss_cons (ps_set (i := 3) sc_l_pair.nd rfl (Or.inl rfl) (pe_op op_mod (pe_call (ok_l_cell T) (hr.mono (by decide)) (by rfl) T.g_l_cell T.F_l_cell.kp T.b_l_cell .nil pass0 (pa_cons (pv 0) (pa_cons pe_int pa_nil))) (pv 1)))
      (pss_cons (ps_set (i := 4) sc_l_pair.nd rfl (Or.inl rfl) (pe_op op_mod (pe_call (ok_l_cell T) (hr.mono (by decide)) (by rfl) T.g_l_cell T.F_l_cell.kp T.b_l_cell .nil pass0 (pa_cons (pv 0) (pa_cons pe_int pa_nil))) pe_int))
      (Evl.pss_cut (ps_if (pt_cmpR op_eq (pv 4) pe_int (nomark _)) (pss_one (ps_set (i := 3) sc_l_pair.nd rfl (Or.inl rfl) (pv 2))) pss_nil)
      (Evl.pss_cut (ps_if (pt_cmpR op_eq (pv 4) pe_int (nomark _)) (pss_one (ps_set (i := 3) sc_l_pair.nd rfl (Or.inl rfl) (pe_op op_add (pv 2) pe_int))) pss_nil)
      (Evl.pss_cut (ps_if (pt_cmpR op_eq (pv 4) pe_int (nomark _)) (pss_one (ps_set (i := 2) sc_l_pair.nd rfl (Or.inl rfl) (pe_op op_add (pv 3) pe_int))) pss_nil)
      (Evl.pss_cut (ps_if (pt_cmpR op_eq (pv 4) pe_int (nomark _)) (pss_one (ps_set (i := 2) sc_l_pair.nd rfl (Or.inl rfl) pe_int)) pss_nil)
      (Evl.pss_cut (ps_if (pt_cmpR op_eq (pv 4) pe_int (nomark _)) (pss_one (ps_set (i := 3) sc_l_pair.nd rfl (Or.inl rfl) pe_int)) pss_nil)
      (Evl.pss_cut (ps_if (pt_cmpR op_eq (pv 4) pe_int (nomark _)) (pss_one (ps_set (i := 2) sc_l_pair.nd rfl (Or.inl rfl) (pe_op op_sub (pe_call (ok_l_worth T) (hr.mono (by decide)) (by rfl) T.g_l_worth T.F_l_worth.kp T.b_l_worth .nil pass0 (pa_cons (pe_op op_mod (pe_call (ok_l_cell T) (hr.mono (by decide)) (by rfl) T.g_l_cell T.F_l_cell.kp T.b_l_cell .nil pass0 (pa_cons (pv 0) (pa_cons pe_int pa_nil))) pe_int) pa_nil)) pe_int))) pss_nil)
      (Evl.pss_cut (ps_if (pt_cmpR op_eq (pv 4) pe_int (nomark _)) (pss_one (ps_set (i := 3) sc_l_pair.nd rfl (Or.inl rfl) (pe_call (ok_l_worth T) (hr.mono (by decide)) (by rfl) T.g_l_worth T.F_l_worth.kp T.b_l_worth .nil pass0 (pa_cons (pe_op op_mod (pe_call (ok_l_cell T) (hr.mono (by decide)) (by rfl) T.g_l_cell T.F_l_cell.kp T.b_l_cell .nil pass0 (pa_cons (pv 0) (pa_cons pe_int pa_nil))) pe_int) pa_nil)))) pss_nil)
      (pss_one (ps_ret (pe_tup (pa_cons (pv 2) (pa_cons (pv 3) pa_nil)))))))))))))))), ?_⟩
    have b0 := BB_0
    have b1 := BB_W
    have hsz : ∃ sz : Int, atI [V.int (10 ^ (62 : Int).toNat), V.int (10 ^ (18 : Int).toNat), V.int 1000, V.int 9] (ns.getD 2 0 % 4) = some (.int sz) ∧ 0 < sz ∧ sz ≤ BB := by
      have b2 := BB_62
      rcases (show ns.getD 2 0 % 4 = 0 ∨ ns.getD 2 0 % 4 = 1 ∨ ns.getD 2 0 % 4 = 2 ∨ ns.getD 2 0 % 4 = 3 by omega) with h | h | h | h <;> rw [h]
      · exact ⟨_, rfl, by decide +kernel, b2⟩
      · exact ⟨_, rfl, by decide +kernel, Int.le_trans (by decide +kernel) b2⟩
      · exact ⟨_, rfl, by decide +kernel, Int.le_trans (by decide +kernel) b2⟩
      · exact ⟨_, rfl, by decide +kernel, Int.le_trans (by decide +kernel) b2⟩
    obtain ⟨sz, hat, hs1, hs2⟩ := hsz
    refine xq_run (xr_opR ?_)
    refine (Evl.el_lst (Evl.ea_cons (xe_I Evl.ev_c Evl.ev_c ⟨by decide, by decide, by decide⟩) (Evl.ea_cons (xe_I Evl.ev_c Evl.ev_c ⟨by decide, by decide, by decide⟩) (Evl.ea_cons Evl.ev_c (Evl.ea_cons Evl.ev_c Evl.ea_nil)))) (by show 4 ≤ 100000; omega)) H (Evl.Ex.refl H) _ fun lw H1 nw e1 h1 => ?_
    have hS1 := Same.seq e1 hS
    refine xv_go (xv_I (C := fun _ j => 0 < j) (xv_cell (j := 2) (val_var (i := 0) rfl) val_c hS1) val_c (by decide)) ?_
    refine ⟨lw, _, _, .int sz, rfl, rfl, SqL.of h1, hat, ?_⟩
    refine xq_set (xv_I (C := fun _ j => 0 < j) (xv_cell (j := 0) (val_var (i := 0) rfl) val_c hS1) (val_var (i := 1) rfl) hs1) ?_
    refine xq_set (xv_I (C := fun _ j => 0 < j) (xv_cell (j := 1) (val_var (i := 0) rfl) val_c hS1) (val_var (i := 1) rfl) hs1) ?_
    refine xq_set (xv_I (C := fun _ j => 0 < j) (xv_cell (j := 3) (val_var (i := 0) rfl) val_c hS1) val_c (by decide)) ?_
    have o0 : 0 ≤ ns.getD 0 0 % sz ∧ ns.getD 0 0 % sz < sz := ⟨Int.emod_nonneg _ (by omega), Int.emod_lt_of_pos _ hs1⟩
    have o1 : 0 ≤ ns.getD 1 0 % sz ∧ ns.getD 1 0 % sz < sz := ⟨Int.emod_nonneg _ (by omega), Int.emod_lt_of_pos _ hs1⟩
    have hwk : 0 ≤ ns.getD 4 0 % 290 ∧ ns.getD 4 0 % 290 < 290 := ⟨Int.emod_nonneg _ (by decide), Int.emod_lt_of_pos _ (by decide)⟩
    obtain ⟨wk, hwk2⟩ : ∃ k : Nat, ns.getD 4 0 % 290 = (k : Int) := ⟨_, (Int.toNat_of_nonneg hwk.1).symm⟩
    have hW1 := W_pos wk
    have hW2 : W wk ≤ BB := W_BB (by omega)
    generalize ns.getD 0 0 % sz = one at o0
    generalize ns.getD 1 0 % sz = other at o1
    generalize ns.getD 3 0 % 9 = way
    have vw : ∀ {σ : L2.St} {ta : TE}, Val ta σ H1 (.ref a) → Val (tCall sp_worth [] E0 (tCons (tOp (rI (fun _ j => 0 < j) fun i j => .int (i % j)) (tCall (sp_cell K) [] E0 (tCons ta (tCons (tC (.int 4)) tNil))) (tC (.int 290))) tNil)) σ H1 (.int (W wk)) := fun h =>
      xv_worth (n := wk) (xv_to (xv_I (C := fun _ j => 0 < j) (g := fun i j => .int (i % j)) (xv_cell (j := 4) h val_c hS1) val_c (by decide)) (congrArg V.int hwk2)) (by omega)
    let Mid : Int → L2.St → Hp → Prop := fun c σ H' => ∃ m n : Int, σ = [some (.ref a), some (.int sz), some (.int m), some (.int n), some (.int way)] ∧ H' = H1 ∧ (0 ≤ m ∧ m ≤ BB + c) ∧ (0 ≤ n ∧ n ≤ BB + c)
    have M1 : ∀ {σ : L2.St} {t : TE} {v : Int} {c : Int} {D : Ends} {m n : Int}, σ = [some (.ref a), some (.int sz), some (.int m), some (.int n), some (.int way)] → (0 ≤ m ∧ m ≤ BB + c) → (0 ≤ n ∧ n ≤ BB + c) → Val t σ H1 (.int v) → (0 ≤ v ∧ v ≤ BB + (c + 1)) → D.nx = Mid (c + 1) → tAsg t (gName 3) D σ H1 := by
      intro σ t v c D m n e hm hn hv hb hD
      subst e
      refine hv _ ?_
      show D.nx _ _
      rw [hD]
      exact ⟨m, v, rfl, rfl, by omega, hb⟩
    have M0 : ∀ {σ : L2.St} {t : TE} {v : Int} {c : Int} {D : Ends} {m n : Int}, σ = [some (.ref a), some (.int sz), some (.int m), some (.int n), some (.int way)] → (0 ≤ m ∧ m ≤ BB + c) → (0 ≤ n ∧ n ≤ BB + c) → Val t σ H1 (.int v) → (0 ≤ v ∧ v ≤ BB + (c + 1)) → D.nx = Mid (c + 1) → tAsg t (gName 2) D σ H1 := by
      intro σ t v c D m n e hm hn hv hb hD
      subst e
      refine hv _ ?_
      show D.nx _ _
      rw [hD]
      exact ⟨v, n, rfl, rfl, hb, by omega⟩
    refine xs_cut (Mid := Mid 1) ?_ ?_
    · exact xs_if (by walk_at "ans") (fun _ => M1 (c := 0) rfl ⟨o0.1, by omega⟩ ⟨o1.1, by omega⟩ (val_var rfl) ⟨by omega, by omega⟩ rfl) (fun _ => ⟨one, other, rfl, rfl, by omega, by omega⟩)
    rintro σ H' ⟨m, n, rfl, rfl, hm, hn⟩
    refine xs_cut (Mid := Mid 2) ?_ ?_
    · exact xs_if (by walk_at "ans") (fun _ => M1 (c := 1) rfl hm hn (xv_I0 (val_var rfl) val_c) ⟨by omega, by omega⟩ rfl) (fun _ => ⟨m, n, rfl, rfl, by omega, by omega⟩)
    rintro σ H' ⟨m, n, rfl, rfl, hm, hn⟩
    refine xs_cut (Mid := Mid 3) ?_ ?_
    · exact xs_if (by walk_at "ans") (fun _ => M0 (c := 2) rfl hm hn (xv_I0 (val_var rfl) val_c) ⟨by omega, by omega⟩ rfl) (fun _ => ⟨m, n, rfl, rfl, by omega, by omega⟩)
    rintro σ H' ⟨m, n, rfl, rfl, hm, hn⟩
    refine xs_cut (Mid := Mid 4) ?_ ?_
    · exact xs_if (by walk_at "ans") (fun _ => M0 (c := 3) rfl hm hn val_c ⟨by omega, by omega⟩ rfl) (fun _ => ⟨m, n, rfl, rfl, by omega, by omega⟩)
    rintro σ H' ⟨m, n, rfl, rfl, hm, hn⟩
    refine xs_cut (Mid := Mid 5) ?_ ?_
    · exact xs_if (by walk_at "ans") (fun _ => M1 (c := 4) rfl hm hn val_c ⟨by omega, by omega⟩ rfl) (fun _ => ⟨m, n, rfl, rfl, by omega, by omega⟩)
    rintro σ H' ⟨m, n, rfl, rfl, hm, hn⟩
    refine xs_cut (Mid := Mid 6) ?_ ?_
    · exact xs_if (by walk_at "ans") (fun _ => M0 (c := 5) rfl hm hn (xv_I0 (vw (val_var rfl)) val_c) ⟨by omega, by omega⟩ rfl) (fun _ => ⟨m, n, rfl, rfl, by omega, by omega⟩)
    rintro σ H' ⟨m, n, rfl, rfl, hm, hn⟩
    refine xs_cut (Mid := Mid 7) ?_ ?_
    · exact xs_if (by walk_at "ans") (fun _ => M1 (c := 6) rfl hm hn (vw (val_var rfl)) ⟨by omega, by omega⟩ rfl) (fun _ => ⟨m, n, rfl, rfl, by omega, by omega⟩)
    rintro σ H' ⟨m, n, rfl, rfl, hm, hn⟩
    refine Evl.s_retU (Evl.eu_tup (Evl.ea_cons (Evl.ev_var rfl) (Evl.ea_cons (Evl.ev_var rfl) Evl.ea_nil)) (by show 2 ≤ 100000; omega)) fun p H2 np e2 h2 => ?_
    exact q H2 p m n (Same.trans e1 e2) hm.1 (by omega) hn.1 (by omega) h2
/-! ### more taken than is there -/
def sp_short (K : PySem.W.Frag) : Sp := fun vs H Q _ => ∃ (a b : Addr) (m n : Int), vs = [.ref a, .ref b] ∧ SqL K H a ((rowOf m).map V.int) ∧ SqL K H b ((rowOf n).map V.int) ∧ (0 ≤ m ∧ m < W 1000) ∧ (0 ≤ n ∧ n < W 1000) ∧ m < n ∧ Q (.bl true) H
theorem ok_l_short (T : Txt K mg) : FnOk P w K mg base CX0 3 T.f_l_short T.d_l_short ["_law_left", "_law_right"] (sp_short K) := by
  refine T.F_l_short.ok sc_l_short (fun vs H Q E h => ?_) (fun cdv A outer s H vs Q E hr h => ?_)
  · obtain ⟨a, b, m, n, rfl, _⟩ := h
    rfl
  · obtain ⟨a, b, m, n, rfl, hA, hB, hm, hn, hlt, q⟩ := h
    refine ⟨_, (pss_cons (ps_try_two (i := 2) rfl rfl sc_l_short.nd rfl rfl (.cons ⟨rfl, by decide, Or.inl T.g_NoEnd⟩ (.cons ⟨rfl, by decide, Or.inl T.g_NoMove⟩ (.cons ⟨rfl, by decide, Or.inl T.g_NoNumber⟩ (.cons ⟨rfl, by decide, Or.inl T.g_NoSign⟩ .nil)))) told4 (by show 4 ≤ 1000; decide) ⟨rfl, by decide, Or.inl T.g_Short⟩ takes0 (fun W pn xe tk _ => (pss_one (ps_expr (by exact (pe_callS (ok_minus T) (hr.mono (by decide)) (by rfl) T.g_minus T.F_minus.kp T.b_minus (fun σ => passAt tk σ) (by exact (pa_cons (pv 0) (pa_cons (pv 1) pa_nil)))))))) (fun a oe cls d pn hz hf => (pss_one (ps_ret (pe_and (pe_callB (call_isX rfl hz hf) (by rfl) T.m_isinstance (by decide +kernel) (pa_cons (pv 2) (pa_cons (pe_glob (v := .ref T.C_StairError) (by rfl) T.g_StairError rfl) pa_nil))) (pe_one (pe_callB (call_isX rfl hz hf) (by rfl) T.m_isinstance (by decide +kernel) (pa_cons (pv 2) (pa_cons (pe_bltn (v := .ty "ValueError") (by rfl) T.m_ValueError (by decide +kernel) rfl) pa_nil)))))))))
      (pss_one (ps_ret pe_bl))), ?_⟩
    refine xq_two (xg_cons (val_var (i := 0) rfl) (xg_cons (val_var (i := 1) rfl) xg_nil)) ?_
    refine ⟨a, b, m, n, rfl, hA, hB, hm, hn, fun z => by omega, fun _ => ?_⟩
    refine ⟨any_no T.x_Short_NoEnd (any_no T.x_Short_NoMove (any_no T.x_Short_NoNumber (any_no T.x_Short_NoSign rfl))), true, T.x_Short_Short, fun _ e he => ?_, fun z => (nomatch z)⟩
    exact st_ret (xv_and (xv_isC (val_var rfl) T.E_Short T.i_Short_StairError) fun _ => xv_isT (val_var rfl) T.E_Short T.i_Short_VE) q
theorem xv_short {σ : L2.St} {H : Hp} {ta tb : TE} {a b : Addr} {m n : Int} (h : Val ta σ H (.ref a)) (h2 : Val tb σ H (.ref b)) (hA : SqL K H a ((rowOf m).map V.int)) (hB : SqL K H b ((rowOf n).map V.int)) (hm : 0 ≤ m ∧ m < W 1000) (hn : 0 ≤ n ∧ n < W 1000) (hlt : m < n) : Val (tCall (sp_short K) [] E0 (tCons ta (tCons tb tNil))) σ H (.bl true) :=
  xv_call (xg_cons h (xg_cons h2 xg_nil)) fun Q q => ⟨a, b, m, n, rfl, hA, hB, hm, hn, hlt, q⟩
/-! ### the order -/
def sp_order (K : PySem.W.Frag) : Sp := fun vs H Q _ => ∃ (a b : Addr) (m n : Int), vs = [.ref a, .ref b, .int m, .int n] ∧ SqL K H a ((rowOf m).map V.int) ∧ SqL K H b ((rowOf n).map V.int) ∧ (0 ≤ m ∧ m < W 1000) ∧ (0 ≤ n ∧ n < W 1000) ∧ ∀ H', Same H H' → Q (.bl true) H'
theorem ok_l_order (T : Txt K mg) : FnOk P w K mg base CX0 3 T.f_l_order T.d_l_order ["_law_left", "_law_right", "_law_one", "_law_other"] (sp_order K) := by
  refine T.F_l_order.ok sc_l_order (fun vs H Q E h => ?_) (fun cdv A outer s H vs Q E hr h => ?_)
  · obtain ⟨a, b, m, n, rfl, _⟩ := h
    rfl
  · obtain ⟨a, b, m, n, rfl, hA, hB, hm, hn, q⟩ := h
    refine ⟨_, (pss_cons (ps_for PassesOwn.never rfl (pi_list (pe_lst (pa_cons (pe_tup (pa_cons (pe_call (ok_before T) (hr.mono (by decide)) (by rfl) T.g_before T.F_before.kp T.b_before .nil pass0 (pa_cons (pv 0) (pa_cons (pv 1) pa_nil))) (pa_cons (pe_cmpR op_lt (pv 2) (pv 3) (nomark _)) pa_nil))) (pa_cons (pe_tup (pa_cons (pe_call (ok_before T) (hr.mono (by decide)) (by rfl) T.g_before T.F_before.kp T.b_before .nil pass0 (pa_cons (pv 1) (pa_cons (pv 0) pa_nil))) (pa_cons (pe_cmpR op_lt (pv 3) (pv 2) (nomark _)) pa_nil))) pa_nil)))) (pg_tup rfl (pgs_cons (pg_name (i := 4) sc_l_order.nd rfl (Or.inl rfl)) (pgs_cons (pg_name (i := 5) sc_l_order.nd rfl (Or.inl rfl)) pgs_nil))) (pss_one (ps_if (PW.pt (pw_or (pt_not (pt_val (pe_callB call_isi (by rfl) T.m_isinstance (by decide +kernel) (pa_cons (pv 4) (pa_cons (pe_bltn (v := .ty "bool") (by rfl) T.m_bool (by decide +kernel) rfl) pa_nil))))) (pw_or1 (pt_cmpR op_ne (pv 4) (pv 5) (nomark _))))) (pss_one (ps_ret pe_bl)) pss_nil)))
      (pss_one (ps_ret (pe_cmpR op_isBl (pe_call (ok_before T) (hr.mono (by decide)) (by rfl) T.g_before T.F_before.kp T.b_before .nil pass0 (pa_cons (pv 0) (pa_cons (pe_callTy call_list_of (by rfl) T.m_list (by decide +kernel) (pa_cons (pv 0) pa_nil)) pa_nil))) pe_bl (nomark _))))), ?_⟩
    have ev : ∀ {σ : L2.St} {ta tb : TE} {a b : Addr} {m n : Int} {H0 : Hp}, Evl.Ev ta σ H0 (.ref a) → Evl.Ev tb σ H0 (.ref b) → SqL K H0 a ((rowOf m).map V.int) → SqL K H0 b ((rowOf n).map V.int) → (0 ≤ m ∧ m < W 1000) → (0 ≤ n ∧ n < W 1000) → Evl.Ev (tCall (sp_before K) [] E0 (tCons ta (tCons tb tNil))) σ H0 (.bl (decide (m < n))) :=
      fun h h2 hA hB hm hn H1 e1 Q q => h H1 e1 _ fun H2 e2 => h2 H2 (Evl.Ex.trans e1 e2) _ fun H3 e3 => ⟨_, _, _, _, rfl, Same.seq e3 (Same.seq e2 (Same.seq e1 hA)), Same.seq e3 (Same.seq e2 (Same.seq e1 hB)), hm, hn, q H3 (Evl.Ex.trans e2 e3)⟩
    refine xr_forL (xr_lst (xr_cons ?_))
    refine (Evl.eu_tup (Evl.ea_cons (ev (Evl.ev_var (i := 0) rfl) (Evl.ev_var (i := 1) rfl) hA hB hm hn) (Evl.ea_cons (xe_I0 (Evl.ev_var (i := 2) rfl) (Evl.ev_var (i := 3) rfl)) Evl.ea_nil)) (by show 2 ≤ 100000; omega)) H (Evl.Ex.refl H) _ fun p1 H1 np1 e1 h1 => ?_
    refine xr_cons ?_
    refine (Evl.eu_tup (Evl.ea_cons (ev (Evl.ev_var (i := 1) rfl) (Evl.ev_var (i := 0) rfl) (Same.seq e1 hB) (Same.seq e1 hA) hn hm) (Evl.ea_cons (xe_I0 (Evl.ev_var (i := 3) rfl) (Evl.ev_var (i := 2) rfl)) Evl.ea_nil)) (by show 2 ≤ 100000; omega)) H1 (Evl.Ex.refl H1) _ fun p2 H2 np2 e2 h2 => ?_
    refine xr_nil ⟨Evl.sz_of (by show 2 ≤ 100000; omega), fun l nl => ?_⟩
    have e3 : Same H2 (upd H2 l (.lst [.ref p1, .ref p2])) := Evl.Ex.new nl
    have h3 : (upd H2 l (.lst [.ref p1, .ref p2])) l = some (.lst [.ref p1, .ref p2]) := upd_same
    generalize upd H2 l (.lst [.ref p1, .ref p2]) = H3 at e3 h3
    have hp1 := SqT.of (K := K) (e3 p1 _ (e2 p1 _ h1))
    have hp2 := SqT.of (K := K) (e3 p2 _ h2)
    have e03 : Same H H3 := Same.trans e1 (Same.trans e2 e3)
    refine ⟨l, rfl, ⟨_, SqL.of h3⟩, xs_at (xs := [.ref p1, .ref p2]) (fun i σ H' => ∃ y z, σ = [some (.ref a), some (.ref b), some (.int m), some (.int n), y, z] ∧ H' = H3) ⟨none, none, rfl, rfl⟩ (fun i σ H' _ h => by
      obtain ⟨_, _, _, rfl⟩ := h
      exact SqL.of h3) ?_ ?_⟩
    · rintro i x σ H' hi ⟨y, z, rfl, rfl⟩
      have tail : ∀ {p : Addr} {u : Bool} {D : Ends}, SqT K H' p [.bl u, .bl u] → D.nx = (fun σ H2 => ∃ y z, σ = [some (.ref a), some (.ref b), some (.int m), some (.int n), y, z] ∧ H2 = H') →
          gTup K 2 (gCons (gName 4) (gCons (gName 5) gNil)) (.ref p) [some (.ref a), some (.ref b), some (.int m), some (.int n), y, z] H' fun σ2 H2 => tIfS (tOr (tNot (tB (tCB (rIsi K) (tCons (tVar 4) (tCons (tC (.ty "bool")) tNil))))) (tTest (tOp rNe (tVar 4) (tVar 5)))) (tRet (tC (.bl false))) tNext D σ2 H2 := by
        intro p u D hp hD
        refine ⟨p, _, rfl, hp, rfl, _, _, rfl, _, _, rfl, rfl, ?_⟩
        refine xs_if (b := false) (xa_or (a := false) (xa_not (a := true) (xa_B (xv_isi (val_var rfl) (.base (.bl u)) (by decide +kernel)))) fun _ => xa_T (xv_to (xv_ne (val_var rfl) (val_var rfl) rfl) (by rw [decide_eq_true rfl]; rfl))) (fun z => (nomatch z)) (fun _ => ?_)
        show D.nx _ _
        rw [hD]
        exact ⟨_, _, rfl, rfl⟩
      match i, hi with
      | 0, hi =>
        obtain rfl := Option.some.inj hi
        exact tail hp1 rfl
      | 1, hi =>
        obtain rfl := Option.some.inj hi
        exact tail hp2 rfl
      | k + 2, hi =>
        simp at hi
    · rintro σ H' ⟨y, z, rfl, rfl⟩
      refine xr_ret (xr_opR (xr_call (xr_cons (xv_go (val_var (i := 0) rfl) (xr_cons ?_)))))
      refine xl_listQ (Evl.ev_var (i := 0) rfl) (e03.seq hA) H' (Evl.Ex.refl H') _ fun c H4 nc e4 h4 => ?_
      refine xr_nil ⟨a, c, m, m, rfl, Same.seq e4 (e03.seq hA), SqL.of h4, hm, hm, ?_⟩
      refine xv_go val_c ⟨_, _, rfl, rfl, ?_⟩
      rw [decide_eq_false (show ¬ m < m by omega), decide_eq_true rfl]
      exact q H4 (e03.trans e4)
/-! ### taken -/
def sp_taken (K : PySem.W.Frag) : Sp := fun vs H Q _ => ∃ (a b : Addr) (m n : Int), vs = [.ref a, .ref b, .int m, .int n] ∧ SqL K H a ((rowOf m).map V.int) ∧ SqL K H b ((rowOf n).map V.int) ∧ (0 ≤ m ∧ m < W 900) ∧ (0 ≤ n ∧ n < W 900) ∧ ∀ H', Same H H' → Q (.bl true) H'
theorem xv_alike {σ : L2.St} {H : Hp} {ta tb : TE} {a b : Addr} {ns : List Int} (h : Val ta σ H (.ref a)) (h2 : Val tb σ H (.ref b)) (hA : SqL K H a (ns.map V.int)) (hB : SqL K H b (ns.map V.int)) (hz : ns.length ≤ 100000) : Val (tCall (sp_alike K) [] E0 (tCons ta (tCons tb tNil))) σ H (.bl true) :=
  xv_call (xg_cons h (xg_cons h2 xg_nil)) fun Q q => ⟨a, b, ns, rfl, hA, hB, hz, q⟩
theorem ok_l_taken (T : Txt K mg) : FnOk P w K mg base CX0 4 T.f_l_taken T.d_l_taken ["_law_left", "_law_right", "_law_one", "_law_other"] (sp_taken K) := by
  refine T.F_l_taken.ok sc_l_taken (fun vs H Q E h => ?_) (fun cdv A outer s H vs Q E hr h => ?_)
  · obtain ⟨a, b, m, n, rfl, _⟩ := h
    rfl
  · obtain ⟨a, b, m, n, rfl, hA, hB, hm, hn, q⟩ := h
    refine ⟨_, (Evl.pss_cut (ps_if (pt_cmpR op_lt (pv 2) (pv 3) (nomark _)) (pss_cons (ps_if (pt_not (pt_val (pe_call (ok_l_short T) (hr.mono (by decide)) (by rfl) T.g_l_short T.F_l_short.kp T.b_l_short .nil pass0 (pa_cons (pv 0) (pa_cons (pv 1) pa_nil))))) (pss_one (ps_ret pe_bl)) pss_nil)
      (pss_one (ps_par (i := 0) (j := 1) (by rfl) sc_l_taken.nd rfl rfl (by decide) rfl rfl (pa_cons (pv 1) (pa_cons (pv 0) pa_nil)) (by rfl)))) pss_nil)
      (pss_cons (ps_set (i := 4) sc_l_taken.nd rfl (Or.inl rfl) (pe_call (ok_minus T) (hr.mono (by decide)) (by rfl) T.g_minus T.F_minus.kp T.b_minus .nil passL (pa_cons (pv 0) (pa_cons (pv 1) pa_nil))))
      (pss_cons (ps_set (i := 5) sc_l_taken.nd rfl (Or.inl rfl) (pe_callTy call_list_of (by rfl) T.m_list (by decide +kernel) (pa_cons (pv 4) pa_nil)))
      (pss_cons (ps_if (pt_not (pt_val (pe_call (ok_l_alike T) (hr.mono (by decide)) (by rfl) T.g_l_alike T.F_l_alike.kp T.b_l_alike .nil pass0 (pa_cons (pv 4) (pa_cons (pe_call (ok_l_heap T) (hr.mono (by decide)) (by rfl) T.g_l_heap T.F_l_heap.kp T.b_l_heap .nil pass0 (pa_cons (pe_callB call_abs (by rfl) T.m_abs (by decide +kernel) (pa_cons (pe_op op_sub (pv 2) (pv 3)) pa_nil)) pa_nil)) pa_nil))))) (pss_one (ps_ret pe_bl)) pss_nil)
      (pss_cons (ps_if (PW.pt (pw_and (pt_cmpR op_ne (pv 2) (pv 3) (nomark _)) (pw_and1 (pt_not (pt_val (pe_call (ok_l_short T) (hr.mono (by decide)) (by rfl) T.g_l_short T.F_l_short.kp T.b_l_short .nil pass0 (pa_cons (pv 1) (pa_cons (pv 0) pa_nil)))))))) (pss_one (ps_ret pe_bl)) pss_nil)
      (pss_one (ps_ret (pe_and (pe_call (ok_l_alike T) (hr.mono (by decide)) (by rfl) T.g_l_alike T.F_l_alike.kp T.b_l_alike .nil pass0 (pa_cons (pe_call (ok_minus T) (hr.mono (by decide)) (by rfl) T.g_minus T.F_minus.kp T.b_minus .nil passL (pa_cons (pe_call (ok_plus T) (hr.mono (by decide)) (by rfl) T.g_plus T.F_plus.kp T.b_plus .nil pass0 (pa_cons (pv 1) (pa_cons (pv 0) pa_nil))) (pa_cons (pv 0) pa_nil))) (pa_cons (pv 1) pa_nil))) (pe_one (pe_cmpR (op_eqD hr.units) (pv 4) (pv 5) (nomark _))))))))))), ?_⟩
    have h900 := W_900
    refine xs_cut (Mid := fun σ H' => H' = H ∧ ∃ (c d : Addr) (u v : Int), σ = [some (.ref c), some (.ref d), some (.int m), some (.int n), none, none] ∧ SqL K H c ((rowOf u).map V.int) ∧ SqL K H d ((rowOf v).map V.int) ∧ (0 ≤ u ∧ u < W 900) ∧ (0 ≤ v ∧ v < W 900) ∧ v ≤ u ∧ (if m - n < 0 then -(m - n) else m - n) = u - v ∧ (m ≠ n → v < u)) ?_ ?_
    · refine xs_if (by walk_at "ans") (fun hc => ?_) (fun hc => ?_)
      · have hc := of_decide_eq_true hc
        refine xs_when (b := false) (xa_not (a := true) (xa_B (xv_short (val_var rfl) (val_var rfl) hA hB ⟨hm.1, by omega⟩ ⟨hn.1, by omega⟩ hc))) (fun z => (nomatch z)) (fun _ => ?_)
        refine xs_par (xg_cons (val_var rfl) (xg_cons (val_var rfl) xg_nil)) ⟨rfl, b, a, n, m, rfl, hB, hA, hn, hm, by omega, ?_, fun _ => hc⟩
        rw [if_pos (by omega)]
        omega
      · have hc := of_decide_eq_false hc
        refine ⟨rfl, a, b, m, n, rfl, hA, hB, hm, hn, by omega, ?_, fun z => by omega⟩
        rw [if_neg (by omega)]
    rintro σ H' ⟨rfl, c, d, u, v, rfl, hC, hD, hu, hv, hle, habs, hlt⟩
    have hu1 : 0 ≤ u ∧ u < W 1000 := ⟨hu.1, by omega⟩
    have hv1 : 0 ≤ v ∧ v < W 1000 := ⟨hv.1, by omega⟩
    refine xq_run (xr_call (xg_go (xg_cons (val_var (i := 0) rfl) (xg_cons (val_var (i := 1) rfl) xg_nil)) ?_))
    refine ⟨c, d, u, v, rfl, hC, hD, hu1, hv1, fun _ H1 f e1 nf h1 => ?_, fun z => by omega⟩
    refine Evl.q_asgL (xl_listQ (Evl.ev_var (i := 4) rfl) (SqL.of h1)) fun k H2 nk e2 h2 => ?_
    have hf2 := e2 f _ h1
    have hC2 := Same.seq e2 (Same.seq e1 hC)
    have hD2 := Same.seq e2 (Same.seq e1 hD)
    have huv : 0 ≤ u - v ∧ u - v < W 1000 := ⟨by omega, by omega⟩
    refine Evl.q_when (b := false) (Evl.et_not (a := true) (Evl.et_B fun H3 e3 Q q => ?_)) (fun z => (nomatch z)) (fun _ H3 e3 => ?_)
    · refine xr_call (xr_cons (xv_go (val_var (i := 4) rfl) (xr_cons (xr_call (xg_go (xg_cons (xv_cb (v := .int (u - v)) (xg_cons (xv_I0 (val_var (i := 2) rfl) (val_var (i := 3) rfl)) xg_nil) fun Q q => ⟨_, rfl, by rw [habs]; exact q⟩) xg_nil) ?_)))))
      refine ⟨u - v, rfl, huv.1, huv.2, fun H4 g e4 ng h4 => ?_⟩
      exact xr_nil ⟨f, g, _, rfl, SqL.of (e4 f _ (e3 f _ hf2)), SqL.of h4, Nat.le_trans (rowOf_len huv.2) (by decide), q H4 e4⟩
    have hC3 := Same.seq e3 hC2
    have hD3 := Same.seq e3 hD2
    have hf3 := e3 f _ hf2
    have hk3 := e3 k _ h2
    refine xs_when (b := false) (xv_ans (xa_and (a := !decide (V.int m = V.int n)) (b := false) (xa_T (xv_ne (val_var rfl) (val_var rfl) rfl)) fun hc => xa_not (a := true) (xa_B (xv_short (val_var rfl) (val_var rfl) hD3 hC3 hv1 hu1 (hlt fun z => by rw [z, decide_eq_true rfl] at hc; cases hc)))) (Bool.and_false _)) (fun z => (nomatch z)) (fun _ => ?_)
    refine xr_ret (xr_and (xr_call (xr_cons (xr_call (xr_cons (xr_call (xg_go (xg_cons (val_var (i := 1) rfl) (xg_cons (val_var (i := 0) rfl) xg_nil)) ?_)))))))
    refine ⟨d, c, v, u, rfl, hD3, hC3, hv1, hu1, by omega, fun H4 g e4 ng h4 => ?_⟩
    refine xg_go (xg_cons (val_var (i := 0) rfl) xg_nil) ?_
    refine ⟨g, c, v + u, u, rfl, SqL.of h4, Same.seq e4 hC3, ⟨by omega, by omega⟩, hu1, fun _ H5 r e5 nr h5 => ?_, fun z => by omega⟩
    rw [Int.add_sub_cancel] at h5
    refine xg_go (xg_cons (val_var (i := 1) rfl) xg_nil) ?_
    refine ⟨r, d, _, rfl, SqL.of h5, Same.seq e5 (Same.seq e4 hD3), Nat.le_trans (rowOf_len hv1.2) (by decide), true, rfl, ?_⟩
    refine iteT (xv_go (xv_eqL (K := K) (val_var (i := 4) rfl) (val_var (i := 5) rfl) (SqL.of (e5 f _ (e4 f _ hf3))) (SqL.of (e5 k _ (e4 k _ hk3)))) ?_)
    rw [decide_eq_true rfl]
    exact q H5 (Same.trans e1 (Same.trans e2 (Same.trans e3 (Same.trans e4 e5))))
/-! ### the law -/
def sp_law (K : PySem.W.Frag) : Sp := fun vs H Q _ => ∃ (a : Addr) (ns : List Int), vs = [.ref a] ∧ SqL K H a (ns.map V.int) ∧ ns.length ≤ 63 ∧ ∀ H', Q (.bl true) H'
theorem ok_law (T : Txt K mg) : FnOk P w K mg base CX0 5 T.f_law T.d_law ["_law_script"] (sp_law K) := by
  refine T.F_law.ok sc_law (fun vs H Q E h => ?_) (fun cdv A outer s H vs Q E hr h => ?_)
  · obtain ⟨a, ns, rfl, _⟩ := h
    rfl
  · obtain ⟨a, ns, rfl, hS, hl, q⟩ := h
    refine ⟨_, (pss_cons (ps_asg (pe_call (ok_l_pair T) (hr.mono (by decide)) (by rfl) T.g_l_pair T.F_l_pair.kp T.b_l_pair .nil pass0 (pa_cons (pv 0) pa_nil)) (pg_tup rfl (pgs_cons (pg_name (i := 1) sc_law.nd rfl (Or.inl rfl)) (pgs_cons (pg_name (i := 2) sc_law.nd rfl (Or.inl rfl)) pgs_nil))))
      (pss_cons (ps_set (i := 3) sc_law.nd rfl (Or.inl rfl) (pe_call (ok_l_heap T) (hr.mono (by decide)) (by rfl) T.g_l_heap T.F_l_heap.kp T.b_l_heap .nil pass0 (pa_cons (pv 1) pa_nil)))
      (pss_cons (ps_set (i := 4) sc_law.nd rfl (Or.inl rfl) (pe_call (ok_l_heap T) (hr.mono (by decide)) (by rfl) T.g_l_heap T.F_l_heap.kp T.b_l_heap .nil pass0 (pa_cons (pv 2) pa_nil)))
      (pss_cons (ps_set (i := 5) sc_law.nd rfl (Or.inl rfl) (pe_lst (pa_cons (pe_callTy call_list_of (by rfl) T.m_list (by decide +kernel) (pa_cons (pv 3) pa_nil)) (pa_cons (pe_callTy call_list_of (by rfl) T.m_list (by decide +kernel) (pa_cons (pv 4) pa_nil)) pa_nil))))
      (pss_cons (ps_if (PW.pt (pw_or (pt_not (pt_val (pe_call (ok_l_order T) (hr.mono (by decide)) (by rfl) T.g_l_order T.F_l_order.kp T.b_l_order .nil pass0 (pa_cons (pe_ix ix_list (pv 5) pe_int (fun _ _ => rfl)) (pa_cons (pe_ix ix_list (pv 5) pe_int (fun _ _ => rfl)) (pa_cons (pv 1) (pa_cons (pv 2) pa_nil))))))) (pw_or1 (pt_not (pt_val (pe_call (ok_l_taken T) (hr.mono (by decide)) (by rfl) T.g_l_taken T.F_l_taken.kp T.b_l_taken .nil pass0 (pa_cons (pe_ix ix_list (pv 5) pe_int (fun _ _ => rfl)) (pa_cons (pe_ix ix_list (pv 5) pe_int (fun _ _ => rfl)) (pa_cons (pv 1) (pa_cons (pv 2) pa_nil)))))))))) (pss_one (ps_ret pe_bl)) pss_nil)
      (pss_cons (ps_set (i := 6) sc_law.nd rfl (Or.inl rfl) (pe_call (ok_l_heap T) (hr.mono (by decide)) (by rfl) T.g_l_heap T.F_l_heap.kp T.b_l_heap .nil pass0 (pa_cons (pe_op op_add (pv 1) (pv 2)) pa_nil)))
      (pss_cons (ps_set (i := 7) sc_law.nd rfl (Or.inl rfl) (pe_call (ok_plus T) (hr.mono (by decide)) (by rfl) T.g_plus T.F_plus.kp T.b_plus .nil pass0 (pa_cons (pe_ix ix_list (pv 5) pe_int (fun _ _ => rfl)) (pa_cons (pe_ix ix_list (pv 5) pe_int (fun _ _ => rfl)) pa_nil))))
      (pss_cons (ps_set (i := 8) sc_law.nd rfl (Or.inl rfl) (pe_call (ok_plus T) (hr.mono (by decide)) (by rfl) T.g_plus T.F_plus.kp T.b_plus .nil pass0 (pa_cons (pe_ix ix_list (pv 5) pe_int (fun _ _ => rfl)) (pa_cons (pe_ix ix_list (pv 5) pe_int (fun _ _ => rfl)) pa_nil))))
      (pss_cons (ps_set (i := 9) sc_law.nd rfl (Or.inl rfl) (pe_call (ok_minus T) (hr.mono (by decide)) (by rfl) T.g_minus T.F_minus.kp T.b_minus .nil passL (pa_cons (pv 7) (pa_cons (pe_ix ix_list (pv 5) pe_int (fun _ _ => rfl)) pa_nil))))
      (pss_cons (ps_if (PW.pt (pw_or (pt_not (pt_val (pe_call (ok_l_alike T) (hr.mono (by decide)) (by rfl) T.g_l_alike T.F_l_alike.kp T.b_l_alike .nil pass0 (pa_cons (pv 7) (pa_cons (pv 6) pa_nil))))) (pw_or (pt_not (pt_val (pe_call (ok_l_alike T) (hr.mono (by decide)) (by rfl) T.g_l_alike T.F_l_alike.kp T.b_l_alike .nil pass0 (pa_cons (pv 8) (pa_cons (pv 6) pa_nil))))) (pw_or1 (pt_not (pt_val (pe_call (ok_l_alike T) (hr.mono (by decide)) (by rfl) T.g_l_alike T.F_l_alike.kp T.b_l_alike .nil pass0 (pa_cons (pv 9) (pa_cons (pv 3) pa_nil))))))))) (pss_one (ps_ret pe_bl)) pss_nil)
      (pss_cons (ps_if (pt_cmpR (op_neD hr.units) (pv 5) (pe_lst (pa_cons (pv 3) (pa_cons (pv 4) pa_nil))) (nomark _)) (pss_one (ps_ret pe_bl)) pss_nil)
      (pss_cons (ps_expr (pe_bm0 PySem.F.plainAttrs_list PySem.F.slot_list_clear PySem.F.type_list_clear mt_clear (pe_ix ix_list (pv 5) pe_int (fun _ _ => rfl))))
      (pss_cons (ps_expr (pe_bm0 PySem.F.plainAttrs_list PySem.F.slot_list_clear PySem.F.type_list_clear mt_clear (pe_ix ix_list (pv 5) pe_int (fun _ _ => rfl))))
      (pss_cons (ps_expr (pe_bm PySem.F.plainAttrs_list PySem.F.slot_list_append PySem.F.type_list_append mt_append (pv 7) (pa_cons pe_int pa_nil)))
      (pss_cons (ps_if (PW.pt (pw_or (pt_not (pt_val (pe_call (ok_l_alike T) (hr.mono (by decide)) (by rfl) T.g_l_alike T.F_l_alike.kp T.b_l_alike .nil pass0 (pa_cons (pe_call (ok_plus T) (hr.mono (by decide)) (by rfl) T.g_plus T.F_plus.kp T.b_plus .nil pass0 (pa_cons (pv 3) (pa_cons (pv 4) pa_nil))) (pa_cons (pv 6) pa_nil))))) (pw_or1 (pt_not (pt_val (pe_call (ok_l_alike T) (hr.mono (by decide)) (by rfl) T.g_l_alike T.F_l_alike.kp T.b_l_alike .nil pass0 (pa_cons (pe_call (ok_minus T) (hr.mono (by decide)) (by rfl) T.g_minus T.F_minus.kp T.b_minus .nil passL (pa_cons (pv 8) (pa_cons (pv 4) pa_nil))) (pa_cons (pv 3) pa_nil)))))))) (pss_one (ps_ret pe_bl)) pss_nil)
      (pss_one (ps_ret (pe_and (pe_cmpR (op_eqD hr.units) (pv 8) (pv 6) (nomark _)) (pe_one (pe_cmpR (op_eqD hr.units) (pv 9) (pv 3) (nomark _))))))))))))))))))))), ?_⟩
    have h900 := W_900
    refine xq_tup (xr_call (xg_go (xg_cons (val_var (i := 0) rfl) xg_nil) ?_))
    refine ⟨a, ns, rfl, hS, fun H1 pp m n e1 hm0 hm9 hn0 hn9 h1 => ?_⟩
    have hm : 0 ≤ m ∧ m < W 1000 := ⟨hm0, by omega⟩
    have hn : 0 ≤ n ∧ n < W 1000 := ⟨hn0, by omega⟩
    have hmn : 0 ≤ m + n ∧ m + n < W 1000 := ⟨by omega, by omega⟩
    refine ⟨pp, _, rfl, SqT.of h1, rfl, _, _, rfl, _, _, rfl, rfl, ?_⟩
    refine xq_run (xr_call (xg_go (xg_cons (val_var (i := 1) rfl) xg_nil) ⟨m, rfl, hm.1, hm.2, fun H2 lf e2 nlf h2 => ?_⟩))
    refine xq_run (xr_call (xg_go (xg_cons (val_var (i := 2) rfl) xg_nil) ⟨n, rfl, hn.1, hn.2, fun H3 rg e3 nrg h3 => ?_⟩))
    have hl3 := e3 lf _ h2
    refine xq_run (xr_lst (xr_cons ?_))
    refine xl_listQ (Evl.ev_var (i := 3) rfl) (SqL.of hl3) H3 (Evl.Ex.refl H3) _ fun x H4 nx e4 h4 => ?_
    refine xr_cons ?_
    refine xl_listQ (Evl.ev_var (i := 4) rfl) (SqL.of (e4 rg _ h3)) H4 (Evl.Ex.refl H4) _ fun y H5 ny e5 h5 => ?_
    refine xr_nil ⟨Evl.sz_of (by show 2 ≤ 100000; omega), fun z nz => ?_⟩
    have e6 : Same H5 (upd H5 z (.lst [.ref x, .ref y])) := Evl.Ex.new nz
    have h6 : (upd H5 z (.lst [.ref x, .ref y])) z = some (.lst [.ref x, .ref y]) := upd_same
    generalize upd H5 z (.lst [.ref x, .ref y]) = H6 at e6 h6
    have e36 : Same H3 H6 := Same.trans e4 (Same.trans e5 e6)
    have lf6 := e36 lf _ hl3
    have rg6 := e36 rg _ h3
    have x6 := e6 x _ (e5 x _ h4)
    have y6 := e6 y _ h5
    have v0 : ∀ {σ : L2.St} {te : TE} {H' : Hp}, Same H6 H' → Val te σ H' (.ref z) → Val (tOp (rIxL K) te (tC (.int 0))) σ H' (.ref x) := fun e h => xv_ixV (i := 0) h val_c (SqL.of (e z _ h6)) rfl
    have v1 : ∀ {σ : L2.St} {te : TE} {H' : Hp}, Same H6 H' → Val te σ H' (.ref z) → Val (tOp (rIxL K) te (tC (.int 1))) σ H' (.ref y) := fun e h => xv_ixV (i := 1) h val_c (SqL.of (e z _ h6)) rfl
    refine Evl.q_when (b := false) (Evl.et_or (a := false) (Evl.et_not (a := true) (Evl.et_B fun H7 e7 Q q => xr_call (xg_go (xg_cons (v0 e7 (val_var (i := 5) rfl)) (xg_cons (v1 e7 (val_var (i := 5) rfl)) (xg_cons (val_var (i := 1) rfl) (xg_cons (val_var (i := 2) rfl) xg_nil)))) ⟨x, y, m, n, rfl, SqL.of (e7 x _ x6), SqL.of (e7 y _ y6), hm, hn, fun H8 e8 => q H8 e8⟩))) fun _ =>
      Evl.et_not (a := true) (Evl.et_B fun H7 e7 Q q => xr_call (xg_go (xg_cons (v0 e7 (val_var (i := 5) rfl)) (xg_cons (v1 e7 (val_var (i := 5) rfl)) (xg_cons (val_var (i := 1) rfl) (xg_cons (val_var (i := 2) rfl) xg_nil)))) ⟨x, y, m, n, rfl, SqL.of (e7 x _ x6), SqL.of (e7 y _ y6), ⟨hm0, hm9⟩, ⟨hn0, hn9⟩, fun H8 e8 => q H8 e8⟩))) (fun z => (nomatch z)) (fun _ H7 e7 => ?_)
    refine xq_run (xr_call (xg_go (xg_cons (xv_I0 (val_var (i := 1) rfl) (val_var (i := 2) rfl)) xg_nil) ⟨m + n, rfl, hmn.1, hmn.2, fun H8 du e8 ndu h8 => ?_⟩))
    have e68 : Same H6 H8 := Same.trans e7 e8
    refine xq_run (xr_call (xg_go (xg_cons (v0 e68 (val_var (i := 5) rfl)) (xg_cons (v1 e68 (val_var (i := 5) rfl)) xg_nil)) ⟨x, y, m, n, rfl, SqL.of (e68 x _ x6), SqL.of (e68 y _ y6), hm, hn, hmn.2, fun H9 td e9 ntd h9 => ?_⟩))
    have e69 : Same H6 H9 := Same.trans e68 e9
    refine xq_run (xr_call (xg_go (xg_cons (v1 e69 (val_var (i := 5) rfl)) (xg_cons (v0 e69 (val_var (i := 5) rfl)) xg_nil)) ⟨y, x, n, m, rfl, SqL.of (e69 y _ y6), SqL.of (e69 x _ x6), hn, hm, by omega, fun H10 ag e10 nag h10 => ?_⟩))
    rw [Int.add_comm n m] at h10
    have e610 : Same H6 H10 := Same.trans e69 e10
    have td10 := e10 td _ h9
    refine xq_run (xr_call (xg_go (xg_cons (val_var (i := 7) rfl) (xg_cons (v1 e610 (val_var (i := 5) rfl)) xg_nil)) ?_))
    refine ⟨td, y, m + n, n, rfl, SqL.of td10, SqL.of (e610 y _ y6), hmn, hn, fun _ H11 rs e11 nrs h11 => ?_, fun z => by omega⟩
    rw [Int.add_sub_cancel] at h11
    have e611 : Same H6 H11 := Same.trans e610 e11
    have td11 := e11 td _ td10
    have ag11 := e11 ag _ h10
    have du11 := e11 du _ (e10 du _ (e9 du _ h8))
    have lf11 := e611 lf _ lf6
    have rg11 := e611 rg _ rg6
    have x11 := e611 x _ x6
    have y11 := e611 y _ y6
    have z11 := e611 z _ h6
    have lmn : (rowOf (m + n)).length ≤ 100000 := Nat.le_trans (rowOf_len hmn.2) (by decide)
    have lm : (rowOf m).length ≤ 100000 := Nat.le_trans (rowOf_len hm.2) (by decide)
    refine xs_when (b := false) (xa_or (a := false) (xa_not (a := true) (xa_B (xv_alike (val_var (i := 7) rfl) (val_var (i := 6) rfl) (SqL.of td11) (SqL.of du11) lmn))) fun _ => xa_or (a := false) (xa_not (a := true) (xa_B (xv_alike (val_var (i := 8) rfl) (val_var (i := 6) rfl) (SqL.of ag11) (SqL.of du11) lmn))) fun _ =>
      xa_not (a := true) (xa_B (xv_alike (val_var (i := 9) rfl) (val_var (i := 3) rfl) (SqL.of h11) (SqL.of lf11) lm))) (fun z => (nomatch z)) (fun _ => ?_)
    refine Evl.q_when (b := false) (Evl.et_test (Evl.ev_is (Evl.ev_opL (Evl.ev_var (i := 5) rfl) (Evl.el_lst (Evl.ea_cons (Evl.ev_var (i := 3) rfl) (Evl.ea_cons (Evl.ev_var (i := 4) rfl) Evl.ea_nil)) (by show 2 ≤ 100000; omega)) (fun p H1 h1 e1 => fun H2 e2 Q q => ⟨_, _, .lst (SqL.of (e2 z _ (e1 z _ z11))) (.cons (.lst (SqL.of (e2 x _ (e1 x _ x11))) (dpAll_int _)) (.cons (.lst (SqL.of (e2 y _ (e1 y _ y11))) (dpAll_int _)) .nil)),
      .lst (SqL.of (e2 p _ h1)) (.cons (.lst (SqL.of (e2 lf _ (e1 lf _ lf11))) (dpAll_int _)) (.cons (.lst (SqL.of (e2 rg _ (e1 rg _ rg11))) (dpAll_int _)) .nil)), shaped_two _ _, shaped_two _ _, by rw [eqv_two]; exact q H2 (Evl.Ex.refl H2)⟩)) rfl)) (fun z => (nomatch z)) (fun _ H12 e12 => ?_)
    have x12 := e12 x _ x11
    have y12 := e12 y _ y11
    have z12 := e12 z _ z11
    have td12 := e12 td _ td11
    have ag12 := e12 ag _ ag11
    have du12 := e12 du _ du11
    have lf12 := e12 lf _ lf11
    have rg12 := e12 rg _ rg11
    have rs12 := e12 rs _ h11
    -- who is who
    have lx : lf ≠ x := ne_of_none hl3 nx
    have gx : rg ≠ x := ne_of_none h3 nx
    have ly : lf ≠ y := ne_of_none (e4 lf _ hl3) ny
    have gy : rg ≠ y := ne_of_none (e4 rg _ h3) ny
    have xy : x ≠ y := ne_of_none h4 ny
    have zx : z ≠ x := (ne_of_none (e5 x _ h4) nz).symm
    have zy : z ≠ y := (ne_of_none h5 nz).symm
    have dx : du ≠ x := (ne_of_none (e7 x _ x6) ndu).symm
    have dy : du ≠ y := (ne_of_none (e7 y _ y6) ndu).symm
    have tx : td ≠ x := (ne_of_none (e68 x _ x6) ntd).symm
    have ty : td ≠ y := (ne_of_none (e68 y _ y6) ntd).symm
    have td_ : du ≠ td := ne_of_none h8 ntd
    have lt : lf ≠ td := ne_of_none (e68 lf _ lf6) ntd
    have gt : rg ≠ td := ne_of_none (e68 rg _ rg6) ntd
    have ax : ag ≠ x := (ne_of_none (e69 x _ x6) nag).symm
    have ay : ag ≠ y := (ne_of_none (e69 y _ y6) nag).symm
    have at_ : ag ≠ td := (ne_of_none h9 nag).symm
    have rx : rs ≠ x := (ne_of_none (e610 x _ x6) nrs).symm
    have ry : rs ≠ y := (ne_of_none (e610 y _ y6) nrs).symm
    have rt : rs ≠ td := (ne_of_none td10 nrs).symm
    refine xq_clear (xv_ixV (i := 0) (val_var (i := 5) rfl) val_c (SqL.of z12) rfl) x12 ?_
    refine xq_clear (xs := (rowOf n).map V.int) (xv_ixV (i := 1) (v := .ref y) (val_var (i := 5) rfl) val_c (SqL.of (show upd H12 x (.lst []) z = some (.lst [.ref x, .ref y]) by rw [upd_ne zx]; exact z12)) rfl) (by rw [upd_ne (Ne.symm xy)]; exact y12) ?_
    have k : ∀ b o, b ≠ x → b ≠ y → H12 b = some o → (upd (upd H12 x (.lst [])) y (.lst [])) b = some o := fun b o h1 h2 h => by
      rw [upd_ne h2, upd_ne h1]
      exact h
    have td13 := k td _ tx ty td12
    have ag13 := k ag _ ax ay ag12
    have du13 := k du _ dx dy du12
    have lf13 := k lf _ lx ly lf12
    have rg13 := k rg _ gx gy rg12
    have rs13 := k rs _ rx ry rs12
    generalize upd (upd H12 x (.lst [])) y (.lst []) = H13 at td13 ag13 du13 lf13 rg13 rs13
    refine Evl.q_app (l := td) td13 (Evl.ev_var (i := 7) rfl) Evl.ev_c (by rw [List.length_map]; have := rowOf_len hmn.2; omega) fun H14 e14 => ?_
    have ag15 : (upd H14 td (.lst ((rowOf (m + n)).map V.int ++ [.int 1]))) ag = _ := (upd_ne at_).trans (e14 ag _ ag13)
    have du15 : (upd H14 td (.lst ((rowOf (m + n)).map V.int ++ [.int 1]))) du = _ := (upd_ne td_).trans (e14 du _ du13)
    have lf15 : (upd H14 td (.lst ((rowOf (m + n)).map V.int ++ [.int 1]))) lf = _ := (upd_ne lt).trans (e14 lf _ lf13)
    have rg15 : (upd H14 td (.lst ((rowOf (m + n)).map V.int ++ [.int 1]))) rg = _ := (upd_ne gt).trans (e14 rg _ rg13)
    have rs15 : (upd H14 td (.lst ((rowOf (m + n)).map V.int ++ [.int 1]))) rs = _ := (upd_ne rt).trans (e14 rs _ rs13)
    generalize upd H14 td (.lst ((rowOf (m + n)).map V.int ++ [.int 1])) = H15 at ag15 du15 lf15 rg15 rs15
    refine Evl.q_when (b := false) (Evl.et_or (a := false) (Evl.et_not (a := true) (Evl.et_B fun H16 e16 Q q => ?_)) fun _ => Evl.et_not (a := true) (Evl.et_B fun H16 e16 Q q => ?_)) (fun z => (nomatch z)) (fun _ H16 e16 => ?_)
    · refine xr_call (xr_cons (xr_call (xg_go (xg_cons (val_var (i := 3) rfl) (xg_cons (val_var (i := 4) rfl) xg_nil)) ?_)))
      refine ⟨lf, rg, m, n, rfl, SqL.of (e16 lf _ lf15), SqL.of (e16 rg _ rg15), hm, hn, hmn.2, fun H17 r e17 nr h17 => ?_⟩
      refine xg_go (xg_cons (val_var (i := 6) rfl) xg_nil) ?_
      exact ⟨r, du, _, rfl, SqL.of h17, SqL.of (e17 du _ (e16 du _ du15)), lmn, q H17 e17⟩
    · refine xr_call (xr_cons (xr_call (xg_go (xg_cons (val_var (i := 8) rfl) (xg_cons (val_var (i := 4) rfl) xg_nil)) ?_)))
      refine ⟨ag, rg, m + n, n, rfl, SqL.of (e16 ag _ ag15), SqL.of (e16 rg _ rg15), hmn, hn, fun _ H17 r e17 nr h17 => ?_, fun z => by omega⟩
      rw [Int.add_sub_cancel] at h17
      refine xg_go (xg_cons (val_var (i := 3) rfl) xg_nil) ?_
      exact ⟨r, lf, _, rfl, SqL.of h17, SqL.of (e17 lf _ (e16 lf _ lf15)), lm, q H17 e17⟩
    · exact st_ret (xv_and (a := true) (b := true) (xv_to (xv_eqL (ns := rowOf (m + n)) (ms := rowOf (m + n)) (val_var (i := 8) rfl) (val_var (i := 6) rfl) (SqL.of (e16 ag _ ag15)) (SqL.of (e16 du _ du15))) (by rw [decide_eq_true rfl])) fun _ => xv_to (xv_eqL (ns := rowOf m) (ms := rowOf m) (val_var (i := 9) rfl) (val_var (i := 3) rfl) (SqL.of (e16 rs _ rs15)) (SqL.of (e16 lf _ lf15))) (by rw [decide_eq_true rfl])) (q H16)
end
theorem all_mk {l : PySem.W.OpenLaw} {w : World} {K : PySem.W.Frag} {h : Heap} {mg : Str → Option Value} {fa : Addr} (X : K.In h) (G : h.Ns mainGlobals mg) (hfa : mg "law" = some (.ref fa))
    {C_StairError : Addr} (a_StairError : PySem.W.nsIn K mainGlobals "StairError" = some (some (.ref C_StairError)))
    (k_StairError : PySem.W.keepIn K (.ref C_StairError) = true) (x_StairError : PySem.W.excIn K C_StairError [.type "ValueError", .type "Exception", .type "BaseException", .type "object"] "ValueError.__new__" = true) (xb_StairError : PySem.W.subIn K (.ref C_StairError) (.type "BaseException") = some true) (xt_StairError : PySem.W.typeIn K (.ref C_StairError) = some (.type "type"))
    {C_NoMove : Addr} (a_NoMove : PySem.W.nsIn K mainGlobals "NoMove" = some (some (.ref C_NoMove)))
    (k_NoMove : PySem.W.keepIn K (.ref C_NoMove) = true) (x_NoMove : PySem.W.excIn K C_NoMove [.type "ValueError", .type "Exception", .type "BaseException", .type "object"] "ValueError.__new__" = true) (xb_NoMove : PySem.W.subIn K (.ref C_NoMove) (.type "BaseException") = some true) (xt_NoMove : PySem.W.typeIn K (.ref C_NoMove) = some (.type "type"))
    {C_NoNumber : Addr} (a_NoNumber : PySem.W.nsIn K mainGlobals "NoNumber" = some (some (.ref C_NoNumber)))
    (k_NoNumber : PySem.W.keepIn K (.ref C_NoNumber) = true) (x_NoNumber : PySem.W.excIn K C_NoNumber [.type "ValueError", .type "Exception", .type "BaseException", .type "object"] "ValueError.__new__" = true) (xb_NoNumber : PySem.W.subIn K (.ref C_NoNumber) (.type "BaseException") = some true) (xt_NoNumber : PySem.W.typeIn K (.ref C_NoNumber) = some (.type "type"))
    {C_Short : Addr} (a_Short : PySem.W.nsIn K mainGlobals "Short" = some (some (.ref C_Short)))
    (k_Short : PySem.W.keepIn K (.ref C_Short) = true) (x_Short : PySem.W.excIn K C_Short [.type "ValueError", .type "Exception", .type "BaseException", .type "object"] "ValueError.__new__" = true) (xb_Short : PySem.W.subIn K (.ref C_Short) (.type "BaseException") = some true) (xt_Short : PySem.W.typeIn K (.ref C_Short) = some (.type "type"))
    {C_NoSign : Addr} (a_NoSign : PySem.W.nsIn K mainGlobals "NoSign" = some (some (.ref C_NoSign)))
    (k_NoSign : PySem.W.keepIn K (.ref C_NoSign) = true) (x_NoSign : PySem.W.excIn K C_NoSign [.type "ValueError", .type "Exception", .type "BaseException", .type "object"] "ValueError.__new__" = true) (xb_NoSign : PySem.W.subIn K (.ref C_NoSign) (.type "BaseException") = some true) (xt_NoSign : PySem.W.typeIn K (.ref C_NoSign) = some (.type "type"))
    {C_NoEnd : Addr} (a_NoEnd : PySem.W.nsIn K mainGlobals "NoEnd" = some (some (.ref C_NoEnd)))
    (k_NoEnd : PySem.W.keepIn K (.ref C_NoEnd) = true) (x_NoEnd : PySem.W.excIn K C_NoEnd [.type "ValueError", .type "Exception", .type "BaseException", .type "object"] "ValueError.__new__" = true) (xb_NoEnd : PySem.W.subIn K (.ref C_NoEnd) (.type "BaseException") = some true) (xt_NoEnd : PySem.W.typeIn K (.ref C_NoEnd) = some (.type "type"))
    {f_weight : Addr} (a_weight : PySem.W.nsIn K mainGlobals "weight" = some (some (.ref f_weight)))
    {od_weight an_weight : Option Addr} {sl_weight : Array (Option Value)} {oc_weight kV_weight dc_weight pm_weight cd_weight ct_weight : Value} (l_weight : K.lookup f_weight = some ⟨oc_weight, od_weight, .func (PySem.W.fnOf "weight" "weight" (defArgs st_weight) (defBody st_weight) (defScope st_weight) .none kV_weight dc_weight pm_weight an_weight cd_weight ct_weight), sl_weight⟩) (c_weight : PySem.W.codeIn K cd_weight "weight" = true) (k_weight : PySem.W.keepIn K (.ref f_weight) = true)
    {f_still_heap : Addr} (a_still_heap : PySem.W.nsIn K mainGlobals "still_heap" = some (some (.ref f_still_heap)))
    {od_still_heap an_still_heap : Option Addr} {sl_still_heap : Array (Option Value)} {oc_still_heap kV_still_heap dc_still_heap pm_still_heap cd_still_heap ct_still_heap : Value} (l_still_heap : K.lookup f_still_heap = some ⟨oc_still_heap, od_still_heap, .func (PySem.W.fnOf "still_heap" "still_heap" (defArgs st_still_heap) (defBody st_still_heap) (defScope st_still_heap) .none kV_still_heap dc_still_heap pm_still_heap an_still_heap cd_still_heap ct_still_heap), sl_still_heap⟩) (c_still_heap : PySem.W.codeIn K cd_still_heap "still_heap" = true) (k_still_heap : PySem.W.keepIn K (.ref f_still_heap) = true)
    {f_before : Addr} (a_before : PySem.W.nsIn K mainGlobals "before" = some (some (.ref f_before)))
    {od_before an_before : Option Addr} {sl_before : Array (Option Value)} {oc_before kV_before dc_before pm_before cd_before ct_before : Value} (l_before : K.lookup f_before = some ⟨oc_before, od_before, .func (PySem.W.fnOf "before" "before" (defArgs st_before) (defBody st_before) (defScope st_before) .none kV_before dc_before pm_before an_before cd_before ct_before), sl_before⟩) (c_before : PySem.W.codeIn K cd_before "before" = true) (k_before : PySem.W.keepIn K (.ref f_before) = true)
    {f_plus : Addr} (a_plus : PySem.W.nsIn K mainGlobals "plus" = some (some (.ref f_plus)))
    {od_plus an_plus : Option Addr} {sl_plus : Array (Option Value)} {oc_plus kV_plus dc_plus pm_plus cd_plus ct_plus : Value} (l_plus : K.lookup f_plus = some ⟨oc_plus, od_plus, .func (PySem.W.fnOf "plus" "plus" (defArgs st_plus) (defBody st_plus) (defScope st_plus) .none kV_plus dc_plus pm_plus an_plus cd_plus ct_plus), sl_plus⟩) (c_plus : PySem.W.codeIn K cd_plus "plus" = true) (k_plus : PySem.W.keepIn K (.ref f_plus) = true)
    {f_minus : Addr} (a_minus : PySem.W.nsIn K mainGlobals "minus" = some (some (.ref f_minus)))
    {od_minus an_minus : Option Addr} {sl_minus : Array (Option Value)} {oc_minus kV_minus dc_minus pm_minus cd_minus ct_minus : Value} (l_minus : K.lookup f_minus = some ⟨oc_minus, od_minus, .func (PySem.W.fnOf "minus" "minus" (defArgs st_minus) (defBody st_minus) (defScope st_minus) .none kV_minus dc_minus pm_minus an_minus cd_minus ct_minus), sl_minus⟩) (c_minus : PySem.W.codeIn K cd_minus "minus" = true) (k_minus : PySem.W.keepIn K (.ref f_minus) = true)
    {f_l_cell : Addr} (a_l_cell : PySem.W.nsIn K mainGlobals "_law_cell" = some (some (.ref f_l_cell)))
    {od_l_cell an_l_cell : Option Addr} {sl_l_cell : Array (Option Value)} {oc_l_cell kV_l_cell dc_l_cell pm_l_cell cd_l_cell ct_l_cell : Value} (l_l_cell : K.lookup f_l_cell = some ⟨oc_l_cell, od_l_cell, .func (PySem.W.fnOf "_law_cell" "_law_cell" (defArgs st_l_cell) (defBody st_l_cell) (defScope st_l_cell) .none kV_l_cell dc_l_cell pm_l_cell an_l_cell cd_l_cell ct_l_cell), sl_l_cell⟩) (c_l_cell : PySem.W.codeIn K cd_l_cell "_law_cell" = true) (k_l_cell : PySem.W.keepIn K (.ref f_l_cell) = true)
    {f_l_whole : Addr} (a_l_whole : PySem.W.nsIn K mainGlobals "_law_whole" = some (some (.ref f_l_whole)))
    {od_l_whole an_l_whole : Option Addr} {sl_l_whole : Array (Option Value)} {oc_l_whole kV_l_whole dc_l_whole pm_l_whole cd_l_whole ct_l_whole : Value} (l_l_whole : K.lookup f_l_whole = some ⟨oc_l_whole, od_l_whole, .func (PySem.W.fnOf "_law_whole" "_law_whole" (defArgs st_l_whole) (defBody st_l_whole) (defScope st_l_whole) .none kV_l_whole dc_l_whole pm_l_whole an_l_whole cd_l_whole ct_l_whole), sl_l_whole⟩) (c_l_whole : PySem.W.codeIn K cd_l_whole "_law_whole" = true) (k_l_whole : PySem.W.keepIn K (.ref f_l_whole) = true)
    {f_l_heap : Addr} (a_l_heap : PySem.W.nsIn K mainGlobals "_law_heap" = some (some (.ref f_l_heap)))
    {od_l_heap an_l_heap : Option Addr} {sl_l_heap : Array (Option Value)} {oc_l_heap kV_l_heap dc_l_heap pm_l_heap cd_l_heap ct_l_heap : Value} (l_l_heap : K.lookup f_l_heap = some ⟨oc_l_heap, od_l_heap, .func (PySem.W.fnOf "_law_heap" "_law_heap" (defArgs st_l_heap) (defBody st_l_heap) (defScope st_l_heap) .none kV_l_heap dc_l_heap pm_l_heap an_l_heap cd_l_heap ct_l_heap), sl_l_heap⟩) (c_l_heap : PySem.W.codeIn K cd_l_heap "_law_heap" = true) (k_l_heap : PySem.W.keepIn K (.ref f_l_heap) = true)
    {f_l_alike : Addr} (a_l_alike : PySem.W.nsIn K mainGlobals "_law_alike" = some (some (.ref f_l_alike)))
    {od_l_alike an_l_alike : Option Addr} {sl_l_alike : Array (Option Value)} {oc_l_alike kV_l_alike dc_l_alike pm_l_alike cd_l_alike ct_l_alike : Value} (l_l_alike : K.lookup f_l_alike = some ⟨oc_l_alike, od_l_alike, .func (PySem.W.fnOf "_law_alike" "_law_alike" (defArgs st_l_alike) (defBody st_l_alike) (defScope st_l_alike) .none kV_l_alike dc_l_alike pm_l_alike an_l_alike cd_l_alike ct_l_alike), sl_l_alike⟩) (c_l_alike : PySem.W.codeIn K cd_l_alike "_law_alike" = true) (k_l_alike : PySem.W.keepIn K (.ref f_l_alike) = true)
    {f_l_worth : Addr} (a_l_worth : PySem.W.nsIn K mainGlobals "_law_worth" = some (some (.ref f_l_worth)))
    {od_l_worth an_l_worth : Option Addr} {sl_l_worth : Array (Option Value)} {oc_l_worth kV_l_worth dc_l_worth pm_l_worth cd_l_worth ct_l_worth : Value} (l_l_worth : K.lookup f_l_worth = some ⟨oc_l_worth, od_l_worth, .func (PySem.W.fnOf "_law_worth" "_law_worth" (defArgs st_l_worth) (defBody st_l_worth) (defScope st_l_worth) .none kV_l_worth dc_l_worth pm_l_worth an_l_worth cd_l_worth ct_l_worth), sl_l_worth⟩) (c_l_worth : PySem.W.codeIn K cd_l_worth "_law_worth" = true) (k_l_worth : PySem.W.keepIn K (.ref f_l_worth) = true)
    {f_l_pair : Addr} (a_l_pair : PySem.W.nsIn K mainGlobals "_law_pair" = some (some (.ref f_l_pair)))
    {od_l_pair an_l_pair : Option Addr} {sl_l_pair : Array (Option Value)} {oc_l_pair kV_l_pair dc_l_pair pm_l_pair cd_l_pair ct_l_pair : Value} (l_l_pair : K.lookup f_l_pair = some ⟨oc_l_pair, od_l_pair, .func (PySem.W.fnOf "_law_pair" "_law_pair" (defArgs st_l_pair) (defBody st_l_pair) (defScope st_l_pair) .none kV_l_pair dc_l_pair pm_l_pair an_l_pair cd_l_pair ct_l_pair), sl_l_pair⟩) (c_l_pair : PySem.W.codeIn K cd_l_pair "_law_pair" = true) (k_l_pair : PySem.W.keepIn K (.ref f_l_pair) = true)
    {f_l_short : Addr} (a_l_short : PySem.W.nsIn K mainGlobals "_law_short" = some (some (.ref f_l_short)))
    {od_l_short an_l_short : Option Addr} {sl_l_short : Array (Option Value)} {oc_l_short kV_l_short dc_l_short pm_l_short cd_l_short ct_l_short : Value} (l_l_short : K.lookup f_l_short = some ⟨oc_l_short, od_l_short, .func (PySem.W.fnOf "_law_short" "_law_short" (defArgs st_l_short) (defBody st_l_short) (defScope st_l_short) .none kV_l_short dc_l_short pm_l_short an_l_short cd_l_short ct_l_short), sl_l_short⟩) (c_l_short : PySem.W.codeIn K cd_l_short "_law_short" = true) (k_l_short : PySem.W.keepIn K (.ref f_l_short) = true)
    {f_l_order : Addr} (a_l_order : PySem.W.nsIn K mainGlobals "_law_order" = some (some (.ref f_l_order)))
    {od_l_order an_l_order : Option Addr} {sl_l_order : Array (Option Value)} {oc_l_order kV_l_order dc_l_order pm_l_order cd_l_order ct_l_order : Value} (l_l_order : K.lookup f_l_order = some ⟨oc_l_order, od_l_order, .func (PySem.W.fnOf "_law_order" "_law_order" (defArgs st_l_order) (defBody st_l_order) (defScope st_l_order) .none kV_l_order dc_l_order pm_l_order an_l_order cd_l_order ct_l_order), sl_l_order⟩) (c_l_order : PySem.W.codeIn K cd_l_order "_law_order" = true) (k_l_order : PySem.W.keepIn K (.ref f_l_order) = true)
    {f_l_taken : Addr} (a_l_taken : PySem.W.nsIn K mainGlobals "_law_taken" = some (some (.ref f_l_taken)))
    {od_l_taken an_l_taken : Option Addr} {sl_l_taken : Array (Option Value)} {oc_l_taken kV_l_taken dc_l_taken pm_l_taken cd_l_taken ct_l_taken : Value} (l_l_taken : K.lookup f_l_taken = some ⟨oc_l_taken, od_l_taken, .func (PySem.W.fnOf "_law_taken" "_law_taken" (defArgs st_l_taken) (defBody st_l_taken) (defScope st_l_taken) .none kV_l_taken dc_l_taken pm_l_taken an_l_taken cd_l_taken ct_l_taken), sl_l_taken⟩) (c_l_taken : PySem.W.codeIn K cd_l_taken "_law_taken" = true) (k_l_taken : PySem.W.keepIn K (.ref f_l_taken) = true)
    {f_law : Addr} (a_law : PySem.W.nsIn K mainGlobals "law" = some (some (.ref f_law)))
    {od_law an_law : Option Addr} {sl_law : Array (Option Value)} {oc_law kV_law dc_law pm_law cd_law ct_law : Value} (l_law : K.lookup f_law = some ⟨oc_law, od_law, .func (PySem.W.fnOf "law" "law" (defArgs st_law) (defBody st_law) (defScope st_law) .none kV_law dc_law pm_law an_law cd_law ct_law), sl_law⟩) (c_law : PySem.W.codeIn K cd_law "law" = true) (k_law : PySem.W.keepIn K (.ref f_law) = true)
    (z_reversed : PySem.W.nsIn K mainGlobals "reversed" = some none)
    (z_len : PySem.W.nsIn K mainGlobals "len" = some none)
    (z_isinstance : PySem.W.nsIn K mainGlobals "isinstance" = some none)
    (z_int : PySem.W.nsIn K mainGlobals "int" = some none)
    (z_bool : PySem.W.nsIn K mainGlobals "bool" = some none)
    (z_list : PySem.W.nsIn K mainGlobals "list" = some none)
    (z_range : PySem.W.nsIn K mainGlobals "range" = some none)
    (z_ValueError : PySem.W.nsIn K mainGlobals "ValueError" = some none)
    (z_abs : PySem.W.nsIn K mainGlobals "abs" = some none)
    (cl_StairError : PySem.W.isClsIn K C_StairError = true)
    (hd_StairError : PySem.W.hasDictIn K C_StairError = true)
    (cl_NoMove : PySem.W.isClsIn K C_NoMove = true)
    (hd_NoMove : PySem.W.hasDictIn K C_NoMove = true)
    (cl_NoNumber : PySem.W.isClsIn K C_NoNumber = true)
    (hd_NoNumber : PySem.W.hasDictIn K C_NoNumber = true)
    (cl_Short : PySem.W.isClsIn K C_Short = true)
    (hd_Short : PySem.W.hasDictIn K C_Short = true)
    (cl_NoSign : PySem.W.isClsIn K C_NoSign = true)
    (hd_NoSign : PySem.W.hasDictIn K C_NoSign = true)
    (cl_NoEnd : PySem.W.isClsIn K C_NoEnd = true)
    (hd_NoEnd : PySem.W.hasDictIn K C_NoEnd = true)
    (s_Short_StairError : PySem.W.subIn K (.ref C_Short) (.ref C_StairError) = some true)
    (s_Short_NoMove : PySem.W.subIn K (.ref C_Short) (.ref C_NoMove) = some false)
    (s_Short_NoNumber : PySem.W.subIn K (.ref C_Short) (.ref C_NoNumber) = some false)
    (s_Short_Short : PySem.W.subIn K (.ref C_Short) (.ref C_Short) = some true)
    (s_Short_NoSign : PySem.W.subIn K (.ref C_Short) (.ref C_NoSign) = some false)
    (s_Short_NoEnd : PySem.W.subIn K (.ref C_Short) (.ref C_NoEnd) = some false)
    (s_Short_VE : PySem.W.subIn K (.ref C_Short) (.type "ValueError") = some true)
    (eg_Short : PySem.W.findIn K (.ref C_Short) "__getattribute__" = some (some (.builtin "BaseException.__getattribute__")))
    (ek_Short : PySem.W.findIn K (.ref C_Short) "__getattr__" = some none)
    (ea_Short : PySem.W.findIn K (.ref C_Short) "__class__" = some (some (.builtin "object.__class__")))
    (em_Short : PySem.W.mroIn K C_Short (.type "object") = some true)
    (en_ : PySem.W.specialIn K (.builtin "object.__class__") "__get__" = some (some (.builtin "getset_descriptor.__get__")))
    (et_ : PySem.W.takesIn K (.builtin "object.__class__") = some true) :
    ∃ fd : FuncData, (∀ (s : Shared) (v : Value), BindsTo s fd ⟨[v], []⟩ [("_law_script", v)]) ∧ ∀ base : Heap, K.In base → base.Ns mainGlobals mg → FnOk l.prog w K mg base CX0 5 fa fd ["_law_script"] (sp_law K) := by
  have e := hfa.symm.trans (PySem.W.mg_of X G a_law)
  cases e
  let T : Txt K mg := { C_StairError := C_StairError, g_StairError := PySem.W.mg_of X G a_StairError, k_StairError := k_StairError, x_StairError := x_StairError, xb_StairError := xb_StairError, xt_StairError := xt_StairError, C_NoMove := C_NoMove, g_NoMove := PySem.W.mg_of X G a_NoMove, k_NoMove := k_NoMove, x_NoMove := x_NoMove, xb_NoMove := xb_NoMove, xt_NoMove := xt_NoMove, C_NoNumber := C_NoNumber, g_NoNumber := PySem.W.mg_of X G a_NoNumber, k_NoNumber := k_NoNumber, x_NoNumber := x_NoNumber, xb_NoNumber := xb_NoNumber, xt_NoNumber := xt_NoNumber, C_Short := C_Short, g_Short := PySem.W.mg_of X G a_Short, k_Short := k_Short, x_Short := x_Short, xb_Short := xb_Short, xt_Short := xt_Short, C_NoSign := C_NoSign, g_NoSign := PySem.W.mg_of X G a_NoSign, k_NoSign := k_NoSign, x_NoSign := x_NoSign, xb_NoSign := xb_NoSign, xt_NoSign := xt_NoSign, C_NoEnd := C_NoEnd, g_NoEnd := PySem.W.mg_of X G a_NoEnd, k_NoEnd := k_NoEnd, x_NoEnd := x_NoEnd, xb_NoEnd := xb_NoEnd, xt_NoEnd := xt_NoEnd, f_weight := f_weight, d_weight := _, F_weight := fun_mk (st := st_weight) l_weight c_weight k_weight, g_weight := PySem.W.mg_of X G a_weight, b_weight := (fun_mk (st := st_weight) l_weight c_weight k_weight).binds (ps := ["heap"]) (fun _ _ _ _ _ _ us hl => match us, hl with | [_], _ => rfl), f_still_heap := f_still_heap, d_still_heap := _, F_still_heap := fun_mk (st := st_still_heap) l_still_heap c_still_heap k_still_heap, g_still_heap := PySem.W.mg_of X G a_still_heap, b_still_heap := (fun_mk (st := st_still_heap) l_still_heap c_still_heap k_still_heap).binds (ps := ["number"]) (fun _ _ _ _ _ _ us hl => match us, hl with | [_], _ => rfl), f_before := f_before, d_before := _, F_before := fun_mk (st := st_before) l_before c_before k_before, g_before := PySem.W.mg_of X G a_before, b_before := (fun_mk (st := st_before) l_before c_before k_before).binds (ps := ["one", "other"]) (fun _ _ _ _ _ _ us hl => match us, hl with | [_, _], _ => rfl), f_plus := f_plus, d_plus := _, F_plus := fun_mk (st := st_plus) l_plus c_plus k_plus, g_plus := PySem.W.mg_of X G a_plus, b_plus := (fun_mk (st := st_plus) l_plus c_plus k_plus).binds (ps := ["one", "other"]) (fun _ _ _ _ _ _ us hl => match us, hl with | [_, _], _ => rfl), f_minus := f_minus, d_minus := _, F_minus := fun_mk (st := st_minus) l_minus c_minus k_minus, g_minus := PySem.W.mg_of X G a_minus, b_minus := (fun_mk (st := st_minus) l_minus c_minus k_minus).binds (ps := ["one", "other"]) (fun _ _ _ _ _ _ us hl => match us, hl with | [_, _], _ => rfl), f_l_cell := f_l_cell, d_l_cell := _, F_l_cell := fun_mk (st := st_l_cell) l_l_cell c_l_cell k_l_cell, g_l_cell := PySem.W.mg_of X G a_l_cell, b_l_cell := (fun_mk (st := st_l_cell) l_l_cell c_l_cell k_l_cell).binds (ps := ["_law_script", "_law_k"]) (fun _ _ _ _ _ _ us hl => match us, hl with | [_, _], _ => rfl), f_l_whole := f_l_whole, d_l_whole := _, F_l_whole := fun_mk (st := st_l_whole) l_l_whole c_l_whole k_l_whole, g_l_whole := PySem.W.mg_of X G a_l_whole, b_l_whole := (fun_mk (st := st_l_whole) l_l_whole c_l_whole k_l_whole).binds (ps := ["_law_found"]) (fun _ _ _ _ _ _ us hl => match us, hl with | [_], _ => rfl), f_l_heap := f_l_heap, d_l_heap := _, F_l_heap := fun_mk (st := st_l_heap) l_l_heap c_l_heap k_l_heap, g_l_heap := PySem.W.mg_of X G a_l_heap, b_l_heap := (fun_mk (st := st_l_heap) l_l_heap c_l_heap k_l_heap).binds (ps := ["_law_number"]) (fun _ _ _ _ _ _ us hl => match us, hl with | [_], _ => rfl), f_l_alike := f_l_alike, d_l_alike := _, F_l_alike := fun_mk (st := st_l_alike) l_l_alike c_l_alike k_l_alike, g_l_alike := PySem.W.mg_of X G a_l_alike, b_l_alike := (fun_mk (st := st_l_alike) l_l_alike c_l_alike k_l_alike).binds (ps := ["_law_found", "_law_due"]) (fun _ _ _ _ _ _ us hl => match us, hl with | [_, _], _ => rfl), f_l_worth := f_l_worth, d_l_worth := _, F_l_worth := fun_mk (st := st_l_worth) l_l_worth c_l_worth k_l_worth, g_l_worth := PySem.W.mg_of X G a_l_worth, b_l_worth := (fun_mk (st := st_l_worth) l_l_worth c_l_worth k_l_worth).binds (ps := ["_law_step"]) (fun _ _ _ _ _ _ us hl => match us, hl with | [_], _ => rfl), f_l_pair := f_l_pair, d_l_pair := _, F_l_pair := fun_mk (st := st_l_pair) l_l_pair c_l_pair k_l_pair, g_l_pair := PySem.W.mg_of X G a_l_pair, b_l_pair := (fun_mk (st := st_l_pair) l_l_pair c_l_pair k_l_pair).binds (ps := ["_law_script"]) (fun _ _ _ _ _ _ us hl => match us, hl with | [_], _ => rfl), f_l_short := f_l_short, d_l_short := _, F_l_short := fun_mk (st := st_l_short) l_l_short c_l_short k_l_short, g_l_short := PySem.W.mg_of X G a_l_short, b_l_short := (fun_mk (st := st_l_short) l_l_short c_l_short k_l_short).binds (ps := ["_law_left", "_law_right"]) (fun _ _ _ _ _ _ us hl => match us, hl with | [_, _], _ => rfl), f_l_order := f_l_order, d_l_order := _, F_l_order := fun_mk (st := st_l_order) l_l_order c_l_order k_l_order, g_l_order := PySem.W.mg_of X G a_l_order, b_l_order := (fun_mk (st := st_l_order) l_l_order c_l_order k_l_order).binds (ps := ["_law_left", "_law_right", "_law_one", "_law_other"]) (fun _ _ _ _ _ _ us hl => match us, hl with | [_, _, _, _], _ => rfl), f_l_taken := f_l_taken, d_l_taken := _, F_l_taken := fun_mk (st := st_l_taken) l_l_taken c_l_taken k_l_taken, g_l_taken := PySem.W.mg_of X G a_l_taken, b_l_taken := (fun_mk (st := st_l_taken) l_l_taken c_l_taken k_l_taken).binds (ps := ["_law_left", "_law_right", "_law_one", "_law_other"]) (fun _ _ _ _ _ _ us hl => match us, hl with | [_, _, _, _], _ => rfl), f_law := _, d_law := _, F_law := fun_mk (st := st_law) l_law c_law k_law, g_law := PySem.W.mg_of X G a_law, b_law := (fun_mk (st := st_law) l_law c_law k_law).binds (ps := ["_law_script"]) (fun _ _ _ _ _ _ us hl => match us, hl with | [_], _ => rfl), m_reversed := PySem.W.mg_none_of X G z_reversed, m_len := PySem.W.mg_none_of X G z_len, m_isinstance := PySem.W.mg_none_of X G z_isinstance, m_int := PySem.W.mg_none_of X G z_int, m_bool := PySem.W.mg_none_of X G z_bool, m_list := PySem.W.mg_none_of X G z_list, m_range := PySem.W.mg_none_of X G z_range, m_ValueError := PySem.W.mg_none_of X G z_ValueError, m_abs := PySem.W.mg_none_of X G z_abs, eg_Short := eg_Short, ek_Short := ek_Short, ea_Short := ea_Short, ed_Short := hd_Short, em_Short := em_Short, i_Short_StairError := kit_yes cl_StairError xt_StairError s_Short_StairError, i_Short_NoMove := kit_no cl_NoMove xt_NoMove s_Short_Short s_Short_NoMove, i_Short_NoNumber := kit_no cl_NoNumber xt_NoNumber s_Short_Short s_Short_NoNumber, i_Short_Short := kit_yes cl_Short xt_Short s_Short_Short, i_Short_NoSign := kit_no cl_NoSign xt_NoSign s_Short_Short s_Short_NoSign, i_Short_NoEnd := kit_no cl_NoEnd xt_NoEnd s_Short_Short s_Short_NoEnd, i_Short_VE := kit_ve s_Short_VE, x_Short_NoEnd := PySem.W.exm_ref xb_NoEnd hd_NoEnd xt_NoEnd s_Short_NoEnd, x_Short_NoMove := PySem.W.exm_ref xb_NoMove hd_NoMove xt_NoMove s_Short_NoMove, x_Short_NoNumber := PySem.W.exm_ref xb_NoNumber hd_NoNumber xt_NoNumber s_Short_NoNumber, x_Short_NoSign := PySem.W.exm_ref xb_NoSign hd_NoSign xt_NoSign s_Short_NoSign, x_Short_Short := PySem.W.exm_ref xb_Short hd_Short xt_Short s_Short_Short, en_ := en_, et_ := et_ }
  exact ⟨PySem.W.fnOf "law" "law" (defArgs st_law) (defBody st_law) (defScope st_law) .none kV_law dc_law pm_law an_law cd_law ct_law, fun s v => .of_eq rfl, fun base _ _ => ok_law T⟩
end K07
open PySem PySem.W PyProof.Rows
set_option maxHeartbeats 0 in
theorem PySem.Challenge.cw_shellstair_k07_before_plus_minus_holds : PySem.Challenge.rw_shellstair_k07_before_plus_minus.Holds := by
  w_on; o_law; k_head; (case hw => w_witness2)
  k_fill
  refine L2.walk_of (l := PySem.Challenge.rw_shellstair_k07_before_plus_minus) (n := 63) (k := 5) (x := "_law_script") (CX := fun _ => L2.CX0) (sp := fun w => K07.sp_law _) rfl (by decide) rfl ⟨rfl, by decide, by decide⟩ (fun w h Y => PySem.W.kIn_of Y) ?F (fun _ _ a ns hl _ hS => ⟨a, ns, rfl, hS, hl, fun _ => rfl⟩) (fun _ _ _ _ _ h => h)
  case F =>
    intro w mg fa h KX G hmg
    refine' K07.all_mk KX G hmg ?a_StairError ?k_StairError ?x_StairError ?xb_StairError ?xt_StairError ?a_NoMove ?k_NoMove ?x_NoMove ?xb_NoMove ?xt_NoMove ?a_NoNumber ?k_NoNumber ?x_NoNumber ?xb_NoNumber ?xt_NoNumber ?a_Short ?k_Short ?x_Short ?xb_Short ?xt_Short ?a_NoSign ?k_NoSign ?x_NoSign ?xb_NoSign ?xt_NoSign ?a_NoEnd ?k_NoEnd ?x_NoEnd ?xb_NoEnd ?xt_NoEnd ?a_weight ?l_weight ?c_weight ?k_weight ?a_still_heap ?l_still_heap ?c_still_heap ?k_still_heap ?a_before ?l_before ?c_before ?k_before ?a_plus ?l_plus ?c_plus ?k_plus ?a_minus ?l_minus ?c_minus ?k_minus ?a_l_cell ?l_l_cell ?c_l_cell ?k_l_cell ?a_l_whole ?l_l_whole ?c_l_whole ?k_l_whole ?a_l_heap ?l_l_heap ?c_l_heap ?k_l_heap ?a_l_alike ?l_l_alike ?c_l_alike ?k_l_alike ?a_l_worth ?l_l_worth ?c_l_worth ?k_l_worth ?a_l_pair ?l_l_pair ?c_l_pair ?k_l_pair ?a_l_short ?l_l_short ?c_l_short ?k_l_short ?a_l_order ?l_l_order ?c_l_order ?k_l_order ?a_l_taken ?l_l_taken ?c_l_taken ?k_l_taken ?a_law ?l_law ?c_law ?k_law ?z_reversed ?z_len ?z_isinstance ?z_int ?z_bool ?z_list ?z_range ?z_ValueError ?z_abs ?cl_StairError ?hd_StairError ?cl_NoMove ?hd_NoMove ?cl_NoNumber ?hd_NoNumber ?cl_Short ?hd_Short ?cl_NoSign ?hd_NoSign ?cl_NoEnd ?hd_NoEnd ?s_Short_StairError ?s_Short_NoMove ?s_Short_NoNumber ?s_Short_Short ?s_Short_NoSign ?s_Short_NoEnd ?s_Short_VE ?eg_Short ?ek_Short ?ea_Short ?em_Short ?en_ ?et_
    (case a_StairError => k_is); (case k_StairError => k_is); (case x_StairError => k_exc); (case xb_StairError => k_is); (case xt_StairError => k_is); (case a_NoMove => k_is)
    (case k_NoMove => k_is); (case x_NoMove => k_exc); (case xb_NoMove => k_is); (case xt_NoMove => k_is); (case a_NoNumber => k_is); (case k_NoNumber => k_is)
    (case x_NoNumber => k_exc); (case xb_NoNumber => k_is); (case xt_NoNumber => k_is); (case a_Short => k_is); (case k_Short => k_is); (case x_Short => k_exc)
    (case xb_Short => k_is); (case xt_Short => k_is); (case a_NoSign => k_is); (case k_NoSign => k_is); (case x_NoSign => k_exc); (case xb_NoSign => k_is)
    (case xt_NoSign => k_is); (case a_NoEnd => k_is); (case k_NoEnd => k_is); (case x_NoEnd => k_exc); (case xb_NoEnd => k_is); (case xt_NoEnd => k_is)
    (case a_weight => k_is); (case l_weight => k_is); (case c_weight => k_is); (case k_weight => k_is); (case a_still_heap => k_is); (case l_still_heap => k_is)
    (case c_still_heap => k_is); (case k_still_heap => k_is); (case a_before => k_is); (case l_before => k_is); (case c_before => k_is); (case k_before => k_is)
    (case a_plus => k_is); (case l_plus => k_is); (case c_plus => k_is); (case k_plus => k_is); (case a_minus => k_is); (case l_minus => k_is)
    (case c_minus => k_is); (case k_minus => k_is); (case a_l_cell => k_is); (case l_l_cell => k_is); (case c_l_cell => k_is); (case k_l_cell => k_is)
    (case a_l_whole => k_is); (case l_l_whole => k_is); (case c_l_whole => k_is); (case k_l_whole => k_is); (case a_l_heap => k_is); (case l_l_heap => k_is)
    (case c_l_heap => k_is); (case k_l_heap => k_is); (case a_l_alike => k_is); (case l_l_alike => k_is); (case c_l_alike => k_is); (case k_l_alike => k_is)
    (case a_l_worth => k_is); (case l_l_worth => k_is); (case c_l_worth => k_is); (case k_l_worth => k_is); (case a_l_pair => k_is); (case l_l_pair => k_is)
    (case c_l_pair => k_is); (case k_l_pair => k_is); (case a_l_short => k_is); (case l_l_short => k_is); (case c_l_short => k_is); (case k_l_short => k_is)
    (case a_l_order => k_is); (case l_l_order => k_is); (case c_l_order => k_is); (case k_l_order => k_is); (case a_l_taken => k_is); (case l_l_taken => k_is)
    (case c_l_taken => k_is); (case k_l_taken => k_is); (case a_law => k_is); (case l_law => k_is); (case c_law => k_is); (case k_law => k_is)
    (case z_reversed => k_is); (case z_len => k_is); (case z_isinstance => k_is); (case z_int => k_is); (case z_bool => k_is); (case z_list => k_is)
    (case z_range => k_is); (case z_ValueError => k_is); (case z_abs => k_is); (case cl_StairError => k_is); (case hd_StairError => k_is); (case cl_NoMove => k_is)
    (case hd_NoMove => k_is); (case cl_NoNumber => k_is); (case hd_NoNumber => k_is); (case cl_Short => k_is); (case hd_Short => k_is); (case cl_NoSign => k_is)
    (case hd_NoSign => k_is); (case cl_NoEnd => k_is); (case hd_NoEnd => k_is); (case s_Short_StairError => k_is); (case s_Short_NoMove => k_is); (case s_Short_NoNumber => k_is)
    (case s_Short_Short => k_is); (case s_Short_NoSign => k_is); (case s_Short_NoEnd => k_is); (case s_Short_VE => k_is); (case eg_Short => k_is); (case ek_Short => k_is)
    (case ea_Short => k_is); (case em_Short => k_is); (case en_ => k_is); (case et_ => k_is)
