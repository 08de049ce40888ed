import PyProof.Rows.All
import Wide.All
import OpenK.AllK
import Wide.FinOn
import HandS.ForMost
import HandS.ForExc
import HandS.Steps
import HandS.Evl
import HandS.Wide
import HandS.IsInst
import HandS.Style
import HandS.Defaults
import HandS.Deep
import PySem.Challenge.RW_shellstair_k04_carried
set_option Elab.async false
set_option linter.all false
set_option maxRecDepth 100000
set_option maxHeartbeats 1000000
namespace Sh
/-! the worth of a step, and weighted sums over a list of counts -/
def W : Nat → Int
  | 0 => 1
  | 1 => 2
  | n + 2 => W n + W (n + 1)
/-- f-weighted sum of the counts, the first one on step k -/
def S (f : Nat → Int) : Nat → List Int → Int
  | _, [] => 0
  | k, c :: r => c * f k + S f (k + 1) r
abbrev wt (xs : List Int) : Int := S W 0 xs
theorem W_pos : ∀ n, 0 < W n
  | 0 => by decide
  | 1 => by decide
  | n + 2 => by
    have h1 := W_pos n
    have h2 := W_pos (n + 1)
    show 0 < W n + W (n + 1)
    omega
theorem W_lt : ∀ n, W n < W (n + 1)
  | 0 => by decide
  | n + 1 => by
    have h1 := W_pos n
    show W (n + 1) < W n + W (n + 1)
    omega
theorem W_mono {i j : Nat} (h : i ≤ j) : W i ≤ W j := by
  induction j with
  | zero =>
    have : i = 0 := by omega
    subst this
    exact Int.le_refl _
  | succ j ih =>
    by_cases e : i = j + 1
    · subst e
      exact Int.le_refl _
    · have := ih (by omega)
      have := W_lt j
      omega
theorem W_ge : ∀ n : Nat, (n : Int) < W n
  | 0 => by decide
  | n + 1 => by
    have := W_ge n
    have := W_lt n
    omega
theorem W_bits : ∀ n, W n < 2 ^ (n + 1)
  | 0 => by decide
  | 1 => by decide
  | n + 2 => by
    have h1 := W_bits n
    have h2 := W_bits (n + 1)
    have e1 : (2 : Int) ^ (n + 2 + 1) = 4 * 2 ^ (n + 1) := by
      rw [Int.pow_succ, Int.pow_succ]
      omega
    have e2 : (2 : Int) ^ (n + 1 + 1) = 2 * 2 ^ (n + 1) := by rw [Int.pow_succ]; omega
    have h3 : (0 : Int) < 2 ^ (n + 1) := Int.pow_pos (by decide)
    show W n + W (n + 1) < 2 ^ (n + 2 + 1)
    rw [e2] at h2
    rw [e1]
    generalize (2 : Int) ^ (n + 1) = z at *
    omega
theorem W_bitsN (n : Nat) : (W n).natAbs < 2 ^ (n + 1) := by
  have h1 := W_bits n
  have h2 := W_pos n
  have e : ((2 ^ (n + 1) : Nat) : Int) = 2 ^ (n + 1) := by norm_cast
  omega
/-! sums -/
theorem S_nil (f : Nat → Int) (k : Nat) : S f k [] = 0 := rfl
theorem S_cons (f : Nat → Int) (k : Nat) (c : Int) (r : List Int) : S f k (c :: r) = c * f k + S f (k + 1) r := rfl
theorem S_append (f : Nat → Int) : ∀ (xs ys : List Int) (k : Nat), S f k (xs ++ ys) = S f k xs + S f (k + xs.length) ys
  | [], ys, k => by simp [S]
  | c :: r, ys, k => by
    have ih := S_append f r ys (k + 1)
    show c * f k + S f (k + 1) (r ++ ys) = c * f k + S f (k + 1) r + S f (k + (r.length + 1)) ys
    rw [ih, show k + 1 + r.length = k + (r.length + 1) by omega]
    omega
theorem S_one (f : Nat → Int) (k : Nat) (c : Int) : S f k [c] = c * f k := by simp [S]
theorem take_more {α : Type} {l : List α} {i : Nat} {x : α} (h : l[i]? = some x) : l.take (i + 1) = l.take i ++ [x] := by
  rw [List.take_succ, h]
  rfl
theorem S_take {f : Nat → Int} {xs : List Int} {i : Nat} {c : Int} (h : xs[i]? = some c) (k : Nat) : S f k (xs.take (i + 1)) = S f k (xs.take i) + c * f (k + i) := by
  have hl : i < xs.length := (List.getElem?_eq_some_iff.mp h).1
  rw [take_more h, S_append, S_one, List.length_take, Nat.min_eq_left (Nat.le_of_lt hl)]
theorem S_zeros (f : Nat → Int) : ∀ (n k : Nat), S f k (List.replicate n 0) = 0
  | 0, k => rfl
  | n + 1, k => by
    show 0 * f k + S f (k + 1) (List.replicate n 0) = 0
    rw [S_zeros f n, Int.zero_mul, Int.add_zero]
theorem S_nonneg {f : Nat → Int} (hf : ∀ k, 0 ≤ f k) : ∀ (xs : List Int) (k : Nat), (∀ x ∈ xs, 0 ≤ x) → 0 ≤ S f k xs
  | [], _, _ => Int.le_refl _
  | c :: r, k, h => by
    have h1 := S_nonneg hf r (k + 1) fun x hx => h x (List.mem_cons_of_mem _ hx)
    have h2 := Int.mul_nonneg (h c List.mem_cons_self) (hf k)
    show 0 ≤ c * f k + S f (k + 1) r
    omega
/-! 10 ** 60 -/
def T60 : Int := 10 ^ 60
theorem T60_eq : (10 : Int) ^ (60 : Int).toNat = T60 := by decide +kernel
theorem T60_pos : 0 < T60 := by decide +kernel
theorem T60_pos1 : 0 < T60 + 1 := by decide +kernel
theorem T60_bits : T60.natAbs < 2 ^ 200 := by decide +kernel
/-- a list that is no longer, no greater than a machine could not bear -/
structure Sm (ns : List Int) : Prop where
  len : ns.length ≤ 100000
  mag : ∀ x ∈ ns, x.natAbs < 2 ^ 1000
theorem small60 {x : Int} (h0 : 0 ≤ x) (h : x ≤ T60) : x.natAbs < 2 ^ 1000 := by
  have h1 := T60_bits
  have h2 : (2 : Nat) ^ 200 ≤ 2 ^ 1000 := by decide +kernel
  omega
/-! noughts at the end left out -/
def bare (xs : List Int) : List Int := (xs.reverse.dropWhile (· == 0)).reverse
theorem bare_zero (xs : List Int) : bare (xs ++ [0]) = bare xs := by
  unfold bare
  rw [List.reverse_append]
  rfl
theorem bare_snoc (xs : List Int) {c : Int} (h : c ≠ 0) : bare (xs ++ [c]) = xs ++ [c] := by
  unfold bare
  rw [List.reverse_append]
  show (List.dropWhile (· == 0) (c :: xs.reverse)).reverse = _
  rw [List.dropWhile_cons, if_neg (by simpa using h), List.reverse_cons, List.reverse_reverse]
theorem bare_nil : bare [] = [] := rfl
theorem snoc_of {α : Type} {xs : List α} (h : xs ≠ []) : ∃ ys c, xs = ys ++ [c] := ⟨xs.dropLast, xs.getLast h, (List.dropLast_concat_getLast h).symm⟩
/-- a list is its bare one and noughts -/
theorem bare_rest : ∀ (n : Nat) (xs : List Int), xs.length = n → ∃ k, xs = bare xs ++ List.replicate k 0
  | 0, xs, h => ⟨0, by rw [List.eq_nil_of_length_eq_zero h]; rfl⟩
  | n + 1, xs, h => by
    obtain ⟨ys, c, rfl⟩ := snoc_of (xs := xs) (by intro e; rw [e] at h; cases h)
    rw [List.length_append, List.length_singleton] at h
    by_cases hc : c = 0
    · subst hc
      obtain ⟨k, e⟩ := bare_rest n ys (by omega)
      refine ⟨k + 1, ?_⟩
      rw [bare_zero, List.replicate_succ', ← List.append_assoc, ← e]
    · refine ⟨0, ?_⟩
      rw [bare_snoc ys hc]
      simp
theorem bare_S (f : Nat → Int) (k : Nat) (xs : List Int) : S f k (bare xs) = S f k xs := by
  obtain ⟨n, e⟩ := bare_rest _ xs rfl
  have h := congrArg (S f k) e
  rw [S_append, S_zeros, Int.add_zero] at h
  exact h.symm
theorem bare_mem {xs : List Int} {x : Int} (h : x ∈ bare xs) : x ∈ xs := by
  obtain ⟨n, e⟩ := bare_rest _ xs rfl
  rw [e]
  exact List.mem_append_left _ h
theorem bare_len (xs : List Int) : (bare xs).length ≤ xs.length := by
  obtain ⟨n, e⟩ := bare_rest _ xs rfl
  have h := congrArg List.length e
  rw [List.length_append] at h
  omega
theorem bare_idem (xs : List Int) : bare (bare xs) = bare xs := by
  by_cases h : bare xs = []
  · rw [h]
    rfl
  · obtain ⟨ys, c, e⟩ := snoc_of h
    rw [e]
    refine bare_snoc ys ?_
    intro hc
    unfold bare at e
    have h2 := congrArg List.reverse e
    rw [List.reverse_reverse, List.reverse_append, List.reverse_singleton, List.singleton_append] at h2
    have h3 := List.head?_dropWhile_not (· == 0) xs.reverse
    rw [h2] at h3
    simp [hc] at h3
theorem getD_last (ys : List Int) (c : Int) : (ys ++ [c]).getD ((ys ++ [c]).length - 1) 0 = c := by
  rw [List.getD_eq_getElem?_getD, List.length_append, List.length_singleton, Nat.add_sub_cancel, List.getElem?_append_right (Nat.le_refl _), Nat.sub_self]
  rfl
theorem Sm.bare {xs : List Int} (h : Sm xs) : Sm (bare xs) := ⟨Nat.le_trans (bare_len xs) h.len, fun x hx => h.mag x (bare_mem hx)⟩
/-! still heaps: no step with two, no two neighbours (b: what lies beneath) -/
def stillB : Int → List Int → Bool
  | _, [] => true
  | b, m :: r => !(decide (1 < m) || (decide (0 < m) && decide (0 < b))) && stillB m r
theorem stillB_append : ∀ (xs ys : List Int) (b : Int), stillB b (xs ++ ys) = (stillB b xs && stillB (xs.getLastD b) ys)
  | [], ys, b => by simp [stillB]
  | m :: r, ys, b => by
    show (!(decide (1 < m) || (decide (0 < m) && decide (0 < b))) && stillB m (r ++ ys)) = (!(decide (1 < m) || (decide (0 < m) && decide (0 < b))) && stillB m r && stillB ((m :: r).getLastD b) ys)
    rw [stillB_append r ys m, Bool.and_assoc, List.getLastD_cons]
/-- what lies beneath step i -/
def prev (ns : List Int) (i : Nat) : Int := (ns.take i).getLastD 0
theorem prev_zero (ns : List Int) : prev ns 0 = 0 := by simp [prev]
theorem prev_succ {ns : List Int} {i : Nat} {m : Int} (h : ns[i]? = some m) : prev ns (i + 1) = m := by
  unfold prev
  rw [take_more h]
  simp
theorem stillB_take {ns : List Int} {i : Nat} {m : Int} (h : ns[i]? = some m) : stillB 0 (ns.take (i + 1)) = (stillB 0 (ns.take i) && !(decide (1 < m) || (decide (0 < m) && decide (0 < prev ns i)))) := by
  rw [take_more h, stillB_append]
  show (stillB 0 (ns.take i) && (!(decide (1 < m) || (decide (0 < m) && decide (0 < prev ns i))) && true)) = _
  rw [Bool.and_true]
theorem stillB_stop {ns : List Int} (i : Nat) (h : stillB 0 (ns.take i) = false) : stillB 0 ns = false := by
  have e : ns = ns.take i ++ ns.drop i := (List.take_append_drop i ns).symm
  rw [e, stillB_append, h, Bool.false_and]
theorem getD_of {ns : List Int} {i : Nat} {m : Int} (h : ns[i]? = some m) : ns.getD i 0 = m := by
  rw [List.getD_eq_getElem?_getD, h]
  rfl
theorem get_of {ns : List Int} {i : Nat} (h : i < ns.length) : ns[i]? = some (ns.getD i 0) := by
  rw [List.getD_eq_getElem?_getD, List.getElem?_eq_getElem h]
  rfl
end Sh

/-! Own words over the hand layer: what is evaluated without a change of the tracked heap (Val, Ans), loops with a word that stands over the entry's heap. -/
namespace Sh
open PySem PySem.Spec PyProof.Rows L2
section
variable {σ : L2.St} {H H0 H1 : Hp} {K : PySem.W.Frag} {ta tb tc te tl : TE} {tr : TA} {t u : TT} {x y z v : V} {vs : List V} {D : Ends} {ts tz tu : TS}
def Arg (ta : TA) (σ : L2.St) (H : Hp) (vs : List V) : Prop := ∀ Q : List V → Hp → Prop, Q vs H → ta σ H Q
theorem xg_nil : Arg tNil σ H [] := fun _ q => q
theorem xg_cons (h : Val te σ H v) (hr : Arg tr σ H vs) : Arg (tCons te tr) σ H (v :: vs) := fun _ q => h _ (hr _ q)
theorem xv_go {Q : VK} (h : Val te σ H v) (q : Q v H) : te σ H Q := h Q q
theorem xg_go {ta : TA} {Q : List V → Hp → Prop} (h : Arg ta σ H vs) (q : Q vs H) : ta σ H Q := h Q q
theorem xv_c {w : V} (e : v = w) : Val (tC v) σ H w := fun _ q => by
  subst e
  exact q
theorem xv_I0 {g : Int → Int → V} {i j : Int} (ha : Val ta σ H (.int i)) (hb : Val tb σ H (.int j)) : Val (tOp (rI0 g) ta tb) σ H (g i j) := val_op ha hb fun Q q => ⟨i, j, rfl, rfl, q⟩
theorem xv_I {C : Int → Int → Prop} {g : Int → Int → V} {i j : Int} (ha : Val ta σ H (.int i)) (hb : Val tb σ H (.int j)) (hc : C i j) : Val (tOp (rI C g) ta tb) σ H (g i j) := val_op ha hb fun Q q => ⟨i, j, rfl, rfl, hc, q⟩
theorem xv_U {g : Int → V} {i : Int} (ha : Val ta σ H (.int i)) : Val (tUn (rU g) ta) σ H (g i) := fun Q q => ha _ ⟨i, rfl, q⟩
theorem xv_eq (ha : Val ta σ H x) (hb : Val tb σ H y) (hs : scal x y = true) : Val (tOp rEq ta tb) σ H (.bl (decide (x = y))) := val_op ha hb fun Q q => ⟨hs, q⟩
theorem xv_ne (ha : Val ta σ H x) (hb : Val tb σ H y) (hs : scal x y = true) : Val (tOp rNe ta tb) σ H (.bl (!decide (x = y))) := val_op ha hb fun Q q => ⟨hs, q⟩
theorem xv_to {w : V} (h : Val te σ H v) (e : v = w) : Val te σ H w := e ▸ h
/-- len of a list -/
abbrev rLenQ (K : PySem.W.Frag) : List V → Hp → VK → Prop := fun xs H Q => ∃ p ys, xs = [.ref p] ∧ (SqL K H p ys ∨ SqT K H p ys) ∧ Q (.int ys.length) H
theorem xv_len {p : Addr} {xs : List V} (ha : Val ta σ H (.ref p)) (h : SqL K H p xs) : Val (tCB (rLenQ K) (tCons ta tNil)) σ H (.int (xs.length : Int)) := fun Q q => ha _ ⟨p, xs, rfl, .inl h, q⟩
theorem xv_lenI {p : Addr} {ns : List Int} (ha : Val ta σ H (.ref p)) (h : SqL K H p (ns.map V.int)) : Val (tCB (rLenQ K) (tCons ta tNil)) σ H (.int (ns.length : Int)) := fun Q q => ha _ ⟨p, _, rfl, .inl h, by rw [List.length_map]; exact q⟩
theorem xv_cb {r : List V → Hp → VK → Prop} {ta : TA} (h : Arg ta σ H vs) (hr : ∀ Q : VK, Q v H → r vs H Q) : Val (tCB r ta) σ H v := fun Q q => h _ (hr Q q)
/-- an int of a list at a place -/
theorem atI_int {ns : List Int} {i : Int} (h0 : 0 ≤ i) (h1 : i < ns.length) : atI (ns.map V.int) i = some (.int (ns.getD i.toNat 0)) := by
  obtain ⟨n, rfl⟩ := Int.eq_ofNat_of_zero_le h0
  have hn : n < ns.length := by omega
  refine atI_nat ?_
  rw [List.getElem?_map, List.getD_eq_getElem?_getD]
  show Option.map V.int ns[n]? = some (V.int (ns[n]?.getD 0))
  rw [List.getElem?_eq_getElem hn]
  rfl
theorem xv_ix {p : Addr} {ns : List Int} {i : Int} (ha : Val ta σ H (.ref p)) (hb : Val tb σ H (.int i)) (h : SqL K H p (ns.map V.int)) (h0 : 0 ≤ i) (h1 : i < ns.length) : Val (tOp (rIxL K) ta tb) σ H (.int (ns.getD i.toNat 0)) :=
  val_op ha hb fun Q q => ⟨p, _, i, _, rfl, rfl, h, atI_int h0 h1, q⟩
theorem xv_ixV {p : Addr} {xs : List V} {i : Int} (ha : Val ta σ H (.ref p)) (hb : Val tb σ H (.int i)) (h : SqL K H p xs) (hv : atI xs i = some v) : Val (tOp (rIxL K) ta tb) σ H v :=
  val_op ha hb fun Q q => ⟨p, _, i, _, rfl, rfl, h, hv, q⟩
theorem xv_ixT {p : Addr} {xs : List V} {i : Int} (ha : Val ta σ H (.ref p)) (hb : Val tb σ H (.int i)) (h : SqT K H p xs) (hv : atI xs i = some v) : Val (tOp (rIxT K) ta tb) σ H v :=
  val_op ha hb fun Q q => ⟨p, _, i, _, rfl, rfl, h, hv, q⟩
/-- a def whose promise gives a value and leaves the heap -/
theorem xv_call {sp : Sp} {E : XK} (h : Arg tr σ H vs) (hs : ∀ Q : VK, Q v H → sp (vs ++ []) H Q E) : Val (tCall sp [] E tr) σ H v := fun Q q => h _ (hs Q q)
theorem xv_and {a b : Bool} (h1 : Val ta σ H (.bl a)) (h2 : a = true → Val tb σ H (.bl b)) : Val (tAndV ta tb) σ H (.bl (a && b)) := fun Q q => h1 _ ⟨a, rfl, by
  cases a with
  | true => exact h2 rfl _ q
  | false => exact q⟩
theorem xv_or {a b : Bool} (h1 : Val ta σ H (.bl a)) (h2 : a = false → Val tb σ H (.bl b)) : Val (tOrV ta tb) σ H (.bl (a || b)) := fun Q q => h1 _ ⟨a, rfl, by
  cases a with
  | true => exact q
  | false => exact h2 rfl _ q⟩
theorem xv_not {a : Bool} (h1 : Val ta σ H (.bl a)) : Val (tNotV ta) σ H (.bl (!a)) := fun Q q => h1 _ ⟨a, rfl, q⟩
theorem xv_p60 : Val (tOp (rI CPow fun i j => .int (i ^ j.toNat)) (tC (.int 10)) (tC (.int 60))) σ H (.int T60) := fun Q q => ⟨10, 60, rfl, rfl, ⟨by decide, by decide, by decide⟩, by
  show Q (.int ((10 : Int) ^ (60 : Int).toNat)) H
  rw [T60_eq]
  exact q⟩
/-! tests -/
theorem xa_T {b : Bool} (h : Val te σ H (.bl b)) : Ans (tTest te) σ H b := fun Q q => h _ ⟨b, rfl, q⟩
theorem xa_B {b : Bool} (h : Val te σ H (.bl b)) : Ans (tB te) σ H b := fun Q q => h _ ⟨b, rfl, q⟩
theorem xa_not {a : Bool} (h : Ans t σ H a) : Ans (tNot t) σ H (!a) := fun Q q => h _ q
theorem xa_and {a b : Bool} (h1 : Ans t σ H a) (h2 : a = true → Ans u σ H b) : Ans (tAnd t u) σ H (a && b) := fun Q q => h1 _ (by
  cases a with
  | true => exact h2 rfl _ q
  | false => exact q)
theorem xa_or {a b : Bool} (h1 : Ans t σ H a) (h2 : a = false → Ans u σ H b) : Ans (tOr t u) σ H (a || b) := fun Q q => h1 _ (by
  cases a with
  | true => exact q
  | false => exact h2 rfl _ q)
/-! statements -/
theorem xs_par {i j : Nat} {w : V} {ta : TA} (h : Arg ta σ H [v, w]) (q : D.nx ((σ.set i (some v)).set j (some w)) H) : tPar i j ta D σ H := h _ ⟨v, w, rfl, q⟩
theorem xs_if {b : Bool} (h : Ans t σ H b) (h1 : b = true → ts D σ H) (h2 : b = false → tu D σ H) : tIfS t ts tu D σ H := h _ (by
  cases b with
  | true => exact h1 rfl
  | false => exact h2 rfl)
/-- an if without else, something behind it -/
theorem xs_when {b : Bool} (h : Ans t σ H b) (h1 : b = true → ts { D with nx := tz D } σ H) (h2 : b = false → tz D σ H) : tSeq (tIfS t ts tNext) tz D σ H := xs_if (D := { D with nx := tz D }) h h1 h2
/-- if c: x = e, told by what holds of x behind it -/
theorem xs_ifSet {Pv : V → Prop} {b : Bool} {i : Nat} {v0 : V} (h : Ans t σ H b) (hv : b = true → Val te σ H v) (p1 : b = true → Pv v) (p0 : b = false → Pv v0) (hs : σ.set i (some v0) = σ) (k : ∀ v, Pv v → tz D (σ.set i (some v)) H) :
    tSeq (tIfS t (tAsg te (gName i)) tNext) tz D σ H := xs_when h (fun hb => st_set (D := { D with nx := tz D }) (hv hb) (k v (p1 hb))) fun hb => by
  have q := k v0 (p0 hb)
  rw [hs] at q
  exact q
theorem xs_cut {Mid : L2.St → Hp → Prop} (h : ts { D with nx := Mid } σ H) (k : ∀ σ' H', Mid σ' H' → tz D σ' H') : Evl.tCut ts tz D σ H := ⟨Mid, h, k⟩
theorem xs_seq {D : Ends} (h : ts { D with nx := tz D } σ H) : tSeq ts tz D σ H := h
/-- a for over a list of ints, which stands at H0: what was tracked at H0 stays -/
theorem xs_forI {a : Addr} {ns : List Int} {j : Nat} (hv : Val tl σ H (.ref a)) (e0 : Same H0 H) (hx : SqL K H0 a (ns.map V.int)) (P : Nat → L2.St → Hp → Prop) (h0 : P 0 σ H)
    (hs : ∀ i n σ' H', Same H0 H' → ns[i]? = some n → P i σ' H' → ts { D with nx := fun s h => Same H0 h ∧ P (i + 1) s h, ct := fun s h => Same H0 h ∧ P (i + 1) s h, bk := D.nx } (σ'.set j (some (.int n))) H')
    (hd : ∀ σ' H', Same H0 H' → P ns.length σ' H' → D.nx σ' H') : tFor (iList K tl) (gName j) ts D σ H :=
  hv _ ⟨a, rfl, ⟨_, e0.seq hx⟩, for_list (xs := ns.map V.int) (fun i s h => Same H0 h ∧ P i s h) ⟨e0, h0⟩ (fun _ _ _ _ p => p.1.seq hx)
    (fun i x σ' H' hi p => by
      rw [List.getElem?_map] at hi
      cases e : ns[i]? with
      | none =>
        rw [e] at hi
        cases hi
      | some n =>
        rw [e] at hi
        cases hi
        exact hs i n σ' H' p.1 e p.2)
    (fun σ' H' p => by
      rw [List.length_map] at p
      exact hd σ' H' p.1 p.2)⟩
theorem xs_forV {a : Addr} {xs : List V} {g : TG} (hv : Val tl σ H (.ref a)) (e0 : Same H0 H) (hx : SqL K H0 a xs) (P : Nat → L2.St → Hp → Prop) (h0 : P 0 σ H)
    (hs : ∀ i x σ' H', Same H0 H' → xs[i]? = some x → P i σ' H' → g x σ' H' fun σ2 H2 => ts { D with nx := fun s h => Same H0 h ∧ P (i + 1) s h, ct := fun s h => Same H0 h ∧ P (i + 1) s h, bk := D.nx } σ2 H2)
    (hd : ∀ σ' H', Same H0 H' → P xs.length σ' H' → D.nx σ' H') : tFor (iList K tl) g ts D σ H :=
  hv _ ⟨a, rfl, ⟨_, e0.seq hx⟩, for_list (xs := xs) (fun i s h => Same H0 h ∧ P i s h) ⟨e0, h0⟩ (fun _ _ _ _ p => p.1.seq hx)
    (fun i x σ' H' hi p => hs i x σ' H' p.1 hi p.2) (fun σ' H' p => hd σ' H' p.1 p.2)⟩
/-- a for over range(n) -/
theorem xs_forR {ta : TA} {j : Nat} {n : Nat} (h : Arg ta σ H [.int (n : Int)]) (hn : n < 2 ^ 62) (P : Nat → L2.St → Hp → Prop) (h0 : P 0 σ H)
    (hs : ∀ (i : Nat) σ' H', i < n → P i σ' H' → ts { D with nx := P (i + 1), ct := P (i + 1), bk := D.nx } (σ'.set j (some (.int (i : Int)))) H')
    (hd : ∀ σ' H', P n σ' H' → D.nx σ' H') : tFor (iRng1 ta) (gName j) ts D σ H :=
  h _ ⟨(n : Int), rfl, by omega, by omega, for_range (lo := 0) (n := n) P h0 (fun i σ' H' hi p => by
    show ts { D with nx := P (i + 1), ct := P (i + 1), bk := D.nx } (σ'.set j (some (.int ((0 : Int) + (i : Int))))) H'
    rw [Int.zero_add]
    exact hs i σ' H' hi p) hd⟩
/-- a while whose test leaves the heap: a word and a measure -/
theorem xs_while (P : Nat → L2.St → Hp → Prop) (m0 : Nat) (h0 : P m0 σ H)
    (hs : ∀ m σ' H', P m σ' H' → ∃ b, Ans t σ' H' b ∧ (b = true → ts { D with nx := fun s h => ∃ m', m' < m ∧ P m' s h, ct := fun s h => ∃ m', m' < m ∧ P m' s h, bk := D.nx } σ' H') ∧ (b = false → D.nx σ' H')) : tWhile t ts D σ H :=
  ⟨P, ⟨m0, h0⟩, fun m σ' H' p => by
    obtain ⟨b, hb, h1, h2⟩ := hs m σ' H' p
    refine hb _ ?_
    cases b with
    | true => exact ⟨fun s h => ∃ m', m' < m ∧ P m' s h, fun _ _ z => z, h1 rfl⟩
    | false => exact h2 rfl⟩
/-! the same, something behind -/
theorem xq_set {i : Nat} (h : Val te σ H v) (q : tz D (σ.set i (some v)) H) : tSeq (tAsg te (gName i)) tz D σ H := st_set (D := { D with nx := tz D }) h q
/-- read by hand, step by step -/
theorem xr_ret (h : te σ H fun v H1 => D.rt v H1) : tRet te D σ H := h
theorem xr_and {Q : VK} (h : ta σ H fun x H1 => ∃ c, x = .bl c ∧ if c = true then tb σ H1 Q else Q (.bl false) H1) : tAndV ta tb σ H Q := h
theorem xr_call {sp : Sp} {E : XK} {Q : VK} (h : tr σ H fun vs H1 => sp (vs ++ []) H1 Q E) : tCall sp [] E tr σ H Q := h
theorem xr_cons {Q : List V → Hp → Prop} (h : te σ H fun x H1 => tr σ H1 fun xs H2 => Q (x :: xs) H2) : tCons te tr σ H Q := h
/-- x = e, e read by hand -/
theorem xq_run {i : Nat} (h : te σ H fun v H1 => tz D (σ.set i (some v)) H1) : tSeq (tAsg te (gName i)) tz D σ H := h
theorem xq_par {i j : Nat} {w : V} {ta : TA} (h : Arg ta σ H [v, w]) (q : tz D ((σ.set i (some v)).set j (some w)) H) : tSeq (tPar i j ta) tz D σ H := xs_par (D := { D with nx := tz D }) h q
theorem xq_if {b : Bool} (h : Ans t σ H b) (h1 : b = true → ts { D with nx := tz D } σ H) (h2 : b = false → tu { D with nx := tz D } σ H) : tSeq (tIfS t ts tu) tz D σ H := xs_if (D := { D with nx := tz D }) h h1 h2
theorem xq_forI {a : Addr} {ns : List Int} {j : Nat} (hv : Val tl σ H (.ref a)) (e0 : Same H0 H) (hx : SqL K H0 a (ns.map V.int)) (P : Nat → L2.St → Hp → Prop) (h0 : P 0 σ H)
    (hs : ∀ i n σ' H', Same H0 H' → ns[i]? = some n → P i σ' H' → ts { D with nx := fun s h => Same H0 h ∧ P (i + 1) s h, ct := fun s h => Same H0 h ∧ P (i + 1) s h, bk := tz D } (σ'.set j (some (.int n))) H')
    (hd : ∀ σ' H', Same H0 H' → P ns.length σ' H' → tz D σ' H') : tSeq (tFor (iList K tl) (gName j) ts) tz D σ H := xs_forI (D := { D with nx := tz D }) hv e0 hx P h0 hs hd
theorem xq_forV {a : Addr} {xs : List V} {g : TG} (hv : Val tl σ H (.ref a)) (e0 : Same H0 H) (hx : SqL K H0 a xs) (P : Nat → L2.St → Hp → Prop) (h0 : P 0 σ H)
    (hs : ∀ i x σ' H', Same H0 H' → xs[i]? = some x → P i σ' H' → g x σ' H' fun σ2 H2 => ts { D with nx := fun s h => Same H0 h ∧ P (i + 1) s h, ct := fun s h => Same H0 h ∧ P (i + 1) s h, bk := tz D } σ2 H2)
    (hd : ∀ σ' H', Same H0 H' → P xs.length σ' H' → tz D σ' H') : tSeq (tFor (iList K tl) g ts) tz D σ H := xs_forV (D := { D with nx := tz D }) hv e0 hx P h0 hs hd
theorem xq_forR {ta : TA} {j : Nat} {n : Nat} (h : Arg ta σ H [.int (n : Int)]) (hn : n < 2 ^ 62) (P : Nat → L2.St → Hp → Prop) (h0 : P 0 σ H)
    (hs : ∀ (i : Nat) σ' H', i < n → P i σ' H' → ts { D with nx := P (i + 1), ct := P (i + 1), bk := tz D } (σ'.set j (some (.int (i : Int)))) H')
    (hd : ∀ σ' H', P n σ' H' → tz D σ' H') : tSeq (tFor (iRng1 ta) (gName j) ts) tz D σ H := xs_forR (D := { D with nx := tz D }) h hn P h0 hs hd
theorem xq_while (P : Nat → L2.St → Hp → Prop) (m0 : Nat) (h0 : P m0 σ H)
    (hs : ∀ m σ' H', P m σ' H' → ∃ b, Ans t σ' H' b ∧ (b = true → ts { D with nx := fun s h => ∃ m', m' < m ∧ P m' s h, ct := fun s h => ∃ m', m' < m ∧ P m' s h, bk := tz D } σ' H') ∧ (b = false → tz D σ' H')) : tSeq (tWhile t ts) tz D σ H := xs_while (D := { D with nx := tz D }) P m0 h0 hs
end
/-! ### isinstance -/
section
variable {σ : L2.St} {H : Hp} {K : PySem.W.Frag} {ta : TE}
theorem tyx_L {a : Addr} {xs : List V} (h : SqL K H a xs) : TyX K H (.ref a) (.type "list") := by
  rcases h with (h | ⟨o, h⟩) | ⟨o, its, n, h, hc, _⟩
  · exact .base (.lst h)
  · exact .base (.frz h)
  · exact .kList h hc
theorem xv_isi {x : V} {T a : String} {b : Bool} (ha : Val ta σ H x) (ht : TyX K H x (.type a)) (hk : kitB a T = some b) : Val (tCB (rIsi K) (tCons ta (tCons (tC (.ty T)) tNil))) σ H (.bl b) :=
  fun Q q => ha _ ⟨x, .ty T, .type a, .type T, b, rfl, .ty T, ht, kit_ty hk, q⟩
end
/-! ### what makes new lists (over Evl) -/
section
open Evl
variable {σ : L2.St} {H H' H0 : Hp} {K : PySem.W.Frag} {ta tb tc te tl : TE} {tr : TA} {t u : TT} {x y z v : V} {xs ys vs : List V} {D : Ends} {ts tz tu : TS}
theorem xe_I0 {g : Int → Int → V} {i j : Int} (ha : Ev ta σ H (.int i)) (hb : Ev tb σ H (.int j)) : Ev (tOp (rI0 g) ta tb) σ H (g i j) := ev_op ha hb rv_I0
theorem xe_I {C : Int → Int → Prop} {g : Int → Int → V} {i j : Int} (ha : Ev ta σ H (.int i)) (hb : Ev tb σ H (.int j)) (hc : C i j) : Ev (tOp (rI C g) ta tb) σ H (g i j) := ev_op ha hb (rv_I hc)
theorem xe_p60 : Ev (tOp (rI CPow fun i j => .int (i ^ j.toNat)) (tC (.int 10)) (tC (.int 60))) σ H (.int T60) := fun H1 e Q q => xv_p60 _ (q H1 (Ex.refl H1))
theorem xe_len {p : Addr} (ha : Ev ta σ H (.ref p)) (h : SqL K H p xs) : Ev (tCB (rLenQ K) (tCons ta tNil)) σ H (.int (xs.length : Int)) := fun H1 e Q q => ha H1 e _ fun H2 e2 => ⟨p, xs, rfl, .inl (ex_l (e.trans e2) h), q H2 e2⟩
theorem xe_ix {p : Addr} {ns : List Int} {i : Int} (ha : Ev ta σ H (.ref p)) (hb : Ev tb σ H (.int i)) (h : SqL K H p (ns.map V.int)) (h0 : 0 ≤ i) (h1 : i < ns.length) : Ev (tOp (rIxL K) ta tb) σ H (.int (ns.getD i.toNat 0)) := ev_op ha hb (rv_ixL h (atI_int h0 h1))
theorem xl_rep {k : Int} (ha : EvL ta σ H xs) (hb : Ev tb σ H (.int k)) (hk : -(2 ^ 63) ≤ k ∧ k < 2 ^ 63) (hz : xs.length * k.toNat ≤ 100000) : EvL (tOp rRep ta tb) σ H (List.replicate k.toNat xs).flatten := fun H1 e Q q =>
  ha H1 e _ fun p H2 hp e2 h2 => hb H2 (e.trans e2) _ fun H3 e3 => ⟨p, k, xs, rfl, rfl, e3 p _ h2, hk.1, hk.2, sz_of hz, fun p3 h3 => q p3 _ (fresh_back (e2.trans e3) h3) ((e2.trans e3).trans (Ex.new h3)) upd_same⟩
theorem xl_cat {l : Addr} (ha : Ev ta σ H (.ref l)) (hl : H l = some (.lst xs)) (hb : EvL tb σ H ys) (hz : xs.length + ys.length ≤ 100000) : EvL (tOp rCat ta tb) σ H (xs ++ ys) := fun H1 e Q q =>
  ha H1 e _ fun H2 e2 => hb H2 (e.trans e2) _ fun p H3 hp e3 h3 => ⟨l, p, xs, ys, rfl, rfl, ((e.trans e2).trans e3) l _ hl, h3, sz_of hz, fun p4 h4 => q p4 _ (fresh_back (e2.trans e3) h4) ((e2.trans e3).trans (Ex.new h4)) upd_same⟩
theorem xl_catR {l : Addr} (ha : EvL ta σ H xs) (hb : Ev tb σ H (.ref l)) (hl : H l = some (.lst ys)) (hz : xs.length + ys.length ≤ 100000) : EvL (tOp rCat ta tb) σ H (xs ++ ys) := fun H1 e Q q =>
  ha H1 e _ fun p H2 hp e2 h2 => hb H2 (e.trans e2) _ fun H3 e3 => ⟨p, l, xs, ys, rfl, rfl, e3 p _ h2, ((e.trans e2).trans e3) l _ hl, sz_of hz, fun p4 h4 => q p4 _ (fresh_back (e2.trans e3) h4) ((e2.trans e3).trans (Ex.new h4)) upd_same⟩
theorem xl_catN (ha : EvL ta σ H xs) (hb : EvL tb σ H ys) (hz : xs.length + ys.length ≤ 100000) : EvL (tOp rCat ta tb) σ H (xs ++ ys) := fun H1 e Q q =>
  ha H1 e _ fun p H2 hp e2 h2 => hb H2 (e.trans e2) _ fun p3 H3 hp3 e3 h3 => ⟨p, p3, xs, ys, rfl, rfl, e3 p _ h2, h3, sz_of hz, fun p4 h4 => q p4 _ (fresh_back (e2.trans e3) h4) ((e2.trans e3).trans (Ex.new h4)) upd_same⟩
theorem xl_catV {l m : Addr} (ha : Ev ta σ H (.ref l)) (hl : H l = some (.lst xs)) (hb : Ev tb σ H (.ref m)) (hm : H m = some (.lst ys)) (hz : xs.length + ys.length ≤ 100000) : EvL (tOp rCat ta tb) σ H (xs ++ ys) := fun H1 e Q q =>
  ha H1 e _ fun H2 e2 => hb H2 (e.trans e2) _ fun H3 e3 => ⟨l, m, xs, ys, rfl, rfl, ((e.trans e2).trans e3) l _ hl, ((e.trans e2).trans e3) m _ hm, sz_of hz, fun p4 h4 => q p4 _ (fresh_back (e2.trans e3) h4) ((e2.trans e3).trans (Ex.new h4)) upd_same⟩
/-- list(xs) -/
abbrev rListQ (K : PySem.W.Frag) : List V → Hp → VK → Prop := fun xs H Q => ∃ p ys, xs = [.ref p] ∧ (SqL K H p ys ∨ SqT K H p ys) ∧ ∀ l, H l = none → Q (.ref l) (upd H l (.lst ys))
theorem xl_listQ {p : Addr} (ha : Ev ta σ H (.ref p)) (h : SqL K H p xs) : EvL (tCB (rListQ K) (tCons ta tNil)) σ H xs := fun H1 e Q q =>
  ha H1 e _ fun H2 e2 => ⟨p, xs, rfl, .inl (ex_l (e.trans e2) h), fun l hl => q l _ (fresh_back e2 hl) (e2.trans (Ex.new hl)) upd_same⟩
theorem xl_revL {p : Addr} (ha : Ev ta σ H (.ref p)) (h : SqL K H p xs) : EvL (tRevL K ta) σ H xs.reverse := fun H1 e Q q =>
  ha H1 e _ fun H2 e2 => ⟨p, xs, rfl, ex_l (e.trans e2) h, fun l hl => q l _ (fresh_back e2 hl) (e2.trans (Ex.new hl)) upd_same⟩
/-- [0] * n, of ints -/
theorem flat_rep (k : Nat) (c : Int) : (List.replicate k [V.int c]).flatten = (List.replicate k c).map V.int := by
  induction k with
  | zero => rfl
  | succ k ih => rw [List.replicate_succ, List.flatten_cons, ih] <;> rfl
theorem cut_all (xs : List V) (a b : Nat) : cutV xs (some (a : Int)) (some (b : Int)) = (xs.take b).drop a := by
  unfold cutV
  rw [show HT.sIx xs.length 0 (some (a : Int)) = min a xs.length from HT.sIx_nat xs.length 0 a, show HT.sIx xs.length xs.length (some (b : Int)) = min b xs.length from HT.sIx_nat xs.length xs.length b]
  rw [List.drop_take]
  by_cases ha : a ≤ xs.length
  · have e1 : min a xs.length = a := Nat.min_eq_left ha
    rw [e1]
    by_cases hb : b ≤ xs.length
    · rw [Nat.min_eq_left hb]
    · have e2 : min b xs.length = xs.length := Nat.min_eq_right (by omega)
      rw [e2, List.take_of_length_le (by rw [List.length_drop]; omega), List.take_of_length_le (by rw [List.length_drop]; omega)]
  · have e1 : min a xs.length = xs.length := Nat.min_eq_right (by omega)
    rw [e1, List.drop_length, List.drop_of_length_le (by omega)]
    simp
theorem cut_lo (xs : List V) (a : Nat) : cutV xs (some (a : Int)) none = xs.drop a := by
  unfold cutV
  rw [show HT.sIx xs.length 0 (some (a : Int)) = min a xs.length from HT.sIx_nat xs.length 0 a, HT.sIx_none]
  by_cases ha : a ≤ xs.length
  · rw [Nat.min_eq_left ha, List.take_of_length_le (by rw [List.length_drop]; omega)]
  · rw [Nat.min_eq_right (by omega), List.drop_length, List.drop_of_length_le (by omega)]
    simp
theorem cut_hi (xs : List V) (b : Nat) : cutV xs none (some (b : Int)) = xs.take b := by
  have h := cut_all xs 0 b
  rw [List.drop_zero] at h
  rw [← h]
  unfold cutV
  rw [HT.sIx_none, show HT.sIx xs.length 0 (some ((0 : Nat) : Int)) = min 0 xs.length from HT.sIx_nat xs.length 0 0, Nat.zero_min]
theorem cut_int {ns : List Int} {a b : Int} (ha : 0 ≤ a) (hb : 0 ≤ b) : cutV (ns.map V.int) (some a) (some b) = ((ns.take b.toNat).drop a.toNat).map V.int := by
  obtain ⟨x, rfl⟩ := Int.eq_ofNat_of_zero_le ha
  obtain ⟨y, rfl⟩ := Int.eq_ofNat_of_zero_le hb
  rw [List.map_drop, List.map_take]
  exact cut_all _ x y
/-- [e for x in xs], xs a new list of ints, e's value F x -/
theorem xl_mapI {cs : List Int} {F : Int → V} {j : Nat} {ws : List Nat} (h : EvL tl σ H (cs.map V.int)) (hz : cs.length ≤ 40000) (hw : ∀ x, wipe ((wipe σ ws).set j (some x)) ws = wipe σ ws)
    (he : ∀ x H1, Ex H H1 → x ∈ cs → Ev te ((wipe σ ws).set j (some (.int x))) H1 (F x)) : EvL (tLc (iList K tl) (gName j) tYes te ws) σ H (cs.map F) := by
  have r := el_lcNL (K := K) (vs := ws) (j := j) (t := tYes) (fun _ => true) (fun i => F (cs.getD i 0)) h (by rw [List.length_map]; exact hz) hw (fun i x H1 e hi => fun H2 e2 Q q => q H2 (Ex.refl H2)) (te := te) (fun i x H1 e hi _ => by
    rw [List.getElem?_map] at hi
    cases hc : cs[i]? with
    | none =>
      rw [hc] at hi
      cases hi
    | some c =>
      rw [hc] at hi
      cases hi
      rw [getD_of hc]
      exact he c H1 e (List.mem_of_getElem? hc))
  have e : given (cs.map V.int).length (fun _ => true) (fun i => F (cs.getD i 0)) = cs.map F := by
    unfold given
    rw [List.filter_eq_self.mpr (fun _ _ => rfl), List.length_map]
    refine List.ext_getElem? fun i => ?_
    rw [List.getElem?_map, List.getElem?_map]
    by_cases hi : i < cs.length
    · rw [List.getElem?_range hi, get_of hi]
      rfl
    · rw [List.getElem?_eq_none (by rw [List.length_range]; omega), List.getElem?_eq_none (by omega)]
      rfl
  rw [e] at r
  exact r
/-- what was tracked ahead of a list's making stays when that list is changed -/
theorem same_mut {p : Addr} {o : HO} (e : Same H H') (h : H p = none) : Same H (upd H' p o) := Ex.mut e h
end
/-! ### while len(xs) > 0 and xs[len(xs) - 1] == 0: xs.pop() -/
section
variable {σ : L2.St} {H : Hp} {K : PySem.W.Frag} {D : Ends}
theorem xs_pops {i : Nat} {l : Addr} {xs : List Int} (hσ : σ[i]? = some (some (.ref l))) (hl : H l = some (.lst (xs.map V.int)))
    (q : ∀ H', (∀ b, b ≠ l → H' b = H b) → H' l = some (.lst ((bare xs).map V.int)) → D.nx σ H') :
    tWhile (tAnd (tTest (tOp (rI0 fun i j => .bl (decide (j < i))) (tCB (rLenQ K) (tCons (tVar i) tNil)) (tC (.int 0))))
      (tTest (tOp rEq (tOp (rIxL K) (tVar i) (tOp (rI0 fun i j => .int (i - j)) (tCB (rLenQ K) (tCons (tVar i) tNil)) (tC (.int 1)))) (tC (.int 0)))))
      (tDrop (tBM0 K "list" rPop (tVar i))) D σ H := by
  refine xs_while (fun m s H' => ∃ ys : List Int, s = σ ∧ (∀ b, b ≠ l → H' b = H b) ∧ H' l = some (.lst (ys.map V.int)) ∧ bare ys = bare xs ∧ ys.length = m) _ ⟨xs, rfl, fun _ _ => rfl, hl, rfl, rfl⟩ ?_
  rintro m s H' ⟨ys, rfl, e3, h3, hb, rfl⟩
  refine ⟨_, xa_and (xa_T (xv_I0 (xv_lenI (val_var hσ) (SqL.of h3)) val_c)) fun hc => xa_T (xv_eq (xv_ix (val_var hσ) (xv_I0 (xv_lenI (val_var hσ) (SqL.of h3)) val_c) (SqL.of h3) (by
    have := of_decide_eq_true hc
    omega) (by omega)) val_c rfl), fun hc => ?_, fun hc => ?_⟩
  · rw [Bool.and_eq_true] at hc
    obtain ⟨c1, c2⟩ := hc
    have c1 := of_decide_eq_true c1
    have c2 := V.int.inj (of_decide_eq_true c2)
    obtain ⟨zs, c, rfl⟩ := snoc_of (xs := ys) (by
      rintro rfl
      simp at c1)
    rw [show (((zs ++ [c]).length : Int) - 1).toNat = (zs ++ [c]).length - 1 by omega, getD_last] at c2
    subst c2
    refine ⟨.ref l, hσ, .inl ⟨rfl, _, SqL.of h3⟩, l, _, .int 0, rfl, rfl, h3, ?_, ?_⟩
    · rw [List.length_map, List.getElem?_map, List.length_append, List.length_singleton, Nat.add_sub_cancel, List.getElem?_append_right (Nat.le_refl _), Nat.sub_self]
      rfl
    · refine ⟨zs.length, by rw [List.length_append, List.length_singleton]; omega, zs, rfl, fun b hb => by rw [upd_ne hb]; exact e3 b hb, ?_, ?_, rfl⟩
      · rw [upd_same, List.map_append, List.map_singleton, List.dropLast_concat]
      · rw [← hb, bare_zero]
  · have hy : bare ys = ys := by
      by_cases h0 : ys = []
      · rw [h0]
        rfl
      · obtain ⟨zs, c, rfl⟩ := snoc_of h0
        refine bare_snoc zs fun e => ?_
        subst e
        have c1 := of_decide_eq_false (Bool.and_eq_false_imp.mp hc (decide_eq_true (by rw [List.length_append, List.length_singleton]; omega)))
        refine c1 ?_
        have e9 : (((zs ++ [(0 : Int)]).length : Int) - 1).toNat = (zs ++ [(0 : Int)]).length - 1 := by omega
        rw [e9, getD_last]
    refine q H' e3 ?_
    rw [h3, ← hb, hy]
theorem xq_pops {tz : TS} {i : Nat} {l : Addr} {xs : List Int} (hσ : σ[i]? = some (some (.ref l))) (hl : H l = some (.lst (xs.map V.int)))
    (q : ∀ H', (∀ b, b ≠ l → H' b = H b) → H' l = some (.lst ((bare xs).map V.int)) → tz D σ H') :
    tSeq (tWhile (tAnd (tTest (tOp (rI0 fun i j => .bl (decide (j < i))) (tCB (rLenQ K) (tCons (tVar i) tNil)) (tC (.int 0))))
      (tTest (tOp rEq (tOp (rIxL K) (tVar i) (tOp (rI0 fun i j => .int (i - j)) (tCB (rLenQ K) (tCons (tVar i) tNil)) (tC (.int 1)))) (tC (.int 0)))))
      (tDrop (tBM0 K "list" rPop (tVar i)))) tz D σ H := xs_pops (D := { D with nx := tz D }) hσ hl q
end
/-! ### lists of ints compared -/
section
variable {σ : L2.St} {H : Hp} {K : PySem.W.Frag} {ta tb : TE}
theorem dpAll_int (ns : List Int) : DpAll K H (ns.map V.int) (ns.map PyData.int) := by
  induction ns with
  | nil => exact .nil
  | cons n r ih => exact .cons (.int n) ih
theorem eqvAll_int : ∀ ns ms : List Int, PyData.eqvAll (ns.map PyData.int) (ms.map PyData.int) = decide (ns = ms)
  | [], [] => by simp [PyData.eqvAll]
  | [], m :: ms => by simp [PyData.eqvAll]
  | n :: ns, [] => by simp [PyData.eqvAll]
  | n :: ns, m :: ms => by
    show (n == m && PyData.eqvAll (ns.map PyData.int) (ms.map PyData.int)) = decide (n :: ns = m :: ms)
    rw [eqvAll_int ns ms]
    by_cases h : n = m
    · subst h
      by_cases h2 : ns = ms
      · subst h2
        simp
      · simp [h2]
    · simp [h]
theorem eqv_int (ns ms : List Int) : PyData.eqv (.list (ns.map PyData.int)) (.list (ms.map PyData.int)) = decide (ns = ms) := by
  rw [← eqvAll_int]
  simp [PyData.eqv]
theorem canLayAll_int : ∀ ns : List Int, PyData.canLayAll0 (ns.map PyData.int) = true
  | [] => rfl
  | n :: ns => by
    show (true && PyData.canLayAll0 (ns.map PyData.int)) = true
    rw [canLayAll_int ns]
    rfl
theorem depthAll_int : ∀ ns : List Int, PyData.depthAll (ns.map PyData.int) ≤ 1
  | [] => by simp [PyData.depthAll]
  | n :: ns => by
    have := depthAll_int ns
    simp only [List.map_cons, PyData.depthAll, PyData.depth]
    omega
theorem shaped_int (ns : List Int) : SeqAt.shaped (.list (ns.map PyData.int)) = true := by
  unfold SeqAt.shaped
  rw [Bool.and_eq_true]
  refine ⟨canLayAll_int ns, decide_eq_true ?_⟩
  have := depthAll_int ns
  simp only [PyData.depth]
  omega
/-- xs == ys, xs != ys of lists of ints -/
theorem xv_eqL {a b : Addr} {ns ms : List Int} (ha : Val ta σ H (.ref a)) (hb : Val tb σ H (.ref b)) (h1 : SqL K H a (ns.map V.int)) (h2 : SqL K H b (ms.map V.int)) : Val (tOp (rEqD K) ta tb) σ H (.bl (decide (ns = ms))) :=
  val_op ha hb fun Q q => ⟨_, _, .lst h1 (dpAll_int ns), .lst h2 (dpAll_int ms), shaped_int ns, shaped_int ms, by rw [eqv_int]; exact q⟩
theorem xv_neL {a b : Addr} {ns ms : List Int} (ha : Val ta σ H (.ref a)) (hb : Val tb σ H (.ref b)) (h1 : SqL K H a (ns.map V.int)) (h2 : SqL K H b (ms.map V.int)) : Val (tOp (rNeD K) ta tb) σ H (.bl (!decide (ns = ms))) :=
  val_op ha hb fun Q q => ⟨_, _, .lst h1 (dpAll_int ns), .lst h2 (dpAll_int ms), shaped_int ns, shaped_int ms, by rw [eqv_int]; exact q⟩
end
end Sh

namespace Sh
/-! moves of shells: (true, k) the join at step k, (false, k) the part -/
abbrev Mv := Bool × Nat
def mvFits (ns : List Int) : Mv → Bool
  | (true, k) => decide (k + 1 < ns.length) && (decide (0 < ns.getD k 0) && decide (0 < ns.getD (k + 1) 0))
  | (false, k) => decide (k < ns.length) && decide (1 < ns.getD k 0)
def mvAt (ns : List Int) (k : Nat) : List Mv := (if mvFits ns (true, k) = true then [(true, k)] else []) ++ (if mvFits ns (false, k) = true then [(false, k)] else [])
def mvTo (ns : List Int) : Nat → List Mv
  | 0 => []
  | n + 1 => mvTo ns n ++ mvAt ns n
def mvs (ns : List Int) : List Mv := mvTo ns ns.length
def bump (ns : List Int) (i : Nat) (d : Int) : List Int := ns.set i (ns.getD i 0 + d)
def mvRaw (ns : List Int) : Mv → List Int
  | (true, k) => bump (bump (bump (ns ++ [0, 0]) k (-1)) (k + 1) (-1)) (k + 2) 1
  | (false, k) =>
    if k = 0 then bump (bump (ns ++ [0, 0]) 0 (-2)) 1 1
    else if k = 1 then bump (bump (bump (ns ++ [0, 0]) 1 (-2)) 2 1) 0 1
    else bump (bump (bump (ns ++ [0, 0]) k (-2)) (k + 1) 1) (k - 2) 1
def mvDone (ns : List Int) (m : Mv) : List Int := bare (mvRaw ns m)
theorem bump_len (ns : List Int) (i : Nat) (d : Int) : (bump ns i d).length = ns.length := by
  unfold bump
  rw [List.length_set]
theorem mvRaw_len (ns : List Int) (m : Mv) : (mvRaw ns m).length = ns.length + 2 := by
  obtain ⟨b, k⟩ := m
  cases b with
  | true => simp [mvRaw, bump_len]
  | false =>
    simp only [mvRaw]
    split
    · simp [bump_len]
    · split <;> simp [bump_len]
theorem mvDone_len (ns : List Int) (m : Mv) : (mvDone ns m).length ≤ ns.length + 2 := by
  have := bare_len (mvRaw ns m)
  rw [mvRaw_len] at this
  exact this
theorem mvFits_lt {ns : List Int} {m : Mv} (h : mvFits ns m = true) : m.2 < ns.length := by
  obtain ⟨b, k⟩ := m
  cases b with
  | true =>
    simp only [mvFits, Bool.and_eq_true, decide_eq_true_eq] at h
    show k < ns.length
    omega
  | false =>
    simp only [mvFits, Bool.and_eq_true, decide_eq_true_eq] at h
    exact h.1
theorem mem_mvAt {ns : List Int} {k : Nat} {m : Mv} : m ∈ mvAt ns k ↔ m.2 = k ∧ mvFits ns m = true := by
  obtain ⟨b, j⟩ := m
  unfold mvAt
  cases b with
  | true =>
    by_cases h1 : mvFits ns (true, k) = true <;> by_cases h2 : mvFits ns (false, k) = true <;> simp only [h1, h2, if_true, if_false, List.mem_append, List.mem_cons, List.not_mem_nil, Prod.mk.injEq, or_false, false_or, Bool.false_eq_true] <;> constructor <;> intro h
    all_goals first
      | (obtain ⟨rfl, h⟩ := h; simp_all)
      | (rcases h with h | h <;> simp_all)
      | simp_all
  | false =>
    by_cases h1 : mvFits ns (true, k) = true <;> by_cases h2 : mvFits ns (false, k) = true <;> simp only [h1, h2, if_true, if_false, List.mem_append, List.mem_cons, List.not_mem_nil, Prod.mk.injEq, or_false, false_or, Bool.false_eq_true] <;> constructor <;> intro h
    all_goals first
      | (obtain ⟨rfl, h⟩ := h; simp_all)
      | (rcases h with h | h <;> simp_all)
      | simp_all
theorem mem_mvTo {ns : List Int} {m : Mv} : ∀ {n : Nat}, m ∈ mvTo ns n ↔ m.2 < n ∧ mvFits ns m = true
  | 0 => by simp [mvTo]
  | n + 1 => by
    show m ∈ mvTo ns n ++ mvAt ns n ↔ _
    rw [List.mem_append, mem_mvTo, mem_mvAt]
    constructor
    · rintro (⟨h1, h2⟩ | ⟨h1, h2⟩)
      · exact ⟨by omega, h2⟩
      · exact ⟨by omega, h2⟩
    · rintro ⟨h1, h2⟩
      by_cases h : m.2 = n
      · exact .inr ⟨h, h2⟩
      · exact .inl ⟨by omega, h2⟩
theorem mem_mvs {ns : List Int} {m : Mv} : m ∈ mvs ns ↔ mvFits ns m = true := by
  unfold mvs
  rw [mem_mvTo]
  exact ⟨fun h => h.2, fun h => ⟨mvFits_lt h, h⟩⟩
theorem mvTo_len (ns : List Int) : ∀ n, (mvTo ns n).length ≤ 2 * n
  | 0 => Nat.le_refl _
  | n + 1 => by
    have := mvTo_len ns n
    show (mvTo ns n ++ mvAt ns n).length ≤ _
    have h : (mvAt ns n).length ≤ 2 := by
      unfold mvAt
      rw [List.length_append]
      split <;> split <;> simp
    rw [List.length_append]
    omega
theorem mvs_len (ns : List Int) : (mvs ns).length ≤ 2 * ns.length := mvTo_len ns _
end Sh

/-! Own words over the layer for moves: tuples of a text and a step, lists of them; stores into a list of ints. -/
namespace Sh
open PySem PySem.Spec PyProof.Rows L2
def mvS (b : Bool) : Str := if b then "join" else "part"
def mvV (m : Mv) : List V := [.str (mvS m.1), .int (m.2 : Int)]
/-- the addresses of the moves' tuples -/
def MvL (H : Hp) : List Addr → List Mv → Prop
  | [], [] => True
  | p :: ps, m :: ms => H p = some (.tup (mvV m)) ∧ MvL H ps ms
  | _, _ => False
theorem MvL.mono {H H' : Hp} (e : ∀ p m, H p = some (.tup (mvV m)) → H' p = some (.tup (mvV m))) : ∀ {ps : List Addr} {ms : List Mv}, MvL H ps ms → MvL H' ps ms
  | [], [], _ => trivial
  | p :: ps, m :: ms, h => ⟨e p m h.1, MvL.mono e h.2⟩
  | [], _ :: _, h => h.elim
  | _ :: _, [], h => h.elim
theorem MvL.same {H H' : Hp} (e : Same H H') {ps : List Addr} {ms : List Mv} (h : MvL H ps ms) : MvL H' ps ms := h.mono fun p m z => e p _ z
theorem MvL.upd {H : Hp} {l : Addr} {xs : List V} {o : HO} (hl : H l = some (.lst xs)) {ps : List Addr} {ms : List Mv} (h : MvL H ps ms) : MvL (upd H l o) ps ms := h.mono fun p m z => by
  rw [upd_ne (ne_of z hl (by intro e; cases e))]
  exact z
theorem MvL.snoc {H : Hp} {p : Addr} {m : Mv} (hp : H p = some (.tup (mvV m))) : ∀ {ps : List Addr} {ms : List Mv}, MvL H ps ms → MvL H (ps ++ [p]) (ms ++ [m])
  | [], [], _ => ⟨hp, trivial⟩
  | q :: ps, n :: ms, h => ⟨h.1, MvL.snoc hp h.2⟩
  | [], _ :: _, h => h.elim
  | _ :: _, [], h => h.elim
theorem MvL.len {H : Hp} : ∀ {ps : List Addr} {ms : List Mv}, MvL H ps ms → ps.length = ms.length
  | [], [], _ => rfl
  | q :: ps, n :: ms, h => by rw [List.length_cons, List.length_cons, MvL.len h.2]
  | [], _ :: _, h => h.elim
  | _ :: _, [], h => h.elim
theorem MvL.get {H : Hp} : ∀ {ps : List Addr} {ms : List Mv} {i : Nat} {m : Mv}, MvL H ps ms → ms[i]? = some m → ∃ p, ps[i]? = some p ∧ H p = some (.tup (mvV m))
  | [], [], i, m, _, e => by simp at e
  | p :: ps, n :: ms, 0, m, h, e => by
    have e : n = m := Option.some.inj e
    subst e
    exact ⟨p, rfl, h.1⟩
  | p :: ps, n :: ms, i + 1, m, h, e => by
    obtain ⟨q, e1, e2⟩ := MvL.get (i := i) h.2 (by simpa using e)
    exact ⟨q, by simpa using e1, e2⟩
  | [], _ :: _, _, _, h, _ => h.elim
  | _ :: _, [], _, _, h, _ => h.elim
/-! moves compared -/
def mvD (m : Mv) : PyData := .tuple [.str (mvS m.1), .int (m.2 : Int)]
section
variable {σ : L2.St} {H : Hp} {K : PySem.W.Frag} {ta tb : TE}
theorem mv_dp {p : Addr} {m : Mv} (h : SqT K H p (mvV m)) : Dp K H (.ref p) (mvD m) := .tup h (.cons (.str _) (.cons (.int _) .nil))
theorem mvS_ok (b : Bool) : PyData.canLay0 (.str (mvS b)) = true := by cases b <;> decide +kernel
theorem mvD_lay (m : Mv) : (mvD m).canLay0 = true := by
  have h := mvS_ok m.1
  simp only [mvD, PyData.canLay0, PyData.canLayAll0, Bool.and_true] at h ⊢
  exact h
theorem mvD_depth (m : Mv) : (mvD m).depth = 1 := by simp [mvD, PyData.depth, PyData.depthAll]
theorem mvD_shaped (m : Mv) : SeqAt.shaped (mvD m) = true := by
  unfold SeqAt.shaped
  rw [mvD_lay, mvD_depth]
  decide
theorem mvS_inj {b c : Bool} : (mvS b == mvS c) = decide (b = c) := by cases b <;> cases c <;> decide +kernel
theorem mvD_eqv (m n : Mv) : PyData.eqv (mvD m) (mvD n) = decide (m = n) := by
  obtain ⟨b, i⟩ := m
  obtain ⟨c, j⟩ := n
  show (mvS b == mvS c && ((i : Int) == (j : Int) && true)) = decide ((b, i) = (c, j))
  rw [mvS_inj, Bool.and_true]
  by_cases h : b = c
  · subst h
    by_cases h2 : i = j
    · subst h2
      simp
    · have h3 : (i : Int) ≠ (j : Int) := by omega
      simp [h2, h3]
  · simp [h]
theorem mvs_dp : ∀ {ps : List Addr} {ms : List Mv}, MvL H ps ms → DpAll K H (ps.map V.ref) (ms.map mvD)
  | [], [], _ => .nil
  | p :: ps, m :: ms, h => .cons (mv_dp (SqT.of h.1)) (mvs_dp h.2)
  | [], _ :: _, h => h.elim
  | _ :: _, [], h => h.elim
theorem mvDs_lay : ∀ ms : List Mv, PyData.canLayAll0 (ms.map mvD) = true
  | [] => rfl
  | m :: ms => by
    show ((mvD m).canLay0 && PyData.canLayAll0 (ms.map mvD)) = true
    rw [mvD_lay, mvDs_lay ms]
    rfl
theorem mvDs_depth : ∀ ms : List Mv, PyData.depthAll (ms.map mvD) ≤ 1
  | [] => by simp [PyData.depthAll]
  | m :: ms => by
    have := mvDs_depth ms
    simp only [List.map_cons, PyData.depthAll, mvD_depth]
    omega
theorem mvDs_shaped (ms : List Mv) : SeqAt.shaped (.list (ms.map mvD)) = true := by
  unfold SeqAt.shaped
  rw [Bool.and_eq_true]
  refine ⟨mvDs_lay ms, decide_eq_true ?_⟩
  have := mvDs_depth ms
  simp only [PyData.depth]
  omega
/-- m != n, of moves -/
theorem xv_neM {p q : Addr} {m n : Mv} (ha : Val ta σ H (.ref p)) (hb : Val tb σ H (.ref q)) (h1 : SqT K H p (mvV m)) (h2 : SqT K H q (mvV n)) : Val (tOp (rNeD K) ta tb) σ H (.bl (!decide (m = n))) :=
  val_op ha hb fun Q q => ⟨_, _, mv_dp h1, mv_dp h2, mvD_shaped m, mvD_shaped n, by rw [mvD_eqv]; exact q⟩
/-- m in ms -/
theorem mvD_any (m : Mv) (ms : List Mv) : ((ms.map mvD).any fun z => PyData.eqv z (mvD m)) = decide (m ∈ ms) := by
  rw [List.any_map]
  by_cases h : m ∈ ms
  · rw [decide_eq_true h, List.any_eq_true]
    exact ⟨m, h, by show PyData.eqv (mvD m) (mvD m) = true; rw [mvD_eqv]; simp⟩
  · rw [decide_eq_false h, List.any_eq_false]
    intro n hn
    show ¬ PyData.eqv (mvD n) (mvD m) = true
    rw [mvD_eqv]
    intro e
    exact h ((of_decide_eq_true e) ▸ hn)
theorem xv_inM {p b : Addr} {m : Mv} {ps : List Addr} {ms : List Mv} (ha : Val ta σ H (.ref p)) (hb : Val tb σ H (.ref b)) (h1 : SqT K H p (mvV m)) (h2 : SqL K H b (ps.map V.ref)) (h3 : MvL H ps ms) : Val (tOp (rInD K) ta tb) σ H (.bl (decide (m ∈ ms))) :=
  val_op ha hb fun Q q => ⟨_, _, mv_dp h1, .lst h2 (mvs_dp h3), mvD_shaped m, mvDs_shaped ms, by rw [mvD_any]; exact q⟩
/-- a list of moves beside one of none -/
theorem eqv_nilM (ms : List Mv) : PyData.eqv (.list (ms.map mvD)) (.list []) = decide (ms = []) := by
  cases ms with
  | nil => simp [PyData.eqv, PyData.eqvAll]
  | cons m r => simp [PyData.eqv, PyData.eqvAll]
theorem tyx_T {a : Addr} {xs : List V} (h : SqT K H a xs) : TyX K H (.ref a) (.type "tuple") := by
  rcases h with (h | ⟨o, h⟩) | ⟨o, its, n, h, hc, _⟩
  · exact .base (.tup h)
  · exact .fTuple h
  · exact .kTuple h hc
theorem xv_lenT {p : Addr} {xs : List V} (ha : Val ta σ H (.ref p)) (h : SqT K H p xs) : Val (tCB (rLenQ K) (tCons ta tNil)) σ H (.int (xs.length : Int)) := fun Q q => ha _ ⟨p, xs, rfl, .inr h, q⟩
end
/-! a store -/
section
variable {σ : L2.St} {H : Hp} {K : PySem.W.Frag} {ta tb tc te : TE} {D : Ends} {tz : TS}
theorem ixN_int {n : Nat} {i : Int} (h0 : 0 ≤ i) (h1 : i < n) : ixN n i = some i.toNat := by
  unfold ixN
  rw [if_pos h0, if_pos h1]
theorem xs_setI {l : Addr} {ns : List Int} {i v : Int} (h : Val te σ H (.int v)) (ha : Val ta σ H (.ref l)) (hb : Val tb σ H (.int i)) (hl : H l = some (.lst (ns.map V.int))) (h0 : 0 ≤ i) (h1 : i < ns.length)
    (k : D.nx σ (upd H l (.lst ((ns.set i.toNat v).map V.int)))) : tAsg te (gSub ta tb rSetL) D σ H :=
  h _ (ha _ (hb _ ⟨l, _, i, i.toNat, rfl, rfl, hl, by rw [List.length_map]; exact ixN_int h0 h1, by rw [← List.map_set]; exact k⟩))
/-- xs[i] = xs[i] + d -/
theorem xq_bump {g : Int → Int → V} {l : Addr} {ns : List Int} {i : Nat} {j d c : Int} (hg : ∀ x : Int, g x c = .int (x + d)) (ha : Val ta σ H (.ref l)) (hb : Val tb σ H (.int j)) (hj : j = (i : Int)) (hl : H l = some (.lst (ns.map V.int))) (h1 : i < ns.length)
    (k : tz D σ (upd H l (.lst ((bump ns i d).map V.int)))) : tSeq (tAsg (tOp (rI0 g) (tOp (rIxL K) ta tb) (tC (.int c))) (gSub ta tb rSetL)) tz D σ H := by
  subst hj
  have hv := xv_I0 (g := g) (xv_ix (K := K) ha hb (SqL.of hl) (by omega) (by omega)) (val_c (v := V.int c))
  rw [hg] at hv
  exact xs_setI (D := { D with nx := tz D }) hv ha hb hl (by omega) (by omega) k
theorem xs_bump {g : Int → Int → V} {l : Addr} {ns : List Int} {i : Nat} {j d c : Int} (hg : ∀ x : Int, g x c = .int (x + d)) (ha : Val ta σ H (.ref l)) (hb : Val tb σ H (.int j)) (hj : j = (i : Int)) (hl : H l = some (.lst (ns.map V.int))) (h1 : i < ns.length)
    (k : D.nx σ (upd H l (.lst ((bump ns i d).map V.int)))) : tAsg (tOp (rI0 g) (tOp (rIxL K) ta tb) (tC (.int c))) (gSub ta tb rSetL) D σ H := by
  subst hj
  have hv := xv_I0 (g := g) (xv_ix (K := K) ha hb (SqL.of hl) (by omega) (by omega)) (val_c (v := V.int c))
  rw [hg] at hv
  exact xs_setI hv ha hb hl (by omega) (by omega) k
/-- what stands behind the choice of a move, in done: the slots c of the counts, s of the step, m of the move; spb what is called at the end -/
abbrev doneT (K : PySem.W.Frag) (c s m : Nat) (spb : Sp) : TS :=
  tSeq (tIfS (tTest (tOp rEq (tOp (rIxT K) (tVar m) (tC (.int 0))) (tC (.str "join"))))
      (tSeq (tAsg (tOp (rI0 fun i j => .int (i - j)) (tOp (rIxL K) (tVar c) (tVar s)) (tC (.int 1))) (gSub (tVar c) (tVar s) rSetL))
      (tSeq (tAsg (tOp (rI0 fun i j => .int (i - j)) (tOp (rIxL K) (tVar c) (tOp (rI0 fun i j => .int (i + j)) (tVar s) (tC (.int 1)))) (tC (.int 1))) (gSub (tVar c) (tOp (rI0 fun i j => .int (i + j)) (tVar s) (tC (.int 1))) rSetL))
      (tSeq (tAsg (tOp (rI0 fun i j => .int (i + j)) (tOp (rIxL K) (tVar c) (tOp (rI0 fun i j => .int (i + j)) (tVar s) (tC (.int 2)))) (tC (.int 1))) (gSub (tVar c) (tOp (rI0 fun i j => .int (i + j)) (tVar s) (tC (.int 2))) rSetL))
      (tRet (tCall spb [] E0 (tCons (tVar c) tNil)))))) tNext)
  (tSeq (tAsg (tOp (rI0 fun i j => .int (i - j)) (tOp (rIxL K) (tVar c) (tVar s)) (tC (.int 2))) (gSub (tVar c) (tVar s) rSetL))
  (tSeq (tAsg (tOp (rI0 fun i j => .int (i + j)) (tOp (rIxL K) (tVar c) (tOp (rI0 fun i j => .int (i + j)) (tVar s) (tC (.int 1)))) (tC (.int 1))) (gSub (tVar c) (tOp (rI0 fun i j => .int (i + j)) (tVar s) (tC (.int 1))) rSetL))
  (tSeq (tIfS (tTest (tOp rEq (tVar s) (tC (.int 1)))) (tAsg (tOp (rI0 fun i j => .int (i + j)) (tOp (rIxL K) (tVar c) (tC (.int 0))) (tC (.int 1))) (gSub (tVar c) (tC (.int 0)) rSetL)) tNext)
  (tSeq (tIfS (tTest (tOp (rI0 fun i j => .bl (decide (j < i))) (tVar s) (tC (.int 1)))) (tAsg (tOp (rI0 fun i j => .int (i + j)) (tOp (rIxL K) (tVar c) (tOp (rI0 fun i j => .int (i - j)) (tVar s) (tC (.int 2)))) (tC (.int 1))) (gSub (tVar c) (tOp (rI0 fun i j => .int (i - j)) (tVar s) (tC (.int 2))) rSetL)) tNext)
  (tRet (tCall spb [] E0 (tCons (tVar c) tNil)))))))
theorem done_tail {c s m : Nat} {spb : Sp} {l p : Addr} {ns : List Int} {mv : Mv} (hm : σ[m]? = some (some (.ref p))) (hs : σ[s]? = some (some (.int (mv.2 : Int)))) (hc : σ[c]? = some (some (.ref l))) (hp : SqT K H p (mvV mv))
    (hl : H l = some (.lst ((ns ++ [0, 0]).map V.int))) (hk : mv.2 < ns.length) (hr : ∀ H' xs, (∀ b, b ≠ l → H' b = H b) → H' l = some (.lst (xs.map V.int)) → xs = mvRaw ns mv → spb [.ref l] H' D.rt E0) : doneT K c s m spb D σ H := by
  obtain ⟨b, k⟩ := mv
  have hk : k < ns.length := hk
  have len : (ns ++ [0, 0]).length = ns.length + 2 := by simp
  have vs : ∀ {H'}, Val (tVar s) σ H' (.int (k : Int)) := val_var hs
  have vc : ∀ {H'}, Val (tVar c) σ H' (.ref l) := val_var hc
  have gt1 : ∀ {H'}, Val (tOp (rI0 fun i j => .bl (decide (j < i))) (tVar s) (tC (.int 1))) σ H' (.bl (decide ((1 : Int) < (k : Int)))) := xv_I0 vs val_c
  have eq1 : ∀ {H'}, Val (tOp rEq (tVar s) (tC (.int 1))) σ H' (.bl (decide (V.int (k : Int) = V.int 1))) := xv_eq vs val_c rfl
  have dl : ∀ {A B : Hp} {o : HO}, (∀ x, x ≠ l → B x = A x) → ∀ x, x ≠ l → (upd B l o) x = A x := fun h x hx => by rw [upd_ne hx]; exact h x hx
  have ht : Ans (tTest (tOp rEq (tOp (rIxT K) (tVar m) (tC (.int 0))) (tC (.str "join")))) σ H b := by
    have h := xv_eq (xv_ixT (K := K) (i := 0) (v := .str (mvS b)) (val_var (i := m) hm) val_c hp (by rfl)) (val_c (σ := σ) (H := H) (v := V.str "join")) (by rfl)
    cases b with
    | true => exact xa_T (by rw [show decide (V.str (mvS true) = V.str "join") = true from by decide +kernel] at h; exact h)
    | false => exact xa_T (by rw [show decide (V.str (mvS false) = V.str "join") = false from by decide +kernel] at h; exact h)
  refine xs_when ht (fun hb => ?_) (fun hb => ?_)
  · subst hb
    refine xq_bump (d := -1) (i := k) (fun x => by rw [Int.sub_eq_add_neg]) vc vs rfl hl (by omega) ?_
    refine xq_bump (d := -1) (i := k + 1) (fun x => by rw [Int.sub_eq_add_neg]) vc (xv_I0 vs val_c) rfl upd_same (by rw [bump_len]; omega) ?_
    refine xq_bump (d := 1) (i := k + 2) (fun x => rfl) vc (xv_I0 vs val_c) rfl upd_same (by rw [bump_len, bump_len]; omega) ?_
    exact vc _ (hr _ _ (dl (dl (dl fun _ _ => rfl))) upd_same rfl)
  · subst hb
    refine xq_bump (d := -2) (i := k) (fun x => by rw [Int.sub_eq_add_neg]) vc vs rfl hl (by omega) ?_
    refine xq_bump (d := 1) (i := k + 1) (fun x => rfl) vc (xv_I0 vs val_c) rfl upd_same (by rw [bump_len]; omega) ?_
    by_cases h1 : k = 1
    · refine xs_when (b := true) (xa_T (xv_to eq1 (by rw [h1]; rfl))) (fun _ => ?_) (fun z => (nomatch z))
      refine xs_bump (d := 1) (i := 0) (fun x => rfl) vc val_c rfl upd_same (by rw [bump_len, bump_len]; omega) ?_
      refine xs_when (b := false) (xa_T (xv_to gt1 (by rw [h1]; rfl))) (fun z => (nomatch z)) (fun _ => ?_)
      refine vc _ (hr _ _ (dl (dl (dl fun _ _ => rfl))) upd_same ?_)
      subst h1
      rfl
    · refine xs_when (b := false) (xa_T (xv_to eq1 (by rw [decide_eq_false (by intro e; have := V.int.inj e; omega)]))) (fun z => (nomatch z)) (fun _ => ?_)
      by_cases h2 : k = 0
      · refine xs_when (b := false) (xa_T (xv_to gt1 (by rw [h2]; rfl))) (fun z => (nomatch z)) (fun _ => ?_)
        refine vc _ (hr _ _ (dl (dl fun _ _ => rfl)) upd_same ?_)
        subst h2
        rfl
      · refine xs_when (b := true) (xa_T (xv_to gt1 (by rw [decide_eq_true (by omega)]))) (fun _ => ?_) (fun z => (nomatch z))
        refine xs_bump (d := 1) (i := k - 2) (fun x => rfl) vc (xv_I0 vs val_c) (by omega) upd_same (by rw [bump_len, bump_len]; omega) ?_
        refine vc _ (hr _ _ (dl (dl (dl fun _ _ => rfl))) upd_same ?_)
        simp only [mvRaw, h1, h2, if_false]
end
end Sh

namespace Sh
/-! what a move does to a weighted sum -/
theorem bump_cons (a : Int) (r : List Int) (i : Nat) (d : Int) : bump (a :: r) (i + 1) d = a :: bump r i d := by
  unfold bump
  simp [List.set]
theorem S_bump (f : Nat → Int) : ∀ (ns : List Int) (i k : Nat) (d : Int), i < ns.length → S f k (bump ns i d) = S f k ns + d * f (k + i)
  | [], i, k, d, h => by simp at h
  | a :: r, 0, k, d, h => by
    have e : bump (a :: r) 0 d = (a + d) :: r := by
      unfold bump
      simp
    rw [e, S_cons, S_cons, Int.add_mul]
    show a * f k + d * f k + S f (k + 1) r = a * f k + S f (k + 1) r + d * f k
    omega
  | a :: r, i + 1, k, d, h => by
    have ih := S_bump f r i (k + 1) d (by simpa using h)
    rw [bump_cons, S_cons, S_cons, ih, show k + 1 + i = k + (i + 1) by omega]
    omega
theorem S_two (f : Nat → Int) (ns : List Int) : S f 0 (ns ++ [0, 0]) = S f 0 ns := by
  rw [S_append]
  simp [S]
def mvDelta (f : Nat → Int) : Mv → Int
  | (true, k) => f (k + 2) - f k - f (k + 1)
  | (false, 0) => f 1 - 2 * f 0
  | (false, 1) => f 2 + f 0 - 2 * f 1
  | (false, k + 2) => f (k + 3) + f k - 2 * f (k + 2)
theorem S_mvDone (f : Nat → Int) {ns : List Int} {m : Mv} (hf : mvFits ns m = true) : S f 0 (mvDone ns m) = S f 0 ns + mvDelta f m := by
  have hk := mvFits_lt hf
  unfold mvDone
  rw [bare_S]
  have hl : (ns ++ [(0 : Int), 0]).length = ns.length + 2 := by simp
  obtain ⟨b, k⟩ := m
  have hk : k < ns.length := hk
  cases b with
  | true =>
    show S f 0 (bump (bump (bump (ns ++ [0, 0]) k (-1)) (k + 1) (-1)) (k + 2) 1) = _
    rw [S_bump f _ _ _ _ (by rw [bump_len, bump_len]; omega), S_bump f _ _ _ _ (by rw [bump_len]; omega), S_bump f _ _ _ _ (by omega), S_two]
    show _ = S f 0 ns + (f (k + 2) - f k - f (k + 1))
    simp only [Nat.zero_add]
    omega
  | false =>
    match k, hk with
    | 0, hk =>
      show S f 0 (bump (bump (ns ++ [0, 0]) 0 (-2)) 1 1) = S f 0 ns + (f 1 - 2 * f 0)
      rw [S_bump f _ _ _ _ (by rw [bump_len]; omega), S_bump f _ _ _ _ (by omega), S_two]
      simp only [Nat.zero_add]
      omega
    | 1, hk =>
      show S f 0 (bump (bump (bump (ns ++ [0, 0]) 1 (-2)) 2 1) 0 1) = S f 0 ns + (f 2 + f 0 - 2 * f 1)
      rw [S_bump f _ _ _ _ (by rw [bump_len, bump_len]; omega), S_bump f _ _ _ _ (by rw [bump_len]; omega), S_bump f _ _ _ _ (by omega), S_two]
      simp only [Nat.zero_add]
      omega
    | k + 2, hk =>
      have e : mvRaw ns (false, k + 2) = bump (bump (bump (ns ++ [0, 0]) (k + 2) (-2)) (k + 3) 1) k 1 := by
        simp [mvRaw]
      rw [e]
      show _ = S f 0 ns + (f (k + 3) + f k - 2 * f (k + 2))
      rw [S_bump f _ _ _ _ (by rw [bump_len, bump_len]; omega), S_bump f _ _ _ _ (by rw [bump_len]; omega), S_bump f _ _ _ _ (by omega), S_two]
      simp only [Nat.zero_add]
      omega
theorem W_delta : ∀ m : Mv, mvDelta W m = 0
  | (true, k) => by
    show W k + W (k + 1) - W k - W (k + 1) = 0
    omega
  | (false, 0) => by decide
  | (false, 1) => by decide
  | (false, k + 2) => by
    show W (k + 1) + (W k + W (k + 1)) + W k - 2 * (W k + W (k + 1)) = 0
    omega
def one (_ : Nat) : Int := 1
def pot (k : Nat) : Int := (k : Int) + 3 + (if 0 < k then 1 else 0)
def fewer (m : Mv) : Bool := m.1 || decide (m.2 = 0)
theorem one_delta (m : Mv) : mvDelta one m = - (if fewer m = true then 1 else 0) := by
  match m with
  | (true, k) => simp [mvDelta, one, fewer]
  | (false, 0) => simp [mvDelta, one, fewer]
  | (false, 1) => simp [mvDelta, one, fewer]
  | (false, k + 2) => simp [mvDelta, one, fewer]
theorem pot_delta (m : Mv) : mvDelta pot m ≤ -1 := by
  match m with
  | (true, 0) => decide
  | (true, k + 1) =>
    simp only [mvDelta, pot]
    split <;> split <;> split <;> omega
  | (false, 0) => decide
  | (false, 1) => decide
  | (false, 2) => decide
  | (false, k + 3) =>
    simp only [mvDelta, pot]
    split <;> split <;> split <;> omega
/-! nothing below nought -/
def NN (xs : List Int) : Prop := ∀ x ∈ xs, 0 ≤ x
theorem NN.get {xs : List Int} (h : NN xs) (i : Nat) : 0 ≤ xs.getD i 0 := by
  rw [List.getD_eq_getElem?_getD]
  cases e : xs[i]? with
  | none => exact Int.le_refl _
  | some x => exact h x (List.mem_of_getElem? e)
theorem NN.of {xs : List Int} (h : ∀ i, 0 ≤ xs.getD i 0) : NN xs := fun x hx => by
  obtain ⟨i, hi, e⟩ := List.getElem_of_mem hx
  have := h i
  rw [List.getD_eq_getElem?_getD, List.getElem?_eq_getElem hi] at this
  rw [← e]
  exact this
theorem getD_bump (xs : List Int) (i j : Nat) (d : Int) (hi : i < xs.length) : (bump xs i d).getD j 0 = if j = i then xs.getD i 0 + d else xs.getD j 0 := by
  unfold bump
  rw [List.getD_eq_getElem?_getD, List.getElem?_set]
  by_cases h : i = j
  · subst h
    rw [if_pos rfl, if_pos hi, if_pos rfl]
    rfl
  · rw [if_neg h, if_neg (fun e => h e.symm), List.getD_eq_getElem?_getD (i := j)]
theorem getD_two (xs : List Int) (j : Nat) : (xs ++ [0, 0]).getD j 0 = xs.getD j 0 := by
  rw [List.getD_eq_getElem?_getD, List.getD_eq_getElem?_getD]
  by_cases h : j < xs.length
  · rw [List.getElem?_append_left h]
  · rw [List.getElem?_append_right (by omega), List.getElem?_eq_none (l := xs) (by omega)]
    match h2 : j - xs.length with
    | 0 => rfl
    | 1 => rfl
    | n + 2 => rfl
theorem NN.two {xs : List Int} (h : NN xs) : NN (xs ++ [0, 0]) := .of fun i => by rw [getD_two]; exact h.get i
theorem NN.bump {xs : List Int} (h : NN xs) {i : Nat} {d : Int} (hi : i < xs.length) (hd : 0 ≤ xs.getD i 0 + d) : NN (bump xs i d) := .of fun j => by
  rw [getD_bump xs i j d hi]
  split
  · exact hd
  · exact h.get j
theorem NN.bare {xs : List Int} (h : NN xs) : NN (bare xs) := fun x hx => h x (bare_mem hx)
theorem NN.done {xs : List Int} (h : NN xs) {m : Mv} (hf : mvFits xs m = true) : NN (mvDone xs m) := by
  have hk := mvFits_lt hf
  have hl : (xs ++ [(0 : Int), 0]).length = xs.length + 2 := by simp
  obtain ⟨b, k⟩ := m
  have hk : k < xs.length := hk
  cases b with
  | true =>
    simp only [mvFits, Bool.and_eq_true, decide_eq_true_eq] at hf
    obtain ⟨f1, f2, f3⟩ := hf
    refine NN.bare (NN.bump (NN.bump (NN.bump h.two (by omega) ?_) (by rw [bump_len]; omega) ?_) (by rw [bump_len, bump_len]; omega) ?_)
    · rw [getD_two]; omega
    · rw [getD_bump _ _ _ _ (by omega), if_neg (by omega), getD_two]; omega
    · rw [getD_bump _ _ _ _ (by rw [bump_len]; omega), if_neg (by omega), getD_bump _ _ _ _ (by omega), if_neg (by omega), getD_two]
      have := h.get (k + 2)
      omega
  | false =>
    simp only [mvFits, Bool.and_eq_true, decide_eq_true_eq] at hf
    obtain ⟨f1, f2⟩ := hf
    match k, hk, f2 with
    | 0, hk, f2 =>
      refine NN.bare (xs := Sh.bump (Sh.bump (xs ++ [0, 0]) 0 (-2)) 1 1) (NN.bump (NN.bump h.two (by omega) ?_) (by rw [bump_len]; omega) ?_)
      · rw [getD_two]; omega
      · rw [getD_bump _ _ _ _ (by omega), if_neg (by omega), getD_two]
        have := h.get 1
        omega
    | 1, hk, f2 =>
      refine NN.bare (xs := Sh.bump (Sh.bump (Sh.bump (xs ++ [0, 0]) 1 (-2)) 2 1) 0 1) (NN.bump (NN.bump (NN.bump h.two (by omega) ?_) (by rw [bump_len]; omega) ?_) (by rw [bump_len, bump_len]; omega) ?_)
      · rw [getD_two]; omega
      · rw [getD_bump _ _ _ _ (by omega), if_neg (by omega), getD_two]
        have := h.get 2
        omega
      · rw [getD_bump _ _ _ _ (by rw [bump_len]; omega), if_neg (by omega), getD_bump _ _ _ _ (by omega), if_neg (by omega), getD_two]
        have := h.get 0
        omega
    | k + 2, hk, f2 =>
      have e : mvRaw xs (false, k + 2) = Sh.bump (Sh.bump (Sh.bump (xs ++ [0, 0]) (k + 2) (-2)) (k + 3) 1) k 1 := by
        simp [mvRaw]
      unfold mvDone
      rw [e]
      refine NN.bare (NN.bump (NN.bump (NN.bump h.two (by omega) ?_) (by rw [bump_len]; omega) ?_) (by rw [bump_len, bump_len]; omega) ?_)
      · rw [getD_two]; omega
      · rw [getD_bump _ _ _ _ (by omega), if_neg (by omega), getD_two]
        have := h.get (k + 3)
        omega
      · rw [getD_bump _ _ _ _ (by rw [bump_len]; omega), if_neg (by omega), getD_bump _ _ _ _ (by omega), if_neg (by omega), getD_two]
        have := h.get k
        omega
/-! the way of a heap by picks -/
def endOf (xs : List Int) (log : List Mv) : List Int := log.foldl mvDone xs
theorem endOf_snoc (xs : List Int) (log : List Mv) (m : Mv) : endOf xs (log ++ [m]) = mvDone (endOf xs log) m := by
  unfold endOf
  rw [List.foldl_append]
  rfl
/-- the place of the move picked behind n, of so many -/
def pickI (pk : List Int) (n many : Nat) : Nat := if pk = [] then 0 else (pk.getD (n % pk.length) 0 % (many : Int)).toNat
structure OkLog (pk : List Int) (xs : List Int) (log : List Mv) : Prop where
  at_ : ∀ k m, log[k]? = some m → (mvs (endOf xs (log.take k)))[pickI pk k (mvs (endOf xs (log.take k))).length]? = some m
theorem OkLog.nil (pk xs : List Int) : OkLog pk xs [] := ⟨fun k m h => by simp at h⟩
theorem OkLog.snoc {pk xs : List Int} {log : List Mv} {m : Mv} (h : OkLog pk xs log) (hm : (mvs (endOf xs log))[pickI pk log.length (mvs (endOf xs log)).length]? = some m) : OkLog pk xs (log ++ [m]) := ⟨fun k n hk => by
  by_cases hl : k < log.length
  · rw [List.getElem?_append_left hl] at hk
    rw [List.take_append_of_le_length (by omega)]
    exact h.at_ k n hk
  · rw [List.getElem?_append_right (by omega)] at hk
    have e : k = log.length := by
      by_cases z : k - log.length = 0
      · omega
      · rw [List.getElem?_eq_none (by simp; omega)] at hk
        cases hk
    subst e
    rw [Nat.sub_self] at hk
    have e2 : m = n := Option.some.inj hk
    subst e2
    rw [List.take_append_of_le_length (Nat.le_refl _), List.take_length]
    exact hm⟩
theorem OkLog.init {pk xs : List Int} {log : List Mv} {m : Mv} (h : OkLog pk xs (log ++ [m])) : OkLog pk xs log ∧ mvFits (endOf xs log) m = true := by
  refine ⟨⟨fun k n hk => ?_⟩, ?_⟩
  · have hl := (List.getElem?_eq_some_iff.mp hk).1
    have h2 := h.at_ k n (by rw [List.getElem?_append_left hl]; exact hk)
    rw [List.take_append_of_le_length (by omega)] at h2
    exact h2
  · have h2 := h.at_ log.length m (by rw [List.getElem?_append_right (Nat.le_refl _), Nat.sub_self]; rfl)
    rw [List.take_append_of_le_length (Nat.le_refl _), List.take_length] at h2
    exact mem_mvs.mp (List.mem_of_getElem? h2)
/-- what a log leaves -/
structure Left (xs : List Int) (log : List Mv) : Prop where
  nn : NN (endOf xs log)
  wt : S W 0 (endOf xs log) = S W 0 xs
  pot : S pot 0 (endOf xs log) + (log.length : Int) ≤ S pot 0 xs
  few : S one 0 xs - S one 0 (endOf xs log) = ((log.filter fewer).length : Int)
  len : (endOf xs log).length ≤ xs.length + 2 * log.length
theorem snoc_ind {α : Type} {P : List α → Prop} (h0 : P []) (hs : ∀ l a, P l → P (l ++ [a])) : ∀ (n : Nat) (l : List α), l.length = n → P l
  | 0, l, h => by
    rw [List.eq_nil_of_length_eq_zero h]
    exact h0
  | n + 1, l, h => by
    obtain ⟨ys, c, rfl⟩ := snoc_of (xs := l) (by intro e; rw [e] at h; cases h)
    refine hs _ _ (snoc_ind h0 hs n ys ?_)
    rw [List.length_append, List.length_singleton] at h
    omega
theorem left_of {pk xs : List Int} (hx : NN xs) (log : List Mv) : OkLog pk xs log → Left xs log := by
  refine snoc_ind (P := fun log => OkLog pk xs log → Left xs log) (fun _ => ⟨hx, rfl, by show S Sh.pot 0 xs + 0 ≤ _; omega, by show S one 0 xs - S one 0 xs = 0; omega, Nat.le_refl _⟩) (fun l m ih h => ?_) _ log rfl
  obtain ⟨h1, hf⟩ := h.init
  have L := ih h1
  rw [show Left xs (l ++ [m]) = Left xs (l ++ [m]) from rfl]
  refine ⟨?_, ?_, ?_, ?_, ?_⟩ <;> rw [endOf_snoc]
  · exact L.nn.done hf
  · rw [S_mvDone W hf, W_delta, L.wt]
    omega
  · rw [S_mvDone Sh.pot hf, List.length_append, List.length_singleton]
    have := pot_delta m
    have := L.pot
    omega
  · rw [S_mvDone one hf, one_delta, List.filter_append, List.length_append]
    have := L.few
    by_cases hm : fewer m = true
    · rw [if_pos hm, List.filter_cons, if_pos hm]
      show _ = (((l.filter fewer).length + 1 : Nat) : Int)
      omega
    · rw [if_neg hm, List.filter_cons, if_neg hm]
      show _ = (((l.filter fewer).length + 0 : Nat) : Int)
      omega
  · have := mvDone_len (endOf xs l) m
    have := L.len
    rw [List.length_append, List.length_singleton]
    omega
theorem pot_pos (k : Nat) : 0 ≤ pot k := by
  unfold pot
  split <;> omega
theorem S_le {f : Nat → Int} {c : Int} : ∀ (xs : List Int) (k n : Nat), NN xs → (∀ j, j < n → f j ≤ c) → k + xs.length ≤ n → S f k xs ≤ c * S one k xs
  | [], k, n, _, _, _ => by simp [S]
  | a :: r, k, n, h, hf, hl => by
    have hl2 : k + (r.length + 1) ≤ n := hl
    have ih := S_le r (k + 1) n (fun x hx => h x (List.mem_cons_of_mem _ hx)) hf (by omega)
    have h1 := Int.mul_le_mul_of_nonneg_left (hf k (by omega)) (h a List.mem_cons_self)
    rw [S_cons, S_cons, Int.mul_add, show c * (a * one k) = a * c by unfold one; rw [Int.mul_one, Int.mul_comm]]
    omega
theorem pot_lt {k : Nat} {n : Nat} (h : k < n) : pot k ≤ (n : Int) + 3 := by
  unfold pot
  split <;> omega
theorem pot_le {xs : List Int} (h : NN xs) : S pot 0 xs ≤ ((xs.length : Int) + 3) * S one 0 xs := S_le xs 0 xs.length h (fun j hj => pot_lt hj) (by omega)
theorem one_ge : ∀ (xs : List Int) (k : Nat), NN xs → ∀ x ∈ xs, x ≤ S one k xs
  | [], _, _, x, hx => nomatch hx
  | a :: r, k, h, x, hx => by
    have h0 : NN r := fun y hy => h y (List.mem_cons_of_mem _ hy)
    have h1 := S_nonneg (f := one) (fun _ => by unfold one; decide) r (k + 1) h0
    have ha := h a List.mem_cons_self
    rw [S_cons, show a * one k = a by unfold one; rw [Int.mul_one]]
    rcases List.mem_cons.mp hx with e | e
    · omega
    · have := one_ge r (k + 1) h0 x e
      omega
theorem one_sum : ∀ (xs : List Int) (k : Nat), S one k xs = xs.sum
  | [], _ => rfl
  | a :: r, k => by
    rw [S_cons, List.sum_cons, one_sum r (k + 1), show a * one k = a by unfold one; rw [Int.mul_one]]
theorem sm_of {xs : List Int} (h : NN xs) (hl : xs.length ≤ 100000) {c : Int} (hc : S one 0 xs ≤ c) (hc2 : c ≤ 1000000) : Sm xs := by
  refine ⟨hl, fun x hx => ?_⟩
  have h1 := one_ge xs 0 h x hx
  have h2 := h x hx
  have h3 : (2 : Nat) ^ 20 ≤ 2 ^ 1000 := by decide +kernel
  have h4 : (2 : Nat) ^ 20 = 1048576 := by decide
  omega
end Sh

/-! Own words over the layer for a heap carried to its end: lists beside the empty one, picks. -/
namespace Sh
open PySem PySem.Spec PyProof.Rows L2
section
variable {σ : L2.St} {H : Hp} {K : PySem.W.Frag} {ta tb te : TE} {D : Ends} {ts tz tu : TS}
/-- a list of moves beside [] -/
theorem et_eqM {ab : Addr} {ps : List Addr} {ms : List Mv} (ha : Evl.Ev ta σ H (.ref ab)) (hb : H ab = some (.lst (ps.map V.ref))) (hm : MvL H ps ms) : Evl.EvT (tTest (tOp (rEqD K) ta (tLst tNil))) σ H (decide (ms = [])) :=
  Evl.et_test (Evl.ev_opL ha (Evl.el_lst Evl.ea_nil (by decide)) (fun p H1 h1 e1 => fun H2 e2 Q q => ⟨_, _, .lst (SqL.of (e2 ab _ (e1 ab _ hb))) (mvs_dp ((hm.same e1).same e2)), .lst (SqL.of (e2 p _ h1)) .nil, mvDs_shaped _, by decide +kernel, by rw [eqv_nilM]; exact q H2 (Evl.Ex.refl H2)⟩))
theorem et_neM {ab : Addr} {ps : List Addr} {ms : List Mv} (ha : Evl.Ev ta σ H (.ref ab)) (hb : H ab = some (.lst (ps.map V.ref))) (hm : MvL H ps ms) : Evl.EvT (tTest (tOp (rNeD K) ta (tLst tNil))) σ H (!decide (ms = [])) :=
  Evl.et_test (Evl.ev_opL ha (Evl.el_lst Evl.ea_nil (by decide)) (fun p H1 h1 e1 => fun H2 e2 Q q => ⟨_, _, .lst (SqL.of (e2 ab _ (e1 ab _ hb))) (mvs_dp ((hm.same e1).same e2)), .lst (SqL.of (e2 p _ h1)) .nil, mvDs_shaped _, by decide +kernel, by rw [eqv_nilM]; exact q H2 (Evl.Ex.refl H2)⟩))
/-- a list of ints beside [] -/
theorem et_eqI {a : Addr} {ns : List Int} (ha : Evl.Ev ta σ H (.ref a)) (hS : SqL K H a (ns.map V.int)) : Evl.EvT (tTest (tOp (rEqD K) ta (tLst tNil))) σ H (decide (ns = [])) :=
  Evl.et_test (Evl.ev_opL ha (Evl.el_lst Evl.ea_nil (by decide)) (fun p H1 h1 e1 => fun H2 e2 Q q => ⟨_, _, .lst (Same.seq e2 (Same.seq e1 hS)) (dpAll_int ns), .lst (SqL.of (e2 p _ h1)) .nil, shaped_int ns, by decide +kernel, by rw [show (PyData.list []) = .list (([] : List Int).map PyData.int) from rfl, eqv_int]; exact q H2 (Evl.Ex.refl H2)⟩))
theorem et_neI {a : Addr} {ns : List Int} (ha : Evl.Ev ta σ H (.ref a)) (hS : SqL K H a (ns.map V.int)) : Evl.EvT (tTest (tOp (rNeD K) ta (tLst tNil))) σ H (!decide (ns = [])) :=
  Evl.et_test (Evl.ev_opL ha (Evl.el_lst Evl.ea_nil (by decide)) (fun p H1 h1 e1 => fun H2 e2 Q q => ⟨_, _, .lst (Same.seq e2 (Same.seq e1 hS)) (dpAll_int ns), .lst (SqL.of (e2 p _ h1)) .nil, shaped_int ns, by decide +kernel, by rw [show (PyData.list []) = .list (([] : List Int).map PyData.int) from rfl, eqv_int]; exact q H2 (Evl.Ex.refl H2)⟩))
/-- what was picked by hand: none, or a list of numbers -/
def PkV (K : PySem.W.Frag) (H : Hp) (pv : V) (pk : List Int) : Prop := (pv = .non ∧ pk = []) ∨ ∃ b, pv = .ref b ∧ SqL K H b (pk.map V.int)
theorem PkV.same {H' : Hp} {pv : V} {pk : List Int} (e : Same H H') (h : PkV K H pv pk) : PkV K H' pv pk := by
  rcases h with h | ⟨b, e1, e2⟩
  · exact .inl h
  · exact .inr ⟨b, e1, e.seq e2⟩
theorem PkV.get {pv : V} {pk : List Int} (h : PkV K H pv pk) (hn : pk ≠ []) : ∃ b, pv = .ref b ∧ SqL K H b (pk.map V.int) := by
  rcases h with h | h
  · exact absurd h.2 hn
  · exact h
/-- x is None or x == [] -/
theorem et_noPk {i : Nat} {pv : V} {pk : List Int} (hv : σ[i]? = some (some pv)) (h : PkV K H pv pk) : Evl.EvT (tOr (tTest (tOp rIsN (tVar i) (tC .non))) (tTest (tOp (rEqD K) (tVar i) (tLst tNil)))) σ H (decide (pk = [])) := by
  rcases h with ⟨rfl, rfl⟩ | ⟨b, rfl, hS⟩
  · exact Evl.et_is (Evl.et_or (a := true) (b := true) (fun H1 e Q q => ⟨_, hv, rfl, ⟨true, rfl, q H1 (Evl.Ex.refl H1)⟩⟩) (fun z => (nomatch z))) (by decide)
  · exact Evl.et_is (Evl.et_or (a := false) (fun H1 e Q q => ⟨_, hv, rfl, ⟨false, rfl, q H1 (Evl.Ex.refl H1)⟩⟩) (fun _ => et_eqI (Evl.ev_var hv) hS)) (Bool.false_or _)
/-! by hand -/
theorem xr_callD {sp : Sp} {dvs : List V} {E : XK} {tr : TA} {Q : VK} (h : tr σ H fun vs H1 => sp (vs ++ dvs) H1 Q E) : tCall sp dvs E tr σ H Q := h
theorem xs_run {i : Nat} (h : te σ H fun v H1 => D.nx (σ.set i (some v)) H1) : tAsg te (gName i) D σ H := h
theorem xr_when {t : TT} (h : t σ H fun b H1 => if b = true then ts { D with nx := tz D } σ H1 else tz D σ H1) : tSeq (tIfS t ts tNext) tz D σ H := h
theorem xr_test {Q : Bool → Hp → Prop} (h : te σ H fun x H1 => ∃ k, x = .bl k ∧ Q k H1) : tTest te σ H Q := h
theorem xr_op {r : R2} {Q : VK} (h : ta σ H fun x H1 => tb σ H1 fun y H2 => r x y H2 Q) : tOp r ta tb σ H Q := h
theorem ofNat_emod (n m : Nat) : ((n : Int) % (m : Int)).toNat = n % m := by
  rw [← Int.natCast_emod, Int.toNat_natCast]
end
end Sh

namespace K04
open PySem PySem.Spec PyProof.Rows L2 Sh
def topS (i : Nat) : Stmt := PySem.Challenge.pw_shellstair_k04_carried.main.body.getD i (.Pass ⟨0, 0, 0, 0⟩)
abbrev st_fits : Stmt := topS 4
theorem sc_fits : FnScope ["heap", "move", "step"] ["heap", "move"] (defScope st_fits) := ⟨rfl, rfl, rfl, by decide +kernel, rfl, by decide +kernel, by decide +kernel⟩
abbrev st_moves : Stmt := topS 5
theorem sc_moves : FnScope ["heap", "found", "step"] ["heap"] (defScope st_moves) := ⟨rfl, rfl, rfl, by decide +kernel, rfl, by decide +kernel, by decide +kernel⟩
abbrev st_bare : Stmt := topS 6
theorem sc_bare : FnScope ["counts", "size"] ["counts"] (defScope st_bare) := ⟨rfl, rfl, rfl, by decide +kernel, rfl, by decide +kernel, by decide +kernel⟩
abbrev st_done : Stmt := topS 7
theorem sc_done : FnScope ["heap", "move", "step", "counts"] ["heap", "move"] (defScope st_done) := ⟨rfl, rfl, rfl, by decide +kernel, rfl, by decide +kernel, by decide +kernel⟩
abbrev st_picked : Stmt := topS 8
theorem sc_picked : FnScope ["able", "picks", "many", "pick"] ["able", "picks", "many"] (defScope st_picked) := ⟨rfl, rfl, rfl, by decide +kernel, rfl, by decide +kernel, by decide +kernel⟩
abbrev st_carried : Stmt := topS 9
theorem sc_carried : FnScope ["heap", "picks", "counts", "log", "able", "move"] ["heap", "picks"] (defScope st_carried) := ⟨rfl, rfl, rfl, by decide +kernel, rfl, by decide +kernel, by decide +kernel⟩
abbrev st_l_cell_at : Stmt := topS 11
theorem sc_l_cell_at : FnScope ["_law_script", "_law_k"] ["_law_script", "_law_k"] (defScope st_l_cell_at) := ⟨rfl, rfl, rfl, by decide +kernel, rfl, by decide +kernel, by decide +kernel⟩
abbrev st_l_whole : Stmt := topS 12
theorem sc_l_whole : FnScope ["_law_found"] ["_law_found"] (defScope st_l_whole) := ⟨rfl, rfl, rfl, by decide +kernel, rfl, by decide +kernel, by decide +kernel⟩
abbrev st_l_bare : Stmt := topS 13
theorem sc_l_bare : FnScope ["_law_heap_here"] ["_law_heap_here"] (defScope st_l_bare) := ⟨rfl, rfl, rfl, by decide +kernel, rfl, by decide +kernel, by decide +kernel⟩
abbrev st_l_moves : Stmt := topS 14
theorem sc_l_moves : FnScope ["_law_heap_here", "_law_found", "_law_k"] ["_law_heap_here"] (defScope st_l_moves) := ⟨rfl, rfl, rfl, by decide +kernel, rfl, by decide +kernel, by decide +kernel⟩
abbrev st_l_done : Stmt := topS 15
theorem sc_l_done : FnScope ["_law_heap_here", "_law_move", "_law_made", "_law_k"] ["_law_heap_here", "_law_move"] (defScope st_l_done) := ⟨rfl, rfl, rfl, by decide +kernel, rfl, by decide +kernel, by decide +kernel⟩
abbrev st_l_is_move : Stmt := topS 16
theorem sc_l_is_move : FnScope ["_law_found"] ["_law_found"] (defScope st_l_is_move) := ⟨rfl, rfl, rfl, by decide +kernel, rfl, by decide +kernel, by decide +kernel⟩
abbrev st_l_alike : Stmt := topS 17
theorem sc_l_alike : FnScope ["_law_found", "_law_heap_here", "_law_k"] ["_law_found", "_law_heap_here"] (defScope st_l_alike) := ⟨rfl, rfl, rfl, by decide +kernel, rfl, by decide +kernel, by decide +kernel⟩
abbrev st_l_stream : Stmt := topS 18
theorem sc_l_stream : FnScope ["_law_cell", "_law_many", "_law_found", "_law_number", "_law_k"] ["_law_cell", "_law_many"] (defScope st_l_stream) := ⟨rfl, rfl, rfl, by decide +kernel, rfl, by decide +kernel, by decide +kernel⟩
abbrev st_l_weight : Stmt := topS 19
theorem sc_l_weight : FnScope ["_law_heap_here", "_law_total", "_law_here", "_law_beyond", "_law_count"] ["_law_heap_here"] (defScope st_l_weight) := ⟨rfl, rfl, rfl, by decide +kernel, rfl, by decide +kernel, by decide +kernel⟩
abbrev st_l_heap : Stmt := topS 20
theorem sc_l_heap : FnScope ["_law_script", "_law_first", "_law_second", "_law_span", "_law_way", "_law_cells", "_law_heap_here", "_law_cell"] ["_law_script"] (defScope st_l_heap) := ⟨rfl, rfl, rfl, by decide +kernel, rfl, by decide +kernel, by decide +kernel⟩
abbrev st_l_asked : Stmt := topS 21
theorem sc_l_asked : FnScope ["_law_script", "_law_heap_here", "_law_picks", "_law_way"] ["_law_script", "_law_heap_here", "_law_picks"] (defScope st_l_asked) := ⟨rfl, rfl, rfl, by decide +kernel, rfl, by decide +kernel, by decide +kernel⟩
abbrev st_l_bound : Stmt := topS 22
theorem sc_l_bound : FnScope ["_law_heap_here", "_law_most", "_law_k"] ["_law_heap_here"] (defScope st_l_bound) := ⟨rfl, rfl, rfl, by decide +kernel, rfl, by decide +kernel, by decide +kernel⟩
abbrev st_l_walked : Stmt := topS 23
theorem sc_l_walked : FnScope ["_law_heap_here", "_law_log", "_law_picks", "_law_here", "_law_k", "_law_able", "_law_pick"] ["_law_heap_here", "_law_log", "_law_picks"] (defScope st_l_walked) := ⟨rfl, rfl, rfl, by decide +kernel, rfl, by decide +kernel, by decide +kernel⟩
abbrev st_law : Stmt := topS 24
theorem sc_law : FnScope ["_law_script", "_law_heap_here", "_law_picks", "_law_handed", "_law_given", "_law_found", "_law_end", "_law_fewer", "_law_move", "_law_cell"] ["_law_script"] (defScope st_law) := ⟨rfl, rfl, rfl, by decide +kernel, rfl, by decide +kernel, by decide +kernel⟩
/-- what the top has written -/
structure Txt (K : PySem.W.Frag) (mg : Str → Option Value) where
  C_StairError : Addr
  g_StairError : mg "StairError" = some (.ref C_StairError)
  k_StairError : PySem.W.keepIn K (.ref C_StairError) = true
  x_StairError : PySem.W.excIn K C_StairError [.type "ValueError", .type "Exception", .type "BaseException", .type "object"] "ValueError.__new__" = true
  xb_StairError : PySem.W.subIn K (.ref C_StairError) (.type "BaseException") = some true
  xt_StairError : PySem.W.typeIn K (.ref C_StairError) = some (.type "type")
  C_NoMove : Addr
  g_NoMove : mg "NoMove" = some (.ref C_NoMove)
  k_NoMove : PySem.W.keepIn K (.ref C_NoMove) = true
  x_NoMove : PySem.W.excIn K C_NoMove [.type "ValueError", .type "Exception", .type "BaseException", .type "object"] "ValueError.__new__" = true
  xb_NoMove : PySem.W.subIn K (.ref C_NoMove) (.type "BaseException") = some true
  xt_NoMove : PySem.W.typeIn K (.ref C_NoMove) = some (.type "type")
  f_fits : Addr
  d_fits : FuncData
  F_fits : Fun K "fits" "fits" st_fits f_fits d_fits
  g_fits : mg "fits" = some (.ref f_fits)
  b_fits : Binds K d_fits ["heap", "move"] []
  f_moves : Addr
  d_moves : FuncData
  F_moves : Fun K "moves" "moves" st_moves f_moves d_moves
  g_moves : mg "moves" = some (.ref f_moves)
  b_moves : Binds K d_moves ["heap"] []
  f_bare : Addr
  d_bare : FuncData
  F_bare : Fun K "bare" "bare" st_bare f_bare d_bare
  g_bare : mg "bare" = some (.ref f_bare)
  b_bare : Binds K d_bare ["counts"] []
  f_done : Addr
  d_done : FuncData
  F_done : Fun K "done" "done" st_done f_done d_done
  g_done : mg "done" = some (.ref f_done)
  b_done : Binds K d_done ["heap", "move"] []
  f_picked : Addr
  d_picked : FuncData
  F_picked : Fun K "picked" "picked" st_picked f_picked d_picked
  g_picked : mg "picked" = some (.ref f_picked)
  b_picked : Binds K d_picked ["able", "picks", "many"] []
  f_carried : Addr
  d_carried : FuncData
  F_carried : FunD K "carried" "carried" (defArgs st_carried) (defBody st_carried) (defScope st_carried) [V.non] [] f_carried d_carried
  g_carried : mg "carried" = some (.ref f_carried)
  b0_carried : ∃ ds, Vals [V.non] ds ∧ Binds K d_carried ["heap", "picks"] ds
  b1_carried : ∃ ds, Vals [] ds ∧ Binds K d_carried ["heap", "picks"] ds
  f_l_cell_at : Addr
  d_l_cell_at : FuncData
  F_l_cell_at : Fun K "_law_cell_at" "_law_cell_at" st_l_cell_at f_l_cell_at d_l_cell_at
  g_l_cell_at : mg "_law_cell_at" = some (.ref f_l_cell_at)
  b_l_cell_at : Binds K d_l_cell_at ["_law_script", "_law_k"] []
  f_l_whole : Addr
  d_l_whole : FuncData
  F_l_whole : Fun K "_law_whole" "_law_whole" st_l_whole f_l_whole d_l_whole
  g_l_whole : mg "_law_whole" = some (.ref f_l_whole)
  b_l_whole : Binds K d_l_whole ["_law_found"] []
  f_l_bare : Addr
  d_l_bare : FuncData
  F_l_bare : Fun K "_law_bare" "_law_bare" st_l_bare f_l_bare d_l_bare
  g_l_bare : mg "_law_bare" = some (.ref f_l_bare)
  b_l_bare : Binds K d_l_bare ["_law_heap_here"] []
  f_l_moves : Addr
  d_l_moves : FuncData
  F_l_moves : Fun K "_law_moves" "_law_moves" st_l_moves f_l_moves d_l_moves
  g_l_moves : mg "_law_moves" = some (.ref f_l_moves)
  b_l_moves : Binds K d_l_moves ["_law_heap_here"] []
  f_l_done : Addr
  d_l_done : FuncData
  F_l_done : Fun K "_law_done" "_law_done" st_l_done f_l_done d_l_done
  g_l_done : mg "_law_done" = some (.ref f_l_done)
  b_l_done : Binds K d_l_done ["_law_heap_here", "_law_move"] []
  f_l_is_move : Addr
  d_l_is_move : FuncData
  F_l_is_move : Fun K "_law_is_move" "_law_is_move" st_l_is_move f_l_is_move d_l_is_move
  g_l_is_move : mg "_law_is_move" = some (.ref f_l_is_move)
  b_l_is_move : Binds K d_l_is_move ["_law_found"] []
  f_l_alike : Addr
  d_l_alike : FuncData
  F_l_alike : Fun K "_law_alike" "_law_alike" st_l_alike f_l_alike d_l_alike
  g_l_alike : mg "_law_alike" = some (.ref f_l_alike)
  b_l_alike : Binds K d_l_alike ["_law_found", "_law_heap_here"] []
  f_l_stream : Addr
  d_l_stream : FuncData
  F_l_stream : Fun K "_law_stream" "_law_stream" st_l_stream f_l_stream d_l_stream
  g_l_stream : mg "_law_stream" = some (.ref f_l_stream)
  b_l_stream : Binds K d_l_stream ["_law_cell", "_law_many"] []
  f_l_weight : Addr
  d_l_weight : FuncData
  F_l_weight : Fun K "_law_weight" "_law_weight" st_l_weight f_l_weight d_l_weight
  g_l_weight : mg "_law_weight" = some (.ref f_l_weight)
  b_l_weight : Binds K d_l_weight ["_law_heap_here"] []
  f_l_heap : Addr
  d_l_heap : FuncData
  F_l_heap : Fun K "_law_heap" "_law_heap" st_l_heap f_l_heap d_l_heap
  g_l_heap : mg "_law_heap" = some (.ref f_l_heap)
  b_l_heap : Binds K d_l_heap ["_law_script"] []
  f_l_asked : Addr
  d_l_asked : FuncData
  F_l_asked : Fun K "_law_asked" "_law_asked" st_l_asked f_l_asked d_l_asked
  g_l_asked : mg "_law_asked" = some (.ref f_l_asked)
  b_l_asked : Binds K d_l_asked ["_law_script", "_law_heap_here", "_law_picks"] []
  f_l_bound : Addr
  d_l_bound : FuncData
  F_l_bound : Fun K "_law_bound" "_law_bound" st_l_bound f_l_bound d_l_bound
  g_l_bound : mg "_law_bound" = some (.ref f_l_bound)
  b_l_bound : Binds K d_l_bound ["_law_heap_here"] []
  f_l_walked : Addr
  d_l_walked : FuncData
  F_l_walked : Fun K "_law_walked" "_law_walked" st_l_walked f_l_walked d_l_walked
  g_l_walked : mg "_law_walked" = some (.ref f_l_walked)
  b_l_walked : Binds K d_l_walked ["_law_heap_here", "_law_log", "_law_picks"] []
  f_law : Addr
  d_law : FuncData
  F_law : Fun K "law" "law" st_law f_law d_law
  g_law : mg "law" = some (.ref f_law)
  b_law : Binds K d_law ["_law_script"] []
  m_len : mg "len" = none
  m_range : mg "range" = none
  m_list : mg "list" = none
  m_isinstance : mg "isinstance" = none
  m_int : mg "int" = none
  m_bool : mg "bool" = none
  m_tuple : mg "tuple" = none
  m_str : mg "str" = none
  m_sum : mg "sum" = none
local macro_rules | `(tactic| walk_at "side") => `(tactic| first | assumption | omega | exact ⟨by decide, by decide⟩ | exact ⟨by decide, by decide, by decide⟩ | (show (0 : Int) < _; first | omega | decide | exact T60_pos | exact T60_pos1 | decide +kernel))
local macro_rules | `(tactic| walk_at "sq") => `(tactic| first | assumption | exact SqL.of (by assumption))
local macro_rules | `(tactic| walk_at "val") => `(tactic| first
  | with_reducible exact val_c
  | ((with_reducible apply xv_c) <;> exact rfl)
  | ((with_reducible apply val_var) <;> rfl)
  | with_reducible exact xv_p60
  | ((with_reducible apply xv_I0) <;> walk_at "val")
  | ((with_reducible apply xv_I) <;> first | walk_at "val" | walk_at "side")
  | ((with_reducible apply xv_eq) <;> first | walk_at "val" | rfl)
  | ((with_reducible apply xv_ne) <;> first | walk_at "val" | rfl)
  | ((with_reducible apply xv_U) <;> walk_at "val")
  | ((with_reducible apply xv_lenI) <;> first | walk_at "val" | walk_at "sq")
  | ((with_reducible apply xv_ix) <;> first | walk_at "val" | walk_at "sq" | walk_at "side")
  | ((with_reducible apply xv_and) <;> first | walk_at "val" | (intro hc; (try replace hc := of_decide_eq_true hc); walk_at "val"))
  | ((with_reducible apply xv_or) <;> first | walk_at "val" | (intro hc; (try replace hc := of_decide_eq_false hc); walk_at "val"))
  | ((with_reducible apply xv_not) <;> walk_at "val")
  | walk_at "val+")
local macro_rules | `(tactic| walk_at "val+") => `(tactic| fail "val")
local macro_rules | `(tactic| walk_at "arg") => `(tactic| first | with_reducible exact xg_nil | ((with_reducible apply xg_cons) <;> first | walk_at "val" | walk_at "arg"))
local macro_rules | `(tactic| walk_at "ans") => `(tactic| first
  | ((with_reducible apply xa_T) <;> walk_at "val")
  | ((with_reducible apply xa_B) <;> walk_at "val")
  | ((with_reducible apply xa_not) <;> walk_at "ans")
  | ((with_reducible apply xa_and) <;> first | walk_at "ans" | (intro hc; (try replace hc := of_decide_eq_true hc); walk_at "ans"))
  | ((with_reducible apply xa_or) <;> first | walk_at "ans" | (intro hc; (try replace hc := of_decide_eq_false hc); walk_at "ans")))

section
variable {P : Program} {w : World} {K : PySem.W.Frag} {mg : Str → Option Value} {base : Heap}
/-! ### a cell of the script -/
def sp_cell (K : PySem.W.Frag) : Sp := fun vs H Q _ => ∃ (a : Addr) (ns : List Int) (j : Nat), vs = [.ref a, .int (j : Int)] ∧ SqL K H a (ns.map V.int) ∧ Q (.int (ns.getD j 0)) H
theorem ok_l_cell_at (T : Txt K mg) : FnOk P w K mg base CX0 1 T.f_l_cell_at T.d_l_cell_at ["_law_script", "_law_k"] (sp_cell K) := by
  refine T.F_l_cell_at.ok sc_l_cell_at (fun vs H Q E h => ?_) (fun cdv A outer s H vs Q E hr h => ?_)
  · obtain ⟨a, ns, j, rfl, _⟩ := h
    rfl
  · obtain ⟨a, ns, j, rfl, hS, q⟩ := h
    refine ⟨_, (pss_cons (ps_if (pt_cmpR op_lt (pv 1) (pe_callB call_len_seq (by rfl) T.m_len PySem.boot_len (pa_cons (pv 0) pa_nil)) (nomark _)) (pss_one (ps_ret (pe_ix ix_list (pv 0) (pv 1) (fun _ _ => rfl)))) pss_nil)
      (pss_one (ps_ret pe_int))), ?_⟩
    refine xs_when (xa_T (xv_I0 (val_var rfl) (xv_lenI (val_var rfl) hS))) (fun hc => ?_) (fun hc => ?_)
    · have hj : (j : Int) < ns.length := of_decide_eq_true hc
      exact st_ret (xv_ix (val_var rfl) (val_var rfl) hS (by omega) hj) q
    · have hj : ¬ (j : Int) < ns.length := of_decide_eq_false hc
      refine st_ret val_c ?_
      rw [List.getD_eq_getElem?_getD, List.getElem?_eq_none (by omega)] at q
      exact q
theorem xv_cell {σ : L2.St} {H : Hp} {ta tb : TE} {a : Addr} {ns : List Int} {j : Nat} (h : Val ta σ H (.ref a)) (h2 : Val tb σ H (.int (j : Int))) (hS : SqL K H a (ns.map V.int)) : Val (tCall (sp_cell K) [] E0 (tCons ta (tCons tb tNil))) σ H (.int (ns.getD j 0)) :=
  xv_call (xg_cons h (xg_cons h2 xg_nil)) fun Q q => ⟨a, ns, j, rfl, hS, q⟩
local macro_rules | `(tactic| walk_at "val+") => `(tactic| ((with_reducible apply xv_cell) <;> first | walk_at "val" | walk_at "sq"))
/-! ### whole numbers -/
def sp_whole : Sp := fun vs H Q _ => ∃ i : Int, vs = [.int i] ∧ Q (.bl true) H
theorem ok_l_whole (T : Txt K mg) : FnOk P w K mg base CX0 1 T.f_l_whole T.d_l_whole ["_law_found"] sp_whole := by
  refine T.F_l_whole.ok sc_l_whole (fun vs H Q E h => ?_) (fun cdv A outer s H vs Q E hr h => ?_)
  · obtain ⟨i, rfl, _⟩ := h
    rfl
  · obtain ⟨i, rfl, q⟩ := h
    refine ⟨_, (pss_one (ps_ret (pe_and (pe_callB call_isi (by rfl) T.m_isinstance (by decide +kernel) (pa_cons (pv 0) (pa_cons (pe_bltn (v := .ty "int") (by rfl) T.m_int (by decide +kernel) rfl) pa_nil))) (pe_one (pe_not (pe_callB call_isi (by rfl) T.m_isinstance (by decide +kernel) (pa_cons (pv 0) (pa_cons (pe_bltn (v := .ty "bool") (by rfl) T.m_bool (by decide +kernel) rfl) pa_nil)))))))), ?_⟩
    exact st_ret (xv_and (xv_isi (val_var rfl) (.base (.int i)) (b := true) (by decide +kernel)) fun _ => xv_not (xv_isi (val_var rfl) (.base (.int i)) (b := false) (by decide +kernel))) q
theorem xv_whole {σ : L2.St} {H : Hp} {ta : TE} {i : Int} (h : Val ta σ H (.int i)) : Val (tCall sp_whole [] E0 (tCons ta tNil)) σ H (.bl true) :=
  xv_call (xg_cons h xg_nil) fun Q q => ⟨i, rfl, q⟩
local macro_rules | `(tactic| walk_at "val+") => `(tactic| ((with_reducible apply xv_whole) <;> walk_at "val"))
/-! ### weight of a list -/
def sp_weight (K : PySem.W.Frag) : Sp := fun vs H Q _ => ∃ (a : Addr) (ns : List Int), vs = [.ref a] ∧ SqL K H a (ns.map V.int) ∧ Sm ns ∧ Q (.int (wt ns)) H
theorem ok_l_weight (T : Txt K mg) : FnOk P w K mg base CX0 1 T.f_l_weight T.d_l_weight ["_law_heap_here"] (sp_weight K) := by
  refine T.F_l_weight.ok sc_l_weight (fun vs H Q E h => ?_) (fun cdv A outer s H vs Q E hr h => ?_)
  · obtain ⟨a, ns, rfl, _⟩ := h
    rfl
  · obtain ⟨a, ns, rfl, hS, hz, q⟩ := h
    refine ⟨_, (pss_cons (ps_set (i := 1) sc_l_weight.nd rfl (Or.inl rfl) pe_int)
      (pss_cons (ps_set (i := 2) sc_l_weight.nd rfl (Or.inl rfl) pe_int)
      (pss_cons (ps_set (i := 3) sc_l_weight.nd rfl (Or.inl rfl) pe_int)
      (pss_cons (ps_for PassesOwn.never rfl (pi_list (pv 0)) (pg_name (i := 4) sc_l_weight.nd rfl (Or.inl rfl)) (pss_cons (ps_set (i := 1) sc_l_weight.nd rfl (Or.inl rfl) (pe_op op_add (pv 1) (pe_op op_mulW (pv 4) (pv 2))))
      (pss_one (ps_par (i := 2) (j := 3) (by rfl) sc_l_weight.nd rfl rfl (by decide) rfl rfl (pa_cons (pv 3) (pa_cons (pe_op op_add (pv 2) (pv 3)) pa_nil)) (by rfl)))))
      (pss_one (ps_ret (pv 1))))))), ?_⟩
    refine xq_set val_c ?_
    refine xq_set val_c ?_
    refine xq_set val_c ?_
    refine xq_forI (ns := ns) (val_var rfl) (Same.refl H) hS (fun i σ H' => ∃ y, σ = [some (.ref a), some (.int (S W 0 (ns.take i))), some (.int (W i)), some (.int (W (i + 1))), y] ∧ H' = H) ⟨_, rfl, rfl⟩ ?_ ?_
    · rintro i n σ H' e hn ⟨y, rfl, rfl⟩
      have hi : i < ns.length := (List.getElem?_eq_some_iff.mp hn).1
      have hc : CMulW n (W i) := wide_mul (hz.mag n (List.mem_of_getElem? hn)) (W_bitsN i) (by decide) (by omega) (by have := hz.len; omega)
      refine xq_set (xv_I0 (val_var rfl) (xv_I (val_var rfl) (val_var rfl) hc)) ?_
      refine xs_par (xg_cons (val_var rfl) (xg_cons (xv_I0 (val_var rfl) (val_var rfl)) xg_nil)) ⟨e, some (.int n), ?_, rfl⟩
      rw [S_take hn, Nat.zero_add]
      rfl
    · rintro σ H' e ⟨y, rfl, rfl⟩
      rw [List.take_length]
      exact st_ret (val_var rfl) q
theorem xv_weight {σ : L2.St} {H : Hp} {ta : TE} {a : Addr} {ns : List Int} (h : Val ta σ H (.ref a)) (hS : SqL K H a (ns.map V.int)) (hz : Sm ns) : Val (tCall (sp_weight K) [] E0 (tCons ta tNil)) σ H (.int (wt ns)) :=
  xv_call (xg_cons h xg_nil) fun Q q => ⟨a, ns, rfl, hS, hz, q⟩
local macro_rules | `(tactic| walk_at "val+") => `(tactic| ((with_reducible apply xv_weight) <;> first | walk_at "val" | walk_at "sq" | walk_at "side"))
/-! ### noughts at the end taken off, in place -/
def sp_bare : Sp := fun vs H Q _ => ∃ (l : Addr) (xs : List Int), vs = [.ref l] ∧ H l = some (.lst (xs.map V.int)) ∧ ∀ H', (∀ b, b ≠ l → H' b = H b) → H' l = some (.lst ((bare xs).map V.int)) → Q (.ref l) H'
theorem ok_l_bare (T : Txt K mg) : FnOk P w K mg base CX0 1 T.f_l_bare T.d_l_bare ["_law_heap_here"] sp_bare := by
  refine T.F_l_bare.ok sc_l_bare (fun vs H Q E h => ?_) (fun cdv A outer s H vs Q E hr h => ?_)
  · obtain ⟨l, xs, rfl, _⟩ := h
    rfl
  · obtain ⟨l, xs, rfl, hl, q⟩ := h
    refine ⟨_, (pss_cons (ps_while PassesOwn.never (PW.pt (pw_and (pt_cmpR op_gt (pe_callB call_len_seq (by rfl) T.m_len PySem.boot_len (pa_cons (pv 0) pa_nil)) pe_int (nomark _)) (pw_and1 (pt_cmpR op_eq (pe_ix ix_list (pv 0) (pe_op op_sub (pe_callB call_len_seq (by rfl) T.m_len PySem.boot_len (pa_cons (pv 0) pa_nil)) pe_int) (fun _ _ => rfl)) pe_int (nomark _))))) (pss_one (ps_expr (pe_bm0 PySem.F.plainAttrs_list PySem.F.slot_list_pop PySem.F.type_list_pop mt_pop (pv 0)))))
      (pss_one (ps_ret (pv 0)))), ?_⟩
    exact xq_pops (l := l) rfl hl fun H3 e3 h3 => st_ret (val_var rfl) (q H3 e3 h3)
/-! ### fits -/
def sp_fits (K : PySem.W.Frag) : Sp := fun vs H Q _ => ∃ (a : Addr) (ns : List Int) (p : Addr) (m : Mv), vs = [.ref a, .ref p] ∧ SqL K H a (ns.map V.int) ∧ SqT K H p (mvV m) ∧ Q (.bl (mvFits ns m)) H
theorem ok_fits (T : Txt K mg) : FnOk P w K mg base CX0 1 T.f_fits T.d_fits ["heap", "move"] (sp_fits K) := by
  refine T.F_fits.ok sc_fits (fun vs H Q E h => ?_) (fun cdv A outer s H vs Q E hr h => ?_)
  · obtain ⟨a, ns, p, m, rfl, _⟩ := h
    rfl
  · obtain ⟨a, ns, p, ⟨b, k⟩, rfl, hS, hp, q⟩ := h
    refine ⟨_, (pss_cons (ps_set (i := 2) sc_fits.nd rfl (Or.inl rfl) (pe_ix ix_tup (pv 1) pe_int (fun _ _ => rfl)))
      (pss_cons (ps_if (pt_cmpR op_eq (pe_ix ix_tup (pv 1) pe_int (fun _ _ => rfl)) pe_str (nomark _)) (pss_one (ps_ret (pe_and (pe_cmpR op_lt (pe_op op_add (pv 2) pe_int) (pe_callB call_len_seq (by rfl) T.m_len PySem.boot_len (pa_cons (pv 0) pa_nil)) (nomark _)) (pe_and (pe_cmpR op_gt (pe_ix ix_list (pv 0) (pv 2) (fun _ _ => rfl)) pe_int (nomark _)) (pe_one (pe_cmpR op_gt (pe_ix ix_list (pv 0) (pe_op op_add (pv 2) pe_int) (fun _ _ => rfl)) pe_int (nomark _))))))) pss_nil)
      (pss_one (ps_ret (pe_and (pe_cmpR op_lt (pv 2) (pe_callB call_len_seq (by rfl) T.m_len PySem.boot_len (pa_cons (pv 0) pa_nil)) (nomark _)) (pe_one (pe_cmpR op_gt (pe_ix ix_list (pv 0) (pv 2) (fun _ _ => rfl)) pe_int (nomark _)))))))), ?_⟩
    refine xq_set (xv_ixT (i := 1) (v := .int (k : Int)) (val_var rfl) val_c hp (by rfl)) ?_
    cases b with
    | true =>
      refine xs_when (b := true) (xa_T (by
        have h := xv_eq (xv_ixT (K := K) (i := 0) (v := .str (mvS true)) (val_var (σ := [some (.ref a), some (.ref p), some (.int (k : Int))]) (i := 1) rfl) val_c hp (by rfl)) (val_c (H := H) (v := V.str "join")) (by rfl)
        rw [show decide (V.str (mvS true) = V.str "join") = true from by decide +kernel] at h
        exact h)) (fun _ => ?_) (fun z => (nomatch z))
      refine st_ret (by walk_at "val") ?_
      have e : mvFits ns (true, k) = (decide ((k : Int) + 1 < (ns.length : Int)) && (decide (0 < ns.getD ((k : Int)).toNat 0) && decide (0 < ns.getD ((k : Int) + 1).toNat 0))) := by
        show (decide (k + 1 < ns.length) && _) = _
        rw [show decide (k + 1 < ns.length) = decide ((k : Int) + 1 < (ns.length : Int)) from decide_eq_decide.mpr (by omega)]
        rfl
      rw [e] at q
      exact q
    | false =>
      refine xs_when (b := false) (xa_T (by
        have h := xv_eq (xv_ixT (K := K) (i := 0) (v := .str (mvS false)) (val_var (σ := [some (.ref a), some (.ref p), some (.int (k : Int))]) (i := 1) rfl) val_c hp (by rfl)) (val_c (H := H) (v := V.str "join")) (by rfl)
        rw [show decide (V.str (mvS false) = V.str "join") = false from by decide +kernel] at h
        exact h)) (fun z => (nomatch z)) (fun _ => ?_)
      refine st_ret (by walk_at "val") ?_
      have e : mvFits ns (false, k) = (decide ((k : Int) < (ns.length : Int)) && decide (1 < ns.getD ((k : Int)).toNat 0)) := by
        show (decide (k < ns.length) && _) = _
        rw [show decide (k < ns.length) = decide ((k : Int) < (ns.length : Int)) from decide_eq_decide.mpr (by omega)]
        rfl
      rw [e] at q
      exact q
theorem xv_fits {σ : L2.St} {H : Hp} {ta tb : TE} {a p : Addr} {ns : List Int} {m : Mv} (h : Val ta σ H (.ref a)) (h2 : Val tb σ H (.ref p)) (hS : SqL K H a (ns.map V.int)) (hp : SqT K H p (mvV m)) : Val (tCall (sp_fits K) [] E0 (tCons ta (tCons tb tNil))) σ H (.bl (mvFits ns m)) :=
  xv_call (xg_cons h (xg_cons h2 xg_nil)) fun Q q => ⟨a, ns, p, m, rfl, hS, hp, q⟩
/-! ### moves, as the program and as the law lists them -/
def sp_moves (K : PySem.W.Frag) : Sp := fun vs H Q _ => ∃ (a : Addr) (ns : List Int), vs = [.ref a] ∧ SqL K H a (ns.map V.int) ∧ ns.length ≤ 20000 ∧
  ∀ H' p ps, Same H H' → H p = none → H' p = some (.lst (ps.map V.ref)) → MvL H' ps (mvs ns) → Q (.ref p) H'
/-- a move laid at the end of the list at l -/
theorem mv_app {σ : L2.St} {H H1 : Hp} {D : Ends} {l : Addr} {ps : List Addr} {ms : List Mv} {b : Bool} {k : Nat} (s : Str) (hs : s = mvS b) (e : Same H H1) (nl : H l = none) (hl : H1 l = some (.lst (ps.map V.ref))) (hm : MvL H1 ps ms) (hz : ms.length ≤ 50000) (hσ : σ[1]? = some (some (.ref l))) (hk : σ[2]? = some (some (.int (k : Int))))
    (q : ∀ H2 ps', Same H H2 → H2 l = some (.lst (ps'.map V.ref)) → MvL H2 ps' (ms ++ [(b, k)]) → D.nx σ H2) :
    tDrop (tBM K "list" rAppend (tVar 1) (tCons (tTup (tCons (tC (.str s)) (tCons (tVar 2) tNil))) tNil)) D σ H1 := by
  subst hs
  refine Evl.s_appU (l := l) hl (Evl.ev_var hσ) (Evl.eu_tup (Evl.ea_cons Evl.ev_c (Evl.ea_cons (Evl.ev_var hk) Evl.ea_nil)) (by show 2 ≤ 100000; omega)) (by rw [List.length_map, hm.len]; omega) fun p H2 np e2 h2 => ?_
  have h3 : H2 l = some (.lst (ps.map V.ref)) := e2 l _ hl
  refine q _ (ps ++ [p]) (same_mut (e.trans e2) nl) ?_ ?_
  · rw [upd_same, List.map_append]
    rfl
  · exact ((hm.same e2).snoc h2).upd h3
/-- a call of fits with a move made for it -/
theorem et_fits {σ : L2.St} {H : Hp} {ta tk : TE} {a : Addr} {ns : List Int} {b : Bool} {k : Nat} {s : Str} (hs : s = mvS b) (ha : Evl.Ev ta σ H (.ref a)) (hS : SqL K H a (ns.map V.int)) (hk : Evl.Ev tk σ H (.int (k : Int))) :
    Evl.EvT (tB (tCall (sp_fits K) [] E0 (tCons ta (tCons (tTup (tCons (tC (.str s)) (tCons tk tNil))) tNil)))) σ H (mvFits ns (b, k)) := fun H1 e Q q => by
  subst hs
  refine ha H1 e _ fun H2 e2 => ?_
  refine (Evl.eu_tup (Evl.ea_cons Evl.ev_c (Evl.ea_cons hk Evl.ea_nil)) (by show 2 ≤ 100000; omega)) H2 (e.trans e2) _ fun p H3 np e3 h3 => ?_
  exact ⟨a, ns, p, (b, k), rfl, Evl.ex_l ((e.trans e2).trans e3) hS, SqT.of h3, _, rfl, q H3 (e2.trans e3)⟩
theorem ok_moves (T : Txt K mg) : FnOk P w K mg base CX0 2 T.f_moves T.d_moves ["heap"] (sp_moves K) := by
  refine T.F_moves.ok sc_moves (fun vs H Q E h => ?_) (fun cdv A outer s H vs Q E hr h => ?_)
  · obtain ⟨a, ns, rfl, _⟩ := h
    rfl
  · obtain ⟨a, ns, rfl, hS, hz, q⟩ := h
    refine ⟨_, (pss_cons (ps_set (i := 1) sc_moves.nd rfl (Or.inl rfl) (pe_lst pa_nil))
      (pss_cons (ps_for PassesOwn.never rfl (pi_range1 (by rfl) T.m_range (pa_cons (pe_callB call_len_seq (by rfl) T.m_len PySem.boot_len (pa_cons (pv 0) pa_nil)) pa_nil)) (pg_name (i := 2) sc_moves.nd rfl (Or.inl rfl)) (Evl.pss_cut (ps_if (pt_val (pe_call (ok_fits T) (hr.mono (by decide)) (by rfl) T.g_fits T.F_fits.kp T.b_fits .nil pass0 (pa_cons (pv 0) (pa_cons (pe_tup (pa_cons pe_str (pa_cons (pv 2) pa_nil))) pa_nil)))) (pss_one (ps_expr (pe_bm PySem.F.plainAttrs_list PySem.F.slot_list_append PySem.F.type_list_append mt_append (pv 1) (pa_cons (pe_tup (pa_cons pe_str (pa_cons (pv 2) pa_nil))) pa_nil)))) pss_nil)
      (pss_one (ps_if (pt_val (pe_call (ok_fits T) (hr.mono (by decide)) (by rfl) T.g_fits T.F_fits.kp T.b_fits .nil pass0 (pa_cons (pv 0) (pa_cons (pe_tup (pa_cons pe_str (pa_cons (pv 2) pa_nil))) pa_nil)))) (pss_one (ps_expr (pe_bm PySem.F.plainAttrs_list PySem.F.slot_list_append PySem.F.type_list_append mt_append (pv 1) (pa_cons (pe_tup (pa_cons pe_str (pa_cons (pv 2) pa_nil))) pa_nil)))) pss_nil))))
      (pss_one (ps_ret (pv 1))))), ?_⟩
    refine Evl.q_asgL (Evl.el_lst Evl.ea_nil (by decide)) fun l H1 nl e1 h1 => ?_
    have hS1 := Same.seq e1 hS
    refine xq_forR (n := ns.length) (by walk_at "arg") (by omega) (fun i σ H' => ∃ (y : Option V) (ps : List Addr), σ = [some (.ref a), some (.ref l), y] ∧ Same H H' ∧ H' l = some (.lst (ps.map V.ref)) ∧ MvL H' ps (mvTo ns i)) ⟨none, [], rfl, e1, h1, trivial⟩ ?_ ?_
    · rintro i σ H' hi ⟨y, ps, rfl, e2, h2, hm⟩
      have hS2 := Same.seq e2 hS
      have hi2 : (i : Int) < ns.length := by omega
      have hl := mvTo_len ns i
      refine xs_cut (Mid := fun σ H' => ∃ (ps : List Addr), σ = [some (.ref a), some (.ref l), some (.int (i : Int))] ∧ Same H H' ∧ H' l = some (.lst (ps.map V.ref)) ∧ MvL H' ps (mvTo ns i ++ (if mvFits ns (true, i) = true then [(true, i)] else []))) ?_ ?_
      · refine Evl.s_when (et_fits (b := true) (k := i) rfl (Evl.ev_var rfl) hS2 (Evl.ev_var rfl)) (fun hc H3 e3 => ?_) (fun hc H3 e3 => ?_)
        · refine mv_app (b := true) (k := i) _ rfl (Same.trans e2 e3) nl (e3 l _ h2) (hm.same e3) (by omega) rfl rfl fun H4 ps' e4 h4 hm4 => ⟨ps', rfl, e4, h4, ?_⟩
          rw [if_pos hc]
          exact hm4
        · refine ⟨ps, rfl, Same.trans e2 e3, e3 l _ h2, ?_⟩
          rw [hc, if_neg Bool.false_ne_true, List.append_nil]
          exact hm.same e3
      · rintro σ H' ⟨ps, rfl, e2, h2, hm⟩
        have hS2 := Same.seq e2 hS
        have hl3 : (mvTo ns i ++ (if mvFits ns (true, i) = true then [(true, i)] else [])).length ≤ 2 * i + 1 := by
          rw [List.length_append]
          split
          · show _ + 1 ≤ _
            omega
          · show _ + 0 ≤ _
            omega
        refine Evl.s_when (et_fits (b := false) (k := i) rfl (Evl.ev_var rfl) hS2 (Evl.ev_var rfl)) (fun hc H3 e3 => ?_) (fun hc H3 e3 => ?_)
        · refine mv_app (b := false) (k := i) _ rfl (Same.trans e2 e3) nl (e3 l _ h2) (hm.same e3) (by omega) rfl rfl fun H4 ps' e4 h4 hm4 => ⟨_, ps', rfl, e4, h4, ?_⟩
          show MvL H4 ps' (mvTo ns i ++ (_ ++ if mvFits ns (false, i) = true then [(false, i)] else []))
          rw [if_pos hc, ← List.append_assoc]
          exact hm4
        · refine ⟨_, ps, rfl, Same.trans e2 e3, e3 l _ h2, ?_⟩
          show MvL H3 ps (mvTo ns i ++ (_ ++ if mvFits ns (false, i) = true then [(false, i)] else []))
          rw [hc, if_neg Bool.false_ne_true, List.append_nil]
          exact hm.same e3
    · rintro σ H' ⟨y, ps, rfl, e2, h2, hm⟩
      exact st_ret (val_var rfl) (q H' l ps e2 nl h2 hm)
theorem ok_l_moves (T : Txt K mg) : FnOk P w K mg base CX0 1 T.f_l_moves T.d_l_moves ["_law_heap_here"] (sp_moves K) := by
  refine T.F_l_moves.ok sc_l_moves (fun vs H Q E h => ?_) (fun cdv A outer s H vs Q E hr h => ?_)
  · obtain ⟨a, ns, rfl, _⟩ := h
    rfl
  · obtain ⟨a, ns, rfl, hS, hz, q⟩ := h
    refine ⟨_, (pss_cons (ps_set (i := 1) sc_l_moves.nd rfl (Or.inl rfl) (pe_lst pa_nil))
      (pss_cons (ps_for PassesOwn.never rfl (pi_range1 (by rfl) T.m_range (pa_cons (pe_callB call_len_seq (by rfl) T.m_len PySem.boot_len (pa_cons (pv 0) pa_nil)) pa_nil)) (pg_name (i := 2) sc_l_moves.nd rfl (Or.inl rfl)) (Evl.pss_cut (ps_if (PW.pt (pw_and (pt_cmpR op_lt (pe_op op_add (pv 2) pe_int) (pe_callB call_len_seq (by rfl) T.m_len PySem.boot_len (pa_cons (pv 0) pa_nil)) (nomark _)) (pw_and (pt_cmpR op_gt (pe_ix ix_list (pv 0) (pv 2) (fun _ _ => rfl)) pe_int (nomark _)) (pw_and1 (pt_cmpR op_gt (pe_ix ix_list (pv 0) (pe_op op_add (pv 2) pe_int) (fun _ _ => rfl)) pe_int (nomark _)))))) (pss_one (ps_expr (pe_bm PySem.F.plainAttrs_list PySem.F.slot_list_append PySem.F.type_list_append mt_append (pv 1) (pa_cons (pe_tup (pa_cons pe_str (pa_cons (pv 2) pa_nil))) pa_nil)))) pss_nil)
      (pss_one (ps_if (pt_cmpR op_gt (pe_ix ix_list (pv 0) (pv 2) (fun _ _ => rfl)) pe_int (nomark _)) (pss_one (ps_expr (pe_bm PySem.F.plainAttrs_list PySem.F.slot_list_append PySem.F.type_list_append mt_append (pv 1) (pa_cons (pe_tup (pa_cons pe_str (pa_cons (pv 2) pa_nil))) pa_nil)))) pss_nil))))
      (pss_one (ps_ret (pv 1))))), ?_⟩
    refine Evl.q_asgL (Evl.el_lst Evl.ea_nil (by decide)) fun l H1 nl e1 h1 => ?_
    have hS1 := Same.seq e1 hS
    refine xq_forR (n := ns.length) (by walk_at "arg") (by omega) (fun i σ H' => ∃ (y : Option V) (ps : List Addr), σ = [some (.ref a), some (.ref l), y] ∧ Same H H' ∧ H' l = some (.lst (ps.map V.ref)) ∧ MvL H' ps (mvTo ns i)) ⟨none, [], rfl, e1, h1, trivial⟩ ?_ ?_
    · rintro i σ H' hi ⟨y, ps, rfl, e2, h2, hm⟩
      have hS2 := Same.seq e2 hS
      have hi2 : (i : Int) < ns.length := by omega
      have hl := mvTo_len ns i
      refine xs_cut (Mid := fun σ H' => ∃ (ps : List Addr), σ = [some (.ref a), some (.ref l), some (.int (i : Int))] ∧ Same H H' ∧ H' l = some (.lst (ps.map V.ref)) ∧ MvL H' ps (mvTo ns i ++ (if mvFits ns (true, i) = true then [(true, i)] else []))) ?_ ?_
      · have ef : mvFits ns (true, i) = (decide ((i : Int) + 1 < (ns.length : Int)) && (decide (0 < ns.getD ((i : Int)).toNat 0) && decide (0 < ns.getD ((i : Int) + 1).toNat 0))) := by
          show (decide (i + 1 < ns.length) && _) = _
          rw [show decide (i + 1 < ns.length) = decide ((i : Int) + 1 < (ns.length : Int)) from decide_eq_decide.mpr (by omega)]
          rfl
        refine xs_if (by walk_at "ans") (fun hc => ?_) (fun hc => ?_)
        · refine mv_app (b := true) (k := i) _ rfl e2 nl h2 hm (by omega) rfl rfl fun H4 ps' e4 h4 hm4 => ⟨ps', rfl, e4, h4, ?_⟩
          rw [if_pos (ef.trans hc)]
          exact hm4
        · refine ⟨ps, rfl, e2, h2, ?_⟩
          rw [ef.trans hc, if_neg Bool.false_ne_true, List.append_nil]
          exact hm
      · rintro σ H' ⟨ps, rfl, e2, h2, hm⟩
        have hS2 := Same.seq e2 hS
        have hl3 : (mvTo ns i ++ (if mvFits ns (true, i) = true then [(true, i)] else [])).length ≤ 2 * i + 1 := by
          rw [List.length_append]
          split
          · show _ + 1 ≤ _
            omega
          · show _ + 0 ≤ _
            omega
        have ef : mvFits ns (false, i) = decide (1 < ns.getD ((i : Int)).toNat 0) := by
          show (decide (i < ns.length) && _) = _
          rw [decide_eq_true hi, Bool.true_and]
          rfl
        refine xs_if (by walk_at "ans") (fun hc => ?_) (fun hc => ?_)
        · refine mv_app (b := false) (k := i) _ rfl e2 nl h2 hm (by omega) rfl rfl fun H4 ps' e4 h4 hm4 => ⟨_, ps', rfl, e4, h4, ?_⟩
          show MvL H4 ps' (mvTo ns i ++ (_ ++ if mvFits ns (false, i) = true then [(false, i)] else []))
          rw [if_pos (ef.trans hc), ← List.append_assoc]
          exact hm4
        · refine ⟨_, ps, rfl, e2, h2, ?_⟩
          show MvL H' ps (mvTo ns i ++ (_ ++ if mvFits ns (false, i) = true then [(false, i)] else []))
          rw [ef.trans hc, if_neg Bool.false_ne_true, List.append_nil]
          exact hm
    · rintro σ H' ⟨y, ps, rfl, e2, h2, hm⟩
      exact st_ret (val_var rfl) (q H' l ps e2 nl h2 hm)
/-! ### done -/
/-- what bare (a new list) and _law_bare (in place) have in common: the list without noughts at its end -/
def sp_bareN (K : PySem.W.Frag) : Sp := fun vs H Q _ => ∃ (a : Addr) (ns : List Int), vs = [.ref a] ∧ SqL K H a (ns.map V.int) ∧ ns.length ≤ 90000 ∧ ∀ H' p, Same H H' → H p = none → H' p = some (.lst ((bare ns).map V.int)) → Q (.ref p) H'
theorem bare_take : ∀ (n : Nat) (ns : List Int) (s : Nat), n = s → s ≤ ns.length → bare (ns.take s) = bare ns → (s = 0 ∨ ns.getD (s - 1) 0 ≠ 0) → ns.take s = bare ns
  | _, ns, s, _, hs, hb, h => by
    rw [← hb]
    rcases h with h | h
    · subst h
      rfl
    · by_cases h0 : s = 0
      · subst h0
        rfl
      · obtain ⟨j, rfl⟩ : ∃ j, s = j + 1 := ⟨s - 1, by omega⟩
        have hj := get_of (show j < ns.length by omega)
        rw [take_more hj]
        exact (bare_snoc _ h).symm
theorem ok_bare (T : Txt K mg) : FnOk P w K mg base CX0 1 T.f_bare T.d_bare ["counts"] (sp_bareN K) := by
  refine T.F_bare.ok sc_bare (fun vs H Q E h => ?_) (fun cdv A outer s H vs Q E hr h => ?_)
  · obtain ⟨a, ns, rfl, _⟩ := h
    rfl
  · obtain ⟨a, ns, rfl, hS, hz, q⟩ := h
    refine ⟨_, (pss_cons (ps_set (i := 1) sc_bare.nd rfl (Or.inl rfl) (pe_callB call_len_seq (by rfl) T.m_len PySem.boot_len (pa_cons (pv 0) pa_nil)))
      (pss_cons (ps_while PassesOwn.never (PW.pt (pw_and (pt_cmpR op_gt (pv 1) pe_int (nomark _)) (pw_and1 (pt_cmpR op_eq (pe_ix ix_list (pv 0) (pe_op op_sub (pv 1) pe_int) (fun _ _ => rfl)) pe_int (nomark _))))) (pss_one (ps_set (i := 1) sc_bare.nd rfl (Or.inl rfl) (pe_op op_sub (pv 1) pe_int))))
      (pss_one (ps_ret (pe_slice sl_list (pv 0) po_none (po_some (pv 1))))))), ?_⟩
    refine xq_set (by walk_at "val") ?_
    refine xq_while (fun m σ H' => σ = [some (.ref a), some (.int (m : Int))] ∧ H' = H ∧ m ≤ ns.length ∧ bare (ns.take m) = bare ns) ns.length ⟨rfl, rfl, Nat.le_refl _, by rw [List.take_length]⟩ ?_
    rintro m σ H' ⟨rfl, rfl, hm, hb⟩
    refine ⟨_, by walk_at "ans", fun hc => ?_, fun hc => ?_⟩
    · rw [Bool.and_eq_true] at hc
      have c1 : (0 : Int) < m := of_decide_eq_true hc.1
      have c2 := V.int.inj (of_decide_eq_true hc.2)
      obtain ⟨j, rfl⟩ : ∃ j, m = j + 1 := ⟨m - 1, by omega⟩
      have c2 : ns.getD j 0 = 0 := by
        rw [show (((j + 1 : Nat) : Int) - 1).toNat = j by omega] at c2
        exact c2
      refine st_set (by walk_at "val") ⟨j, by omega, ?_, rfl, by omega, ?_⟩
      · show [some (V.ref a), some (V.int (((j + 1 : Nat) : Int) - 1))] = _
        rw [show ((j + 1 : Nat) : Int) - 1 = (j : Int) by omega]
      · rw [take_more (get_of (show j < ns.length by omega)), c2, bare_zero] at hb
        exact hb
    · have ht : ns.take m = bare ns := by
        refine bare_take m ns m rfl hm hb ?_
        by_cases h0 : m = 0
        · exact .inl h0
        · refine .inr fun e => ?_
          have c2 := of_decide_eq_false (Bool.and_eq_false_imp.mp hc (decide_eq_true (by omega)))
          refine c2 ?_
          rw [show ((m : Int) - 1).toNat = m - 1 by omega, e]
      refine Evl.s_retL (Evl.el_sl (Evl.ev_var rfl) Evl.eo_none (Evl.eo_some (Evl.ev_var rfl)) hS) fun p H1 np e1 h1 => q H1 p e1 np ?_
      rw [h1, cut_hi, ← List.map_take, ht]
/-- done, where the move fits; where it does not, the refusal of the class at C -/
def sp_done (K : PySem.W.Frag) (C : Addr) : Sp := fun vs H Q E => ∃ (a : Addr) (ns : List Int) (p : Addr) (m : Mv), vs = [.ref a, .ref p] ∧ H a = some (.lst (ns.map V.int)) ∧ SqT K H p (mvV m) ∧ ns.length ≤ 20000 ∧
  (mvFits ns m = true → ∀ H' l, Same H H' → H l = none → H' l = some (.lst ((mvDone ns m).map V.int)) → Q (.ref l) H') ∧ (mvFits ns m = false → E (.ref C) none H)
theorem ok_done (T : Txt K mg) : FnOk P w K mg base (L2.CX P w) 2 T.f_done T.d_done ["heap", "move"] (sp_done K T.C_NoMove) := by
  refine T.F_done.okX sc_done (fun vs H Q E h => ?_) (fun cdv A outer s H vs Q E hr h => ?_)
  · obtain ⟨a, ns, p, m, rfl, _⟩ := h
    rfl
  · obtain ⟨a, ns, p, m, rfl, hl, hp, hz, q1, q2⟩ := h
    refine ⟨_, (pss_cons (ps_if (pt_not (pt_val (pe_call (ok_fits T) (hr.mono (by decide)) (by rfl) T.g_fits T.F_fits.kp T.b_fits .nil pass0 (pa_cons (pv 0) (pa_cons (pv 1) pa_nil))))) (pss_one (ps_raise rfl (takes_of rfl rfl rfl rfl) (pmk_own PySem.F.excBase_ValueError T.x_NoMove T.g_NoMove T.k_NoMove (raises_own T.xb_NoMove T.xt_NoMove) rfl))) pss_nil)
      (pss_cons (ps_set (i := 2) sc_done.nd rfl (Or.inl rfl) (pe_ix ix_tup (pv 1) pe_int (fun _ _ => rfl)))
      (pss_cons (ps_set (i := 3) sc_done.nd rfl (Or.inl rfl) (pe_op op_cat (pv 0) (pe_lst (pa_cons pe_int (pa_cons pe_int pa_nil)))))
      (pss_cons (ps_if (pt_cmpR op_eq (pe_ix ix_tup (pv 1) pe_int (fun _ _ => rfl)) pe_str (nomark _)) (pss_cons (ps_asg (pe_op op_sub (pe_ix ix_list (pv 3) (pv 2) (fun _ _ => rfl)) pe_int) (pg_sub (pv 3) (pv 2) set_list))
      (pss_cons (ps_asg (pe_op op_sub (pe_ix ix_list (pv 3) (pe_op op_add (pv 2) pe_int) (fun _ _ => rfl)) pe_int) (pg_sub (pv 3) (pe_op op_add (pv 2) pe_int) set_list))
      (pss_cons (ps_asg (pe_op op_add (pe_ix ix_list (pv 3) (pe_op op_add (pv 2) pe_int) (fun _ _ => rfl)) pe_int) (pg_sub (pv 3) (pe_op op_add (pv 2) pe_int) set_list))
      (pss_one (ps_ret (pe_call (ok_bare T) (hr.mono (by decide)) (by rfl) T.g_bare T.F_bare.kp T.b_bare .nil pass0 (pa_cons (pv 3) pa_nil))))))) pss_nil)
      (pss_cons (ps_asg (pe_op op_sub (pe_ix ix_list (pv 3) (pv 2) (fun _ _ => rfl)) pe_int) (pg_sub (pv 3) (pv 2) set_list))
      (pss_cons (ps_asg (pe_op op_add (pe_ix ix_list (pv 3) (pe_op op_add (pv 2) pe_int) (fun _ _ => rfl)) pe_int) (pg_sub (pv 3) (pe_op op_add (pv 2) pe_int) set_list))
      (pss_cons (ps_if (pt_cmpR op_eq (pv 2) pe_int (nomark _)) (pss_one (ps_asg (pe_op op_add (pe_ix ix_list (pv 3) pe_int (fun _ _ => rfl)) pe_int) (pg_sub (pv 3) pe_int set_list))) pss_nil)
      (pss_cons (ps_if (pt_cmpR op_gt (pv 2) pe_int (nomark _)) (pss_one (ps_asg (pe_op op_add (pe_ix ix_list (pv 3) (pe_op op_sub (pv 2) pe_int) (fun _ _ => rfl)) pe_int) (pg_sub (pv 3) (pe_op op_sub (pv 2) pe_int) set_list))) pss_nil)
      (pss_one (ps_ret (pe_call (ok_bare T) (hr.mono (by decide)) (by rfl) T.g_bare T.F_bare.kp T.b_bare .nil pass0 (pa_cons (pv 3) pa_nil)))))))))))), ?_⟩
    have hS := SqL.of (K := K) hl
    refine xs_when (xa_not (xa_B (xv_fits (val_var rfl) (val_var rfl) hS hp))) (fun hc => ?_) (fun hc => ?_)
    · exact q2 (by simpa using hc)
    · have hf : mvFits ns m = true := by simpa using hc
      refine xq_set (xv_ixT (i := 1) (v := .int (m.2 : Int)) (val_var rfl) val_c hp (by rfl)) ?_
      refine Evl.q_asgL (xl_cat (l := a) (Evl.ev_var rfl) hl (Evl.el_lst (Evl.ea_cons Evl.ev_c (Evl.ea_cons Evl.ev_c Evl.ea_nil)) (by show 2 ≤ 100000; omega)) (by
        rw [List.length_map]
        show _ + 2 ≤ _
        omega)) fun l H1 nl e1 h1 => ?_
      have h1' : H1 l = some (.lst ((ns ++ [0, 0]).map V.int)) := by
        rw [h1, List.map_append]
        rfl
      refine done_tail (K := K) (c := 3) (s := 2) (m := 1) (l := l) (p := p) (ns := ns) (mv := m) rfl rfl rfl (Evl.ex_t e1 hp) h1' (mvFits_lt hf) fun H2 xs e2 h2 ex => ?_
      refine ⟨l, xs, rfl, SqL.of h2, ?_, fun H3 r e3 nr h3 => ?_⟩
      · rw [ex, mvRaw_len]
        omega
      · have s2 : Same H H2 := fun b o hb => by rw [e2 b (ne_of_none hb nl)]; exact e1 b o hb
        refine q1 hf H3 r (s2.trans e3) (s2.free nr) ?_
        rw [h3, ex]
        rfl
/-- the law's own -/
def sp_ldone (K : PySem.W.Frag) : Sp := fun vs H Q _ => ∃ (a : Addr) (ns : List Int) (p : Addr) (m : Mv), vs = [.ref a, .ref p] ∧ SqL K H a (ns.map V.int) ∧ SqT K H p (mvV m) ∧ ns.length ≤ 20000 ∧ mvFits ns m = true ∧
  ∀ H' l, Same H H' → H l = none → H' l = some (.lst ((mvDone ns m).map V.int)) → Q (.ref l) H'
theorem ok_l_done (T : Txt K mg) : FnOk P w K mg base CX0 2 T.f_l_done T.d_l_done ["_law_heap_here", "_law_move"] (sp_ldone K) := by
  refine T.F_l_done.ok sc_l_done (fun vs H Q E h => ?_) (fun cdv A outer s H vs Q E hr h => ?_)
  · obtain ⟨a, ns, p, m, rfl, _⟩ := h
    rfl
  · obtain ⟨a, ns, p, m, rfl, hS, hp, hz, hf, q⟩ := h
    refine ⟨_, (pss_cons (ps_set (i := 2) sc_l_done.nd rfl (Or.inl rfl) (pe_op op_cat (pe_callTy call_list_of (by rfl) T.m_list (by decide +kernel) (pa_cons (pv 0) pa_nil)) (pe_lst (pa_cons pe_int (pa_cons pe_int pa_nil)))))
      (pss_cons (ps_set (i := 3) sc_l_done.nd rfl (Or.inl rfl) (pe_ix ix_tup (pv 1) pe_int (fun _ _ => rfl)))
      (pss_cons (ps_if (pt_cmpR op_eq (pe_ix ix_tup (pv 1) pe_int (fun _ _ => rfl)) pe_str (nomark _)) (pss_cons (ps_asg (pe_op op_sub (pe_ix ix_list (pv 2) (pv 3) (fun _ _ => rfl)) pe_int) (pg_sub (pv 2) (pv 3) set_list))
      (pss_cons (ps_asg (pe_op op_sub (pe_ix ix_list (pv 2) (pe_op op_add (pv 3) pe_int) (fun _ _ => rfl)) pe_int) (pg_sub (pv 2) (pe_op op_add (pv 3) pe_int) set_list))
      (pss_cons (ps_asg (pe_op op_add (pe_ix ix_list (pv 2) (pe_op op_add (pv 3) pe_int) (fun _ _ => rfl)) pe_int) (pg_sub (pv 2) (pe_op op_add (pv 3) pe_int) set_list))
      (pss_one (ps_ret (pe_call (ok_l_bare T) (hr.mono (by decide)) (by rfl) T.g_l_bare T.F_l_bare.kp T.b_l_bare .nil pass0 (pa_cons (pv 2) pa_nil))))))) pss_nil)
      (pss_cons (ps_asg (pe_op op_sub (pe_ix ix_list (pv 2) (pv 3) (fun _ _ => rfl)) pe_int) (pg_sub (pv 2) (pv 3) set_list))
      (pss_cons (ps_asg (pe_op op_add (pe_ix ix_list (pv 2) (pe_op op_add (pv 3) pe_int) (fun _ _ => rfl)) pe_int) (pg_sub (pv 2) (pe_op op_add (pv 3) pe_int) set_list))
      (pss_cons (ps_if (pt_cmpR op_eq (pv 3) pe_int (nomark _)) (pss_one (ps_asg (pe_op op_add (pe_ix ix_list (pv 2) pe_int (fun _ _ => rfl)) pe_int) (pg_sub (pv 2) pe_int set_list))) pss_nil)
      (pss_cons (ps_if (pt_cmpR op_gt (pv 3) pe_int (nomark _)) (pss_one (ps_asg (pe_op op_add (pe_ix ix_list (pv 2) (pe_op op_sub (pv 3) pe_int) (fun _ _ => rfl)) pe_int) (pg_sub (pv 2) (pe_op op_sub (pv 3) pe_int) set_list))) pss_nil)
      (pss_one (ps_ret (pe_call (ok_l_bare T) (hr.mono (by decide)) (by rfl) T.g_l_bare T.F_l_bare.kp T.b_l_bare .nil pass0 (pa_cons (pv 2) pa_nil))))))))))), ?_⟩
    refine Evl.q_asgL (xl_catN (xl_listQ (Evl.ev_var rfl) hS) (Evl.el_lst (Evl.ea_cons Evl.ev_c (Evl.ea_cons Evl.ev_c Evl.ea_nil)) (by show 2 ≤ 100000; omega)) (by
        rw [List.length_map]
        show _ + 2 ≤ _
        omega)) fun l H1 nl e1 h1 => ?_
    have h1' : H1 l = some (.lst ((ns ++ [0, 0]).map V.int)) := by
      rw [h1, List.map_append]
      rfl
    have hp1 := Evl.ex_t e1 hp
    refine xq_set (xv_ixT (i := 1) (v := .int (m.2 : Int)) (val_var rfl) val_c hp1 (by rfl)) ?_
    refine done_tail (K := K) (c := 2) (s := 3) (m := 1) (l := l) (p := p) (ns := ns) (mv := m) rfl rfl rfl hp1 h1' (mvFits_lt hf) fun H2 xs e2 h2 ex => ?_
    refine ⟨l, xs, rfl, h2, fun H3 e3 h3 => ?_⟩
    have s2 : Same H H2 := fun b o hb => by rw [e2 b (ne_of_none hb nl)]; exact e1 b o hb
    refine q H3 l (fun b o hb => by rw [e3 b (ne_of_none hb nl)]; exact s2 b o hb) nl ?_
    rw [h3, ex]
    rfl
/-! ### lists of ints alike -/
def sp_alike (K : PySem.W.Frag) : Sp := fun vs H Q _ => ∃ (a b : Addr) (ns : List Int), vs = [.ref a, .ref b] ∧ SqL K H a (ns.map V.int) ∧ SqL K H b (ns.map V.int) ∧ ns.length ≤ 100000 ∧ Q (.bl true) H
theorem ok_l_alike (T : Txt K mg) : FnOk P w K mg base CX0 2 T.f_l_alike T.d_l_alike ["_law_found", "_law_heap_here"] (sp_alike K) := by
  refine T.F_l_alike.ok sc_l_alike (fun vs H Q E h => ?_) (fun cdv A outer s H vs Q E hr h => ?_)
  · obtain ⟨a, b, ns, rfl, _⟩ := h
    rfl
  · obtain ⟨a, b, ns, rfl, hS, hB, hz, q⟩ := h
    refine ⟨_, (pss_cons (ps_if (PW.pt (pw_or (pt_not (pt_val (pe_callB call_isi (by rfl) T.m_isinstance (by decide +kernel) (pa_cons (pv 0) (pa_cons (pe_bltn (v := .ty "list") (by rfl) T.m_list (by decide +kernel) rfl) pa_nil))))) (pw_or1 (pt_cmpR op_ne (pe_callB call_len_seq (by rfl) T.m_len PySem.boot_len (pa_cons (pv 0) pa_nil)) (pe_callB call_len_seq (by rfl) T.m_len PySem.boot_len (pa_cons (pv 1) pa_nil)) (nomark _))))) (pss_one (ps_ret pe_bl)) pss_nil)
      (pss_cons (ps_for PassesOwn.never rfl (pi_range1 (by rfl) T.m_range (pa_cons (pe_callB call_len_seq (by rfl) T.m_len PySem.boot_len (pa_cons (pv 1) pa_nil)) pa_nil)) (pg_name (i := 2) sc_l_alike.nd rfl (Or.inl rfl)) (pss_one (ps_if (PW.pt (pw_or (pt_not (pt_val (pe_call (ok_l_whole T) (hr.mono (by decide)) (by rfl) T.g_l_whole T.F_l_whole.kp T.b_l_whole .nil pass0 (pa_cons (pe_ix ix_list (pv 0) (pv 2) (fun _ _ => rfl)) pa_nil)))) (pw_or1 (pt_cmpR op_ne (pe_ix ix_list (pv 0) (pv 2) (fun _ _ => rfl)) (pe_ix ix_list (pv 1) (pv 2) (fun _ _ => rfl)) (nomark _))))) (pss_one (ps_ret pe_bl)) pss_nil)))
      (pss_one (ps_ret pe_bl)))), ?_⟩
    refine xs_when (b := false) (xa_or (a := false) (xa_not (a := true) (xa_B (xv_isi (val_var rfl) (tyx_L hS) (by decide +kernel)))) fun _ => xa_T (xv_to (xv_ne (xv_lenI (val_var rfl) hS) (xv_lenI (val_var rfl) hB) rfl) (by rw [decide_eq_true rfl]; rfl))) (fun z => (nomatch z)) (fun _ => ?_)
    refine xq_forR (n := ns.length) (by walk_at "arg") (by omega) (fun i σ H' => ∃ y, σ = [some (.ref a), some (.ref b), y] ∧ H' = H) ⟨none, rfl, rfl⟩ ?_ ?_
    · rintro i σ H' hi ⟨y, rfl, rfl⟩
      refine xs_if (b := false) (xa_or (a := false) (xa_not (a := true) (xa_B (xv_whole (xv_ix (i := (i : Int)) (val_var rfl) (val_var rfl) hS (by omega) (by omega))))) fun _ => xa_T (xv_to (xv_ne (xv_ix (i := (i : Int)) (val_var rfl) (val_var rfl) hS (by omega) (by omega)) (xv_ix (i := (i : Int)) (val_var rfl) (val_var rfl) hB (by omega) (by omega)) rfl) (by rw [decide_eq_true rfl]; rfl))) (fun z => (nomatch z)) (fun _ => ?_)
      exact ⟨_, rfl, rfl⟩
    · rintro σ H' ⟨y, rfl, rfl⟩
      exact st_ret val_c q
/-! ### a move, a list of moves as listed -/
def sp_is_move (K : PySem.W.Frag) : Sp := fun vs H Q _ => ∃ (p : Addr) (m : Mv), vs = [.ref p] ∧ SqT K H p (mvV m) ∧ Q (.bl true) H
theorem ok_l_is_move (T : Txt K mg) : FnOk P w K mg base CX0 2 T.f_l_is_move T.d_l_is_move ["_law_found"] (sp_is_move K) := by
  refine T.F_l_is_move.ok sc_l_is_move (fun vs H Q E h => ?_) (fun cdv A outer s H vs Q E hr h => ?_)
  · obtain ⟨p, m, rfl, _⟩ := h
    rfl
  · obtain ⟨p, m, rfl, hp, q⟩ := h
    refine ⟨_, (pss_cons (ps_if (PW.pt (pw_or (pt_not (pt_val (pe_callB call_isi (by rfl) T.m_isinstance (by decide +kernel) (pa_cons (pv 0) (pa_cons (pe_bltn (v := .ty "tuple") (by rfl) T.m_tuple (by decide +kernel) rfl) pa_nil))))) (pw_or1 (pt_cmpR op_ne (pe_callB call_len_seq (by rfl) T.m_len PySem.boot_len (pa_cons (pv 0) pa_nil)) pe_int (nomark _))))) (pss_one (ps_ret pe_bl)) pss_nil)
      (pss_one (ps_ret (pe_and (pe_callB call_isi (by rfl) T.m_isinstance (by decide +kernel) (pa_cons (pe_ix ix_tup (pv 0) pe_int (fun _ _ => rfl)) (pa_cons (pe_bltn (v := .ty "str") (by rfl) T.m_str (by decide +kernel) rfl) pa_nil))) (pe_one (pe_call (ok_l_whole T) (hr.mono (by decide)) (by rfl) T.g_l_whole T.F_l_whole.kp T.b_l_whole .nil pass0 (pa_cons (pe_ix ix_tup (pv 0) pe_int (fun _ _ => rfl)) pa_nil))))))), ?_⟩
    refine xs_when (b := false) (xa_or (a := false) (xa_not (a := true) (xa_B (xv_isi (val_var rfl) (tyx_T hp) (by decide +kernel)))) fun _ => xa_T (xv_to (xv_ne (xv_lenT (val_var rfl) hp) val_c rfl) (by rfl))) (fun z => (nomatch z)) (fun _ => ?_)
    exact st_ret (xv_and (xv_isi (xv_ixT (i := 0) (v := .str (mvS m.1)) (val_var rfl) val_c hp (by rfl)) (.base (.str _)) (b := true) (by decide +kernel)) fun _ => xv_whole (xv_ixT (i := 1) (v := .int (m.2 : Int)) (val_var rfl) val_c hp (by rfl))) q
def sp_listed (K : PySem.W.Frag) : Sp := fun vs H Q _ => ∃ (a b : Addr) (ps qs : List Addr) (ms : List Mv), vs = [.ref a, .ref b] ∧ SqL K H a (ps.map V.ref) ∧ MvL H ps ms ∧ SqL K H b (qs.map V.ref) ∧ MvL H qs ms ∧ ms.length ≤ 100000 ∧ Q (.bl true) H
/-! ### a stream of drawn numbers -/
def sp_stream : Sp := fun vs H Q _ => ∃ (c : Int) (n : Nat), vs = [.int c, .int (n : Int)] ∧ n ≤ 1000 ∧ ∀ H' p (ms : List Int), Same H H' → H p = none → H' p = some (.lst (ms.map V.int)) → ms.length = n → (∀ x ∈ ms, 0 ≤ x ∧ x < 2147483647) → Q (.ref p) H'
theorem ok_l_stream (T : Txt K mg) : FnOk P w K mg base CX0 1 T.f_l_stream T.d_l_stream ["_law_cell", "_law_many"] sp_stream := by
  refine T.F_l_stream.ok sc_l_stream (fun vs H Q E h => ?_) (fun cdv A outer s H vs Q E hr h => ?_)
  · obtain ⟨c, n, rfl, _⟩ := h
    rfl
  · obtain ⟨c, n, rfl, hn, q⟩ := h
    refine ⟨_, (pss_cons (ps_set (i := 2) sc_l_stream.nd rfl (Or.inl rfl) (pe_lst pa_nil))
      (pss_cons (ps_set (i := 3) sc_l_stream.nd rfl (Or.inl rfl) (pe_op op_add (pe_op op_mod (pv 0) pe_int) pe_int))
      (pss_cons (ps_for PassesOwn.never rfl (pi_range1 (by rfl) T.m_range (pa_cons (pv 1) pa_nil)) (pg_name (i := 4) sc_l_stream.nd rfl (Or.inl rfl)) (pss_cons (ps_set (i := 3) sc_l_stream.nd rfl (Or.inl rfl) (pe_op op_mod (pe_op op_add (pe_op op_add (pe_op op_mulW (pv 3) (pv 3)) (pe_op op_mulW pe_int (pv 3))) (pv 4)) pe_int))
      (pss_one (ps_expr (pe_bm PySem.F.plainAttrs_list PySem.F.slot_list_append PySem.F.type_list_append mt_append (pv 2) (pa_cons (pv 3) pa_nil))))))
      (pss_one (ps_ret (pv 2)))))), ?_⟩
    refine Evl.q_asgL (Evl.el_lst Evl.ea_nil (by decide)) fun l H1 nl e1 h1 => ?_
    refine xq_set (by walk_at "val") ?_
    refine xq_forR (n := n) (xg_cons (val_var rfl) xg_nil) (by omega) (fun i σ H' => ∃ (x : Int) (y : Option V) (ms : List Int), σ = [some (.int c), some (.int (n : Int)), some (.ref l), some (.int x), y] ∧ Same H H' ∧ H' l = some (.lst (ms.map V.int)) ∧ ms.length = i ∧ (0 ≤ x ∧ x < 2200000000) ∧ (∀ x ∈ ms, 0 ≤ x ∧ x < 2147483647)) ⟨_, none, [], rfl, e1, h1, rfl, by omega, fun _ h => nomatch h⟩ ?_ ?_
    · rintro i σ H' hi ⟨x, y, ms, rfl, e2, h2, hl, hx, hm⟩
      have c1 : CMulW x x := wide_mul (a := 40) (b := 40) (by omega) (by omega) (by decide) (by decide) (by decide)
      have c2 : CMulW 48271 x := wide_mul (a := 40) (b := 40) (by decide) (by omega) (by decide) (by decide) (by decide)
      refine xq_set (by walk_at "val") ?_
      generalize hy : (x * x + 48271 * x + (i : Int)) % 2147483647 = z
      have hz : 0 ≤ z ∧ z < 2147483647 := by
        rw [← hy]
        exact ⟨Int.emod_nonneg _ (by decide), Int.emod_lt_of_pos _ (by decide)⟩
      refine Evl.s_app (l := l) h2 (Evl.ev_var rfl) (Evl.ev_var rfl) (by rw [List.length_map]; omega) fun H3 e3 => ?_
      refine ⟨z, _, ms ++ [z], rfl, same_mut (e2.trans e3) nl, ?_, by rw [List.length_append, List.length_singleton, hl], by omega, fun x hx => ?_⟩
      · rw [upd_same, List.map_append]
        rfl
      · rcases List.mem_append.mp hx with h | h
        · exact hm x h
        · rw [List.mem_singleton.mp h]
          exact hz
    · rintro σ H' ⟨x, y, ms, rfl, e2, h2, hl, hx, hm⟩
      exact st_ret (val_var rfl) (q H' l ms e2 nl h2 hl hm)
/-! ### picked -/
def sp_picked (K : PySem.W.Frag) : Sp := fun vs H Q _ => ∃ (a : Addr) (ps : List Addr) (ms : List Mv) (pz : V) (pk : List Int) (n : Nat), vs = [.ref a, pz, .int (n : Int)] ∧ H a = some (.lst (ps.map V.ref)) ∧ MvL H ps ms ∧ ms ≠ [] ∧ PkV K H pz pk ∧
  ∀ H' p m, Same H H' → ms[pickI pk n ms.length]? = some m → H' p = some (.tup (mvV m)) → Q (.ref p) H'
theorem ok_picked (T : Txt K mg) : FnOk P w K mg base CX0 1 T.f_picked T.d_picked ["able", "picks", "many"] (sp_picked K) := by
  refine T.F_picked.ok sc_picked (fun vs H Q E h => ?_) (fun cdv A outer s H vs Q E hr h => ?_)
  · obtain ⟨a, ps, ms, pz, pk, n, rfl, _⟩ := h
    rfl
  · obtain ⟨a, ps, ms, pz, pk, n, rfl, ha, hm, hne, hpk, q⟩ := h
    refine ⟨_, (pss_cons (ps_if (PW.pt (pw_or (pt_cmpR op_isN (pv 1) pe_non (nomark _)) (pw_or1 (pt_cmpR (op_eqD hr.units) (pv 1) (pe_lst pa_nil) (nomark _))))) (pss_one (ps_ret (pe_ix ix_list (pv 0) pe_int (fun _ _ => rfl)))) pss_nil)
      (pss_cons (ps_set (i := 3) sc_picked.nd rfl (Or.inl rfl) (pe_ix ix_list (pv 1) (pe_op op_mod (pv 2) (pe_callB call_len_seq (by rfl) T.m_len PySem.boot_len (pa_cons (pv 1) pa_nil))) (fun _ _ => rfl)))
      (pss_one (ps_ret (pe_ix ix_list (pv 0) (pe_op op_mod (pv 3) (pe_callB call_len_seq (by rfl) T.m_len PySem.boot_len (pa_cons (pv 0) pa_nil))) (fun _ _ => rfl)))))), ?_⟩
    have hpos : 0 < ms.length := List.length_pos_iff.mpr hne
    have hpl : ((ps.map V.ref).length : Int) = (ms.length : Int) := by rw [List.length_map, hm.len]
    refine Evl.q_when (et_noPk (i := 1) rfl hpk) (fun hc H1 e1 => ?_) (fun hc H1 e1 => ?_)
    · have hc := of_decide_eq_true hc
      obtain ⟨p, p1, p2⟩ := (hm.same e1).get (i := 0) (List.getElem?_eq_getElem hpos)
      refine st_ret (xv_ixV (K := K) (i := ((0 : Nat) : Int)) (val_var rfl) val_c (SqL.of (e1 a _ ha)) (atI_nat (v := .ref p) (by rw [List.getElem?_map, p1]; rfl))) (q H1 p _ e1 ?_ p2)
      rw [show pickI pk n ms.length = 0 from by unfold pickI; rw [if_pos hc]]
      exact List.getElem?_eq_getElem hpos
    · have hc := of_decide_eq_false hc
      obtain ⟨b, rfl, hS⟩ := (hpk.same e1).get hc
      have hkp : 0 < pk.length := List.length_pos_iff.mpr hc
      have hk0 : 0 < (pk.length : Int) := by omega
      have hb1 : 0 ≤ (n : Int) % (pk.length : Int) := Int.emod_nonneg _ (by omega)
      have hb2 : (n : Int) % (pk.length : Int) < (pk.length : Int) := Int.emod_lt_of_pos _ hk0
      refine xq_set (xv_ix (val_var rfl) (xv_I (val_var rfl) (xv_lenI (val_var rfl) hS) hk0) hS hb1 hb2) ?_
      have hL1 : SqL K H1 a (ps.map V.ref) := SqL.of (e1 a _ ha)
      have hm0 : 0 < (ms.length : Int) := by omega
      have hr1 : 0 ≤ pk.getD ((n : Int) % (pk.length : Int)).toNat 0 % (ms.length : Int) := Int.emod_nonneg _ (by omega)
      have hr2 : pk.getD ((n : Int) % (pk.length : Int)).toNat 0 % (ms.length : Int) < (ms.length : Int) := Int.emod_lt_of_pos _ hm0
      have hp : pickI pk n ms.length = (pk.getD ((n : Int) % (pk.length : Int)).toNat 0 % (ms.length : Int)).toNat := by
        unfold pickI
        rw [if_neg hc, ofNat_emod]
      have hlt : pickI pk n ms.length < ms.length := by omega
      obtain ⟨p, p1, p2⟩ := (hm.same e1).get (List.getElem?_eq_getElem hlt)
      refine st_ret (xv_ixV (i := ((pickI pk n ms.length : Nat) : Int)) (val_var rfl) (xv_to (xv_I (val_var rfl) (xv_to (xv_len (val_var rfl) hL1) (by rw [hpl])) hm0) (by rw [hp, Int.toNat_of_nonneg hr1])) hL1 (atI_nat (v := .ref p) (by rw [List.getElem?_map, p1]; rfl))) (q H1 p _ e1 (List.getElem?_eq_getElem hlt) p2)
/-! ### carried -/
def sp_carried (K : PySem.W.Frag) : Sp := fun vs H Q _ => ∃ (a : Addr) (xs : List Int) (pz : V) (pk : List Int), vs = [.ref a, pz] ∧ SqL K H a (xs.map V.int) ∧ NN xs ∧ (xs.length : Int) + 2 * S pot 0 xs ≤ 19000 ∧ PkV K H pz pk ∧
  ∀ H' p lc ll (log : List Mv) (qs : List Addr), Same H H' → H' p = some (.tup [.ref lc, .ref ll]) → H lc = none → H ll = none → lc ≠ ll → H' lc = some (.lst ((endOf xs log).map V.int)) → H' ll = some (.lst (qs.map V.ref)) → MvL H' qs log → OkLog pk xs log → mvs (endOf xs log) = [] → Q (.ref p) H'
/-- what stays in bounds -/
theorem left_len {xs : List Int} {log : List Mv} (h : Left xs log) : (log.length : Int) ≤ S pot 0 xs ∧ ((endOf xs log).length : Int) ≤ (xs.length : Int) + 2 * S pot 0 xs := by
  have h1 := S_nonneg pot_pos _ 0 h.nn
  have h2 := h.pot
  have h3 := h.len
  omega
theorem ok_carried (T : Txt K mg) : FnOk P w K mg base CX0 3 T.f_carried T.d_carried ["heap", "picks"] (sp_carried K) := by
  refine T.F_carried.ok sc_carried (fun vs H Q E h => ?_) (fun cdv A outer s H vs Q E hr h => ?_)
  · obtain ⟨a, xs, pz, pk, rfl, _⟩ := h
    rfl
  · obtain ⟨a, xs, pz, pk, rfl, hS, hx, hz, hpk, q⟩ := h
    refine ⟨_, PSs.nox (pss_cons (ps_set (i := 2) sc_carried.nd rfl (Or.inl rfl) (pe_callTy call_list_of (by rfl) T.m_list (by decide +kernel) (pa_cons (pv 0) pa_nil)))
      (pss_cons (ps_set (i := 3) sc_carried.nd rfl (Or.inl rfl) (pe_lst pa_nil))
      (pss_cons (ps_set (i := 4) sc_carried.nd rfl (Or.inl rfl) (pe_call (ok_moves T) (hr.mono (by decide)) (by rfl) T.g_moves T.F_moves.kp T.b_moves .nil pass0 (pa_cons (pv 2) pa_nil)))
      (pss_cons (ps_while PassesOwn.never (pt_cmpR (op_neD hr.units) (pv 4) (pe_lst pa_nil) (nomark _)) (pss_cons (ps_set (i := 5) sc_carried.nd rfl (Or.inl rfl) (pe_call (ok_picked T) (hr.mono (by decide)) (by rfl) T.g_picked T.F_picked.kp T.b_picked .nil pass0 (pa_cons (pv 4) (pa_cons (pv 1) (pa_cons (pe_callB call_len_seq (by rfl) T.m_len PySem.boot_len (pa_cons (pv 3) pa_nil)) pa_nil)))))
      (pss_cons (ps_expr (pe_bm PySem.F.plainAttrs_list PySem.F.slot_list_append PySem.F.type_list_append mt_append (pv 3) (pa_cons (pv 5) pa_nil)))
      (pss_cons (ps_set (i := 2) sc_carried.nd rfl (Or.inl rfl) (pe_call (ok_done T) (hr.mono (by decide)) (by rfl) T.g_done T.F_done.kp T.b_done .nil passL (pa_cons (pv 2) (pa_cons (pv 5) pa_nil))))
      (pss_one (ps_set (i := 4) sc_carried.nd rfl (Or.inl rfl) (pe_call (ok_moves T) (hr.mono (by decide)) (by rfl) T.g_moves T.F_moves.kp T.b_moves .nil pass0 (pa_cons (pv 2) pa_nil))))))))
      (pss_one (ps_ret (pe_tup (pa_cons (pv 2) (pa_cons (pv 3) pa_nil))))))))), ?_⟩
    have hpp := S_nonneg pot_pos xs 0 hx
    refine Evl.q_asgL (xl_listQ (Evl.ev_var rfl) hS) fun lc H1 nc e1 h1 => ?_
    refine Evl.q_asgL (Evl.el_lst Evl.ea_nil (by decide)) fun ll H2 nl e2 h2 => ?_
    refine xq_run ?_
    refine xg_go (by walk_at "arg") ⟨lc, xs, rfl, SqL.of (e2 lc _ h1), by omega, fun H3 ab ps e3 na h3 hm => ?_⟩
    have nl0 : H ll = none := Same.free e1 nl
    refine Evl.q_while (fun m σ H' => ∃ (lc ll ab : Addr) (y : Option V) (log : List Mv) (qs ps : List Addr), σ = [some (.ref a), some pz, some (.ref lc), some (.ref ll), some (.ref ab), y] ∧ Same H H' ∧ H lc = none ∧ H ll = none ∧ lc ≠ ll ∧ H' lc = some (.lst ((endOf xs log).map V.int)) ∧ H' ll = some (.lst (qs.map V.ref)) ∧ MvL H' qs log ∧ OkLog pk xs log ∧ H' ab = some (.lst (ps.map V.ref)) ∧ MvL H' ps (mvs (endOf xs log)) ∧ log.length + m = (S pot 0 xs).toNat)
      (S pot 0 xs).toNat ⟨lc, ll, ab, none, [], [], ps, rfl, Same.trans e1 (Same.trans e2 e3), nc, nl0, (ne_of_none h1 nl), e3 lc _ (e2 lc _ h1), e3 ll _ h2, trivial, .nil pk xs, h3, hm, Nat.zero_add _⟩ ?_
    · rintro m σ H4 ⟨lc, ll, ab, y, log, qs, ps, rfl, e4, nc, nl, hne, hlc, hll, hq, hlog, hab, hm, hme⟩
      refine ⟨_, et_neM (Evl.ev_var rfl) hab hm, fun hc H5 e5 => ?_, fun hc H5 e5 => ?_⟩
      · refine ⟨_, fun _ _ z => z, ?_⟩
        have hc : mvs (endOf xs log) ≠ [] := by simpa using hc
        have L := left_of hx log hlog
        obtain ⟨l1, l2⟩ := left_len L
        have hlc5 := e5 lc _ hlc
        have hll5 := e5 ll _ hll
        refine xq_run ?_
        refine xg_go (xg_cons (val_var (i := 4) rfl) (xg_cons (val_var (i := 1) rfl) (xg_cons (xv_to (xv_len (val_var (i := 3) rfl) (SqL.of hll5)) (by rw [List.length_map, hq.len])) xg_nil))) ⟨ab, ps, _, pz, pk, log.length, rfl, e5 ab _ hab, hm.same e5, hc, (hpk.same e4).same e5, fun H6 p mv e6 hpick hp => ?_⟩
        have hfit : mvFits (endOf xs log) mv = true := mem_mvs.mp (List.mem_of_getElem? hpick)
        have hlog2 := hlog.snoc hpick
        have L2' := left_of hx _ hlog2
        obtain ⟨l3, l4⟩ := left_len L2'
        rw [List.length_append, List.length_singleton] at l3
        rw [endOf_snoc] at l4
        refine Evl.q_app (l := ll) (e6 ll _ hll5) (Evl.ev_var rfl) (Evl.ev_var rfl) (by rw [List.length_map, hq.len]; omega) fun H7 e7 => ?_
        have e47 : Same H H7 := e4.trans (Same.trans e5 (Same.trans e6 e7))
        have e8 : Same H (upd H7 ll (.lst (qs.map V.ref ++ [.ref p]))) := same_mut e47 nl
        have hll7 : H7 ll = some (.lst (qs.map V.ref)) := e7 ll _ (e6 ll _ hll5)
        have hlc7 : (upd H7 ll (.lst (qs.map V.ref ++ [.ref p]))) lc = some (.lst ((endOf xs log).map V.int)) := by
          rw [upd_ne hne]
          exact e7 lc _ (e6 lc _ hlc5)
        have hp7 : (upd H7 ll (.lst (qs.map V.ref ++ [.ref p]))) p = some (.tup (mvV mv)) := by
          rw [upd_ne (ne_of (e7 p _ hp) hll7 (by intro z; cases z))]
          exact e7 p _ hp
        have hq7 : MvL (upd H7 ll (.lst (qs.map V.ref ++ [.ref p]))) (qs ++ [p]) (log ++ [mv]) := MvL.snoc hp7 (MvL.upd hll7 (((hq.same e5).same e6).same e7))
        have hll8 : (upd H7 ll (.lst (qs.map V.ref ++ [.ref p]))) ll = some (.lst ((qs ++ [p]).map V.ref)) := by
          rw [upd_same, List.map_append]
          rfl
        generalize upd H7 ll (.lst (qs.map V.ref ++ [.ref p])) = H8 at e8 hlc7 hp7 hq7 hll8
        refine xq_run ?_
        refine xr_call (xg_go (xg_cons (val_var (i := 2) rfl) (xg_cons (val_var (i := 5) rfl) xg_nil)) ?_)
        refine ⟨lc, endOf xs log, p, mv, rfl, hlc7, SqT.of hp7, by omega, fun _ H9 l2 e9 n9 h9 => ?_, fun z => (nomatch hfit.symm.trans z)⟩
        refine xs_run ?_
        refine xg_go (xg_cons (val_var (i := 2) rfl) xg_nil) ⟨l2, mvDone (endOf xs log) mv, rfl, SqL.of h9, by omega, fun H10 ab2 ps2 e10 n10 h10 hm10 => ?_⟩
        refine ⟨m - 1, by omega, l2, ll, ab2, _, log ++ [mv], qs ++ [p], ps2, rfl, Same.trans e8 (Same.trans e9 e10), Same.free e8 n9, nl, (ne_of_none hll8 n9).symm, ?_, e10 ll _ (e9 ll _ hll8), (hq7.same e9).same e10, hlog2, h10, ?_, ?_⟩
        · rw [endOf_snoc]
          exact e10 l2 _ h9
        · rw [endOf_snoc]
          exact hm10
        · rw [List.length_append, List.length_singleton]
          omega
      · have hc : mvs (endOf xs log) = [] := by simpa using hc
        refine Evl.s_retU (Evl.eu_tup (Evl.ea_cons (Evl.ev_var rfl) (Evl.ea_cons (Evl.ev_var rfl) Evl.ea_nil)) (by show 2 ≤ 100000; omega)) fun p H6 np e6 h6 => ?_
        exact q H6 p lc ll log qs (e4.trans (Same.trans e5 e6)) h6 nc nl hne (e6 lc _ (e5 lc _ hlc)) (e6 ll _ (e5 ll _ hll)) ((hq.same e5).same e6) hlog hc
/-! ### the heap -/
def sp_heap (K : PySem.W.Frag) : Sp := fun vs H Q _ => ∃ (a : Addr) (ns : List Int), vs = [.ref a] ∧ SqL K H a (ns.map V.int) ∧
  ∀ H' p (xs : List Int), Same H H' → H p = none → H' p = some (.lst (xs.map V.int)) → NN xs → xs.length ≤ 41 → S one 0 xs ≤ 130 → Q (.ref p) H'
theorem ok_l_heap (T : Txt K mg) : FnOk P w K mg base CX0 2 T.f_l_heap T.d_l_heap ["_law_script"] (sp_heap K) := by
  refine T.F_l_heap.ok sc_l_heap (fun vs H Q E h => ?_) (fun cdv A outer s H vs Q E hr h => ?_)
  · obtain ⟨a, ns, rfl, _⟩ := h
    rfl
  · obtain ⟨a, ns, rfl, hS, q⟩ := h
    refine ⟨_, (pss_cons (ps_set (i := 1) sc_l_heap.nd rfl (Or.inl rfl) (pe_call (ok_l_cell_at T) (hr.mono (by decide)) (by rfl) T.g_l_cell_at T.F_l_cell_at.kp T.b_l_cell_at .nil pass0 (pa_cons (pv 0) (pa_cons pe_int pa_nil))))
      (pss_cons (ps_set (i := 2) sc_l_heap.nd rfl (Or.inl rfl) (pe_op op_fdiv (pe_call (ok_l_cell_at T) (hr.mono (by decide)) (by rfl) T.g_l_cell_at T.F_l_cell_at.kp T.b_l_cell_at .nil pass0 (pa_cons (pv 0) (pa_cons pe_int pa_nil))) pe_int))
      (pss_cons (ps_set (i := 3) sc_l_heap.nd rfl (Or.inl rfl) (pe_ix ix_list (pe_lst (pa_cons pe_int (pa_cons pe_int (pa_cons pe_int (pa_cons pe_int pa_nil))))) (pe_op op_mod (pv 1) pe_int) (fun _ _ => rfl)))
      (pss_cons (ps_set (i := 4) sc_l_heap.nd rfl (Or.inl rfl) (pe_op op_mod (pe_op op_fdiv (pv 1) pe_int) pe_int))
      (pss_cons (ps_set (i := 5) sc_l_heap.nd rfl (Or.inl rfl) (pe_slice sl_list (pv 0) (po_some pe_int) (po_some pe_int)))
      (pss_cons (ps_set (i := 6) sc_l_heap.nd rfl (Or.inl rfl) (pe_op op_rep (pe_lst (pa_cons pe_int pa_nil)) pe_int))
      (Evl.pss_cut (ps_if (pt_cmpR op_eq (pe_op op_mod (pv 4) pe_int) pe_int (nomark _)) (pss_one (ps_set (i := 5) sc_l_heap.nd rfl (Or.inl rfl) (pe_slice sl_list (pv 5) po_none (po_some pe_int)))) pss_nil)
      (Evl.pss_cut (ps_if (pt_cmpR op_eq (pv 4) pe_int (nomark _)) (pss_cons (ps_set (i := 5) sc_l_heap.nd rfl (Or.inl rfl) (pe_slice sl_list (pv 5) po_none (po_some pe_int)))
      (pss_one (ps_asg (pe_op op_mod (pv 2) pe_int) (pg_sub (pv 6) (pe_op op_mod (pe_op op_fdiv (pv 1) pe_int) pe_int) set_list)))) pss_nil)
      (pss_cons (ps_for PassesOwn.never rfl (pi_list (pv 5)) (pg_name (i := 7) sc_l_heap.nd rfl (Or.inl rfl)) (pss_one (ps_asg (pe_op op_add (pe_ix ix_list (pv 6) (pe_op op_mod (pv 7) (pv 3)) (fun _ _ => rfl)) pe_int) (pg_sub (pv 6) (pe_op op_mod (pv 7) (pv 3)) set_list))))
      (pss_cons (ps_set (i := 6) sc_l_heap.nd rfl (Or.inl rfl) (pe_call (ok_l_bare T) (hr.mono (by decide)) (by rfl) T.g_l_bare T.F_l_bare.kp T.b_l_bare .nil pass0 (pa_cons (pv 6) pa_nil)))
      (pss_cons (ps_if (PW.pt (pw_and (pt_cmpR op_eq (pe_op op_mod (pv 4) pe_int) pe_int (nomark _)) (pw_and1 (pt_cmpR op_gt (pe_callB call_len_seq (by rfl) T.m_len PySem.boot_len (pa_cons (pv 6) pa_nil)) pe_int (nomark _))))) (pss_one (ps_set (i := 6) sc_l_heap.nd rfl (Or.inl rfl) (pe_op op_cat (pe_op op_rep (pe_lst (pa_cons pe_int pa_nil)) (pe_op op_add pe_int (pe_op op_mod (pv 2) pe_int))) (pv 6)))) pss_nil)
      (pss_one (ps_ret (pv 6)))))))))))))), ?_⟩
    refine xq_set (by walk_at "val") ?_
    refine xq_set (by walk_at "val") ?_
    generalize ns.getD 0 0 = fi
    generalize ns.getD 1 0 / 12 = se
    have hsp : ∃ sp : Int, atI [V.int 5, V.int 2, V.int 9, V.int 9] (fi % 4) = some (.int sp) ∧ 0 < sp ∧ sp ≤ 9 := by
      rcases (show fi % 4 = 0 ∨ fi % 4 = 1 ∨ fi % 4 = 2 ∨ fi % 4 = 3 by omega) with h | h | h | h <;> rw [h]
      · exact ⟨5, rfl, by decide, by decide⟩
      · exact ⟨2, rfl, by decide, by decide⟩
      · exact ⟨9, rfl, by decide, by decide⟩
      · exact ⟨9, rfl, by decide, by decide⟩
    obtain ⟨sp, hat, hs1, hs2⟩ := hsp
    refine xq_run ?_
    refine (Evl.el_lst (Evl.ea_cons Evl.ev_c (Evl.ea_cons Evl.ev_c (Evl.ea_cons Evl.ev_c (Evl.ea_cons Evl.ev_c Evl.ea_nil)))) (by show 4 ≤ 100000; omega)) H (Evl.Ex.refl H) _ fun lw H1 nw e1 h1 => ?_
    refine xv_go (by walk_at "val") ?_
    refine ⟨lw, _, _, .int sp, rfl, rfl, SqL.of h1, hat, ?_⟩
    refine xq_set (by walk_at "val") ?_
    generalize fi / 4 % 16 = way
    have hS1 := Same.seq e1 hS
    refine Evl.q_asgL (Evl.el_sl (Evl.ev_var rfl) (Evl.eo_some Evl.ev_c) (Evl.eo_some Evl.ev_c) hS1) fun c H2 nc e2 h2 => ?_
    rw [cut_int (by decide) (by decide)] at h2
    have hcs : ((ns.take (32 : Int).toNat).drop (2 : Int).toNat).length ≤ 30 := by
      rw [List.length_drop, List.length_take]
      omega
    generalize (ns.take (32 : Int).toNat).drop (2 : Int).toNat = cs at h2 hcs
    refine Evl.q_asgL (xl_rep (k := 9) (Evl.el_lst (Evl.ea_cons Evl.ev_c Evl.ea_nil) (by decide)) Evl.ev_c (by decide) (by decide)) fun l H3 nl e3 h3 => ?_
    rw [flat_rep] at h3
    have nl0 : H l = none := Same.free e1 (Same.free e2 nl)
    have e03 : Same H H3 := Same.trans e1 (Same.trans e2 e3)
    refine xs_cut (Mid := fun σ H' => ∃ (c : Addr) (cs : List Int), σ = [some (.ref a), some (.int fi), some (.int se), some (.int sp), some (.int way), some (.ref c), some (.ref l), none] ∧ cs.length ≤ 30 ∧ H' c = some (.lst (cs.map V.int)) ∧ c ≠ l ∧ Same H H' ∧ H' l = some (.lst ((List.replicate (9 : Int).toNat (0 : Int)).map V.int))) ?_ ?_
    · refine xs_if (by walk_at "ans") (fun hc => ?_) (fun hc => ?_)
      · refine Evl.s_asgL (Evl.el_sl (Evl.ev_var rfl) Evl.eo_none (Evl.eo_some Evl.ev_c) (SqL.of (e3 c _ h2))) fun c2 H4 nc2 e4 h4 => ?_
        rw [show cutV (cs.map V.int) none (some 12) = (cs.take 12).map V.int by rw [List.map_take]; exact cut_hi _ 12] at h4
        exact ⟨c2, cs.take 12, rfl, by rw [List.length_take]; omega, h4, (ne_of_none h3 nc2).symm, Same.trans e03 e4, e4 l _ h3⟩
      · exact ⟨c, cs, rfl, hcs, e3 c _ h2, ne_of_none h2 nl, e03, h3⟩
    rintro σ H4 ⟨c, cs, rfl, hcs, hc4, hne, e4, hl4⟩
    refine xs_cut (Mid := fun σ H' => ∃ (c : Addr) (cs hs : List Int), σ = [some (.ref a), some (.int fi), some (.int se), some (.int sp), some (.int way), some (.ref c), some (.ref l), none] ∧ cs.length ≤ 30 ∧ H' c = some (.lst (cs.map V.int)) ∧ c ≠ l ∧ Same H H' ∧ H' l = some (.lst (hs.map V.int)) ∧ hs.length = 9 ∧ NN hs ∧ S one 0 hs ≤ 90) ?_ ?_
    · refine xs_if (by walk_at "ans") (fun hc => ?_) (fun hc => ?_)
      · refine Evl.q_asgL (Evl.el_sl (Evl.ev_var rfl) Evl.eo_none (Evl.eo_some Evl.ev_c) (SqL.of hc4)) fun c2 H5 nc2 e5 h5 => ?_
        rw [show cutV (cs.map V.int) none (some 10) = (cs.take 10).map V.int by rw [List.map_take]; exact cut_hi _ 10] at h5
        have hj : 0 ≤ fi / 64 % 3 ∧ fi / 64 % 3 < 3 := ⟨Int.emod_nonneg _ (by decide), Int.emod_lt_of_pos _ (by decide)⟩
        have hv : 0 ≤ se % 91 ∧ se % 91 < 91 := ⟨Int.emod_nonneg _ (by decide), Int.emod_lt_of_pos _ (by decide)⟩
        have hlen : (List.replicate (9 : Int).toNat (0 : Int)).length = 9 := by decide
        refine xs_setI (by walk_at "val") (val_var rfl) (by walk_at "val") (e5 l _ hl4) hj.1 (by rw [hlen]; omega) ?_
        have hh : (List.replicate (9 : Int).toNat (0 : Int)).set (fi / 64 % 3).toNat (se % 91) = Sh.bump (List.replicate (9 : Int).toNat (0 : Int)) (fi / 64 % 3).toNat (se % 91) := by
          unfold Sh.bump
          rw [show (List.replicate (9 : Int).toNat (0 : Int)).getD (fi / 64 % 3).toNat 0 = 0 from by
            rw [List.getD_eq_getElem?_getD, List.getElem?_replicate]
            split <;> rfl, Int.zero_add]
        have hN : NN (List.replicate (9 : Int).toNat (0 : Int)) := fun x hx => by rw [(List.mem_replicate.mp hx).2]; exact Int.le_refl _
        rw [hh]
        refine ⟨c2, cs.take 10, _, rfl, by rw [List.length_take]; omega, ?_, (ne_of_none hl4 nc2).symm, same_mut (e4.trans e5) nl0, upd_same, by rw [bump_len, hlen], hN.bump (by rw [hlen]; omega) ?_, ?_⟩
        · rw [upd_ne (ne_of_none hl4 nc2).symm]
          exact h5
        · have := hN.get (fi / 64 % 3).toNat
          omega
        · rw [S_bump one _ _ _ _ (by rw [hlen]; omega), S_zeros]
          show 0 + se % 91 * 1 ≤ 90
          omega
      · refine ⟨c, cs, _, rfl, hcs, hc4, hne, e4, hl4, by decide, fun x hx => by rw [(List.mem_replicate.mp hx).2]; exact Int.le_refl _, ?_⟩
        rw [S_zeros]
        decide
    rintro σ H5 ⟨c, cs, hs, rfl, hcs, hc5, hne, e5, hl5, hlen, hN, hsum⟩
    refine Evl.q_forLn (a := c) (Evl.ev_var rfl) (SqL.of hc5) (fun i σ H' => ∃ (y : Option V) (hs : List Int), σ = [some (.ref a), some (.int fi), some (.int se), some (.int sp), some (.int way), some (.ref c), some (.ref l), y] ∧ H' c = some (.lst (cs.map V.int)) ∧ Same H H' ∧ H' l = some (.lst (hs.map V.int)) ∧ hs.length = 9 ∧ NN hs ∧ S one 0 hs ≤ 90 + (i : Int))
      (fun H6 e6 => ⟨none, hs, rfl, e6 c _ hc5, e5.trans e6, e6 l _ hl5, hlen, hN, by omega⟩) (fun i σ' H' _ h => by
        obtain ⟨y, hs, _, h, _⟩ := h
        exact SqL.of h) ?_ ?_
    · rintro i x σ H' hi ⟨y, hs, rfl, hc6, e6, hl6, hlen, hN, hsum⟩
      rw [List.getElem?_map] at hi
      obtain ⟨n, hn, rfl⟩ := Option.map_eq_some_iff.mp hi
      have hj : 0 ≤ n % sp ∧ n % sp < sp := ⟨Int.emod_nonneg _ (by omega), Int.emod_lt_of_pos _ hs1⟩
      refine xs_bump (d := 1) (i := (n % sp).toNat) (j := n % sp) (fun x => rfl) (val_var rfl) (xv_I (val_var rfl) (val_var rfl) hs1) (by omega) hl6 (by omega) ?_
      refine ⟨_, _, rfl, ?_, same_mut e6 nl0, upd_same, by rw [bump_len]; exact hlen, hN.bump (by omega) ?_, ?_⟩
      · rw [upd_ne hne]
        exact hc6
      · have := hN.get (n % sp).toNat
        omega
      · rw [S_bump one _ _ _ _ (by omega)]
        show _ + 1 * 1 ≤ _
        omega
    · rintro σ H6 ⟨y, hs, rfl, hc6, e6, hl6, hlen, hN, hsum⟩
      rw [List.length_map] at hsum
      refine xq_run ?_
      refine xr_call (xg_go (xg_cons (val_var (i := 6) rfl) xg_nil) ?_)
      refine ⟨l, hs, rfl, hl6, fun H7 e7 h7 => ?_⟩
      have e07 : Same H H7 := fun b o hb => by
        rw [e7 b (ne_of_none hb nl0)]
        exact e6 b o hb
      have hbl := bare_len hs
      have hbN := hN.bare
      have hbs := bare_S one 0 hs
      generalize bare hs = bs at h7 hbl hbN hbs
      have hL7 := SqL.of (K := K) h7
      refine xs_when (by walk_at "ans") (fun hc => ?_) (fun hc => ?_)
      · have hm : 0 ≤ se % 32 ∧ se % 32 < 32 := ⟨Int.emod_nonneg _ (by decide), Int.emod_lt_of_pos _ (by decide)⟩
        refine Evl.s_asgL (xl_catR (l := l) (xl_rep (k := 1 + se % 32) (Evl.el_lst (Evl.ea_cons Evl.ev_c Evl.ea_nil) (by decide)) (xe_I0 Evl.ev_c (xe_I (Evl.ev_var rfl) Evl.ev_c (by decide))) (by omega) (by
          show 1 * (1 + se % 32).toNat ≤ 100000
          omega)) (Evl.ev_var rfl) h7 (by
            rw [flat_rep, List.length_map, List.length_map, List.length_replicate]
            omega)) fun l2 H8 nl2 e8 h8 => ?_
        rw [flat_rep, ← List.map_append] at h8
        refine st_ret (val_var rfl) (q H8 l2 _ (e07.trans e8) (Same.free e07 nl2) h8 ?_ ?_ ?_)
        · intro x hx
          rcases List.mem_append.mp hx with h | h
          · rw [(List.mem_replicate.mp h).2]
            exact Int.le_refl _
          · exact hbN x h
        · rw [List.length_append, List.length_replicate]
          omega
        · rw [one_sum, List.sum_append, ← one_sum bs 0, ← one_sum (List.replicate _ (0 : Int)) 0, S_zeros]
          omega
      · exact st_ret (val_var rfl) (q H7 l bs e07 nl0 h7 hbN (by omega) (by omega))
/-! ### asked of carried -/
def sp_asked (K : PySem.W.Frag) : Sp := fun vs H Q _ => ∃ (a : Addr) (ns : List Int) (b : Addr) (xs : List Int) (c : Addr) (pk : List Int), vs = [.ref a, .ref b, .ref c] ∧ SqL K H a (ns.map V.int) ∧ SqL K H b (xs.map V.int) ∧ SqL K H c (pk.map V.int) ∧ NN xs ∧ (xs.length : Int) + 2 * S pot 0 xs ≤ 19000 ∧
  ∀ H' p lc ll (log : List Mv) (qs : List Addr), Same H H' → H' p = some (.tup [.ref lc, .ref ll]) → H' lc = some (.lst ((endOf xs log).map V.int)) → H' ll = some (.lst (qs.map V.ref)) → MvL H' qs log → OkLog pk xs log → mvs (endOf xs log) = [] → Q (.ref p) H'
theorem ok_l_asked (T : Txt K mg) : FnOk P w K mg base CX0 4 T.f_l_asked T.d_l_asked ["_law_script", "_law_heap_here", "_law_picks"] (sp_asked K) := by
  refine T.F_l_asked.ok sc_l_asked (fun vs H Q E h => ?_) (fun cdv A outer s H vs Q E hr h => ?_)
  · obtain ⟨a, ns, b, xs, c, pk, rfl, _⟩ := h
    rfl
  · obtain ⟨a, ns, b, xs, c, pk, rfl, hS, hB, hC, hx, hz, q⟩ := h
    refine ⟨_, (pss_cons (ps_set (i := 3) sc_l_asked.nd rfl (Or.inl rfl) (pe_op op_mod (pe_op op_fdiv (pe_call (ok_l_cell_at T) (hr.mono (by decide)) (by rfl) T.g_l_cell_at T.F_l_cell_at.kp T.b_l_cell_at .nil pass0 (pa_cons (pv 0) (pa_cons pe_int pa_nil))) pe_int) pe_int))
      (pss_cons (ps_if (PW.pt (pw_and (pt_cmpR (op_eqD hr.units) (pv 2) (pe_lst pa_nil) (nomark _)) (pw_and1 (pt_cmpR op_eq (pv 3) pe_int (nomark _))))) (pss_one (ps_ret (pe_call (dvs := [V.non]) (ok_carried T) (hr.mono (by decide)) (by rfl) T.g_carried T.F_carried.kp T.b0_carried.choose_spec.2 T.b0_carried.choose_spec.1 pass0 (pa_cons (pv 1) pa_nil)))) pss_nil)
      (pss_cons (ps_if (PW.pt (pw_and (pt_cmpR (op_eqD hr.units) (pv 2) (pe_lst pa_nil) (nomark _)) (pw_and1 (pt_cmpR op_eq (pv 3) pe_int (nomark _))))) (pss_one (ps_ret (pe_call (dvs := []) (ok_carried T) (hr.mono (by decide)) (by rfl) T.g_carried T.F_carried.kp T.b1_carried.choose_spec.2 T.b1_carried.choose_spec.1 pass0 (pa_cons (pv 1) (pa_cons pe_non pa_nil))))) pss_nil)
      (pss_one (ps_ret (pe_call (dvs := []) (ok_carried T) (hr.mono (by decide)) (by rfl) T.g_carried T.F_carried.kp T.b1_carried.choose_spec.2 T.b1_carried.choose_spec.1 pass0 (pa_cons (pv 1) (pa_cons (pv 2) pa_nil)))))))), ?_⟩
    refine xq_set (by walk_at "val") ?_
    generalize ns.getD 1 0 / 4 % 3 = way
    refine Evl.q_when (Evl.et_and (et_eqI (Evl.ev_var rfl) hC) fun _ => Evl.et_test (Evl.ev_op (Evl.ev_var rfl) Evl.ev_c (Evl.rv_eq rfl))) (fun hc H1 e1 => ?_) (fun hc H1 e1 => ?_)
    · have hc : pk = [] := of_decide_eq_true (Bool.and_eq_true_iff.mp hc).1
      refine xr_ret (xr_callD (xg_go (xg_cons (val_var (i := 1) rfl) xg_nil) ?_))
      exact ⟨b, xs, .non, pk, rfl, Same.seq e1 hB, hx, hz, .inl ⟨rfl, hc⟩, fun H' p lc ll log qs e h1 _ _ _ h2 h3 h4 h5 h6 => q H' p lc ll log qs (Same.trans e1 e) h1 h2 h3 h4 h5 h6⟩
    · refine Evl.q_when (Evl.et_and (et_eqI (Evl.ev_var rfl) (Same.seq e1 hC)) fun _ => Evl.et_test (Evl.ev_op (Evl.ev_var rfl) Evl.ev_c (Evl.rv_eq rfl))) (fun hc H2 e2 => ?_) (fun hc H2 e2 => ?_)
      · have hc : pk = [] := of_decide_eq_true (Bool.and_eq_true_iff.mp hc).1
        refine xr_ret (xr_callD (xg_go (xg_cons (val_var (i := 1) rfl) (xg_cons val_c xg_nil)) ?_))
        exact ⟨b, xs, .non, pk, rfl, Same.seq e2 (Same.seq e1 hB), hx, hz, .inl ⟨rfl, hc⟩, fun H' p lc ll log qs e h1 _ _ _ h2 h3 h4 h5 h6 => q H' p lc ll log qs (Same.trans e1 (Same.trans e2 e)) h1 h2 h3 h4 h5 h6⟩
      · refine xr_ret (xr_callD (xg_go (xg_cons (val_var (i := 1) rfl) (xg_cons (val_var (i := 2) rfl) xg_nil)) ?_))
        exact ⟨b, xs, .ref c, pk, rfl, Same.seq e2 (Same.seq e1 hB), hx, hz, .inr ⟨c, rfl, Same.seq e2 (Same.seq e1 hC)⟩, fun H' p lc ll log qs e h1 _ _ _ h2 h3 h4 h5 h6 => q H' p lc ll log qs (Same.trans e1 (Same.trans e2 e)) h1 h2 h3 h4 h5 h6⟩
/-! ### the bound -/
def sp_bound (K : PySem.W.Frag) : Sp := fun vs H Q _ => ∃ (a : Addr) (ns : List Int), vs = [.ref a] ∧ SqL K H a (ns.map V.int) ∧ Sm ns ∧ Q (.int (S pot 0 ns)) H
theorem ok_l_bound (T : Txt K mg) : FnOk P w K mg base CX0 1 T.f_l_bound T.d_l_bound ["_law_heap_here"] (sp_bound K) := by
  refine T.F_l_bound.ok sc_l_bound (fun vs H Q E h => ?_) (fun cdv A outer s H vs Q E hr h => ?_)
  · obtain ⟨a, ns, rfl, _⟩ := h
    rfl
  · obtain ⟨a, ns, rfl, hS, hz, q⟩ := h
    refine ⟨_, (pss_cons (ps_set (i := 1) sc_l_bound.nd rfl (Or.inl rfl) pe_int)
      (pss_cons (ps_for PassesOwn.never rfl (pi_range1 (by rfl) T.m_range (pa_cons (pe_callB call_len_seq (by rfl) T.m_len PySem.boot_len (pa_cons (pv 0) pa_nil)) pa_nil)) (pg_name (i := 2) sc_l_bound.nd rfl (Or.inl rfl)) (pss_one (ps_set (i := 1) sc_l_bound.nd rfl (Or.inl rfl) (pe_op op_add (pv 1) (pe_op op_mulW (pe_op op_add (pe_op op_add (pv 2) pe_int) (pe_callTy call_int1 (by rfl) T.m_int (by decide +kernel) (pa_cons (pe_cmpR op_gt (pv 2) pe_int (nomark _)) pa_nil))) (pe_ix ix_list (pv 0) (pv 2) (fun _ _ => rfl)))))))
      (pss_one (ps_ret (pv 1))))), ?_⟩
    have hlen := hz.len
    refine xq_set val_c ?_
    refine xq_forR (n := ns.length) (by walk_at "arg") (by omega) (fun i σ H' => ∃ y, σ = [some (.ref a), some (.int (S pot 0 (ns.take i))), y] ∧ H' = H) ⟨none, rfl, rfl⟩ ?_ ?_
    · rintro i σ H' hi ⟨y, rfl, rfl⟩
      have hn := get_of hi
      have hb : CMulW ((i : Int) + 3 + (if decide ((0 : Int) < (i : Int)) = true then 1 else 0)) (ns.getD i 0) := wide_mul (a := 20) (b := 1000) (by split <;> omega) (hz.mag _ (List.mem_of_getElem? hn)) (by decide) (by decide) (by decide)
      refine st_set (xv_I0 (val_var rfl) (xv_I (xv_I0 (xv_I0 (val_var rfl) val_c) (xv_cb (v := .int (if decide ((0 : Int) < (i : Int)) = true then 1 else 0)) (xg_cons (xv_I0 (val_var rfl) val_c) xg_nil) fun Q q => .inr ⟨_, rfl, q⟩)) (xv_ix (i := (i : Int)) (val_var rfl) (val_var rfl) hS (by omega) (by omega)) hb)) ?_
      refine ⟨some (.int (i : Int)), ?_, rfl⟩
      have e : S pot 0 (ns.take (i + 1)) = S pot 0 (ns.take i) + ((i : Int) + 3 + (if decide ((0 : Int) < (i : Int)) = true then 1 else 0)) * ns.getD i 0 := by
        rw [S_take hn, Nat.zero_add, Int.mul_comm]
        congr 2
        unfold pot
        congr 1
        by_cases h0 : 0 < i
        · rw [if_pos h0, if_pos (decide_eq_true (by omega))]
        · rw [if_neg h0, if_neg (by rw [decide_eq_true_eq]; omega)]
      rw [e]
      rfl
    · rintro σ H' ⟨y, rfl, rfl⟩
      rw [List.take_length]
      exact st_ret (val_var rfl) q
/-! ### the log walked again -/
def sp_walked (K : PySem.W.Frag) : Sp := fun vs H Q _ => ∃ (a : Addr) (xs : List Int) (b : Addr) (qs : List Addr) (log : List Mv) (c : Addr) (pk : List Int), vs = [.ref a, .ref b, .ref c] ∧ SqL K H a (xs.map V.int) ∧ SqL K H b (qs.map V.ref) ∧ MvL H qs log ∧ SqL K H c (pk.map V.int) ∧ NN xs ∧ (xs.length : Int) + 2 * S pot 0 xs ≤ 19000 ∧
  OkLog pk xs log ∧ mvs (endOf xs log) = [] ∧ ∀ H' p, Same H H' → H p = none → H' p = some (.lst ((endOf xs log).map V.int)) → Q (.ref p) H'
theorem ok_l_walked (T : Txt K mg) : FnOk P w K mg base CX0 3 T.f_l_walked T.d_l_walked ["_law_heap_here", "_law_log", "_law_picks"] (sp_walked K) := by
  refine T.F_l_walked.ok sc_l_walked (fun vs H Q E h => ?_) (fun cdv A outer s H vs Q E hr h => ?_)
  · obtain ⟨a, xs, b, qs, log, c, pk, rfl, _⟩ := h
    rfl
  · obtain ⟨a, xs, b, qs, log, c, pk, rfl, hS, hB, hq, hC, hx, hz, hlog, hend, q⟩ := h
    refine ⟨_, (pss_cons (ps_set (i := 3) sc_l_walked.nd rfl (Or.inl rfl) (pe_callTy call_list_of (by rfl) T.m_list (by decide +kernel) (pa_cons (pv 0) pa_nil)))
      (pss_cons (ps_for PassesOwn.never rfl (pi_range1 (by rfl) T.m_range (pa_cons (pe_callB call_len_seq (by rfl) T.m_len PySem.boot_len (pa_cons (pv 1) pa_nil)) pa_nil)) (pg_name (i := 4) sc_l_walked.nd rfl (Or.inl rfl)) (pss_cons (ps_set (i := 5) sc_l_walked.nd rfl (Or.inl rfl) (pe_call (ok_l_moves T) (hr.mono (by decide)) (by rfl) T.g_l_moves T.F_l_moves.kp T.b_l_moves .nil pass0 (pa_cons (pv 3) pa_nil)))
      (pss_cons (ps_if (pt_cmpR (op_eqD hr.units) (pv 5) (pe_lst pa_nil) (nomark _)) (pss_one (ps_ret pe_non)) pss_nil)
      (pss_cons (ps_set (i := 6) sc_l_walked.nd rfl (Or.inl rfl) pe_int)
      (pss_cons (ps_if (pt_cmpR (op_neD hr.units) (pv 2) (pe_lst pa_nil) (nomark _)) (pss_one (ps_set (i := 6) sc_l_walked.nd rfl (Or.inl rfl) (pe_op op_mod (pe_ix ix_list (pv 2) (pe_op op_mod (pv 4) (pe_callB call_len_seq (by rfl) T.m_len PySem.boot_len (pa_cons (pv 2) pa_nil))) (fun _ _ => rfl)) (pe_callB call_len_seq (by rfl) T.m_len PySem.boot_len (pa_cons (pv 5) pa_nil))))) pss_nil)
      (pss_cons (ps_if (PW.pt (pw_or (pt_not (pt_val (pe_call (ok_l_is_move T) (hr.mono (by decide)) (by rfl) T.g_l_is_move T.F_l_is_move.kp T.b_l_is_move .nil pass0 (pa_cons (pe_ix ix_list (pv 1) (pv 4) (fun _ _ => rfl)) pa_nil)))) (pw_or1 (pt_cmpR (op_neD hr.units) (pe_ix ix_list (pv 1) (pv 4) (fun _ _ => rfl)) (pe_ix ix_list (pv 5) (pv 6) (fun _ _ => rfl)) (nomark _))))) (pss_one (ps_ret pe_non)) pss_nil)
      (pss_one (ps_set (i := 3) sc_l_walked.nd rfl (Or.inl rfl) (pe_call (ok_l_done T) (hr.mono (by decide)) (by rfl) T.g_l_done T.F_l_done.kp T.b_l_done .nil pass0 (pa_cons (pv 3) (pa_cons (pe_ix ix_list (pv 1) (pv 4) (fun _ _ => rfl)) pa_nil)))))))))))
      (pss_cons (ps_if (pt_cmpR (op_neD hr.units) (pe_call (ok_l_moves T) (hr.mono (by decide)) (by rfl) T.g_l_moves T.F_l_moves.kp T.b_l_moves .nil pass0 (pa_cons (pv 3) pa_nil)) (pe_lst pa_nil) (nomark _)) (pss_one (ps_ret pe_non)) pss_nil)
      (pss_one (ps_ret (pv 3)))))), ?_⟩
    have hpp := S_nonneg pot_pos xs 0 hx
    have hL := left_len (left_of hx log hlog)
    refine Evl.q_asgL (xl_listQ (Evl.ev_var rfl) hS) fun l H1 nl e1 h1 => ?_
    refine xq_forR (n := log.length) (xg_cons (xv_to (xv_len (val_var (i := 1) rfl) (Same.seq e1 hB)) (by rw [List.length_map, hq.len])) xg_nil) (by omega) (fun i σ H' => ∃ (l : Addr) (y4 y5 y6 : Option V), σ = [some (.ref a), some (.ref b), some (.ref c), some (.ref l), y4, y5, y6] ∧ Same H H' ∧ H l = none ∧ H' l = some (.lst ((endOf xs (log.take i)).map V.int))) ⟨l, none, none, none, rfl, e1, nl, h1⟩ ?_ ?_
    · rintro i σ H2 hi ⟨l, y4, y5, y6, rfl, e2, nl, h2⟩
      have hm : log[i]? = some log[i] := List.getElem?_eq_getElem hi
      have hat := hlog.at_ i _ hm
      have hti : OkLog pk xs (log.take i) := ⟨fun k m hk => by
        have hk2 : k < i := by
          have := (List.getElem?_eq_some_iff.mp hk).1
          rw [List.length_take] at this
          omega
        rw [List.getElem?_take_of_lt hk2] at hk
        rw [List.take_take, Nat.min_eq_left (by omega)]
        exact hlog.at_ k m hk⟩
      have hLi := left_len (left_of hx _ hti)
      have htk : log.take (i + 1) = log.take i ++ [log[i]] := take_more hm
      generalize hm' : log[i] = m at hm hat htk
      generalize hys : endOf xs (log.take i) = ys at h2 hat hLi
      have hne : mvs ys ≠ [] := fun e => by
        rw [e] at hat
        simp at hat
      have hfit : mvFits ys m = true := mem_mvs.mp (List.mem_of_getElem? hat)
      refine xq_run ?_
      refine xg_go (xg_cons (val_var (i := 3) rfl) xg_nil) ⟨l, ys, rfl, SqL.of h2, by omega, fun H3 ab ps e3 na h3 hm3 => ?_⟩
      refine Evl.q_when (Evl.et_is (et_eqM (Evl.ev_var rfl) h3 hm3) (decide_eq_false hne)) (fun z => (nomatch z)) (fun _ H4 e4 => ?_)
      refine xq_set val_c ?_
      have e04 : Same H H4 := e2.trans (Same.trans e3 e4)
      have hab4 := e4 ab _ h3
      have hpl : ((ps.map V.ref).length : Int) = ((mvs ys).length : Int) := by rw [List.length_map, hm3.len]
      have hpos : 0 < (mvs ys).length := List.length_pos_iff.mpr hne
      refine Evl.q_ifAsg (v := .int ((pickI pk i (mvs ys).length : Nat) : Int)) (et_neI (Evl.ev_var rfl) (e04.seq hC)) (fun hc => ?_) (fun hc => ?_) fun H5 e5 => ?_
      · have hc : pk ≠ [] := by simpa using hc
        have hkp : 0 < pk.length := List.length_pos_iff.mpr hc
        have hk0 : 0 < (pk.length : Int) := by omega
        have hb1 : 0 ≤ (i : Int) % (pk.length : Int) := Int.emod_nonneg _ (by omega)
        have hb2 : (i : Int) % (pk.length : Int) < (pk.length : Int) := Int.emod_lt_of_pos _ hk0
        have hm0 : 0 < ((mvs ys).length : Int) := by omega
        have hr1 : 0 ≤ pk.getD ((i : Int) % (pk.length : Int)).toNat 0 % ((mvs ys).length : Int) := Int.emod_nonneg _ (by omega)
        have hp : pickI pk i (mvs ys).length = (pk.getD ((i : Int) % (pk.length : Int)).toNat 0 % ((mvs ys).length : Int)).toNat := by
          unfold pickI
          rw [if_neg hc, ofNat_emod]
        rw [hp, Int.toNat_of_nonneg hr1]
        intro H5 e5 Q q
        have hC5 := Same.seq e5 (e04.seq hC)
        exact xv_I (C := fun _ j => 0 < j) (xv_ix (val_var (i := 2) rfl) (xv_I (C := fun _ j => 0 < j) (val_var (i := 4) rfl) (xv_lenI (val_var (i := 2) rfl) hC5) hk0) hC5 hb1 hb2) (xv_to (xv_len (val_var (i := 5) rfl) (SqL.of (e5 ab _ hab4))) (by rw [hpl])) hm0 _ (q H5 (Evl.Ex.refl H5))
      · have hc : pk = [] := by simpa using hc
        rw [show pickI pk i (mvs ys).length = 0 from by unfold pickI; rw [if_pos hc]]
        rfl
      · have e05 : Same H H5 := e04.trans e5
        have hB5 := e05.seq hB
        have hq5 := hq.same e05
        have hab5 := e5 ab _ hab4
        have hm5 := (hm3.same e4).same e5
        obtain ⟨p, p1, p2⟩ := hq5.get hm
        obtain ⟨r, r1, r2⟩ := hm5.get hat
        have vp : ∀ {σ : L2.St} {ta tb : TE}, Val ta σ H5 (.ref b) → Val tb σ H5 (.int (i : Int)) → Val (tOp (rIxL K) ta tb) σ H5 (.ref p) := fun h1 h2 => xv_ixV h1 h2 hB5 (atI_nat (by rw [List.getElem?_map, p1]; rfl))
        have vr : ∀ {σ : L2.St} {ta tb : TE}, Val ta σ H5 (.ref ab) → Val tb σ H5 (.int ((pickI pk i (mvs ys).length : Nat) : Int)) → Val (tOp (rIxL K) ta tb) σ H5 (.ref r) := fun h1 h2 => xv_ixV h1 h2 (SqL.of hab5) (atI_nat (by rw [List.getElem?_map, r1]; rfl))
        refine xs_when (b := false) (xa_or (a := false) (xa_not (a := true) (xa_B (xv_call (xg_cons (vp (val_var rfl) (val_var rfl)) xg_nil) fun Q q => ⟨p, _, rfl, SqT.of p2, q⟩))) fun _ => xa_T (xv_to (xv_neM (vp (val_var rfl) (val_var rfl)) (vr (val_var rfl) (val_var rfl)) (SqT.of p2) (SqT.of r2)) (by rw [decide_eq_true rfl]; rfl))) (fun z => (nomatch z)) (fun _ => ?_)
        refine xs_run ?_
        refine xg_go (xg_cons (val_var (i := 3) rfl) (xg_cons (vp (val_var rfl) (val_var rfl)) xg_nil)) ⟨l, ys, p, m, rfl, SqL.of (e5 l _ (e4 l _ (e3 l _ h2))), SqT.of p2, by omega, hfit, fun H6 l2 e6 n6 h6 => ?_⟩
        refine ⟨l2, _, _, _, rfl, e05.trans e6, e05.free n6, ?_⟩
        rw [htk, endOf_snoc, hys]
        exact h6
    · rintro σ H2 ⟨l, y4, y5, y6, rfl, e2, nl, h2⟩
      rw [List.take_length] at h2
      refine xr_when (xr_test (xr_op (xr_call (xg_go (xg_cons (val_var (i := 3) rfl) xg_nil) ?_))))
      refine ⟨l, _, rfl, SqL.of h2, by omega, fun H3 ab ps e3 na h3 hm3 => ?_⟩
      refine (Evl.el_lst Evl.ea_nil (by decide)) H3 (Evl.Ex.refl H3) _ fun n H4 nn e4 h4 => ?_
      refine ⟨_, _, .lst (SqL.of (e4 ab _ h3)) (mvs_dp (hm3.same e4)), .lst (SqL.of h4) .nil, mvDs_shaped _, by decide +kernel, ?_⟩
      rw [eqv_nilM, hend]
      exact ⟨false, rfl, st_ret (val_var (i := 3) rfl) (q H4 l (e2.trans (Same.trans e3 e4)) nl (e4 l _ (e3 l _ h2)))⟩
/-! ### the law -/
def sp_law (K : PySem.W.Frag) : Sp := fun vs H Q _ => ∃ (a : Addr) (ns : List Int), vs = [.ref a] ∧ SqL K H a (ns.map V.int) ∧ ns.length ≤ 63 ∧ ∀ H', Q (.bl true) H'
theorem pot_in {xs : List Int} (hx : NN xs) (hl : xs.length ≤ 41) (hs : S one 0 xs ≤ 130) : (xs.length : Int) + 2 * S pot 0 xs ≤ 19000 := by
  have h := pot_le hx
  have h0 := S_nonneg (f := one) (fun _ => by unfold one; decide) xs 0 hx
  have h1 : ((xs.length : Int) + 3) * S one 0 xs ≤ 44 * 130 := Int.mul_le_mul (by omega) hs h0 (by decide)
  omega
theorem ok_law (T : Txt K mg) : FnOk P w K mg base CX0 5 T.f_law T.d_law ["_law_script"] (sp_law K) := by
  refine T.F_law.ok sc_law (fun vs H Q E h => ?_) (fun cdv A outer s H vs Q E hr h => ?_)
  · obtain ⟨a, ns, rfl, _⟩ := h
    rfl
  · obtain ⟨a, ns, rfl, hS, hl, q⟩ := h
    refine ⟨_, (pss_cons (ps_set (i := 1) sc_law.nd rfl (Or.inl rfl) (pe_call (ok_l_heap T) (hr.mono (by decide)) (by rfl) T.g_l_heap T.F_l_heap.kp T.b_l_heap .nil pass0 (pa_cons (pv 0) pa_nil)))
      (pss_cons (ps_setLc (i := 2) (own := [("_law_cell", 9)]) (g := gName 9) (tt := tYes) rfl sc_law.nd rfl rfl (sw_true rfl rfl rfl (by decide +kernel)) (pi_list (pe_slice sl_list (pv 0) (po_some pe_int) (po_some pe_int))) (blkOk_by (N := ["_law_script", "_law_heap_here", "_law_picks", "_law_handed", "_law_given", "_law_found", "_law_end", "_law_fewer", "_law_move", "_law_cell"]) (sc := defScope st_law) (by decide +kernel)) (fun _ _ _ _ _ => pg_name (i := 9) sc_law.nd rfl (Or.inl rfl)) (fun _ _ _ _ _ => pts_nil) (fun _ _ _ _ _ => (pe_op op_mod (pv 9) (pe_op op_add (pe_op op_pow pe_int pe_int) pe_int))))
      (pss_cons (ps_set (i := 2) sc_law.nd rfl (Or.inl rfl) (pe_op op_cat (pv 2) (pe_call (ok_l_stream T) (hr.mono (by decide)) (by rfl) T.g_l_stream T.F_l_stream.kp T.b_l_stream .nil pass0 (pa_cons (pe_call (ok_l_cell_at T) (hr.mono (by decide)) (by rfl) T.g_l_cell_at T.F_l_cell_at.kp T.b_l_cell_at .nil pass0 (pa_cons (pv 0) (pa_cons pe_int pa_nil))) (pa_cons (pe_op op_mod (pe_call (ok_l_cell_at T) (hr.mono (by decide)) (by rfl) T.g_l_cell_at T.F_l_cell_at.kp T.b_l_cell_at .nil pass0 (pa_cons (pv 0) (pa_cons pe_int pa_nil))) pe_int) pa_nil)))))
      (pss_cons (ps_set (i := 3) sc_law.nd rfl (Or.inl rfl) (pe_callTy call_list_of (by rfl) T.m_list (by decide +kernel) (pa_cons (pv 1) pa_nil)))
      (pss_cons (ps_set (i := 4) sc_law.nd rfl (Or.inl rfl) (pe_callTy call_list_of (by rfl) T.m_list (by decide +kernel) (pa_cons (pv 2) pa_nil)))
      (pss_cons (ps_set (i := 5) sc_law.nd rfl (Or.inl rfl) (pe_call (ok_l_asked T) (hr.mono (by decide)) (by rfl) T.g_l_asked T.F_l_asked.kp T.b_l_asked .nil pass0 (pa_cons (pv 0) (pa_cons (pv 3) (pa_cons (pv 4) pa_nil)))))
      (pss_cons (ps_if (PW.pt (pw_or (pt_not (pt_val (pe_callB call_isi (by rfl) T.m_isinstance (by decide +kernel) (pa_cons (pv 5) (pa_cons (pe_bltn (v := .ty "tuple") (by rfl) T.m_tuple (by decide +kernel) rfl) pa_nil))))) (pw_or (pt_cmpR op_ne (pe_callB call_len_seq (by rfl) T.m_len PySem.boot_len (pa_cons (pv 5) pa_nil)) pe_int (nomark _)) (pw_or (pt_cmpR (op_neD hr.units) (pv 3) (pv 1) (nomark _)) (pw_or1 (pt_cmpR (op_neD hr.units) (pv 4) (pv 2) (nomark _))))))) (pss_one (ps_ret pe_bl)) pss_nil)
      (pss_cons (ps_if (PW.pt (pw_or (pt_not (pt_val (pe_callB call_isi (by rfl) T.m_isinstance (by decide +kernel) (pa_cons (pe_ix ix_tup (pv 5) pe_int (fun _ _ => rfl)) (pa_cons (pe_bltn (v := .ty "list") (by rfl) T.m_list (by decide +kernel) rfl) pa_nil))))) (pw_or1 (pt_cmpR op_gt (pe_callB call_len_seq (by rfl) T.m_len PySem.boot_len (pa_cons (pe_ix ix_tup (pv 5) pe_int (fun _ _ => rfl)) pa_nil)) (pe_call (ok_l_bound T) (hr.mono (by decide)) (by rfl) T.g_l_bound T.F_l_bound.kp T.b_l_bound .nil pass0 (pa_cons (pv 1) pa_nil)) (nomark _))))) (pss_one (ps_ret pe_bl)) pss_nil)
      (pss_cons (ps_set (i := 6) sc_law.nd rfl (Or.inl rfl) (pe_call (ok_l_walked T) (hr.mono (by decide)) (by rfl) T.g_l_walked T.F_l_walked.kp T.b_l_walked .nil pass0 (pa_cons (pv 1) (pa_cons (pe_ix ix_tup (pv 5) pe_int (fun _ _ => rfl)) (pa_cons (pv 2) pa_nil)))))
      (pss_cons (ps_if (PW.pt (pw_or (pt_cmpR op_isN (pv 6) pe_non (nomark _)) (pw_or1 (pt_not (pt_val (pe_call (ok_l_alike T) (hr.mono (by decide)) (by rfl) T.g_l_alike T.F_l_alike.kp T.b_l_alike .nil pass0 (pa_cons (pe_ix ix_tup (pv 5) pe_int (fun _ _ => rfl)) (pa_cons (pv 6) pa_nil)))))))) (pss_one (ps_ret pe_bl)) pss_nil)
      (pss_cons (ps_set (i := 7) sc_law.nd rfl (Or.inl rfl) pe_int)
      (pss_cons (ps_for PassesOwn.never rfl (pi_list (pe_ix ix_tup (pv 5) pe_int (fun _ _ => rfl))) (pg_name (i := 8) sc_law.nd rfl (Or.inl rfl)) (pss_one (ps_if (PW.pt (pw_or (pt_cmpR op_eq (pe_ix ix_tup (pv 8) pe_int (fun _ _ => rfl)) pe_str (nomark _)) (pw_or1 (pt_cmpR op_eq (pe_ix ix_tup (pv 8) pe_int (fun _ _ => rfl)) pe_int (nomark _))))) (pss_one (ps_set (i := 7) sc_law.nd rfl (Or.inl rfl) (pe_op op_add (pv 7) pe_int))) pss_nil)))
      (pss_one (ps_ret (pe_and (pe_cmpR op_eq (pe_op op_sub (pe_callB (cr_sum rfl) (by rfl) T.m_sum (by decide +kernel) (pa_cons (pv 1) pa_nil)) (pe_callB (cr_sum rfl) (by rfl) T.m_sum (by decide +kernel) (pa_cons (pv 6) pa_nil))) (pv 7) (nomark _)) (pe_one (pe_cmpR op_eq (pe_call (ok_l_weight T) (hr.mono (by decide)) (by rfl) T.g_l_weight T.F_l_weight.kp T.b_l_weight .nil pass0 (pa_cons (pe_ix ix_tup (pv 5) pe_int (fun _ _ => rfl)) pa_nil)) (pe_call (ok_l_weight T) (hr.mono (by decide)) (by rfl) T.g_l_weight T.F_l_weight.kp T.b_l_weight .nil pass0 (pa_cons (pv 1) pa_nil)) (nomark _)))))))))))))))))), ?_⟩
    refine xq_run ?_
    refine xg_go (by walk_at "arg") ⟨a, ns, rfl, hS, fun H1 x xs e1 nx h1 hx hxl hxs => ?_⟩
    have hpot := pot_in hx hxl hxs
    have hpp := S_nonneg pot_pos xs 0 hx
    have hS1 := Same.seq e1 hS
    -- the picks
    have hcl : ((ns.take (44 : Int).toNat).drop (32 : Int).toNat).length ≤ 12 := by
      rw [List.length_drop, List.length_take]
      omega
    refine Evl.q_asgL (xl_mapI (K := K) (j := 9) (ws := [9]) (cs := (ns.take (44 : Int).toNat).drop (32 : Int).toNat) (F := fun c => .int (c % (T60 + 1))) (by
      have h := Evl.el_sl (Evl.ev_var (σ := [some (.ref a), some (.ref x), none, none, none, none, none, none, none, none]) (i := 0) rfl) (Evl.eo_some (Evl.ev_c (v := V.int 32))) (Evl.eo_some (Evl.ev_c (v := V.int 44))) hS1
      rw [cut_int (by decide) (by decide)] at h
      exact h) (by omega) (fun _ => rfl) (fun c H2 e hc => xe_I (Evl.ev_var (i := 9) rfl) (xe_I0 xe_p60 Evl.ev_c) T60_pos1)) fun l0 H2 nl e2 h2 => ?_
    generalize (ns.take (44 : Int).toNat).drop (32 : Int).toNat = cs at h2 hcl
    rw [show cs.map (fun c => V.int (c % (T60 + 1))) = (cs.map fun c => c % (T60 + 1)).map V.int from by rw [List.map_map]; rfl] at h2
    have hS2 := Same.seq e2 hS1
    refine xq_run (xr_op ?_)
    refine xv_go (val_var (i := 2) rfl) (xr_call (xg_go (by walk_at "arg") ?_))
    refine ⟨ns.getD 1 0, (ns.getD 1 0 % 4).toNat, by rw [Int.toNat_of_nonneg (Int.emod_nonneg _ (by decide))]; rfl, by omega, fun H3 mb ms e3 n3 h3 hml _ => ?_⟩
    refine ⟨l0, mb, _, _, rfl, rfl, e3 l0 _ h2, h3, Evl.sz_of (by rw [List.length_map, List.length_map, List.length_map]; omega), fun g ng => ?_⟩
    have hg : (upd H3 g (.lst ((cs.map fun c => c % (T60 + 1)).map V.int ++ ms.map V.int))) g = some (.lst (((cs.map fun c => c % (T60 + 1)) ++ ms).map V.int)) := by
      rw [upd_same, List.map_append]
    have eg : Same H3 (upd H3 g (.lst ((cs.map fun c => c % (T60 + 1)).map V.int ++ ms.map V.int))) := Evl.Ex.new ng
    generalize upd H3 g (.lst ((cs.map fun c => c % (T60 + 1)).map V.int ++ ms.map V.int)) = H4 at hg eg
    generalize (cs.map fun c => c % (T60 + 1)) ++ ms = pk at hg
    have hx4 := eg x _ (e3 x _ (e2 x _ h1))
    refine Evl.q_asgL (xl_listQ (Evl.ev_var (i := 1) rfl) (SqL.of hx4)) fun ha H5 nha e5 h5 => ?_
    refine Evl.q_asgL (xl_listQ (Evl.ev_var (i := 2) rfl) (SqL.of (e5 g _ hg))) fun ga H6 nga e6 h6 => ?_
    have e06 : Same H H6 := Same.trans e1 (Same.trans e2 (Same.trans e3 (Same.trans eg (Same.trans e5 e6))))
    have hx6 := e6 x _ (e5 x _ hx4)
    have hg6 := e6 g _ (e5 g _ hg)
    have hh6 := e6 ha _ h5
    -- carried
    refine xq_run ?_
    refine xr_call (xg_go (xg_cons (val_var (i := 0) rfl) (xg_cons (val_var (i := 3) rfl) (xg_cons (val_var (i := 4) rfl) xg_nil))) ?_)
    refine ⟨a, ns, ha, xs, ga, pk, rfl, e06.seq hS, SqL.of hh6, SqL.of h6, hx, hpot, fun H7 t lc ll log qs e7 ht hlc hll hq hlog hend => ?_⟩
    have L := left_of hx log hlog
    obtain ⟨l1, l2⟩ := left_len L
    have hT := SqT.of (K := K) ht
    have hL := SqL.of (K := K) hll
    have hC := SqL.of (K := K) hlc
    have hx7 := SqL.of (K := K) (e7 x _ hx6)
    have hg7 := SqL.of (K := K) (e7 g _ hg6)
    have hh7 := SqL.of (K := K) (e7 ha _ hh6)
    have hga7 := SqL.of (K := K) (e7 ga _ h6)
    have hone := S_nonneg (f := one) (fun _ => by unfold one; decide) _ 0 L.nn
    have hone0 := S_nonneg (f := one) (fun _ => by unfold one; decide) _ 0 hx
    have hfew := L.few
    have sm0 : Sm xs := sm_of hx (by omega) (Int.le_refl _) (by omega)
    have sm1 : Sm (endOf xs log) := sm_of L.nn (by omega) (Int.le_refl _) (by omega)
    refine xs_when (b := false) (xa_or (a := false) (xa_not (a := true) (xa_B (xv_isi (val_var rfl) (tyx_T hT) (by decide +kernel)))) fun _ => xa_or (a := false) (xa_T (xv_to (xv_ne (xv_lenT (val_var rfl) hT) val_c rfl) (by rfl))) fun _ =>
      xa_or (a := false) (xa_T (xv_to (xv_neL (val_var rfl) (val_var rfl) hh7 hx7) (by rw [decide_eq_true rfl]; rfl))) fun _ => xa_T (xv_to (xv_neL (val_var rfl) (val_var rfl) hga7 hg7) (by rw [decide_eq_true rfl]; rfl))) (fun z => (nomatch z)) (fun _ => ?_)
    have v1 : ∀ {σ : L2.St} {te : TE}, Val te σ H7 (.ref t) → Val (tOp (rIxT K) te (tC (.int 1))) σ H7 (.ref ll) := fun h => xv_ixT (i := 1) h val_c hT rfl
    have v0 : ∀ {σ : L2.St} {te : TE}, Val te σ H7 (.ref t) → Val (tOp (rIxT K) te (tC (.int 0))) σ H7 (.ref lc) := fun h => xv_ixT (i := 0) h val_c hT rfl
    refine xs_when (b := false) (xa_or (a := false) (xa_not (a := true) (xa_B (xv_isi (v1 (val_var rfl)) (tyx_L hL) (by decide +kernel)))) fun _ => xa_T (xv_to (xv_I0 (xv_len (v1 (val_var rfl)) hL) (xv_call (xg_cons (val_var (i := 1) rfl) xg_nil) fun Q q => ⟨x, xs, rfl, hx7, sm0, q⟩)) (by
      show V.bl (decide (S pot 0 xs < ((qs.map V.ref).length : Int))) = _
      rw [List.length_map, hq.len, decide_eq_false (by omega)]))) (fun z => (nomatch z)) (fun _ => ?_)
    refine xq_run ?_
    refine xr_call (xg_go (xg_cons (val_var (i := 1) rfl) (xg_cons (v1 (val_var rfl)) (xg_cons (val_var (i := 2) rfl) xg_nil))) ?_)
    refine ⟨x, xs, ll, qs, log, g, pk, rfl, hx7, hL, hq, hg7, hx, hpot, hlog, hend, fun H8 le e8 n8 h8 => ?_⟩
    have hE := SqL.of (K := K) h8
    have hT8 := Evl.ex_t e8 hT
    have hC8 := Same.seq e8 hC
    have hL8 := Same.seq e8 hL
    have hx8 := Same.seq e8 hx7
    have w1 : ∀ {σ : L2.St} {te : TE}, Val te σ H8 (.ref t) → Val (tOp (rIxT K) te (tC (.int 1))) σ H8 (.ref ll) := fun h => xv_ixT (i := 1) h val_c hT8 rfl
    have w0 : ∀ {σ : L2.St} {te : TE}, Val te σ H8 (.ref t) → Val (tOp (rIxT K) te (tC (.int 0))) σ H8 (.ref lc) := fun h => xv_ixT (i := 0) h val_c hT8 rfl
    refine xs_when (b := false) (xa_or (a := false) (ans_isN (val_var rfl) rfl) fun _ => xa_not (a := true) (xa_B (xv_call (xg_cons (w0 (val_var rfl)) (xg_cons (val_var rfl) xg_nil)) fun Q q => ⟨lc, le, endOf xs log, rfl, hC8, hE, by omega, q⟩))) (fun z => (nomatch z)) (fun _ => ?_)
    refine xq_set val_c ?_
    refine xq_forV (H0 := H8) (a := ll) (xs := qs.map V.ref) (w1 (val_var rfl)) (Same.refl H8) hL8 (fun i σ H' => ∃ y, σ = [some (.ref a), some (.ref x), some (.ref g), some (.ref ha), some (.ref ga), some (.ref t), some (.ref le), some (.int ((((log.take i).filter fewer).length : Nat) : Int)), y, none]) ⟨none, rfl⟩ ?_ ?_
    · rintro i v σ H' e hi ⟨y, rfl⟩
      rw [List.getElem?_map] at hi
      obtain ⟨p, hp, rfl⟩ := Option.map_eq_some_iff.mp hi
      have hi2 : i < log.length := by
        rw [← hq.len]
        exact (List.getElem?_eq_some_iff.mp hp).1
      have hm : log[i]? = some log[i] := List.getElem?_eq_getElem hi2
      obtain ⟨p', p1, p2⟩ := ((hq.same e8).same e).get hm
      have epp : p' = p := Option.some.inj (p1.symm.trans hp)
      subst epp
      have htk : log.take (i + 1) = log.take i ++ [log[i]] := take_more hm
      generalize log[i] = m at hm p2 htk
      obtain ⟨b, k⟩ := m
      have hP := SqT.of (K := K) p2
      refine xs_if (b := fewer (b, k)) (xa_or (a := b) (by
        have h := xv_eq (xv_ixT (K := K) (i := 0) (v := .str (mvS b)) (val_var (σ := [some (.ref a), some (.ref x), some (.ref g), some (.ref ha), some (.ref ga), some (.ref t), some (.ref le), some (.int ((((log.take i).filter fewer).length : Nat) : Int)), some (.ref p'), none]) (i := 8) rfl) val_c hP (by rfl)) (val_c (H := H') (v := V.str "join")) (by rfl)
        rw [show decide (V.str (mvS b) = V.str "join") = b from by cases b <;> decide +kernel] at h
        exact xa_T h) fun _ => xa_T (xv_to (xv_eq (xv_ixT (i := 1) (v := .int (k : Int)) (val_var rfl) val_c hP (by rfl)) val_c rfl) (by
          congr 1
          exact decide_eq_decide.mpr ⟨fun e => by have := V.int.inj e; omega, fun e => by rw [show k = 0 from e]; rfl⟩))) (fun hc => ?_) (fun hc => ?_)
      · refine st_set (xv_I0 (val_var rfl) val_c) ⟨e, some (.ref p'), ?_⟩
        rw [htk, List.filter_append, List.length_append, List.filter_cons, if_pos hc]
        rfl
      · refine ⟨e, some (.ref p'), ?_⟩
        rw [htk, List.filter_append, List.length_append, List.filter_cons, if_neg (by rw [hc]; decide)]
        rfl
    · rintro σ H' e ⟨y, rfl⟩
      rw [List.length_map, hq.len, List.take_length]
      have vs : ∀ {σ : L2.St} {ta : TE} {b : Addr} {ys : List Int}, Val ta σ H' (.ref b) → SqL K H' b (ys.map V.int) → Val (tCB (rSum K) (tCons ta tNil)) σ H' (.int ys.sum) := fun h hS => xv_cb (xg_cons h xg_nil) fun Q q => ⟨_, _, rfl, hS, q⟩
      refine st_ret (xv_and (a := true) (b := true) (xv_to (xv_eq (xv_I0 (vs (val_var rfl) (e.seq hx8)) (vs (val_var rfl) (e.seq hE))) (val_var rfl) rfl) (by
        rw [one_sum, one_sum] at hfew
        rw [hfew, decide_eq_true rfl])) fun _ => xv_to (xv_eq (xv_weight (xv_ixT (i := 0) (val_var rfl) val_c (Evl.ex_t e hT8) rfl) (e.seq hC8) sm1) (xv_weight (val_var rfl) (e.seq hx8) sm0) rfl) (by
        rw [show wt (endOf xs log) = wt xs from L.wt, decide_eq_true rfl])) (q H')
end
theorem all_mk {l : PySem.W.OpenLaw} {w : World} {K : PySem.W.Frag} {h : Heap} {mg : Str → Option Value} {fa : Addr} (X : K.In h) (G : h.Ns mainGlobals mg) (hfa : mg "law" = some (.ref fa))
    {C_StairError : Addr} (a_StairError : PySem.W.nsIn K mainGlobals "StairError" = some (some (.ref C_StairError)))
    (k_StairError : PySem.W.keepIn K (.ref C_StairError) = true) (x_StairError : PySem.W.excIn K C_StairError [.type "ValueError", .type "Exception", .type "BaseException", .type "object"] "ValueError.__new__" = true) (xb_StairError : PySem.W.subIn K (.ref C_StairError) (.type "BaseException") = some true) (xt_StairError : PySem.W.typeIn K (.ref C_StairError) = some (.type "type"))
    {C_NoMove : Addr} (a_NoMove : PySem.W.nsIn K mainGlobals "NoMove" = some (some (.ref C_NoMove)))
    (k_NoMove : PySem.W.keepIn K (.ref C_NoMove) = true) (x_NoMove : PySem.W.excIn K C_NoMove [.type "ValueError", .type "Exception", .type "BaseException", .type "object"] "ValueError.__new__" = true) (xb_NoMove : PySem.W.subIn K (.ref C_NoMove) (.type "BaseException") = some true) (xt_NoMove : PySem.W.typeIn K (.ref C_NoMove) = some (.type "type"))
    {f_fits : Addr} (a_fits : PySem.W.nsIn K mainGlobals "fits" = some (some (.ref f_fits)))
    {od_fits an_fits : Option Addr} {sl_fits : Array (Option Value)} {oc_fits kV_fits dc_fits pm_fits cd_fits ct_fits : Value} (l_fits : K.lookup f_fits = some ⟨oc_fits, od_fits, .func (PySem.W.fnOf "fits" "fits" (defArgs st_fits) (defBody st_fits) (defScope st_fits) .none kV_fits dc_fits pm_fits an_fits cd_fits ct_fits), sl_fits⟩) (c_fits : PySem.W.codeIn K cd_fits "fits" = true) (k_fits : PySem.W.keepIn K (.ref f_fits) = true)
    {f_moves : Addr} (a_moves : PySem.W.nsIn K mainGlobals "moves" = some (some (.ref f_moves)))
    {od_moves an_moves : Option Addr} {sl_moves : Array (Option Value)} {oc_moves kV_moves dc_moves pm_moves cd_moves ct_moves : Value} (l_moves : K.lookup f_moves = some ⟨oc_moves, od_moves, .func (PySem.W.fnOf "moves" "moves" (defArgs st_moves) (defBody st_moves) (defScope st_moves) .none kV_moves dc_moves pm_moves an_moves cd_moves ct_moves), sl_moves⟩) (c_moves : PySem.W.codeIn K cd_moves "moves" = true) (k_moves : PySem.W.keepIn K (.ref f_moves) = true)
    {f_bare : Addr} (a_bare : PySem.W.nsIn K mainGlobals "bare" = some (some (.ref f_bare)))
    {od_bare an_bare : Option Addr} {sl_bare : Array (Option Value)} {oc_bare kV_bare dc_bare pm_bare cd_bare ct_bare : Value} (l_bare : K.lookup f_bare = some ⟨oc_bare, od_bare, .func (PySem.W.fnOf "bare" "bare" (defArgs st_bare) (defBody st_bare) (defScope st_bare) .none kV_bare dc_bare pm_bare an_bare cd_bare ct_bare), sl_bare⟩) (c_bare : PySem.W.codeIn K cd_bare "bare" = true) (k_bare : PySem.W.keepIn K (.ref f_bare) = true)
    {f_done : Addr} (a_done : PySem.W.nsIn K mainGlobals "done" = some (some (.ref f_done)))
    {od_done an_done : Option Addr} {sl_done : Array (Option Value)} {oc_done kV_done dc_done pm_done cd_done ct_done : Value} (l_done : K.lookup f_done = some ⟨oc_done, od_done, .func (PySem.W.fnOf "done" "done" (defArgs st_done) (defBody st_done) (defScope st_done) .none kV_done dc_done pm_done an_done cd_done ct_done), sl_done⟩) (c_done : PySem.W.codeIn K cd_done "done" = true) (k_done : PySem.W.keepIn K (.ref f_done) = true)
    {f_picked : Addr} (a_picked : PySem.W.nsIn K mainGlobals "picked" = some (some (.ref f_picked)))
    {od_picked an_picked : Option Addr} {sl_picked : Array (Option Value)} {oc_picked kV_picked dc_picked pm_picked cd_picked ct_picked : Value} (l_picked : K.lookup f_picked = some ⟨oc_picked, od_picked, .func (PySem.W.fnOf "picked" "picked" (defArgs st_picked) (defBody st_picked) (defScope st_picked) .none kV_picked dc_picked pm_picked an_picked cd_picked ct_picked), sl_picked⟩) (c_picked : PySem.W.codeIn K cd_picked "picked" = true) (k_picked : PySem.W.keepIn K (.ref f_picked) = true)
    {f_carried : Addr} (a_carried : PySem.W.nsIn K mainGlobals "carried" = some (some (.ref f_carried)))
    {t_carried : Addr}
    {od_carried an_carried : Option Addr} {sl_carried : Array (Option Value)} {oc_carried kV_carried dc_carried pm_carried cd_carried ct_carried : Value} (l_carried : K.lookup f_carried = some ⟨oc_carried, od_carried, .func (PySem.W.fnOf "carried" "carried" (defArgs st_carried) (defBody st_carried) (defScope st_carried) (.ref t_carried) kV_carried dc_carried pm_carried an_carried cd_carried ct_carried), sl_carried⟩) (c_carried : PySem.W.codeIn K cd_carried "carried" = true) (k_carried : PySem.W.keepIn K (.ref f_carried) = true)
    {oc2_carried : Value} {od2_carried : Option Addr} {n2_carried : Nat} {sl2_carried : Array (Option Value)} (t2_carried : K.lookup t_carried = some ⟨oc2_carried, od2_carried, .seq #[.none] n2_carried, sl2_carried⟩)
    {f_l_cell_at : Addr} (a_l_cell_at : PySem.W.nsIn K mainGlobals "_law_cell_at" = some (some (.ref f_l_cell_at)))
    {od_l_cell_at an_l_cell_at : Option Addr} {sl_l_cell_at : Array (Option Value)} {oc_l_cell_at kV_l_cell_at dc_l_cell_at pm_l_cell_at cd_l_cell_at ct_l_cell_at : Value} (l_l_cell_at : K.lookup f_l_cell_at = some ⟨oc_l_cell_at, od_l_cell_at, .func (PySem.W.fnOf "_law_cell_at" "_law_cell_at" (defArgs st_l_cell_at) (defBody st_l_cell_at) (defScope st_l_cell_at) .none kV_l_cell_at dc_l_cell_at pm_l_cell_at an_l_cell_at cd_l_cell_at ct_l_cell_at), sl_l_cell_at⟩) (c_l_cell_at : PySem.W.codeIn K cd_l_cell_at "_law_cell_at" = true) (k_l_cell_at : PySem.W.keepIn K (.ref f_l_cell_at) = true)
    {f_l_whole : Addr} (a_l_whole : PySem.W.nsIn K mainGlobals "_law_whole" = some (some (.ref f_l_whole)))
    {od_l_whole an_l_whole : Option Addr} {sl_l_whole : Array (Option Value)} {oc_l_whole kV_l_whole dc_l_whole pm_l_whole cd_l_whole ct_l_whole : Value} (l_l_whole : K.lookup f_l_whole = some ⟨oc_l_whole, od_l_whole, .func (PySem.W.fnOf "_law_whole" "_law_whole" (defArgs st_l_whole) (defBody st_l_whole) (defScope st_l_whole) .none kV_l_whole dc_l_whole pm_l_whole an_l_whole cd_l_whole ct_l_whole), sl_l_whole⟩) (c_l_whole : PySem.W.codeIn K cd_l_whole "_law_whole" = true) (k_l_whole : PySem.W.keepIn K (.ref f_l_whole) = true)
    {f_l_bare : Addr} (a_l_bare : PySem.W.nsIn K mainGlobals "_law_bare" = some (some (.ref f_l_bare)))
    {od_l_bare an_l_bare : Option Addr} {sl_l_bare : Array (Option Value)} {oc_l_bare kV_l_bare dc_l_bare pm_l_bare cd_l_bare ct_l_bare : Value} (l_l_bare : K.lookup f_l_bare = some ⟨oc_l_bare, od_l_bare, .func (PySem.W.fnOf "_law_bare" "_law_bare" (defArgs st_l_bare) (defBody st_l_bare) (defScope st_l_bare) .none kV_l_bare dc_l_bare pm_l_bare an_l_bare cd_l_bare ct_l_bare), sl_l_bare⟩) (c_l_bare : PySem.W.codeIn K cd_l_bare "_law_bare" = true) (k_l_bare : PySem.W.keepIn K (.ref f_l_bare) = true)
    {f_l_moves : Addr} (a_l_moves : PySem.W.nsIn K mainGlobals "_law_moves" = some (some (.ref f_l_moves)))
    {od_l_moves an_l_moves : Option Addr} {sl_l_moves : Array (Option Value)} {oc_l_moves kV_l_moves dc_l_moves pm_l_moves cd_l_moves ct_l_moves : Value} (l_l_moves : K.lookup f_l_moves = some ⟨oc_l_moves, od_l_moves, .func (PySem.W.fnOf "_law_moves" "_law_moves" (defArgs st_l_moves) (defBody st_l_moves) (defScope st_l_moves) .none kV_l_moves dc_l_moves pm_l_moves an_l_moves cd_l_moves ct_l_moves), sl_l_moves⟩) (c_l_moves : PySem.W.codeIn K cd_l_moves "_law_moves" = true) (k_l_moves : PySem.W.keepIn K (.ref f_l_moves) = true)
    {f_l_done : Addr} (a_l_done : PySem.W.nsIn K mainGlobals "_law_done" = some (some (.ref f_l_done)))
    {od_l_done an_l_done : Option Addr} {sl_l_done : Array (Option Value)} {oc_l_done kV_l_done dc_l_done pm_l_done cd_l_done ct_l_done : Value} (l_l_done : K.lookup f_l_done = some ⟨oc_l_done, od_l_done, .func (PySem.W.fnOf "_law_done" "_law_done" (defArgs st_l_done) (defBody st_l_done) (defScope st_l_done) .none kV_l_done dc_l_done pm_l_done an_l_done cd_l_done ct_l_done), sl_l_done⟩) (c_l_done : PySem.W.codeIn K cd_l_done "_law_done" = true) (k_l_done : PySem.W.keepIn K (.ref f_l_done) = true)
    {f_l_is_move : Addr} (a_l_is_move : PySem.W.nsIn K mainGlobals "_law_is_move" = some (some (.ref f_l_is_move)))
    {od_l_is_move an_l_is_move : Option Addr} {sl_l_is_move : Array (Option Value)} {oc_l_is_move kV_l_is_move dc_l_is_move pm_l_is_move cd_l_is_move ct_l_is_move : Value} (l_l_is_move : K.lookup f_l_is_move = some ⟨oc_l_is_move, od_l_is_move, .func (PySem.W.fnOf "_law_is_move" "_law_is_move" (defArgs st_l_is_move) (defBody st_l_is_move) (defScope st_l_is_move) .none kV_l_is_move dc_l_is_move pm_l_is_move an_l_is_move cd_l_is_move ct_l_is_move), sl_l_is_move⟩) (c_l_is_move : PySem.W.codeIn K cd_l_is_move "_law_is_move" = true) (k_l_is_move : PySem.W.keepIn K (.ref f_l_is_move) = true)
    {f_l_alike : Addr} (a_l_alike : PySem.W.nsIn K mainGlobals "_law_alike" = some (some (.ref f_l_alike)))
    {od_l_alike an_l_alike : Option Addr} {sl_l_alike : Array (Option Value)} {oc_l_alike kV_l_alike dc_l_alike pm_l_alike cd_l_alike ct_l_alike : Value} (l_l_alike : K.lookup f_l_alike = some ⟨oc_l_alike, od_l_alike, .func (PySem.W.fnOf "_law_alike" "_law_alike" (defArgs st_l_alike) (defBody st_l_alike) (defScope st_l_alike) .none kV_l_alike dc_l_alike pm_l_alike an_l_alike cd_l_alike ct_l_alike), sl_l_alike⟩) (c_l_alike : PySem.W.codeIn K cd_l_alike "_law_alike" = true) (k_l_alike : PySem.W.keepIn K (.ref f_l_alike) = true)
    {f_l_stream : Addr} (a_l_stream : PySem.W.nsIn K mainGlobals "_law_stream" = some (some (.ref f_l_stream)))
    {od_l_stream an_l_stream : Option Addr} {sl_l_stream : Array (Option Value)} {oc_l_stream kV_l_stream dc_l_stream pm_l_stream cd_l_stream ct_l_stream : Value} (l_l_stream : K.lookup f_l_stream = some ⟨oc_l_stream, od_l_stream, .func (PySem.W.fnOf "_law_stream" "_law_stream" (defArgs st_l_stream) (defBody st_l_stream) (defScope st_l_stream) .none kV_l_stream dc_l_stream pm_l_stream an_l_stream cd_l_stream ct_l_stream), sl_l_stream⟩) (c_l_stream : PySem.W.codeIn K cd_l_stream "_law_stream" = true) (k_l_stream : PySem.W.keepIn K (.ref f_l_stream) = true)
    {f_l_weight : Addr} (a_l_weight : PySem.W.nsIn K mainGlobals "_law_weight" = some (some (.ref f_l_weight)))
    {od_l_weight an_l_weight : Option Addr} {sl_l_weight : Array (Option Value)} {oc_l_weight kV_l_weight dc_l_weight pm_l_weight cd_l_weight ct_l_weight : Value} (l_l_weight : K.lookup f_l_weight = some ⟨oc_l_weight, od_l_weight, .func (PySem.W.fnOf "_law_weight" "_law_weight" (defArgs st_l_weight) (defBody st_l_weight) (defScope st_l_weight) .none kV_l_weight dc_l_weight pm_l_weight an_l_weight cd_l_weight ct_l_weight), sl_l_weight⟩) (c_l_weight : PySem.W.codeIn K cd_l_weight "_law_weight" = true) (k_l_weight : PySem.W.keepIn K (.ref f_l_weight) = true)
    {f_l_heap : Addr} (a_l_heap : PySem.W.nsIn K mainGlobals "_law_heap" = some (some (.ref f_l_heap)))
    {od_l_heap an_l_heap : Option Addr} {sl_l_heap : Array (Option Value)} {oc_l_heap kV_l_heap dc_l_heap pm_l_heap cd_l_heap ct_l_heap : Value} (l_l_heap : K.lookup f_l_heap = some ⟨oc_l_heap, od_l_heap, .func (PySem.W.fnOf "_law_heap" "_law_heap" (defArgs st_l_heap) (defBody st_l_heap) (defScope st_l_heap) .none kV_l_heap dc_l_heap pm_l_heap an_l_heap cd_l_heap ct_l_heap), sl_l_heap⟩) (c_l_heap : PySem.W.codeIn K cd_l_heap "_law_heap" = true) (k_l_heap : PySem.W.keepIn K (.ref f_l_heap) = true)
    {f_l_asked : Addr} (a_l_asked : PySem.W.nsIn K mainGlobals "_law_asked" = some (some (.ref f_l_asked)))
    {od_l_asked an_l_asked : Option Addr} {sl_l_asked : Array (Option Value)} {oc_l_asked kV_l_asked dc_l_asked pm_l_asked cd_l_asked ct_l_asked : Value} (l_l_asked : K.lookup f_l_asked = some ⟨oc_l_asked, od_l_asked, .func (PySem.W.fnOf "_law_asked" "_law_asked" (defArgs st_l_asked) (defBody st_l_asked) (defScope st_l_asked) .none kV_l_asked dc_l_asked pm_l_asked an_l_asked cd_l_asked ct_l_asked), sl_l_asked⟩) (c_l_asked : PySem.W.codeIn K cd_l_asked "_law_asked" = true) (k_l_asked : PySem.W.keepIn K (.ref f_l_asked) = true)
    {f_l_bound : Addr} (a_l_bound : PySem.W.nsIn K mainGlobals "_law_bound" = some (some (.ref f_l_bound)))
    {od_l_bound an_l_bound : Option Addr} {sl_l_bound : Array (Option Value)} {oc_l_bound kV_l_bound dc_l_bound pm_l_bound cd_l_bound ct_l_bound : Value} (l_l_bound : K.lookup f_l_bound = some ⟨oc_l_bound, od_l_bound, .func (PySem.W.fnOf "_law_bound" "_law_bound" (defArgs st_l_bound) (defBody st_l_bound) (defScope st_l_bound) .none kV_l_bound dc_l_bound pm_l_bound an_l_bound cd_l_bound ct_l_bound), sl_l_bound⟩) (c_l_bound : PySem.W.codeIn K cd_l_bound "_law_bound" = true) (k_l_bound : PySem.W.keepIn K (.ref f_l_bound) = true)
    {f_l_walked : Addr} (a_l_walked : PySem.W.nsIn K mainGlobals "_law_walked" = some (some (.ref f_l_walked)))
    {od_l_walked an_l_walked : Option Addr} {sl_l_walked : Array (Option Value)} {oc_l_walked kV_l_walked dc_l_walked pm_l_walked cd_l_walked ct_l_walked : Value} (l_l_walked : K.lookup f_l_walked = some ⟨oc_l_walked, od_l_walked, .func (PySem.W.fnOf "_law_walked" "_law_walked" (defArgs st_l_walked) (defBody st_l_walked) (defScope st_l_walked) .none kV_l_walked dc_l_walked pm_l_walked an_l_walked cd_l_walked ct_l_walked), sl_l_walked⟩) (c_l_walked : PySem.W.codeIn K cd_l_walked "_law_walked" = true) (k_l_walked : PySem.W.keepIn K (.ref f_l_walked) = true)
    {f_law : Addr} (a_law : PySem.W.nsIn K mainGlobals "law" = some (some (.ref f_law)))
    {od_law an_law : Option Addr} {sl_law : Array (Option Value)} {oc_law kV_law dc_law pm_law cd_law ct_law : Value} (l_law : K.lookup f_law = some ⟨oc_law, od_law, .func (PySem.W.fnOf "law" "law" (defArgs st_law) (defBody st_law) (defScope st_law) .none kV_law dc_law pm_law an_law cd_law ct_law), sl_law⟩) (c_law : PySem.W.codeIn K cd_law "law" = true) (k_law : PySem.W.keepIn K (.ref f_law) = true)
    (z_len : PySem.W.nsIn K mainGlobals "len" = some none)
    (z_range : PySem.W.nsIn K mainGlobals "range" = some none)
    (z_list : PySem.W.nsIn K mainGlobals "list" = some none)
    (z_isinstance : PySem.W.nsIn K mainGlobals "isinstance" = some none)
    (z_int : PySem.W.nsIn K mainGlobals "int" = some none)
    (z_bool : PySem.W.nsIn K mainGlobals "bool" = some none)
    (z_tuple : PySem.W.nsIn K mainGlobals "tuple" = some none)
    (z_str : PySem.W.nsIn K mainGlobals "str" = some none)
    (z_sum : PySem.W.nsIn K mainGlobals "sum" = some none) :
    ∃ fd : FuncData, (∀ (s : Shared) (v : Value), BindsTo s fd ⟨[v], []⟩ [("_law_script", v)]) ∧ ∀ base : Heap, K.In base → base.Ns mainGlobals mg → FnOk l.prog w K mg base CX0 5 fa fd ["_law_script"] (sp_law K) := by
  have e := hfa.symm.trans (PySem.W.mg_of X G a_law)
  cases e
  let T : Txt K mg := { C_StairError := C_StairError, g_StairError := PySem.W.mg_of X G a_StairError, k_StairError := k_StairError, x_StairError := x_StairError, xb_StairError := xb_StairError, xt_StairError := xt_StairError, C_NoMove := C_NoMove, g_NoMove := PySem.W.mg_of X G a_NoMove, k_NoMove := k_NoMove, x_NoMove := x_NoMove, xb_NoMove := xb_NoMove, xt_NoMove := xt_NoMove, f_fits := f_fits, d_fits := _, F_fits := fun_mk (st := st_fits) l_fits c_fits k_fits, g_fits := PySem.W.mg_of X G a_fits, b_fits := (fun_mk (st := st_fits) l_fits c_fits k_fits).binds (ps := ["heap", "move"]) (fun _ _ _ _ _ _ us hl => match us, hl with | [_, _], _ => rfl), f_moves := f_moves, d_moves := _, F_moves := fun_mk (st := st_moves) l_moves c_moves k_moves, g_moves := PySem.W.mg_of X G a_moves, b_moves := (fun_mk (st := st_moves) l_moves c_moves k_moves).binds (ps := ["heap"]) (fun _ _ _ _ _ _ us hl => match us, hl with | [_], _ => rfl), f_bare := f_bare, d_bare := _, F_bare := fun_mk (st := st_bare) l_bare c_bare k_bare, g_bare := PySem.W.mg_of X G a_bare, b_bare := (fun_mk (st := st_bare) l_bare c_bare k_bare).binds (ps := ["counts"]) (fun _ _ _ _ _ _ us hl => match us, hl with | [_], _ => rfl), f_done := f_done, d_done := _, F_done := fun_mk (st := st_done) l_done c_done k_done, g_done := PySem.W.mg_of X G a_done, b_done := (fun_mk (st := st_done) l_done c_done k_done).binds (ps := ["heap", "move"]) (fun _ _ _ _ _ _ us hl => match us, hl with | [_, _], _ => rfl), f_picked := f_picked, d_picked := _, F_picked := fun_mk (st := st_picked) l_picked c_picked k_picked, g_picked := PySem.W.mg_of X G a_picked, b_picked := (fun_mk (st := st_picked) l_picked c_picked k_picked).binds (ps := ["able", "picks", "many"]) (fun _ _ _ _ _ _ us hl => match us, hl with | [_, _, _], _ => rfl), f_carried := f_carried, d_carried := _, F_carried := (⟨⟨_, _, _, _, _, _, _, _, _, _, rfl, l_carried, c_carried, .inr ⟨by decide, t_carried, _, [.none], n2_carried, rfl, t2_carried, rfl, .cons rfl (.nil)⟩, .inl rfl⟩, k_carried⟩ : FunD K "carried" "carried" (defArgs st_carried) (defBody st_carried) (defScope st_carried) [V.non] [] f_carried _), g_carried := PySem.W.mg_of X G a_carried, b0_carried := (⟨⟨_, _, _, _, _, _, _, _, _, _, rfl, l_carried, c_carried, .inr ⟨by decide, t_carried, _, [.none], n2_carried, rfl, t2_carried, rfl, .cons rfl (.nil)⟩, .inl rfl⟩, k_carried⟩ : FunD K "carried" "carried" (defArgs st_carried) (defBody st_carried) (defScope st_carried) [V.non] [] f_carried _).binds1 1 0 (by decide) rfl (fun _ _ _ _ _ _ _ us its e1 e2 => match us, its, e1, e2 with | [_], [_], _, _ => ⟨_, rfl, rfl⟩), b1_carried := (⟨⟨_, _, _, _, _, _, _, _, _, _, rfl, l_carried, c_carried, .inr ⟨by decide, t_carried, _, [.none], n2_carried, rfl, t2_carried, rfl, .cons rfl (.nil)⟩, .inl rfl⟩, k_carried⟩ : FunD K "carried" "carried" (defArgs st_carried) (defBody st_carried) (defScope st_carried) [V.non] [] f_carried _).binds1 2 1 (by decide) rfl (fun _ _ _ _ _ _ _ us its e1 e2 => match us, its, e1, e2 with | [_, _], [_], _, _ => ⟨_, rfl, rfl⟩), f_l_cell_at := f_l_cell_at, d_l_cell_at := _, F_l_cell_at := fun_mk (st := st_l_cell_at) l_l_cell_at c_l_cell_at k_l_cell_at, g_l_cell_at := PySem.W.mg_of X G a_l_cell_at, b_l_cell_at := (fun_mk (st := st_l_cell_at) l_l_cell_at c_l_cell_at k_l_cell_at).binds (ps := ["_law_script", "_law_k"]) (fun _ _ _ _ _ _ us hl => match us, hl with | [_, _], _ => rfl), f_l_whole := f_l_whole, d_l_whole := _, F_l_whole := fun_mk (st := st_l_whole) l_l_whole c_l_whole k_l_whole, g_l_whole := PySem.W.mg_of X G a_l_whole, b_l_whole := (fun_mk (st := st_l_whole) l_l_whole c_l_whole k_l_whole).binds (ps := ["_law_found"]) (fun _ _ _ _ _ _ us hl => match us, hl with | [_], _ => rfl), f_l_bare := f_l_bare, d_l_bare := _, F_l_bare := fun_mk (st := st_l_bare) l_l_bare c_l_bare k_l_bare, g_l_bare := PySem.W.mg_of X G a_l_bare, b_l_bare := (fun_mk (st := st_l_bare) l_l_bare c_l_bare k_l_bare).binds (ps := ["_law_heap_here"]) (fun _ _ _ _ _ _ us hl => match us, hl with | [_], _ => rfl), f_l_moves := f_l_moves, d_l_moves := _, F_l_moves := fun_mk (st := st_l_moves) l_l_moves c_l_moves k_l_moves, g_l_moves := PySem.W.mg_of X G a_l_moves, b_l_moves := (fun_mk (st := st_l_moves) l_l_moves c_l_moves k_l_moves).binds (ps := ["_law_heap_here"]) (fun _ _ _ _ _ _ us hl => match us, hl with | [_], _ => rfl), f_l_done := f_l_done, d_l_done := _, F_l_done := fun_mk (st := st_l_done) l_l_done c_l_done k_l_done, g_l_done := PySem.W.mg_of X G a_l_done, b_l_done := (fun_mk (st := st_l_done) l_l_done c_l_done k_l_done).binds (ps := ["_law_heap_here", "_law_move"]) (fun _ _ _ _ _ _ us hl => match us, hl with | [_, _], _ => rfl), f_l_is_move := f_l_is_move, d_l_is_move := _, F_l_is_move := fun_mk (st := st_l_is_move) l_l_is_move c_l_is_move k_l_is_move, g_l_is_move := PySem.W.mg_of X G a_l_is_move, b_l_is_move := (fun_mk (st := st_l_is_move) l_l_is_move c_l_is_move k_l_is_move).binds (ps := ["_law_found"]) (fun _ _ _ _ _ _ us hl => match us, hl with | [_], _ => rfl), f_l_alike := f_l_alike, d_l_alike := _, F_l_alike := fun_mk (st := st_l_alike) l_l_alike c_l_alike k_l_alike, g_l_alike := PySem.W.mg_of X G a_l_alike, b_l_alike := (fun_mk (st := st_l_alike) l_l_alike c_l_alike k_l_alike).binds (ps := ["_law_found", "_law_heap_here"]) (fun _ _ _ _ _ _ us hl => match us, hl with | [_, _], _ => rfl), f_l_stream := f_l_stream, d_l_stream := _, F_l_stream := fun_mk (st := st_l_stream) l_l_stream c_l_stream k_l_stream, g_l_stream := PySem.W.mg_of X G a_l_stream, b_l_stream := (fun_mk (st := st_l_stream) l_l_stream c_l_stream k_l_stream).binds (ps := ["_law_cell", "_law_many"]) (fun _ _ _ _ _ _ us hl => match us, hl with | [_, _], _ => rfl), f_l_weight := f_l_weight, d_l_weight := _, F_l_weight := fun_mk (st := st_l_weight) l_l_weight c_l_weight k_l_weight, g_l_weight := PySem.W.mg_of X G a_l_weight, b_l_weight := (fun_mk (st := st_l_weight) l_l_weight c_l_weight k_l_weight).binds (ps := ["_law_heap_here"]) (fun _ _ _ _ _ _ us hl => match us, hl with | [_], _ => rfl), f_l_heap := f_l_heap, d_l_heap := _, F_l_heap := fun_mk (st := st_l_heap) l_l_heap c_l_heap k_l_heap, g_l_heap := PySem.W.mg_of X G a_l_heap, b_l_heap := (fun_mk (st := st_l_heap) l_l_heap c_l_heap k_l_heap).binds (ps := ["_law_script"]) (fun _ _ _ _ _ _ us hl => match us, hl with | [_], _ => rfl), f_l_asked := f_l_asked, d_l_asked := _, F_l_asked := fun_mk (st := st_l_asked) l_l_asked c_l_asked k_l_asked, g_l_asked := PySem.W.mg_of X G a_l_asked, b_l_asked := (fun_mk (st := st_l_asked) l_l_asked c_l_asked k_l_asked).binds (ps := ["_law_script", "_law_heap_here", "_law_picks"]) (fun _ _ _ _ _ _ us hl => match us, hl with | [_, _, _], _ => rfl), f_l_bound := f_l_bound, d_l_bound := _, F_l_bound := fun_mk (st := st_l_bound) l_l_bound c_l_bound k_l_bound, g_l_bound := PySem.W.mg_of X G a_l_bound, b_l_bound := (fun_mk (st := st_l_bound) l_l_bound c_l_bound k_l_bound).binds (ps := ["_law_heap_here"]) (fun _ _ _ _ _ _ us hl => match us, hl with | [_], _ => rfl), f_l_walked := f_l_walked, d_l_walked := _, F_l_walked := fun_mk (st := st_l_walked) l_l_walked c_l_walked k_l_walked, g_l_walked := PySem.W.mg_of X G a_l_walked, b_l_walked := (fun_mk (st := st_l_walked) l_l_walked c_l_walked k_l_walked).binds (ps := ["_law_heap_here", "_law_log", "_law_picks"]) (fun _ _ _ _ _ _ us hl => match us, hl with | [_, _, _], _ => rfl), f_law := _, d_law := _, F_law := fun_mk (st := st_law) l_law c_law k_law, g_law := PySem.W.mg_of X G a_law, b_law := (fun_mk (st := st_law) l_law c_law k_law).binds (ps := ["_law_script"]) (fun _ _ _ _ _ _ us hl => match us, hl with | [_], _ => rfl), m_len := PySem.W.mg_none_of X G z_len, m_range := PySem.W.mg_none_of X G z_range, m_list := PySem.W.mg_none_of X G z_list, m_isinstance := PySem.W.mg_none_of X G z_isinstance, m_int := PySem.W.mg_none_of X G z_int, m_bool := PySem.W.mg_none_of X G z_bool, m_tuple := PySem.W.mg_none_of X G z_tuple, m_str := PySem.W.mg_none_of X G z_str, m_sum := PySem.W.mg_none_of X G z_sum }
  exact ⟨PySem.W.fnOf "law" "law" (defArgs st_law) (defBody st_law) (defScope st_law) .none kV_law dc_law pm_law an_law cd_law ct_law, fun s v => .of_eq rfl, fun base _ _ => ok_law T⟩
end K04
open PySem PySem.W PyProof.Rows
set_option maxHeartbeats 0 in
theorem PySem.Challenge.cw_shellstair_k04_carried_holds : PySem.Challenge.rw_shellstair_k04_carried.Holds := by
  w_on; o_law; k_head; (case hw => w_witness2)
  k_fill
  refine L2.walk_of (l := PySem.Challenge.rw_shellstair_k04_carried) (n := 63) (k := 5) (x := "_law_script") (CX := fun _ => L2.CX0) (sp := fun w => K04.sp_law _) rfl (by decide) rfl ⟨rfl, by decide, by decide⟩ (fun w h Y => PySem.W.kIn_of Y) ?F (fun _ _ a ns hl _ hS => ⟨a, ns, rfl, hS, hl, fun _ => rfl⟩) (fun _ _ _ _ _ h => h)
  case F =>
    intro w mg fa h KX G hmg
    refine' K04.all_mk KX G hmg ?a_StairError ?k_StairError ?x_StairError ?xb_StairError ?xt_StairError ?a_NoMove ?k_NoMove ?x_NoMove ?xb_NoMove ?xt_NoMove ?a_fits ?l_fits ?c_fits ?k_fits ?a_moves ?l_moves ?c_moves ?k_moves ?a_bare ?l_bare ?c_bare ?k_bare ?a_done ?l_done ?c_done ?k_done ?a_picked ?l_picked ?c_picked ?k_picked ?a_carried ?l_carried ?c_carried ?k_carried ?t2_carried ?a_l_cell_at ?l_l_cell_at ?c_l_cell_at ?k_l_cell_at ?a_l_whole ?l_l_whole ?c_l_whole ?k_l_whole ?a_l_bare ?l_l_bare ?c_l_bare ?k_l_bare ?a_l_moves ?l_l_moves ?c_l_moves ?k_l_moves ?a_l_done ?l_l_done ?c_l_done ?k_l_done ?a_l_is_move ?l_l_is_move ?c_l_is_move ?k_l_is_move ?a_l_alike ?l_l_alike ?c_l_alike ?k_l_alike ?a_l_stream ?l_l_stream ?c_l_stream ?k_l_stream ?a_l_weight ?l_l_weight ?c_l_weight ?k_l_weight ?a_l_heap ?l_l_heap ?c_l_heap ?k_l_heap ?a_l_asked ?l_l_asked ?c_l_asked ?k_l_asked ?a_l_bound ?l_l_bound ?c_l_bound ?k_l_bound ?a_l_walked ?l_l_walked ?c_l_walked ?k_l_walked ?a_law ?l_law ?c_law ?k_law ?z_len ?z_range ?z_list ?z_isinstance ?z_int ?z_bool ?z_tuple ?z_str ?z_sum
    (case a_StairError => k_is); (case k_StairError => k_is); (case x_StairError => k_exc); (case xb_StairError => k_is); (case xt_StairError => k_is); (case a_NoMove => k_is)
    (case k_NoMove => k_is); (case x_NoMove => k_exc); (case xb_NoMove => k_is); (case xt_NoMove => k_is); (case a_fits => k_is); (case l_fits => k_is)
    (case c_fits => k_is); (case k_fits => k_is); (case a_moves => k_is); (case l_moves => k_is); (case c_moves => k_is); (case k_moves => k_is)
    (case a_bare => k_is); (case l_bare => k_is); (case c_bare => k_is); (case k_bare => k_is); (case a_done => k_is); (case l_done => k_is)
    (case c_done => k_is); (case k_done => k_is); (case a_picked => k_is); (case l_picked => k_is); (case c_picked => k_is); (case k_picked => k_is)
    (case a_carried => k_is); (case l_carried => k_is); (case c_carried => k_is); (case k_carried => k_is); (case t2_carried => k_is); (case a_l_cell_at => k_is)
    (case l_l_cell_at => k_is); (case c_l_cell_at => k_is); (case k_l_cell_at => k_is); (case a_l_whole => k_is); (case l_l_whole => k_is); (case c_l_whole => k_is)
    (case k_l_whole => k_is); (case a_l_bare => k_is); (case l_l_bare => k_is); (case c_l_bare => k_is); (case k_l_bare => k_is); (case a_l_moves => k_is)
    (case l_l_moves => k_is); (case c_l_moves => k_is); (case k_l_moves => k_is); (case a_l_done => k_is); (case l_l_done => k_is); (case c_l_done => k_is)
    (case k_l_done => k_is); (case a_l_is_move => k_is); (case l_l_is_move => k_is); (case c_l_is_move => k_is); (case k_l_is_move => k_is); (case a_l_alike => k_is)
    (case l_l_alike => k_is); (case c_l_alike => k_is); (case k_l_alike => k_is); (case a_l_stream => k_is); (case l_l_stream => k_is); (case c_l_stream => k_is)
    (case k_l_stream => k_is); (case a_l_weight => k_is); (case l_l_weight => k_is); (case c_l_weight => k_is); (case k_l_weight => k_is); (case a_l_heap => k_is)
    (case l_l_heap => k_is); (case c_l_heap => k_is); (case k_l_heap => k_is); (case a_l_asked => k_is); (case l_l_asked => k_is); (case c_l_asked => k_is)
    (case k_l_asked => k_is); (case a_l_bound => k_is); (case l_l_bound => k_is); (case c_l_bound => k_is); (case k_l_bound => k_is); (case a_l_walked => k_is)
    (case l_l_walked => k_is); (case c_l_walked => k_is); (case k_l_walked => k_is); (case a_law => k_is); (case l_law => k_is); (case c_law => k_is)
    (case k_law => k_is); (case z_len => k_is); (case z_range => k_is); (case z_list => k_is); (case z_isinstance => k_is); (case z_int => k_is)
    (case z_bool => k_is); (case z_tuple => k_is); (case z_str => k_is); (case z_sum => k_is)
