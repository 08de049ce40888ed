import PyProof.Rows.All
import Wide.All
import OpenK.AllK
import Wide.FinOn
import HandS.ForMost
import HandS.ForExc
import HandS.Steps
import HandS.Evl
import HandS.Wide
import HandS.IsInst
import HandS.Style
import HandS.Defaults
import HandS.Deep
import HandS.ExcIs
import HandS.Rev
import PySem.Challenge.RW_shellstair_k06_whole_one_end
set_option Elab.async false
set_option linter.all false
set_option maxRecDepth 100000
set_option maxHeartbeats 1000000
namespace Sh
/-! the worth of a step, and weighted sums over a list of counts -/
def W : Nat → Int
  | 0 => 1
  | 1 => 2
  | n + 2 => W n + W (n + 1)
/-- f-weighted sum of the counts, the first one on step k -/
def S (f : Nat → Int) : Nat → List Int → Int
  | _, [] => 0
  | k, c :: r => c * f k + S f (k + 1) r
abbrev wt (xs : List Int) : Int := S W 0 xs
theorem W_pos : ∀ n, 0 < W n
  | 0 => by decide
  | 1 => by decide
  | n + 2 => by
    have h1 := W_pos n
    have h2 := W_pos (n + 1)
    show 0 < W n + W (n + 1)
    omega
theorem W_lt : ∀ n, W n < W (n + 1)
  | 0 => by decide
  | n + 1 => by
    have h1 := W_pos n
    show W (n + 1) < W n + W (n + 1)
    omega
theorem W_mono {i j : Nat} (h : i ≤ j) : W i ≤ W j := by
  induction j with
  | zero =>
    have : i = 0 := by omega
    subst this
    exact Int.le_refl _
  | succ j ih =>
    by_cases e : i = j + 1
    · subst e
      exact Int.le_refl _
    · have := ih (by omega)
      have := W_lt j
      omega
theorem W_ge : ∀ n : Nat, (n : Int) < W n
  | 0 => by decide
  | n + 1 => by
    have := W_ge n
    have := W_lt n
    omega
theorem W_bits : ∀ n, W n < 2 ^ (n + 1)
  | 0 => by decide
  | 1 => by decide
  | n + 2 => by
    have h1 := W_bits n
    have h2 := W_bits (n + 1)
    have e1 : (2 : Int) ^ (n + 2 + 1) = 4 * 2 ^ (n + 1) := by
      rw [Int.pow_succ, Int.pow_succ]
      omega
    have e2 : (2 : Int) ^ (n + 1 + 1) = 2 * 2 ^ (n + 1) := by rw [Int.pow_succ]; omega
    have h3 : (0 : Int) < 2 ^ (n + 1) := Int.pow_pos (by decide)
    show W n + W (n + 1) < 2 ^ (n + 2 + 1)
    rw [e2] at h2
    rw [e1]
    generalize (2 : Int) ^ (n + 1) = z at *
    omega
theorem W_bitsN (n : Nat) : (W n).natAbs < 2 ^ (n + 1) := by
  have h1 := W_bits n
  have h2 := W_pos n
  have e : ((2 ^ (n + 1) : Nat) : Int) = 2 ^ (n + 1) := by norm_cast
  omega
/-! sums -/
theorem S_nil (f : Nat → Int) (k : Nat) : S f k [] = 0 := rfl
theorem S_cons (f : Nat → Int) (k : Nat) (c : Int) (r : List Int) : S f k (c :: r) = c * f k + S f (k + 1) r := rfl
theorem S_append (f : Nat → Int) : ∀ (xs ys : List Int) (k : Nat), S f k (xs ++ ys) = S f k xs + S f (k + xs.length) ys
  | [], ys, k => by simp [S]
  | c :: r, ys, k => by
    have ih := S_append f r ys (k + 1)
    show c * f k + S f (k + 1) (r ++ ys) = c * f k + S f (k + 1) r + S f (k + (r.length + 1)) ys
    rw [ih, show k + 1 + r.length = k + (r.length + 1) by omega]
    omega
theorem S_one (f : Nat → Int) (k : Nat) (c : Int) : S f k [c] = c * f k := by simp [S]
theorem take_more {α : Type} {l : List α} {i : Nat} {x : α} (h : l[i]? = some x) : l.take (i + 1) = l.take i ++ [x] := by
  rw [List.take_succ, h]
  rfl
theorem S_take {f : Nat → Int} {xs : List Int} {i : Nat} {c : Int} (h : xs[i]? = some c) (k : Nat) : S f k (xs.take (i + 1)) = S f k (xs.take i) + c * f (k + i) := by
  have hl : i < xs.length := (List.getElem?_eq_some_iff.mp h).1
  rw [take_more h, S_append, S_one, List.length_take, Nat.min_eq_left (Nat.le_of_lt hl)]
theorem S_zeros (f : Nat → Int) : ∀ (n k : Nat), S f k (List.replicate n 0) = 0
  | 0, k => rfl
  | n + 1, k => by
    show 0 * f k + S f (k + 1) (List.replicate n 0) = 0
    rw [S_zeros f n, Int.zero_mul, Int.add_zero]
theorem S_nonneg {f : Nat → Int} (hf : ∀ k, 0 ≤ f k) : ∀ (xs : List Int) (k : Nat), (∀ x ∈ xs, 0 ≤ x) → 0 ≤ S f k xs
  | [], _, _ => Int.le_refl _
  | c :: r, k, h => by
    have h1 := S_nonneg hf r (k + 1) fun x hx => h x (List.mem_cons_of_mem _ hx)
    have h2 := Int.mul_nonneg (h c List.mem_cons_self) (hf k)
    show 0 ≤ c * f k + S f (k + 1) r
    omega
/-! 10 ** 60 -/
def T60 : Int := 10 ^ 60
theorem T60_eq : (10 : Int) ^ (60 : Int).toNat = T60 := by decide +kernel
theorem T60_pos : 0 < T60 := by decide +kernel
theorem T60_pos1 : 0 < T60 + 1 := by decide +kernel
theorem T60_bits : T60.natAbs < 2 ^ 200 := by decide +kernel
/-- a list that is no longer, no greater than a machine could not bear -/
structure Sm (ns : List Int) : Prop where
  len : ns.length ≤ 100000
  mag : ∀ x ∈ ns, x.natAbs < 2 ^ 1000
theorem small60 {x : Int} (h0 : 0 ≤ x) (h : x ≤ T60) : x.natAbs < 2 ^ 1000 := by
  have h1 := T60_bits
  have h2 : (2 : Nat) ^ 200 ≤ 2 ^ 1000 := by decide +kernel
  omega
/-! noughts at the end left out -/
def bare (xs : List Int) : List Int := (xs.reverse.dropWhile (· == 0)).reverse
theorem bare_zero (xs : List Int) : bare (xs ++ [0]) = bare xs := by
  unfold bare
  rw [List.reverse_append]
  rfl
theorem bare_snoc (xs : List Int) {c : Int} (h : c ≠ 0) : bare (xs ++ [c]) = xs ++ [c] := by
  unfold bare
  rw [List.reverse_append]
  show (List.dropWhile (· == 0) (c :: xs.reverse)).reverse = _
  rw [List.dropWhile_cons, if_neg (by simpa using h), List.reverse_cons, List.reverse_reverse]
theorem bare_nil : bare [] = [] := rfl
theorem snoc_of {α : Type} {xs : List α} (h : xs ≠ []) : ∃ ys c, xs = ys ++ [c] := ⟨xs.dropLast, xs.getLast h, (List.dropLast_concat_getLast h).symm⟩
/-- a list is its bare one and noughts -/
theorem bare_rest : ∀ (n : Nat) (xs : List Int), xs.length = n → ∃ k, xs = bare xs ++ List.replicate k 0
  | 0, xs, h => ⟨0, by rw [List.eq_nil_of_length_eq_zero h]; rfl⟩
  | n + 1, xs, h => by
    obtain ⟨ys, c, rfl⟩ := snoc_of (xs := xs) (by intro e; rw [e] at h; cases h)
    rw [List.length_append, List.length_singleton] at h
    by_cases hc : c = 0
    · subst hc
      obtain ⟨k, e⟩ := bare_rest n ys (by omega)
      refine ⟨k + 1, ?_⟩
      rw [bare_zero, List.replicate_succ', ← List.append_assoc, ← e]
    · refine ⟨0, ?_⟩
      rw [bare_snoc ys hc]
      simp
theorem bare_S (f : Nat → Int) (k : Nat) (xs : List Int) : S f k (bare xs) = S f k xs := by
  obtain ⟨n, e⟩ := bare_rest _ xs rfl
  have h := congrArg (S f k) e
  rw [S_append, S_zeros, Int.add_zero] at h
  exact h.symm
theorem bare_mem {xs : List Int} {x : Int} (h : x ∈ bare xs) : x ∈ xs := by
  obtain ⟨n, e⟩ := bare_rest _ xs rfl
  rw [e]
  exact List.mem_append_left _ h
theorem bare_len (xs : List Int) : (bare xs).length ≤ xs.length := by
  obtain ⟨n, e⟩ := bare_rest _ xs rfl
  have h := congrArg List.length e
  rw [List.length_append] at h
  omega
theorem bare_idem (xs : List Int) : bare (bare xs) = bare xs := by
  by_cases h : bare xs = []
  · rw [h]
    rfl
  · obtain ⟨ys, c, e⟩ := snoc_of h
    rw [e]
    refine bare_snoc ys ?_
    intro hc
    unfold bare at e
    have h2 := congrArg List.reverse e
    rw [List.reverse_reverse, List.reverse_append, List.reverse_singleton, List.singleton_append] at h2
    have h3 := List.head?_dropWhile_not (· == 0) xs.reverse
    rw [h2] at h3
    simp [hc] at h3
theorem getD_last (ys : List Int) (c : Int) : (ys ++ [c]).getD ((ys ++ [c]).length - 1) 0 = c := by
  rw [List.getD_eq_getElem?_getD, List.length_append, List.length_singleton, Nat.add_sub_cancel, List.getElem?_append_right (Nat.le_refl _), Nat.sub_self]
  rfl
theorem Sm.bare {xs : List Int} (h : Sm xs) : Sm (bare xs) := ⟨Nat.le_trans (bare_len xs) h.len, fun x hx => h.mag x (bare_mem hx)⟩
/-! still heaps: no step with two, no two neighbours (b: what lies beneath) -/
def stillB : Int → List Int → Bool
  | _, [] => true
  | b, m :: r => !(decide (1 < m) || (decide (0 < m) && decide (0 < b))) && stillB m r
theorem stillB_append : ∀ (xs ys : List Int) (b : Int), stillB b (xs ++ ys) = (stillB b xs && stillB (xs.getLastD b) ys)
  | [], ys, b => by simp [stillB]
  | m :: r, ys, b => by
    show (!(decide (1 < m) || (decide (0 < m) && decide (0 < b))) && stillB m (r ++ ys)) = (!(decide (1 < m) || (decide (0 < m) && decide (0 < b))) && stillB m r && stillB ((m :: r).getLastD b) ys)
    rw [stillB_append r ys m, Bool.and_assoc, List.getLastD_cons]
/-- what lies beneath step i -/
def prev (ns : List Int) (i : Nat) : Int := (ns.take i).getLastD 0
theorem prev_zero (ns : List Int) : prev ns 0 = 0 := by simp [prev]
theorem prev_succ {ns : List Int} {i : Nat} {m : Int} (h : ns[i]? = some m) : prev ns (i + 1) = m := by
  unfold prev
  rw [take_more h]
  simp
theorem stillB_take {ns : List Int} {i : Nat} {m : Int} (h : ns[i]? = some m) : stillB 0 (ns.take (i + 1)) = (stillB 0 (ns.take i) && !(decide (1 < m) || (decide (0 < m) && decide (0 < prev ns i)))) := by
  rw [take_more h, stillB_append]
  show (stillB 0 (ns.take i) && (!(decide (1 < m) || (decide (0 < m) && decide (0 < prev ns i))) && true)) = _
  rw [Bool.and_true]
theorem stillB_stop {ns : List Int} (i : Nat) (h : stillB 0 (ns.take i) = false) : stillB 0 ns = false := by
  have e : ns = ns.take i ++ ns.drop i := (List.take_append_drop i ns).symm
  rw [e, stillB_append, h, Bool.false_and]
theorem getD_of {ns : List Int} {i : Nat} {m : Int} (h : ns[i]? = some m) : ns.getD i 0 = m := by
  rw [List.getD_eq_getElem?_getD, h]
  rfl
theorem get_of {ns : List Int} {i : Nat} (h : i < ns.length) : ns[i]? = some (ns.getD i 0) := by
  rw [List.getD_eq_getElem?_getD, List.getElem?_eq_getElem h]
  rfl
end Sh

/-! Own words over the hand layer: what is evaluated without a change of the tracked heap (Val, Ans), loops with a word that stands over the entry's heap. -/
namespace Sh
open PySem PySem.Spec PyProof.Rows L2
section
variable {σ : L2.St} {H H0 H1 : Hp} {K : PySem.W.Frag} {ta tb tc te tl : TE} {tr : TA} {t u : TT} {x y z v : V} {vs : List V} {D : Ends} {ts tz tu : TS}
def Arg (ta : TA) (σ : L2.St) (H : Hp) (vs : List V) : Prop := ∀ Q : List V → Hp → Prop, Q vs H → ta σ H Q
theorem xg_nil : Arg tNil σ H [] := fun _ q => q
theorem xg_cons (h : Val te σ H v) (hr : Arg tr σ H vs) : Arg (tCons te tr) σ H (v :: vs) := fun _ q => h _ (hr _ q)
theorem xv_go {Q : VK} (h : Val te σ H v) (q : Q v H) : te σ H Q := h Q q
theorem xg_go {ta : TA} {Q : List V → Hp → Prop} (h : Arg ta σ H vs) (q : Q vs H) : ta σ H Q := h Q q
theorem xv_c {w : V} (e : v = w) : Val (tC v) σ H w := fun _ q => by
  subst e
  exact q
theorem xv_I0 {g : Int → Int → V} {i j : Int} (ha : Val ta σ H (.int i)) (hb : Val tb σ H (.int j)) : Val (tOp (rI0 g) ta tb) σ H (g i j) := val_op ha hb fun Q q => ⟨i, j, rfl, rfl, q⟩
theorem xv_I {C : Int → Int → Prop} {g : Int → Int → V} {i j : Int} (ha : Val ta σ H (.int i)) (hb : Val tb σ H (.int j)) (hc : C i j) : Val (tOp (rI C g) ta tb) σ H (g i j) := val_op ha hb fun Q q => ⟨i, j, rfl, rfl, hc, q⟩
theorem xv_U {g : Int → V} {i : Int} (ha : Val ta σ H (.int i)) : Val (tUn (rU g) ta) σ H (g i) := fun Q q => ha _ ⟨i, rfl, q⟩
theorem xv_eq (ha : Val ta σ H x) (hb : Val tb σ H y) (hs : scal x y = true) : Val (tOp rEq ta tb) σ H (.bl (decide (x = y))) := val_op ha hb fun Q q => ⟨hs, q⟩
theorem xv_ne (ha : Val ta σ H x) (hb : Val tb σ H y) (hs : scal x y = true) : Val (tOp rNe ta tb) σ H (.bl (!decide (x = y))) := val_op ha hb fun Q q => ⟨hs, q⟩
theorem xv_to {w : V} (h : Val te σ H v) (e : v = w) : Val te σ H w := e ▸ h
/-- len of a list -/
abbrev rLenQ (K : PySem.W.Frag) : List V → Hp → VK → Prop := fun xs H Q => ∃ p ys, xs = [.ref p] ∧ (SqL K H p ys ∨ SqT K H p ys) ∧ Q (.int ys.length) H
theorem xv_len {p : Addr} {xs : List V} (ha : Val ta σ H (.ref p)) (h : SqL K H p xs) : Val (tCB (rLenQ K) (tCons ta tNil)) σ H (.int (xs.length : Int)) := fun Q q => ha _ ⟨p, xs, rfl, .inl h, q⟩
theorem xv_lenI {p : Addr} {ns : List Int} (ha : Val ta σ H (.ref p)) (h : SqL K H p (ns.map V.int)) : Val (tCB (rLenQ K) (tCons ta tNil)) σ H (.int (ns.length : Int)) := fun Q q => ha _ ⟨p, _, rfl, .inl h, by rw [List.length_map]; exact q⟩
theorem xv_cb {r : List V → Hp → VK → Prop} {ta : TA} (h : Arg ta σ H vs) (hr : ∀ Q : VK, Q v H → r vs H Q) : Val (tCB r ta) σ H v := fun Q q => h _ (hr Q q)
/-- an int of a list at a place -/
theorem atI_int {ns : List Int} {i : Int} (h0 : 0 ≤ i) (h1 : i < ns.length) : atI (ns.map V.int) i = some (.int (ns.getD i.toNat 0)) := by
  obtain ⟨n, rfl⟩ := Int.eq_ofNat_of_zero_le h0
  have hn : n < ns.length := by omega
  refine atI_nat ?_
  rw [List.getElem?_map, List.getD_eq_getElem?_getD]
  show Option.map V.int ns[n]? = some (V.int (ns[n]?.getD 0))
  rw [List.getElem?_eq_getElem hn]
  rfl
theorem xv_ix {p : Addr} {ns : List Int} {i : Int} (ha : Val ta σ H (.ref p)) (hb : Val tb σ H (.int i)) (h : SqL K H p (ns.map V.int)) (h0 : 0 ≤ i) (h1 : i < ns.length) : Val (tOp (rIxL K) ta tb) σ H (.int (ns.getD i.toNat 0)) :=
  val_op ha hb fun Q q => ⟨p, _, i, _, rfl, rfl, h, atI_int h0 h1, q⟩
theorem xv_ixV {p : Addr} {xs : List V} {i : Int} (ha : Val ta σ H (.ref p)) (hb : Val tb σ H (.int i)) (h : SqL K H p xs) (hv : atI xs i = some v) : Val (tOp (rIxL K) ta tb) σ H v :=
  val_op ha hb fun Q q => ⟨p, _, i, _, rfl, rfl, h, hv, q⟩
theorem xv_ixT {p : Addr} {xs : List V} {i : Int} (ha : Val ta σ H (.ref p)) (hb : Val tb σ H (.int i)) (h : SqT K H p xs) (hv : atI xs i = some v) : Val (tOp (rIxT K) ta tb) σ H v :=
  val_op ha hb fun Q q => ⟨p, _, i, _, rfl, rfl, h, hv, q⟩
/-- a def whose promise gives a value and leaves the heap -/
theorem xv_call {sp : Sp} {E : XK} (h : Arg tr σ H vs) (hs : ∀ Q : VK, Q v H → sp (vs ++ []) H Q E) : Val (tCall sp [] E tr) σ H v := fun Q q => h _ (hs Q q)
theorem xv_and {a b : Bool} (h1 : Val ta σ H (.bl a)) (h2 : a = true → Val tb σ H (.bl b)) : Val (tAndV ta tb) σ H (.bl (a && b)) := fun Q q => h1 _ ⟨a, rfl, by
  cases a with
  | true => exact h2 rfl _ q
  | false => exact q⟩
theorem xv_or {a b : Bool} (h1 : Val ta σ H (.bl a)) (h2 : a = false → Val tb σ H (.bl b)) : Val (tOrV ta tb) σ H (.bl (a || b)) := fun Q q => h1 _ ⟨a, rfl, by
  cases a with
  | true => exact q
  | false => exact h2 rfl _ q⟩
theorem xv_not {a : Bool} (h1 : Val ta σ H (.bl a)) : Val (tNotV ta) σ H (.bl (!a)) := fun Q q => h1 _ ⟨a, rfl, q⟩
theorem xv_p60 : Val (tOp (rI CPow fun i j => .int (i ^ j.toNat)) (tC (.int 10)) (tC (.int 60))) σ H (.int T60) := fun Q q => ⟨10, 60, rfl, rfl, ⟨by decide, by decide, by decide⟩, by
  show Q (.int ((10 : Int) ^ (60 : Int).toNat)) H
  rw [T60_eq]
  exact q⟩
/-! tests -/
theorem xa_T {b : Bool} (h : Val te σ H (.bl b)) : Ans (tTest te) σ H b := fun Q q => h _ ⟨b, rfl, q⟩
theorem xa_B {b : Bool} (h : Val te σ H (.bl b)) : Ans (tB te) σ H b := fun Q q => h _ ⟨b, rfl, q⟩
theorem xa_not {a : Bool} (h : Ans t σ H a) : Ans (tNot t) σ H (!a) := fun Q q => h _ q
theorem xa_and {a b : Bool} (h1 : Ans t σ H a) (h2 : a = true → Ans u σ H b) : Ans (tAnd t u) σ H (a && b) := fun Q q => h1 _ (by
  cases a with
  | true => exact h2 rfl _ q
  | false => exact q)
theorem xa_or {a b : Bool} (h1 : Ans t σ H a) (h2 : a = false → Ans u σ H b) : Ans (tOr t u) σ H (a || b) := fun Q q => h1 _ (by
  cases a with
  | true => exact q
  | false => exact h2 rfl _ q)
/-! statements -/
theorem xs_par {i j : Nat} {w : V} {ta : TA} (h : Arg ta σ H [v, w]) (q : D.nx ((σ.set i (some v)).set j (some w)) H) : tPar i j ta D σ H := h _ ⟨v, w, rfl, q⟩
theorem xs_if {b : Bool} (h : Ans t σ H b) (h1 : b = true → ts D σ H) (h2 : b = false → tu D σ H) : tIfS t ts tu D σ H := h _ (by
  cases b with
  | true => exact h1 rfl
  | false => exact h2 rfl)
/-- an if without else, something behind it -/
theorem xs_when {b : Bool} (h : Ans t σ H b) (h1 : b = true → ts { D with nx := tz D } σ H) (h2 : b = false → tz D σ H) : tSeq (tIfS t ts tNext) tz D σ H := xs_if (D := { D with nx := tz D }) h h1 h2
/-- if c: x = e, told by what holds of x behind it -/
theorem xs_ifSet {Pv : V → Prop} {b : Bool} {i : Nat} {v0 : V} (h : Ans t σ H b) (hv : b = true → Val te σ H v) (p1 : b = true → Pv v) (p0 : b = false → Pv v0) (hs : σ.set i (some v0) = σ) (k : ∀ v, Pv v → tz D (σ.set i (some v)) H) :
    tSeq (tIfS t (tAsg te (gName i)) tNext) tz D σ H := xs_when h (fun hb => st_set (D := { D with nx := tz D }) (hv hb) (k v (p1 hb))) fun hb => by
  have q := k v0 (p0 hb)
  rw [hs] at q
  exact q
theorem xs_cut {Mid : L2.St → Hp → Prop} (h : ts { D with nx := Mid } σ H) (k : ∀ σ' H', Mid σ' H' → tz D σ' H') : Evl.tCut ts tz D σ H := ⟨Mid, h, k⟩
theorem xs_seq {D : Ends} (h : ts { D with nx := tz D } σ H) : tSeq ts tz D σ H := h
/-- a for over a list of ints, which stands at H0: what was tracked at H0 stays -/
theorem xs_forI {a : Addr} {ns : List Int} {j : Nat} (hv : Val tl σ H (.ref a)) (e0 : Same H0 H) (hx : SqL K H0 a (ns.map V.int)) (P : Nat → L2.St → Hp → Prop) (h0 : P 0 σ H)
    (hs : ∀ i n σ' H', Same H0 H' → ns[i]? = some n → P i σ' H' → ts { D with nx := fun s h => Same H0 h ∧ P (i + 1) s h, ct := fun s h => Same H0 h ∧ P (i + 1) s h, bk := D.nx } (σ'.set j (some (.int n))) H')
    (hd : ∀ σ' H', Same H0 H' → P ns.length σ' H' → D.nx σ' H') : tFor (iList K tl) (gName j) ts D σ H :=
  hv _ ⟨a, rfl, ⟨_, e0.seq hx⟩, for_list (xs := ns.map V.int) (fun i s h => Same H0 h ∧ P i s h) ⟨e0, h0⟩ (fun _ _ _ _ p => p.1.seq hx)
    (fun i x σ' H' hi p => by
      rw [List.getElem?_map] at hi
      cases e : ns[i]? with
      | none =>
        rw [e] at hi
        cases hi
      | some n =>
        rw [e] at hi
        cases hi
        exact hs i n σ' H' p.1 e p.2)
    (fun σ' H' p => by
      rw [List.length_map] at p
      exact hd σ' H' p.1 p.2)⟩
theorem xs_forV {a : Addr} {xs : List V} {g : TG} (hv : Val tl σ H (.ref a)) (e0 : Same H0 H) (hx : SqL K H0 a xs) (P : Nat → L2.St → Hp → Prop) (h0 : P 0 σ H)
    (hs : ∀ i x σ' H', Same H0 H' → xs[i]? = some x → P i σ' H' → g x σ' H' fun σ2 H2 => ts { D with nx := fun s h => Same H0 h ∧ P (i + 1) s h, ct := fun s h => Same H0 h ∧ P (i + 1) s h, bk := D.nx } σ2 H2)
    (hd : ∀ σ' H', Same H0 H' → P xs.length σ' H' → D.nx σ' H') : tFor (iList K tl) g ts D σ H :=
  hv _ ⟨a, rfl, ⟨_, e0.seq hx⟩, for_list (xs := xs) (fun i s h => Same H0 h ∧ P i s h) ⟨e0, h0⟩ (fun _ _ _ _ p => p.1.seq hx)
    (fun i x σ' H' hi p => hs i x σ' H' p.1 hi p.2) (fun σ' H' p => hd σ' H' p.1 p.2)⟩
/-- a for over range(n) -/
theorem xs_forR {ta : TA} {j : Nat} {n : Nat} (h : Arg ta σ H [.int (n : Int)]) (hn : n < 2 ^ 62) (P : Nat → L2.St → Hp → Prop) (h0 : P 0 σ H)
    (hs : ∀ (i : Nat) σ' H', i < n → P i σ' H' → ts { D with nx := P (i + 1), ct := P (i + 1), bk := D.nx } (σ'.set j (some (.int (i : Int)))) H')
    (hd : ∀ σ' H', P n σ' H' → D.nx σ' H') : tFor (iRng1 ta) (gName j) ts D σ H :=
  h _ ⟨(n : Int), rfl, by omega, by omega, for_range (lo := 0) (n := n) P h0 (fun i σ' H' hi p => by
    show ts { D with nx := P (i + 1), ct := P (i + 1), bk := D.nx } (σ'.set j (some (.int ((0 : Int) + (i : Int))))) H'
    rw [Int.zero_add]
    exact hs i σ' H' hi p) hd⟩
/-- a while whose test leaves the heap: a word and a measure -/
theorem xs_while (P : Nat → L2.St → Hp → Prop) (m0 : Nat) (h0 : P m0 σ H)
    (hs : ∀ m σ' H', P m σ' H' → ∃ b, Ans t σ' H' b ∧ (b = true → ts { D with nx := fun s h => ∃ m', m' < m ∧ P m' s h, ct := fun s h => ∃ m', m' < m ∧ P m' s h, bk := D.nx } σ' H') ∧ (b = false → D.nx σ' H')) : tWhile t ts D σ H :=
  ⟨P, ⟨m0, h0⟩, fun m σ' H' p => by
    obtain ⟨b, hb, h1, h2⟩ := hs m σ' H' p
    refine hb _ ?_
    cases b with
    | true => exact ⟨fun s h => ∃ m', m' < m ∧ P m' s h, fun _ _ z => z, h1 rfl⟩
    | false => exact h2 rfl⟩
/-! the same, something behind -/
theorem xq_set {i : Nat} (h : Val te σ H v) (q : tz D (σ.set i (some v)) H) : tSeq (tAsg te (gName i)) tz D σ H := st_set (D := { D with nx := tz D }) h q
/-- read by hand, step by step -/
theorem xr_ret (h : te σ H fun v H1 => D.rt v H1) : tRet te D σ H := h
theorem xr_and {Q : VK} (h : ta σ H fun x H1 => ∃ c, x = .bl c ∧ if c = true then tb σ H1 Q else Q (.bl false) H1) : tAndV ta tb σ H Q := h
theorem xr_call {sp : Sp} {E : XK} {Q : VK} (h : tr σ H fun vs H1 => sp (vs ++ []) H1 Q E) : tCall sp [] E tr σ H Q := h
theorem xr_cons {Q : List V → Hp → Prop} (h : te σ H fun x H1 => tr σ H1 fun xs H2 => Q (x :: xs) H2) : tCons te tr σ H Q := h
/-- x = e, e read by hand -/
theorem xq_run {i : Nat} (h : te σ H fun v H1 => tz D (σ.set i (some v)) H1) : tSeq (tAsg te (gName i)) tz D σ H := h
theorem xq_par {i j : Nat} {w : V} {ta : TA} (h : Arg ta σ H [v, w]) (q : tz D ((σ.set i (some v)).set j (some w)) H) : tSeq (tPar i j ta) tz D σ H := xs_par (D := { D with nx := tz D }) h q
theorem xq_if {b : Bool} (h : Ans t σ H b) (h1 : b = true → ts { D with nx := tz D } σ H) (h2 : b = false → tu { D with nx := tz D } σ H) : tSeq (tIfS t ts tu) tz D σ H := xs_if (D := { D with nx := tz D }) h h1 h2
theorem xq_forI {a : Addr} {ns : List Int} {j : Nat} (hv : Val tl σ H (.ref a)) (e0 : Same H0 H) (hx : SqL K H0 a (ns.map V.int)) (P : Nat → L2.St → Hp → Prop) (h0 : P 0 σ H)
    (hs : ∀ i n σ' H', Same H0 H' → ns[i]? = some n → P i σ' H' → ts { D with nx := fun s h => Same H0 h ∧ P (i + 1) s h, ct := fun s h => Same H0 h ∧ P (i + 1) s h, bk := tz D } (σ'.set j (some (.int n))) H')
    (hd : ∀ σ' H', Same H0 H' → P ns.length σ' H' → tz D σ' H') : tSeq (tFor (iList K tl) (gName j) ts) tz D σ H := xs_forI (D := { D with nx := tz D }) hv e0 hx P h0 hs hd
theorem xq_forV {a : Addr} {xs : List V} {g : TG} (hv : Val tl σ H (.ref a)) (e0 : Same H0 H) (hx : SqL K H0 a xs) (P : Nat → L2.St → Hp → Prop) (h0 : P 0 σ H)
    (hs : ∀ i x σ' H', Same H0 H' → xs[i]? = some x → P i σ' H' → g x σ' H' fun σ2 H2 => ts { D with nx := fun s h => Same H0 h ∧ P (i + 1) s h, ct := fun s h => Same H0 h ∧ P (i + 1) s h, bk := tz D } σ2 H2)
    (hd : ∀ σ' H', Same H0 H' → P xs.length σ' H' → tz D σ' H') : tSeq (tFor (iList K tl) g ts) tz D σ H := xs_forV (D := { D with nx := tz D }) hv e0 hx P h0 hs hd
theorem xq_forR {ta : TA} {j : Nat} {n : Nat} (h : Arg ta σ H [.int (n : Int)]) (hn : n < 2 ^ 62) (P : Nat → L2.St → Hp → Prop) (h0 : P 0 σ H)
    (hs : ∀ (i : Nat) σ' H', i < n → P i σ' H' → ts { D with nx := P (i + 1), ct := P (i + 1), bk := tz D } (σ'.set j (some (.int (i : Int)))) H')
    (hd : ∀ σ' H', P n σ' H' → tz D σ' H') : tSeq (tFor (iRng1 ta) (gName j) ts) tz D σ H := xs_forR (D := { D with nx := tz D }) h hn P h0 hs hd
theorem xq_while (P : Nat → L2.St → Hp → Prop) (m0 : Nat) (h0 : P m0 σ H)
    (hs : ∀ m σ' H', P m σ' H' → ∃ b, Ans t σ' H' b ∧ (b = true → ts { D with nx := fun s h => ∃ m', m' < m ∧ P m' s h, ct := fun s h => ∃ m', m' < m ∧ P m' s h, bk := tz D } σ' H') ∧ (b = false → tz D σ' H')) : tSeq (tWhile t ts) tz D σ H := xs_while (D := { D with nx := tz D }) P m0 h0 hs
end
/-! ### isinstance -/
section
variable {σ : L2.St} {H : Hp} {K : PySem.W.Frag} {ta : TE}
theorem tyx_L {a : Addr} {xs : List V} (h : SqL K H a xs) : TyX K H (.ref a) (.type "list") := by
  rcases h with (h | ⟨o, h⟩) | ⟨o, its, n, h, hc, _⟩
  · exact .base (.lst h)
  · exact .base (.frz h)
  · exact .kList h hc
theorem xv_isi {x : V} {T a : String} {b : Bool} (ha : Val ta σ H x) (ht : TyX K H x (.type a)) (hk : kitB a T = some b) : Val (tCB (rIsi K) (tCons ta (tCons (tC (.ty T)) tNil))) σ H (.bl b) :=
  fun Q q => ha _ ⟨x, .ty T, .type a, .type T, b, rfl, .ty T, ht, kit_ty hk, q⟩
end
/-! ### what makes new lists (over Evl) -/
section
open Evl
variable {σ : L2.St} {H H' H0 : Hp} {K : PySem.W.Frag} {ta tb tc te tl : TE} {tr : TA} {t u : TT} {x y z v : V} {xs ys vs : List V} {D : Ends} {ts tz tu : TS}
theorem xe_I0 {g : Int → Int → V} {i j : Int} (ha : Ev ta σ H (.int i)) (hb : Ev tb σ H (.int j)) : Ev (tOp (rI0 g) ta tb) σ H (g i j) := ev_op ha hb rv_I0
theorem xe_I {C : Int → Int → Prop} {g : Int → Int → V} {i j : Int} (ha : Ev ta σ H (.int i)) (hb : Ev tb σ H (.int j)) (hc : C i j) : Ev (tOp (rI C g) ta tb) σ H (g i j) := ev_op ha hb (rv_I hc)
theorem xe_p60 : Ev (tOp (rI CPow fun i j => .int (i ^ j.toNat)) (tC (.int 10)) (tC (.int 60))) σ H (.int T60) := fun H1 e Q q => xv_p60 _ (q H1 (Ex.refl H1))
theorem xe_len {p : Addr} (ha : Ev ta σ H (.ref p)) (h : SqL K H p xs) : Ev (tCB (rLenQ K) (tCons ta tNil)) σ H (.int (xs.length : Int)) := fun H1 e Q q => ha H1 e _ fun H2 e2 => ⟨p, xs, rfl, .inl (ex_l (e.trans e2) h), q H2 e2⟩
theorem xe_ix {p : Addr} {ns : List Int} {i : Int} (ha : Ev ta σ H (.ref p)) (hb : Ev tb σ H (.int i)) (h : SqL K H p (ns.map V.int)) (h0 : 0 ≤ i) (h1 : i < ns.length) : Ev (tOp (rIxL K) ta tb) σ H (.int (ns.getD i.toNat 0)) := ev_op ha hb (rv_ixL h (atI_int h0 h1))
theorem xl_rep {k : Int} (ha : EvL ta σ H xs) (hb : Ev tb σ H (.int k)) (hk : -(2 ^ 63) ≤ k ∧ k < 2 ^ 63) (hz : xs.length * k.toNat ≤ 100000) : EvL (tOp rRep ta tb) σ H (List.replicate k.toNat xs).flatten := fun H1 e Q q =>
  ha H1 e _ fun p H2 hp e2 h2 => hb H2 (e.trans e2) _ fun H3 e3 => ⟨p, k, xs, rfl, rfl, e3 p _ h2, hk.1, hk.2, sz_of hz, fun p3 h3 => q p3 _ (fresh_back (e2.trans e3) h3) ((e2.trans e3).trans (Ex.new h3)) upd_same⟩
theorem xl_cat {l : Addr} (ha : Ev ta σ H (.ref l)) (hl : H l = some (.lst xs)) (hb : EvL tb σ H ys) (hz : xs.length + ys.length ≤ 100000) : EvL (tOp rCat ta tb) σ H (xs ++ ys) := fun H1 e Q q =>
  ha H1 e _ fun H2 e2 => hb H2 (e.trans e2) _ fun p H3 hp e3 h3 => ⟨l, p, xs, ys, rfl, rfl, ((e.trans e2).trans e3) l _ hl, h3, sz_of hz, fun p4 h4 => q p4 _ (fresh_back (e2.trans e3) h4) ((e2.trans e3).trans (Ex.new h4)) upd_same⟩
theorem xl_catR {l : Addr} (ha : EvL ta σ H xs) (hb : Ev tb σ H (.ref l)) (hl : H l = some (.lst ys)) (hz : xs.length + ys.length ≤ 100000) : EvL (tOp rCat ta tb) σ H (xs ++ ys) := fun H1 e Q q =>
  ha H1 e _ fun p H2 hp e2 h2 => hb H2 (e.trans e2) _ fun H3 e3 => ⟨p, l, xs, ys, rfl, rfl, e3 p _ h2, ((e.trans e2).trans e3) l _ hl, sz_of hz, fun p4 h4 => q p4 _ (fresh_back (e2.trans e3) h4) ((e2.trans e3).trans (Ex.new h4)) upd_same⟩
theorem xl_catN (ha : EvL ta σ H xs) (hb : EvL tb σ H ys) (hz : xs.length + ys.length ≤ 100000) : EvL (tOp rCat ta tb) σ H (xs ++ ys) := fun H1 e Q q =>
  ha H1 e _ fun p H2 hp e2 h2 => hb H2 (e.trans e2) _ fun p3 H3 hp3 e3 h3 => ⟨p, p3, xs, ys, rfl, rfl, e3 p _ h2, h3, sz_of hz, fun p4 h4 => q p4 _ (fresh_back (e2.trans e3) h4) ((e2.trans e3).trans (Ex.new h4)) upd_same⟩
theorem xl_catV {l m : Addr} (ha : Ev ta σ H (.ref l)) (hl : H l = some (.lst xs)) (hb : Ev tb σ H (.ref m)) (hm : H m = some (.lst ys)) (hz : xs.length + ys.length ≤ 100000) : EvL (tOp rCat ta tb) σ H (xs ++ ys) := fun H1 e Q q =>
  ha H1 e _ fun H2 e2 => hb H2 (e.trans e2) _ fun H3 e3 => ⟨l, m, xs, ys, rfl, rfl, ((e.trans e2).trans e3) l _ hl, ((e.trans e2).trans e3) m _ hm, sz_of hz, fun p4 h4 => q p4 _ (fresh_back (e2.trans e3) h4) ((e2.trans e3).trans (Ex.new h4)) upd_same⟩
/-- list(xs) -/
abbrev rListQ (K : PySem.W.Frag) : List V → Hp → VK → Prop := fun xs H Q => ∃ p ys, xs = [.ref p] ∧ (SqL K H p ys ∨ SqT K H p ys) ∧ ∀ l, H l = none → Q (.ref l) (upd H l (.lst ys))
theorem xl_listQ {p : Addr} (ha : Ev ta σ H (.ref p)) (h : SqL K H p xs) : EvL (tCB (rListQ K) (tCons ta tNil)) σ H xs := fun H1 e Q q =>
  ha H1 e _ fun H2 e2 => ⟨p, xs, rfl, .inl (ex_l (e.trans e2) h), fun l hl => q l _ (fresh_back e2 hl) (e2.trans (Ex.new hl)) upd_same⟩
theorem xl_revL {p : Addr} (ha : Ev ta σ H (.ref p)) (h : SqL K H p xs) : EvL (tRevL K ta) σ H xs.reverse := fun H1 e Q q =>
  ha H1 e _ fun H2 e2 => ⟨p, xs, rfl, ex_l (e.trans e2) h, fun l hl => q l _ (fresh_back e2 hl) (e2.trans (Ex.new hl)) upd_same⟩
/-- [0] * n, of ints -/
theorem flat_rep (k : Nat) (c : Int) : (List.replicate k [V.int c]).flatten = (List.replicate k c).map V.int := by
  induction k with
  | zero => rfl
  | succ k ih => rw [List.replicate_succ, List.flatten_cons, ih] <;> rfl
theorem cut_all (xs : List V) (a b : Nat) : cutV xs (some (a : Int)) (some (b : Int)) = (xs.take b).drop a := by
  unfold cutV
  rw [show HT.sIx xs.length 0 (some (a : Int)) = min a xs.length from HT.sIx_nat xs.length 0 a, show HT.sIx xs.length xs.length (some (b : Int)) = min b xs.length from HT.sIx_nat xs.length xs.length b]
  rw [List.drop_take]
  by_cases ha : a ≤ xs.length
  · have e1 : min a xs.length = a := Nat.min_eq_left ha
    rw [e1]
    by_cases hb : b ≤ xs.length
    · rw [Nat.min_eq_left hb]
    · have e2 : min b xs.length = xs.length := Nat.min_eq_right (by omega)
      rw [e2, List.take_of_length_le (by rw [List.length_drop]; omega), List.take_of_length_le (by rw [List.length_drop]; omega)]
  · have e1 : min a xs.length = xs.length := Nat.min_eq_right (by omega)
    rw [e1, List.drop_length, List.drop_of_length_le (by omega)]
    simp
theorem cut_lo (xs : List V) (a : Nat) : cutV xs (some (a : Int)) none = xs.drop a := by
  unfold cutV
  rw [show HT.sIx xs.length 0 (some (a : Int)) = min a xs.length from HT.sIx_nat xs.length 0 a, HT.sIx_none]
  by_cases ha : a ≤ xs.length
  · rw [Nat.min_eq_left ha, List.take_of_length_le (by rw [List.length_drop]; omega)]
  · rw [Nat.min_eq_right (by omega), List.drop_length, List.drop_of_length_le (by omega)]
    simp
theorem cut_hi (xs : List V) (b : Nat) : cutV xs none (some (b : Int)) = xs.take b := by
  have h := cut_all xs 0 b
  rw [List.drop_zero] at h
  rw [← h]
  unfold cutV
  rw [HT.sIx_none, show HT.sIx xs.length 0 (some ((0 : Nat) : Int)) = min 0 xs.length from HT.sIx_nat xs.length 0 0, Nat.zero_min]
theorem cut_int {ns : List Int} {a b : Int} (ha : 0 ≤ a) (hb : 0 ≤ b) : cutV (ns.map V.int) (some a) (some b) = ((ns.take b.toNat).drop a.toNat).map V.int := by
  obtain ⟨x, rfl⟩ := Int.eq_ofNat_of_zero_le ha
  obtain ⟨y, rfl⟩ := Int.eq_ofNat_of_zero_le hb
  rw [List.map_drop, List.map_take]
  exact cut_all _ x y
/-- [e for x in xs], xs a new list of ints, e's value F x -/
theorem xl_mapI {cs : List Int} {F : Int → V} {j : Nat} {ws : List Nat} (h : EvL tl σ H (cs.map V.int)) (hz : cs.length ≤ 40000) (hw : ∀ x, wipe ((wipe σ ws).set j (some x)) ws = wipe σ ws)
    (he : ∀ x H1, Ex H H1 → x ∈ cs → Ev te ((wipe σ ws).set j (some (.int x))) H1 (F x)) : EvL (tLc (iList K tl) (gName j) tYes te ws) σ H (cs.map F) := by
  have r := el_lcNL (K := K) (vs := ws) (j := j) (t := tYes) (fun _ => true) (fun i => F (cs.getD i 0)) h (by rw [List.length_map]; exact hz) hw (fun i x H1 e hi => fun H2 e2 Q q => q H2 (Ex.refl H2)) (te := te) (fun i x H1 e hi _ => by
    rw [List.getElem?_map] at hi
    cases hc : cs[i]? with
    | none =>
      rw [hc] at hi
      cases hi
    | some c =>
      rw [hc] at hi
      cases hi
      rw [getD_of hc]
      exact he c H1 e (List.mem_of_getElem? hc))
  have e : given (cs.map V.int).length (fun _ => true) (fun i => F (cs.getD i 0)) = cs.map F := by
    unfold given
    rw [List.filter_eq_self.mpr (fun _ _ => rfl), List.length_map]
    refine List.ext_getElem? fun i => ?_
    rw [List.getElem?_map, List.getElem?_map]
    by_cases hi : i < cs.length
    · rw [List.getElem?_range hi, get_of hi]
      rfl
    · rw [List.getElem?_eq_none (by rw [List.length_range]; omega), List.getElem?_eq_none (by omega)]
      rfl
  rw [e] at r
  exact r
/-- what was tracked ahead of a list's making stays when that list is changed -/
theorem same_mut {p : Addr} {o : HO} (e : Same H H') (h : H p = none) : Same H (upd H' p o) := Ex.mut e h
end
/-! ### while len(xs) > 0 and xs[len(xs) - 1] == 0: xs.pop() -/
section
variable {σ : L2.St} {H : Hp} {K : PySem.W.Frag} {D : Ends}
theorem xs_pops {i : Nat} {l : Addr} {xs : List Int} (hσ : σ[i]? = some (some (.ref l))) (hl : H l = some (.lst (xs.map V.int)))
    (q : ∀ H', (∀ b, b ≠ l → H' b = H b) → H' l = some (.lst ((bare xs).map V.int)) → D.nx σ H') :
    tWhile (tAnd (tTest (tOp (rI0 fun i j => .bl (decide (j < i))) (tCB (rLenQ K) (tCons (tVar i) tNil)) (tC (.int 0))))
      (tTest (tOp rEq (tOp (rIxL K) (tVar i) (tOp (rI0 fun i j => .int (i - j)) (tCB (rLenQ K) (tCons (tVar i) tNil)) (tC (.int 1)))) (tC (.int 0)))))
      (tDrop (tBM0 K "list" rPop (tVar i))) D σ H := by
  refine xs_while (fun m s H' => ∃ ys : List Int, s = σ ∧ (∀ b, b ≠ l → H' b = H b) ∧ H' l = some (.lst (ys.map V.int)) ∧ bare ys = bare xs ∧ ys.length = m) _ ⟨xs, rfl, fun _ _ => rfl, hl, rfl, rfl⟩ ?_
  rintro m s H' ⟨ys, rfl, e3, h3, hb, rfl⟩
  refine ⟨_, xa_and (xa_T (xv_I0 (xv_lenI (val_var hσ) (SqL.of h3)) val_c)) fun hc => xa_T (xv_eq (xv_ix (val_var hσ) (xv_I0 (xv_lenI (val_var hσ) (SqL.of h3)) val_c) (SqL.of h3) (by
    have := of_decide_eq_true hc
    omega) (by omega)) val_c rfl), fun hc => ?_, fun hc => ?_⟩
  · rw [Bool.and_eq_true] at hc
    obtain ⟨c1, c2⟩ := hc
    have c1 := of_decide_eq_true c1
    have c2 := V.int.inj (of_decide_eq_true c2)
    obtain ⟨zs, c, rfl⟩ := snoc_of (xs := ys) (by
      rintro rfl
      simp at c1)
    rw [show (((zs ++ [c]).length : Int) - 1).toNat = (zs ++ [c]).length - 1 by omega, getD_last] at c2
    subst c2
    refine ⟨.ref l, hσ, .inl ⟨rfl, _, SqL.of h3⟩, l, _, .int 0, rfl, rfl, h3, ?_, ?_⟩
    · rw [List.length_map, List.getElem?_map, List.length_append, List.length_singleton, Nat.add_sub_cancel, List.getElem?_append_right (Nat.le_refl _), Nat.sub_self]
      rfl
    · refine ⟨zs.length, by rw [List.length_append, List.length_singleton]; omega, zs, rfl, fun b hb => by rw [upd_ne hb]; exact e3 b hb, ?_, ?_, rfl⟩
      · rw [upd_same, List.map_append, List.map_singleton, List.dropLast_concat]
      · rw [← hb, bare_zero]
  · have hy : bare ys = ys := by
      by_cases h0 : ys = []
      · rw [h0]
        rfl
      · obtain ⟨zs, c, rfl⟩ := snoc_of h0
        refine bare_snoc zs fun e => ?_
        subst e
        have c1 := of_decide_eq_false (Bool.and_eq_false_imp.mp hc (decide_eq_true (by rw [List.length_append, List.length_singleton]; omega)))
        refine c1 ?_
        have e9 : (((zs ++ [(0 : Int)]).length : Int) - 1).toNat = (zs ++ [(0 : Int)]).length - 1 := by omega
        rw [e9, getD_last]
    refine q H' e3 ?_
    rw [h3, ← hb, hy]
theorem xq_pops {tz : TS} {i : Nat} {l : Addr} {xs : List Int} (hσ : σ[i]? = some (some (.ref l))) (hl : H l = some (.lst (xs.map V.int)))
    (q : ∀ H', (∀ b, b ≠ l → H' b = H b) → H' l = some (.lst ((bare xs).map V.int)) → tz D σ H') :
    tSeq (tWhile (tAnd (tTest (tOp (rI0 fun i j => .bl (decide (j < i))) (tCB (rLenQ K) (tCons (tVar i) tNil)) (tC (.int 0))))
      (tTest (tOp rEq (tOp (rIxL K) (tVar i) (tOp (rI0 fun i j => .int (i - j)) (tCB (rLenQ K) (tCons (tVar i) tNil)) (tC (.int 1)))) (tC (.int 0)))))
      (tDrop (tBM0 K "list" rPop (tVar i)))) tz D σ H := xs_pops (D := { D with nx := tz D }) hσ hl q
end
/-! ### lists of ints compared -/
section
variable {σ : L2.St} {H : Hp} {K : PySem.W.Frag} {ta tb : TE}
theorem dpAll_int (ns : List Int) : DpAll K H (ns.map V.int) (ns.map PyData.int) := by
  induction ns with
  | nil => exact .nil
  | cons n r ih => exact .cons (.int n) ih
theorem eqvAll_int : ∀ ns ms : List Int, PyData.eqvAll (ns.map PyData.int) (ms.map PyData.int) = decide (ns = ms)
  | [], [] => by simp [PyData.eqvAll]
  | [], m :: ms => by simp [PyData.eqvAll]
  | n :: ns, [] => by simp [PyData.eqvAll]
  | n :: ns, m :: ms => by
    show (n == m && PyData.eqvAll (ns.map PyData.int) (ms.map PyData.int)) = decide (n :: ns = m :: ms)
    rw [eqvAll_int ns ms]
    by_cases h : n = m
    · subst h
      by_cases h2 : ns = ms
      · subst h2
        simp
      · simp [h2]
    · simp [h]
theorem eqv_int (ns ms : List Int) : PyData.eqv (.list (ns.map PyData.int)) (.list (ms.map PyData.int)) = decide (ns = ms) := by
  rw [← eqvAll_int]
  simp [PyData.eqv]
theorem canLayAll_int : ∀ ns : List Int, PyData.canLayAll0 (ns.map PyData.int) = true
  | [] => rfl
  | n :: ns => by
    show (true && PyData.canLayAll0 (ns.map PyData.int)) = true
    rw [canLayAll_int ns]
    rfl
theorem depthAll_int : ∀ ns : List Int, PyData.depthAll (ns.map PyData.int) ≤ 1
  | [] => by simp [PyData.depthAll]
  | n :: ns => by
    have := depthAll_int ns
    simp only [List.map_cons, PyData.depthAll, PyData.depth]
    omega
theorem shaped_int (ns : List Int) : SeqAt.shaped (.list (ns.map PyData.int)) = true := by
  unfold SeqAt.shaped
  rw [Bool.and_eq_true]
  refine ⟨canLayAll_int ns, decide_eq_true ?_⟩
  have := depthAll_int ns
  simp only [PyData.depth]
  omega
/-- xs == ys, xs != ys of lists of ints -/
theorem xv_eqL {a b : Addr} {ns ms : List Int} (ha : Val ta σ H (.ref a)) (hb : Val tb σ H (.ref b)) (h1 : SqL K H a (ns.map V.int)) (h2 : SqL K H b (ms.map V.int)) : Val (tOp (rEqD K) ta tb) σ H (.bl (decide (ns = ms))) :=
  val_op ha hb fun Q q => ⟨_, _, .lst h1 (dpAll_int ns), .lst h2 (dpAll_int ms), shaped_int ns, shaped_int ms, by rw [eqv_int]; exact q⟩
theorem xv_neL {a b : Addr} {ns ms : List Int} (ha : Val ta σ H (.ref a)) (hb : Val tb σ H (.ref b)) (h1 : SqL K H a (ns.map V.int)) (h2 : SqL K H b (ms.map V.int)) : Val (tOp (rNeD K) ta tb) σ H (.bl (!decide (ns = ms))) :=
  val_op ha hb fun Q q => ⟨_, _, .lst h1 (dpAll_int ns), .lst h2 (dpAll_int ms), shaped_int ns, shaped_int ms, by rw [eqv_int]; exact q⟩
end
end Sh

namespace Sh
/-! moves of shells: (true, k) the join at step k, (false, k) the part -/
abbrev Mv := Bool × Nat
def mvFits (ns : List Int) : Mv → Bool
  | (true, k) => decide (k + 1 < ns.length) && (decide (0 < ns.getD k 0) && decide (0 < ns.getD (k + 1) 0))
  | (false, k) => decide (k < ns.length) && decide (1 < ns.getD k 0)
def mvAt (ns : List Int) (k : Nat) : List Mv := (if mvFits ns (true, k) = true then [(true, k)] else []) ++ (if mvFits ns (false, k) = true then [(false, k)] else [])
def mvTo (ns : List Int) : Nat → List Mv
  | 0 => []
  | n + 1 => mvTo ns n ++ mvAt ns n
def mvs (ns : List Int) : List Mv := mvTo ns ns.length
def bump (ns : List Int) (i : Nat) (d : Int) : List Int := ns.set i (ns.getD i 0 + d)
def mvRaw (ns : List Int) : Mv → List Int
  | (true, k) => bump (bump (bump (ns ++ [0, 0]) k (-1)) (k + 1) (-1)) (k + 2) 1
  | (false, k) =>
    if k = 0 then bump (bump (ns ++ [0, 0]) 0 (-2)) 1 1
    else if k = 1 then bump (bump (bump (ns ++ [0, 0]) 1 (-2)) 2 1) 0 1
    else bump (bump (bump (ns ++ [0, 0]) k (-2)) (k + 1) 1) (k - 2) 1
def mvDone (ns : List Int) (m : Mv) : List Int := bare (mvRaw ns m)
theorem bump_len (ns : List Int) (i : Nat) (d : Int) : (bump ns i d).length = ns.length := by
  unfold bump
  rw [List.length_set]
theorem mvRaw_len (ns : List Int) (m : Mv) : (mvRaw ns m).length = ns.length + 2 := by
  obtain ⟨b, k⟩ := m
  cases b with
  | true => simp [mvRaw, bump_len]
  | false =>
    simp only [mvRaw]
    split
    · simp [bump_len]
    · split <;> simp [bump_len]
theorem mvDone_len (ns : List Int) (m : Mv) : (mvDone ns m).length ≤ ns.length + 2 := by
  have := bare_len (mvRaw ns m)
  rw [mvRaw_len] at this
  exact this
theorem mvFits_lt {ns : List Int} {m : Mv} (h : mvFits ns m = true) : m.2 < ns.length := by
  obtain ⟨b, k⟩ := m
  cases b with
  | true =>
    simp only [mvFits, Bool.and_eq_true, decide_eq_true_eq] at h
    show k < ns.length
    omega
  | false =>
    simp only [mvFits, Bool.and_eq_true, decide_eq_true_eq] at h
    exact h.1
theorem mem_mvAt {ns : List Int} {k : Nat} {m : Mv} : m ∈ mvAt ns k ↔ m.2 = k ∧ mvFits ns m = true := by
  obtain ⟨b, j⟩ := m
  unfold mvAt
  cases b with
  | true =>
    by_cases h1 : mvFits ns (true, k) = true <;> by_cases h2 : mvFits ns (false, k) = true <;> simp only [h1, h2, if_true, if_false, List.mem_append, List.mem_cons, List.not_mem_nil, Prod.mk.injEq, or_false, false_or, Bool.false_eq_true] <;> constructor <;> intro h
    all_goals first
      | (obtain ⟨rfl, h⟩ := h; simp_all)
      | (rcases h with h | h <;> simp_all)
      | simp_all
  | false =>
    by_cases h1 : mvFits ns (true, k) = true <;> by_cases h2 : mvFits ns (false, k) = true <;> simp only [h1, h2, if_true, if_false, List.mem_append, List.mem_cons, List.not_mem_nil, Prod.mk.injEq, or_false, false_or, Bool.false_eq_true] <;> constructor <;> intro h
    all_goals first
      | (obtain ⟨rfl, h⟩ := h; simp_all)
      | (rcases h with h | h <;> simp_all)
      | simp_all
theorem mem_mvTo {ns : List Int} {m : Mv} : ∀ {n : Nat}, m ∈ mvTo ns n ↔ m.2 < n ∧ mvFits ns m = true
  | 0 => by simp [mvTo]
  | n + 1 => by
    show m ∈ mvTo ns n ++ mvAt ns n ↔ _
    rw [List.mem_append, mem_mvTo, mem_mvAt]
    constructor
    · rintro (⟨h1, h2⟩ | ⟨h1, h2⟩)
      · exact ⟨by omega, h2⟩
      · exact ⟨by omega, h2⟩
    · rintro ⟨h1, h2⟩
      by_cases h : m.2 = n
      · exact .inr ⟨h, h2⟩
      · exact .inl ⟨by omega, h2⟩
theorem mem_mvs {ns : List Int} {m : Mv} : m ∈ mvs ns ↔ mvFits ns m = true := by
  unfold mvs
  rw [mem_mvTo]
  exact ⟨fun h => h.2, fun h => ⟨mvFits_lt h, h⟩⟩
theorem mvTo_len (ns : List Int) : ∀ n, (mvTo ns n).length ≤ 2 * n
  | 0 => Nat.le_refl _
  | n + 1 => by
    have := mvTo_len ns n
    show (mvTo ns n ++ mvAt ns n).length ≤ _
    have h : (mvAt ns n).length ≤ 2 := by
      unfold mvAt
      rw [List.length_append]
      split <;> split <;> simp
    rw [List.length_append]
    omega
theorem mvs_len (ns : List Int) : (mvs ns).length ≤ 2 * ns.length := mvTo_len ns _
end Sh

/-! Own words over the layer for moves: tuples of a text and a step, lists of them; stores into a list of ints. -/
namespace Sh
open PySem PySem.Spec PyProof.Rows L2
def mvS (b : Bool) : Str := if b then "join" else "part"
def mvV (m : Mv) : List V := [.str (mvS m.1), .int (m.2 : Int)]
/-- the addresses of the moves' tuples -/
def MvL (H : Hp) : List Addr → List Mv → Prop
  | [], [] => True
  | p :: ps, m :: ms => H p = some (.tup (mvV m)) ∧ MvL H ps ms
  | _, _ => False
theorem MvL.mono {H H' : Hp} (e : ∀ p m, H p = some (.tup (mvV m)) → H' p = some (.tup (mvV m))) : ∀ {ps : List Addr} {ms : List Mv}, MvL H ps ms → MvL H' ps ms
  | [], [], _ => trivial
  | p :: ps, m :: ms, h => ⟨e p m h.1, MvL.mono e h.2⟩
  | [], _ :: _, h => h.elim
  | _ :: _, [], h => h.elim
theorem MvL.same {H H' : Hp} (e : Same H H') {ps : List Addr} {ms : List Mv} (h : MvL H ps ms) : MvL H' ps ms := h.mono fun p m z => e p _ z
theorem MvL.upd {H : Hp} {l : Addr} {xs : List V} {o : HO} (hl : H l = some (.lst xs)) {ps : List Addr} {ms : List Mv} (h : MvL H ps ms) : MvL (upd H l o) ps ms := h.mono fun p m z => by
  rw [upd_ne (ne_of z hl (by intro e; cases e))]
  exact z
theorem MvL.snoc {H : Hp} {p : Addr} {m : Mv} (hp : H p = some (.tup (mvV m))) : ∀ {ps : List Addr} {ms : List Mv}, MvL H ps ms → MvL H (ps ++ [p]) (ms ++ [m])
  | [], [], _ => ⟨hp, trivial⟩
  | q :: ps, n :: ms, h => ⟨h.1, MvL.snoc hp h.2⟩
  | [], _ :: _, h => h.elim
  | _ :: _, [], h => h.elim
theorem MvL.len {H : Hp} : ∀ {ps : List Addr} {ms : List Mv}, MvL H ps ms → ps.length = ms.length
  | [], [], _ => rfl
  | q :: ps, n :: ms, h => by rw [List.length_cons, List.length_cons, MvL.len h.2]
  | [], _ :: _, h => h.elim
  | _ :: _, [], h => h.elim
theorem MvL.get {H : Hp} : ∀ {ps : List Addr} {ms : List Mv} {i : Nat} {m : Mv}, MvL H ps ms → ms[i]? = some m → ∃ p, ps[i]? = some p ∧ H p = some (.tup (mvV m))
  | [], [], i, m, _, e => by simp at e
  | p :: ps, n :: ms, 0, m, h, e => by
    have e : n = m := Option.some.inj e
    subst e
    exact ⟨p, rfl, h.1⟩
  | p :: ps, n :: ms, i + 1, m, h, e => by
    obtain ⟨q, e1, e2⟩ := MvL.get (i := i) h.2 (by simpa using e)
    exact ⟨q, by simpa using e1, e2⟩
  | [], _ :: _, _, _, h, _ => h.elim
  | _ :: _, [], _, _, h, _ => h.elim
/-! moves compared -/
def mvD (m : Mv) : PyData := .tuple [.str (mvS m.1), .int (m.2 : Int)]
section
variable {σ : L2.St} {H : Hp} {K : PySem.W.Frag} {ta tb : TE}
theorem mv_dp {p : Addr} {m : Mv} (h : SqT K H p (mvV m)) : Dp K H (.ref p) (mvD m) := .tup h (.cons (.str _) (.cons (.int _) .nil))
theorem mvS_ok (b : Bool) : PyData.canLay0 (.str (mvS b)) = true := by cases b <;> decide +kernel
theorem mvD_lay (m : Mv) : (mvD m).canLay0 = true := by
  have h := mvS_ok m.1
  simp only [mvD, PyData.canLay0, PyData.canLayAll0, Bool.and_true] at h ⊢
  exact h
theorem mvD_depth (m : Mv) : (mvD m).depth = 1 := by simp [mvD, PyData.depth, PyData.depthAll]
theorem mvD_shaped (m : Mv) : SeqAt.shaped (mvD m) = true := by
  unfold SeqAt.shaped
  rw [mvD_lay, mvD_depth]
  decide
theorem mvS_inj {b c : Bool} : (mvS b == mvS c) = decide (b = c) := by cases b <;> cases c <;> decide +kernel
theorem mvD_eqv (m n : Mv) : PyData.eqv (mvD m) (mvD n) = decide (m = n) := by
  obtain ⟨b, i⟩ := m
  obtain ⟨c, j⟩ := n
  show (mvS b == mvS c && ((i : Int) == (j : Int) && true)) = decide ((b, i) = (c, j))
  rw [mvS_inj, Bool.and_true]
  by_cases h : b = c
  · subst h
    by_cases h2 : i = j
    · subst h2
      simp
    · have h3 : (i : Int) ≠ (j : Int) := by omega
      simp [h2, h3]
  · simp [h]
theorem mvs_dp : ∀ {ps : List Addr} {ms : List Mv}, MvL H ps ms → DpAll K H (ps.map V.ref) (ms.map mvD)
  | [], [], _ => .nil
  | p :: ps, m :: ms, h => .cons (mv_dp (SqT.of h.1)) (mvs_dp h.2)
  | [], _ :: _, h => h.elim
  | _ :: _, [], h => h.elim
theorem mvDs_lay : ∀ ms : List Mv, PyData.canLayAll0 (ms.map mvD) = true
  | [] => rfl
  | m :: ms => by
    show ((mvD m).canLay0 && PyData.canLayAll0 (ms.map mvD)) = true
    rw [mvD_lay, mvDs_lay ms]
    rfl
theorem mvDs_depth : ∀ ms : List Mv, PyData.depthAll (ms.map mvD) ≤ 1
  | [] => by simp [PyData.depthAll]
  | m :: ms => by
    have := mvDs_depth ms
    simp only [List.map_cons, PyData.depthAll, mvD_depth]
    omega
theorem mvDs_shaped (ms : List Mv) : SeqAt.shaped (.list (ms.map mvD)) = true := by
  unfold SeqAt.shaped
  rw [Bool.and_eq_true]
  refine ⟨mvDs_lay ms, decide_eq_true ?_⟩
  have := mvDs_depth ms
  simp only [PyData.depth]
  omega
/-- m != n, of moves -/
theorem xv_neM {p q : Addr} {m n : Mv} (ha : Val ta σ H (.ref p)) (hb : Val tb σ H (.ref q)) (h1 : SqT K H p (mvV m)) (h2 : SqT K H q (mvV n)) : Val (tOp (rNeD K) ta tb) σ H (.bl (!decide (m = n))) :=
  val_op ha hb fun Q q => ⟨_, _, mv_dp h1, mv_dp h2, mvD_shaped m, mvD_shaped n, by rw [mvD_eqv]; exact q⟩
/-- m in ms -/
theorem mvD_any (m : Mv) (ms : List Mv) : ((ms.map mvD).any fun z => PyData.eqv z (mvD m)) = decide (m ∈ ms) := by
  rw [List.any_map]
  by_cases h : m ∈ ms
  · rw [decide_eq_true h, List.any_eq_true]
    exact ⟨m, h, by show PyData.eqv (mvD m) (mvD m) = true; rw [mvD_eqv]; simp⟩
  · rw [decide_eq_false h, List.any_eq_false]
    intro n hn
    show ¬ PyData.eqv (mvD n) (mvD m) = true
    rw [mvD_eqv]
    intro e
    exact h ((of_decide_eq_true e) ▸ hn)
theorem xv_inM {p b : Addr} {m : Mv} {ps : List Addr} {ms : List Mv} (ha : Val ta σ H (.ref p)) (hb : Val tb σ H (.ref b)) (h1 : SqT K H p (mvV m)) (h2 : SqL K H b (ps.map V.ref)) (h3 : MvL H ps ms) : Val (tOp (rInD K) ta tb) σ H (.bl (decide (m ∈ ms))) :=
  val_op ha hb fun Q q => ⟨_, _, mv_dp h1, .lst h2 (mvs_dp h3), mvD_shaped m, mvDs_shaped ms, by rw [mvD_any]; exact q⟩
/-- a list of moves beside one of none -/
theorem eqv_nilM (ms : List Mv) : PyData.eqv (.list (ms.map mvD)) (.list []) = decide (ms = []) := by
  cases ms with
  | nil => simp [PyData.eqv, PyData.eqvAll]
  | cons m r => simp [PyData.eqv, PyData.eqvAll]
theorem tyx_T {a : Addr} {xs : List V} (h : SqT K H a xs) : TyX K H (.ref a) (.type "tuple") := by
  rcases h with (h | ⟨o, h⟩) | ⟨o, its, n, h, hc, _⟩
  · exact .base (.tup h)
  · exact .fTuple h
  · exact .kTuple h hc
theorem xv_lenT {p : Addr} {xs : List V} (ha : Val ta σ H (.ref p)) (h : SqT K H p xs) : Val (tCB (rLenQ K) (tCons ta tNil)) σ H (.int (xs.length : Int)) := fun Q q => ha _ ⟨p, xs, rfl, .inr h, q⟩
end
/-! a store -/
section
variable {σ : L2.St} {H : Hp} {K : PySem.W.Frag} {ta tb tc te : TE} {D : Ends} {tz : TS}
theorem ixN_int {n : Nat} {i : Int} (h0 : 0 ≤ i) (h1 : i < n) : ixN n i = some i.toNat := by
  unfold ixN
  rw [if_pos h0, if_pos h1]
theorem xs_setI {l : Addr} {ns : List Int} {i v : Int} (h : Val te σ H (.int v)) (ha : Val ta σ H (.ref l)) (hb : Val tb σ H (.int i)) (hl : H l = some (.lst (ns.map V.int))) (h0 : 0 ≤ i) (h1 : i < ns.length)
    (k : D.nx σ (upd H l (.lst ((ns.set i.toNat v).map V.int)))) : tAsg te (gSub ta tb rSetL) D σ H :=
  h _ (ha _ (hb _ ⟨l, _, i, i.toNat, rfl, rfl, hl, by rw [List.length_map]; exact ixN_int h0 h1, by rw [← List.map_set]; exact k⟩))
/-- xs[i] = xs[i] + d -/
theorem xq_bump {g : Int → Int → V} {l : Addr} {ns : List Int} {i : Nat} {j d c : Int} (hg : ∀ x : Int, g x c = .int (x + d)) (ha : Val ta σ H (.ref l)) (hb : Val tb σ H (.int j)) (hj : j = (i : Int)) (hl : H l = some (.lst (ns.map V.int))) (h1 : i < ns.length)
    (k : tz D σ (upd H l (.lst ((bump ns i d).map V.int)))) : tSeq (tAsg (tOp (rI0 g) (tOp (rIxL K) ta tb) (tC (.int c))) (gSub ta tb rSetL)) tz D σ H := by
  subst hj
  have hv := xv_I0 (g := g) (xv_ix (K := K) ha hb (SqL.of hl) (by omega) (by omega)) (val_c (v := V.int c))
  rw [hg] at hv
  exact xs_setI (D := { D with nx := tz D }) hv ha hb hl (by omega) (by omega) k
theorem xs_bump {g : Int → Int → V} {l : Addr} {ns : List Int} {i : Nat} {j d c : Int} (hg : ∀ x : Int, g x c = .int (x + d)) (ha : Val ta σ H (.ref l)) (hb : Val tb σ H (.int j)) (hj : j = (i : Int)) (hl : H l = some (.lst (ns.map V.int))) (h1 : i < ns.length)
    (k : D.nx σ (upd H l (.lst ((bump ns i d).map V.int)))) : tAsg (tOp (rI0 g) (tOp (rIxL K) ta tb) (tC (.int c))) (gSub ta tb rSetL) D σ H := by
  subst hj
  have hv := xv_I0 (g := g) (xv_ix (K := K) ha hb (SqL.of hl) (by omega) (by omega)) (val_c (v := V.int c))
  rw [hg] at hv
  exact xs_setI hv ha hb hl (by omega) (by omega) k
/-- what stands behind the choice of a move, in done: the slots c of the counts, s of the step, m of the move; spb what is called at the end -/
abbrev doneT (K : PySem.W.Frag) (c s m : Nat) (spb : Sp) : TS :=
  tSeq (tIfS (tTest (tOp rEq (tOp (rIxT K) (tVar m) (tC (.int 0))) (tC (.str "join"))))
      (tSeq (tAsg (tOp (rI0 fun i j => .int (i - j)) (tOp (rIxL K) (tVar c) (tVar s)) (tC (.int 1))) (gSub (tVar c) (tVar s) rSetL))
      (tSeq (tAsg (tOp (rI0 fun i j => .int (i - j)) (tOp (rIxL K) (tVar c) (tOp (rI0 fun i j => .int (i + j)) (tVar s) (tC (.int 1)))) (tC (.int 1))) (gSub (tVar c) (tOp (rI0 fun i j => .int (i + j)) (tVar s) (tC (.int 1))) rSetL))
      (tSeq (tAsg (tOp (rI0 fun i j => .int (i + j)) (tOp (rIxL K) (tVar c) (tOp (rI0 fun i j => .int (i + j)) (tVar s) (tC (.int 2)))) (tC (.int 1))) (gSub (tVar c) (tOp (rI0 fun i j => .int (i + j)) (tVar s) (tC (.int 2))) rSetL))
      (tRet (tCall spb [] E0 (tCons (tVar c) tNil)))))) tNext)
  (tSeq (tAsg (tOp (rI0 fun i j => .int (i - j)) (tOp (rIxL K) (tVar c) (tVar s)) (tC (.int 2))) (gSub (tVar c) (tVar s) rSetL))
  (tSeq (tAsg (tOp (rI0 fun i j => .int (i + j)) (tOp (rIxL K) (tVar c) (tOp (rI0 fun i j => .int (i + j)) (tVar s) (tC (.int 1)))) (tC (.int 1))) (gSub (tVar c) (tOp (rI0 fun i j => .int (i + j)) (tVar s) (tC (.int 1))) rSetL))
  (tSeq (tIfS (tTest (tOp rEq (tVar s) (tC (.int 1)))) (tAsg (tOp (rI0 fun i j => .int (i + j)) (tOp (rIxL K) (tVar c) (tC (.int 0))) (tC (.int 1))) (gSub (tVar c) (tC (.int 0)) rSetL)) tNext)
  (tSeq (tIfS (tTest (tOp (rI0 fun i j => .bl (decide (j < i))) (tVar s) (tC (.int 1)))) (tAsg (tOp (rI0 fun i j => .int (i + j)) (tOp (rIxL K) (tVar c) (tOp (rI0 fun i j => .int (i - j)) (tVar s) (tC (.int 2)))) (tC (.int 1))) (gSub (tVar c) (tOp (rI0 fun i j => .int (i - j)) (tVar s) (tC (.int 2))) rSetL)) tNext)
  (tRet (tCall spb [] E0 (tCons (tVar c) tNil)))))))
theorem done_tail {c s m : Nat} {spb : Sp} {l p : Addr} {ns : List Int} {mv : Mv} (hm : σ[m]? = some (some (.ref p))) (hs : σ[s]? = some (some (.int (mv.2 : Int)))) (hc : σ[c]? = some (some (.ref l))) (hp : SqT K H p (mvV mv))
    (hl : H l = some (.lst ((ns ++ [0, 0]).map V.int))) (hk : mv.2 < ns.length) (hr : ∀ H' xs, (∀ b, b ≠ l → H' b = H b) → H' l = some (.lst (xs.map V.int)) → xs = mvRaw ns mv → spb [.ref l] H' D.rt E0) : doneT K c s m spb D σ H := by
  obtain ⟨b, k⟩ := mv
  have hk : k < ns.length := hk
  have len : (ns ++ [0, 0]).length = ns.length + 2 := by simp
  have vs : ∀ {H'}, Val (tVar s) σ H' (.int (k : Int)) := val_var hs
  have vc : ∀ {H'}, Val (tVar c) σ H' (.ref l) := val_var hc
  have gt1 : ∀ {H'}, Val (tOp (rI0 fun i j => .bl (decide (j < i))) (tVar s) (tC (.int 1))) σ H' (.bl (decide ((1 : Int) < (k : Int)))) := xv_I0 vs val_c
  have eq1 : ∀ {H'}, Val (tOp rEq (tVar s) (tC (.int 1))) σ H' (.bl (decide (V.int (k : Int) = V.int 1))) := xv_eq vs val_c rfl
  have dl : ∀ {A B : Hp} {o : HO}, (∀ x, x ≠ l → B x = A x) → ∀ x, x ≠ l → (upd B l o) x = A x := fun h x hx => by rw [upd_ne hx]; exact h x hx
  have ht : Ans (tTest (tOp rEq (tOp (rIxT K) (tVar m) (tC (.int 0))) (tC (.str "join")))) σ H b := by
    have h := xv_eq (xv_ixT (K := K) (i := 0) (v := .str (mvS b)) (val_var (i := m) hm) val_c hp (by rfl)) (val_c (σ := σ) (H := H) (v := V.str "join")) (by rfl)
    cases b with
    | true => exact xa_T (by rw [show decide (V.str (mvS true) = V.str "join") = true from by decide +kernel] at h; exact h)
    | false => exact xa_T (by rw [show decide (V.str (mvS false) = V.str "join") = false from by decide +kernel] at h; exact h)
  refine xs_when ht (fun hb => ?_) (fun hb => ?_)
  · subst hb
    refine xq_bump (d := -1) (i := k) (fun x => by rw [Int.sub_eq_add_neg]) vc vs rfl hl (by omega) ?_
    refine xq_bump (d := -1) (i := k + 1) (fun x => by rw [Int.sub_eq_add_neg]) vc (xv_I0 vs val_c) rfl upd_same (by rw [bump_len]; omega) ?_
    refine xq_bump (d := 1) (i := k + 2) (fun x => rfl) vc (xv_I0 vs val_c) rfl upd_same (by rw [bump_len, bump_len]; omega) ?_
    exact vc _ (hr _ _ (dl (dl (dl fun _ _ => rfl))) upd_same rfl)
  · subst hb
    refine xq_bump (d := -2) (i := k) (fun x => by rw [Int.sub_eq_add_neg]) vc vs rfl hl (by omega) ?_
    refine xq_bump (d := 1) (i := k + 1) (fun x => rfl) vc (xv_I0 vs val_c) rfl upd_same (by rw [bump_len]; omega) ?_
    by_cases h1 : k = 1
    · refine xs_when (b := true) (xa_T (xv_to eq1 (by rw [h1]; rfl))) (fun _ => ?_) (fun z => (nomatch z))
      refine xs_bump (d := 1) (i := 0) (fun x => rfl) vc val_c rfl upd_same (by rw [bump_len, bump_len]; omega) ?_
      refine xs_when (b := false) (xa_T (xv_to gt1 (by rw [h1]; rfl))) (fun z => (nomatch z)) (fun _ => ?_)
      refine vc _ (hr _ _ (dl (dl (dl fun _ _ => rfl))) upd_same ?_)
      subst h1
      rfl
    · refine xs_when (b := false) (xa_T (xv_to eq1 (by rw [decide_eq_false (by intro e; have := V.int.inj e; omega)]))) (fun z => (nomatch z)) (fun _ => ?_)
      by_cases h2 : k = 0
      · refine xs_when (b := false) (xa_T (xv_to gt1 (by rw [h2]; rfl))) (fun z => (nomatch z)) (fun _ => ?_)
        refine vc _ (hr _ _ (dl (dl fun _ _ => rfl)) upd_same ?_)
        subst h2
        rfl
      · refine xs_when (b := true) (xa_T (xv_to gt1 (by rw [decide_eq_true (by omega)]))) (fun _ => ?_) (fun z => (nomatch z))
        refine xs_bump (d := 1) (i := k - 2) (fun x => rfl) vc (xv_I0 vs val_c) (by omega) upd_same (by rw [bump_len, bump_len]; omega) ?_
        refine vc _ (hr _ _ (dl (dl (dl fun _ _ => rfl))) upd_same ?_)
        simp only [mvRaw, h1, h2, if_false]
end
end Sh

namespace Sh
/-! what a move does to a weighted sum -/
theorem bump_cons (a : Int) (r : List Int) (i : Nat) (d : Int) : bump (a :: r) (i + 1) d = a :: bump r i d := by
  unfold bump
  simp [List.set]
theorem S_bump (f : Nat → Int) : ∀ (ns : List Int) (i k : Nat) (d : Int), i < ns.length → S f k (bump ns i d) = S f k ns + d * f (k + i)
  | [], i, k, d, h => by simp at h
  | a :: r, 0, k, d, h => by
    have e : bump (a :: r) 0 d = (a + d) :: r := by
      unfold bump
      simp
    rw [e, S_cons, S_cons, Int.add_mul]
    show a * f k + d * f k + S f (k + 1) r = a * f k + S f (k + 1) r + d * f k
    omega
  | a :: r, i + 1, k, d, h => by
    have ih := S_bump f r i (k + 1) d (by simpa using h)
    rw [bump_cons, S_cons, S_cons, ih, show k + 1 + i = k + (i + 1) by omega]
    omega
theorem S_two (f : Nat → Int) (ns : List Int) : S f 0 (ns ++ [0, 0]) = S f 0 ns := by
  rw [S_append]
  simp [S]
def mvDelta (f : Nat → Int) : Mv → Int
  | (true, k) => f (k + 2) - f k - f (k + 1)
  | (false, 0) => f 1 - 2 * f 0
  | (false, 1) => f 2 + f 0 - 2 * f 1
  | (false, k + 2) => f (k + 3) + f k - 2 * f (k + 2)
theorem S_mvDone (f : Nat → Int) {ns : List Int} {m : Mv} (hf : mvFits ns m = true) : S f 0 (mvDone ns m) = S f 0 ns + mvDelta f m := by
  have hk := mvFits_lt hf
  unfold mvDone
  rw [bare_S]
  have hl : (ns ++ [(0 : Int), 0]).length = ns.length + 2 := by simp
  obtain ⟨b, k⟩ := m
  have hk : k < ns.length := hk
  cases b with
  | true =>
    show S f 0 (bump (bump (bump (ns ++ [0, 0]) k (-1)) (k + 1) (-1)) (k + 2) 1) = _
    rw [S_bump f _ _ _ _ (by rw [bump_len, bump_len]; omega), S_bump f _ _ _ _ (by rw [bump_len]; omega), S_bump f _ _ _ _ (by omega), S_two]
    show _ = S f 0 ns + (f (k + 2) - f k - f (k + 1))
    simp only [Nat.zero_add]
    omega
  | false =>
    match k, hk with
    | 0, hk =>
      show S f 0 (bump (bump (ns ++ [0, 0]) 0 (-2)) 1 1) = S f 0 ns + (f 1 - 2 * f 0)
      rw [S_bump f _ _ _ _ (by rw [bump_len]; omega), S_bump f _ _ _ _ (by omega), S_two]
      simp only [Nat.zero_add]
      omega
    | 1, hk =>
      show S f 0 (bump (bump (bump (ns ++ [0, 0]) 1 (-2)) 2 1) 0 1) = S f 0 ns + (f 2 + f 0 - 2 * f 1)
      rw [S_bump f _ _ _ _ (by rw [bump_len, bump_len]; omega), S_bump f _ _ _ _ (by rw [bump_len]; omega), S_bump f _ _ _ _ (by omega), S_two]
      simp only [Nat.zero_add]
      omega
    | k + 2, hk =>
      have e : mvRaw ns (false, k + 2) = bump (bump (bump (ns ++ [0, 0]) (k + 2) (-2)) (k + 3) 1) k 1 := by
        simp [mvRaw]
      rw [e]
      show _ = S f 0 ns + (f (k + 3) + f k - 2 * f (k + 2))
      rw [S_bump f _ _ _ _ (by rw [bump_len, bump_len]; omega), S_bump f _ _ _ _ (by rw [bump_len]; omega), S_bump f _ _ _ _ (by omega), S_two]
      simp only [Nat.zero_add]
      omega
theorem W_delta : ∀ m : Mv, mvDelta W m = 0
  | (true, k) => by
    show W k + W (k + 1) - W k - W (k + 1) = 0
    omega
  | (false, 0) => by decide
  | (false, 1) => by decide
  | (false, k + 2) => by
    show W (k + 1) + (W k + W (k + 1)) + W k - 2 * (W k + W (k + 1)) = 0
    omega
def one (_ : Nat) : Int := 1
def pot (k : Nat) : Int := (k : Int) + 3 + (if 0 < k then 1 else 0)
def fewer (m : Mv) : Bool := m.1 || decide (m.2 = 0)
theorem one_delta (m : Mv) : mvDelta one m = - (if fewer m = true then 1 else 0) := by
  match m with
  | (true, k) => simp [mvDelta, one, fewer]
  | (false, 0) => simp [mvDelta, one, fewer]
  | (false, 1) => simp [mvDelta, one, fewer]
  | (false, k + 2) => simp [mvDelta, one, fewer]
theorem pot_delta (m : Mv) : mvDelta pot m ≤ -1 := by
  match m with
  | (true, 0) => decide
  | (true, k + 1) =>
    simp only [mvDelta, pot]
    split <;> split <;> split <;> omega
  | (false, 0) => decide
  | (false, 1) => decide
  | (false, 2) => decide
  | (false, k + 3) =>
    simp only [mvDelta, pot]
    split <;> split <;> split <;> omega
/-! nothing below nought -/
def NN (xs : List Int) : Prop := ∀ x ∈ xs, 0 ≤ x
theorem NN.get {xs : List Int} (h : NN xs) (i : Nat) : 0 ≤ xs.getD i 0 := by
  rw [List.getD_eq_getElem?_getD]
  cases e : xs[i]? with
  | none => exact Int.le_refl _
  | some x => exact h x (List.mem_of_getElem? e)
theorem NN.of {xs : List Int} (h : ∀ i, 0 ≤ xs.getD i 0) : NN xs := fun x hx => by
  obtain ⟨i, hi, e⟩ := List.getElem_of_mem hx
  have := h i
  rw [List.getD_eq_getElem?_getD, List.getElem?_eq_getElem hi] at this
  rw [← e]
  exact this
theorem getD_bump (xs : List Int) (i j : Nat) (d : Int) (hi : i < xs.length) : (bump xs i d).getD j 0 = if j = i then xs.getD i 0 + d else xs.getD j 0 := by
  unfold bump
  rw [List.getD_eq_getElem?_getD, List.getElem?_set]
  by_cases h : i = j
  · subst h
    rw [if_pos rfl, if_pos hi, if_pos rfl]
    rfl
  · rw [if_neg h, if_neg (fun e => h e.symm), List.getD_eq_getElem?_getD (i := j)]
theorem getD_two (xs : List Int) (j : Nat) : (xs ++ [0, 0]).getD j 0 = xs.getD j 0 := by
  rw [List.getD_eq_getElem?_getD, List.getD_eq_getElem?_getD]
  by_cases h : j < xs.length
  · rw [List.getElem?_append_left h]
  · rw [List.getElem?_append_right (by omega), List.getElem?_eq_none (l := xs) (by omega)]
    match h2 : j - xs.length with
    | 0 => rfl
    | 1 => rfl
    | n + 2 => rfl
theorem NN.two {xs : List Int} (h : NN xs) : NN (xs ++ [0, 0]) := .of fun i => by rw [getD_two]; exact h.get i
theorem NN.bump {xs : List Int} (h : NN xs) {i : Nat} {d : Int} (hi : i < xs.length) (hd : 0 ≤ xs.getD i 0 + d) : NN (bump xs i d) := .of fun j => by
  rw [getD_bump xs i j d hi]
  split
  · exact hd
  · exact h.get j
theorem NN.bare {xs : List Int} (h : NN xs) : NN (bare xs) := fun x hx => h x (bare_mem hx)
theorem NN.done {xs : List Int} (h : NN xs) {m : Mv} (hf : mvFits xs m = true) : NN (mvDone xs m) := by
  have hk := mvFits_lt hf
  have hl : (xs ++ [(0 : Int), 0]).length = xs.length + 2 := by simp
  obtain ⟨b, k⟩ := m
  have hk : k < xs.length := hk
  cases b with
  | true =>
    simp only [mvFits, Bool.and_eq_true, decide_eq_true_eq] at hf
    obtain ⟨f1, f2, f3⟩ := hf
    refine NN.bare (NN.bump (NN.bump (NN.bump h.two (by omega) ?_) (by rw [bump_len]; omega) ?_) (by rw [bump_len, bump_len]; omega) ?_)
    · rw [getD_two]; omega
    · rw [getD_bump _ _ _ _ (by omega), if_neg (by omega), getD_two]; omega
    · rw [getD_bump _ _ _ _ (by rw [bump_len]; omega), if_neg (by omega), getD_bump _ _ _ _ (by omega), if_neg (by omega), getD_two]
      have := h.get (k + 2)
      omega
  | false =>
    simp only [mvFits, Bool.and_eq_true, decide_eq_true_eq] at hf
    obtain ⟨f1, f2⟩ := hf
    match k, hk, f2 with
    | 0, hk, f2 =>
      refine NN.bare (xs := Sh.bump (Sh.bump (xs ++ [0, 0]) 0 (-2)) 1 1) (NN.bump (NN.bump h.two (by omega) ?_) (by rw [bump_len]; omega) ?_)
      · rw [getD_two]; omega
      · rw [getD_bump _ _ _ _ (by omega), if_neg (by omega), getD_two]
        have := h.get 1
        omega
    | 1, hk, f2 =>
      refine NN.bare (xs := Sh.bump (Sh.bump (Sh.bump (xs ++ [0, 0]) 1 (-2)) 2 1) 0 1) (NN.bump (NN.bump (NN.bump h.two (by omega) ?_) (by rw [bump_len]; omega) ?_) (by rw [bump_len, bump_len]; omega) ?_)
      · rw [getD_two]; omega
      · rw [getD_bump _ _ _ _ (by omega), if_neg (by omega), getD_two]
        have := h.get 2
        omega
      · rw [getD_bump _ _ _ _ (by rw [bump_len]; omega), if_neg (by omega), getD_bump _ _ _ _ (by omega), if_neg (by omega), getD_two]
        have := h.get 0
        omega
    | k + 2, hk, f2 =>
      have e : mvRaw xs (false, k + 2) = Sh.bump (Sh.bump (Sh.bump (xs ++ [0, 0]) (k + 2) (-2)) (k + 3) 1) k 1 := by
        simp [mvRaw]
      unfold mvDone
      rw [e]
      refine NN.bare (NN.bump (NN.bump (NN.bump h.two (by omega) ?_) (by rw [bump_len]; omega) ?_) (by rw [bump_len, bump_len]; omega) ?_)
      · rw [getD_two]; omega
      · rw [getD_bump _ _ _ _ (by omega), if_neg (by omega), getD_two]
        have := h.get (k + 3)
        omega
      · rw [getD_bump _ _ _ _ (by rw [bump_len]; omega), if_neg (by omega), getD_bump _ _ _ _ (by omega), if_neg (by omega), getD_two]
        have := h.get k
        omega
/-! the way of a heap by picks -/
def endOf (xs : List Int) (log : List Mv) : List Int := log.foldl mvDone xs
theorem endOf_snoc (xs : List Int) (log : List Mv) (m : Mv) : endOf xs (log ++ [m]) = mvDone (endOf xs log) m := by
  unfold endOf
  rw [List.foldl_append]
  rfl
/-- the place of the move picked behind n, of so many -/
def pickI (pk : List Int) (n many : Nat) : Nat := if pk = [] then 0 else (pk.getD (n % pk.length) 0 % (many : Int)).toNat
structure OkLog (pk : List Int) (xs : List Int) (log : List Mv) : Prop where
  at_ : ∀ k m, log[k]? = some m → (mvs (endOf xs (log.take k)))[pickI pk k (mvs (endOf xs (log.take k))).length]? = some m
theorem OkLog.nil (pk xs : List Int) : OkLog pk xs [] := ⟨fun k m h => by simp at h⟩
theorem OkLog.snoc {pk xs : List Int} {log : List Mv} {m : Mv} (h : OkLog pk xs log) (hm : (mvs (endOf xs log))[pickI pk log.length (mvs (endOf xs log)).length]? = some m) : OkLog pk xs (log ++ [m]) := ⟨fun k n hk => by
  by_cases hl : k < log.length
  · rw [List.getElem?_append_left hl] at hk
    rw [List.take_append_of_le_length (by omega)]
    exact h.at_ k n hk
  · rw [List.getElem?_append_right (by omega)] at hk
    have e : k = log.length := by
      by_cases z : k - log.length = 0
      · omega
      · rw [List.getElem?_eq_none (by simp; omega)] at hk
        cases hk
    subst e
    rw [Nat.sub_self] at hk
    have e2 : m = n := Option.some.inj hk
    subst e2
    rw [List.take_append_of_le_length (Nat.le_refl _), List.take_length]
    exact hm⟩
theorem OkLog.init {pk xs : List Int} {log : List Mv} {m : Mv} (h : OkLog pk xs (log ++ [m])) : OkLog pk xs log ∧ mvFits (endOf xs log) m = true := by
  refine ⟨⟨fun k n hk => ?_⟩, ?_⟩
  · have hl := (List.getElem?_eq_some_iff.mp hk).1
    have h2 := h.at_ k n (by rw [List.getElem?_append_left hl]; exact hk)
    rw [List.take_append_of_le_length (by omega)] at h2
    exact h2
  · have h2 := h.at_ log.length m (by rw [List.getElem?_append_right (Nat.le_refl _), Nat.sub_self]; rfl)
    rw [List.take_append_of_le_length (Nat.le_refl _), List.take_length] at h2
    exact mem_mvs.mp (List.mem_of_getElem? h2)
/-- what a log leaves -/
structure Left (xs : List Int) (log : List Mv) : Prop where
  nn : NN (endOf xs log)
  wt : S W 0 (endOf xs log) = S W 0 xs
  pot : S pot 0 (endOf xs log) + (log.length : Int) ≤ S pot 0 xs
  few : S one 0 xs - S one 0 (endOf xs log) = ((log.filter fewer).length : Int)
  len : (endOf xs log).length ≤ xs.length + 2 * log.length
theorem snoc_ind {α : Type} {P : List α → Prop} (h0 : P []) (hs : ∀ l a, P l → P (l ++ [a])) : ∀ (n : Nat) (l : List α), l.length = n → P l
  | 0, l, h => by
    rw [List.eq_nil_of_length_eq_zero h]
    exact h0
  | n + 1, l, h => by
    obtain ⟨ys, c, rfl⟩ := snoc_of (xs := l) (by intro e; rw [e] at h; cases h)
    refine hs _ _ (snoc_ind h0 hs n ys ?_)
    rw [List.length_append, List.length_singleton] at h
    omega
theorem left_of {pk xs : List Int} (hx : NN xs) (log : List Mv) : OkLog pk xs log → Left xs log := by
  refine snoc_ind (P := fun log => OkLog pk xs log → Left xs log) (fun _ => ⟨hx, rfl, by show S Sh.pot 0 xs + 0 ≤ _; omega, by show S one 0 xs - S one 0 xs = 0; omega, Nat.le_refl _⟩) (fun l m ih h => ?_) _ log rfl
  obtain ⟨h1, hf⟩ := h.init
  have L := ih h1
  rw [show Left xs (l ++ [m]) = Left xs (l ++ [m]) from rfl]
  refine ⟨?_, ?_, ?_, ?_, ?_⟩ <;> rw [endOf_snoc]
  · exact L.nn.done hf
  · rw [S_mvDone W hf, W_delta, L.wt]
    omega
  · rw [S_mvDone Sh.pot hf, List.length_append, List.length_singleton]
    have := pot_delta m
    have := L.pot
    omega
  · rw [S_mvDone one hf, one_delta, List.filter_append, List.length_append]
    have := L.few
    by_cases hm : fewer m = true
    · rw [if_pos hm, List.filter_cons, if_pos hm]
      show _ = (((l.filter fewer).length + 1 : Nat) : Int)
      omega
    · rw [if_neg hm, List.filter_cons, if_neg hm]
      show _ = (((l.filter fewer).length + 0 : Nat) : Int)
      omega
  · have := mvDone_len (endOf xs l) m
    have := L.len
    rw [List.length_append, List.length_singleton]
    omega
theorem pot_pos (k : Nat) : 0 ≤ pot k := by
  unfold pot
  split <;> omega
theorem S_le {f : Nat → Int} {c : Int} : ∀ (xs : List Int) (k n : Nat), NN xs → (∀ j, j < n → f j ≤ c) → k + xs.length ≤ n → S f k xs ≤ c * S one k xs
  | [], k, n, _, _, _ => by simp [S]
  | a :: r, k, n, h, hf, hl => by
    have hl2 : k + (r.length + 1) ≤ n := hl
    have ih := S_le r (k + 1) n (fun x hx => h x (List.mem_cons_of_mem _ hx)) hf (by omega)
    have h1 := Int.mul_le_mul_of_nonneg_left (hf k (by omega)) (h a List.mem_cons_self)
    rw [S_cons, S_cons, Int.mul_add, show c * (a * one k) = a * c by unfold one; rw [Int.mul_one, Int.mul_comm]]
    omega
theorem pot_lt {k : Nat} {n : Nat} (h : k < n) : pot k ≤ (n : Int) + 3 := by
  unfold pot
  split <;> omega
theorem pot_le {xs : List Int} (h : NN xs) : S pot 0 xs ≤ ((xs.length : Int) + 3) * S one 0 xs := S_le xs 0 xs.length h (fun j hj => pot_lt hj) (by omega)
theorem one_ge : ∀ (xs : List Int) (k : Nat), NN xs → ∀ x ∈ xs, x ≤ S one k xs
  | [], _, _, x, hx => nomatch hx
  | a :: r, k, h, x, hx => by
    have h0 : NN r := fun y hy => h y (List.mem_cons_of_mem _ hy)
    have h1 := S_nonneg (f := one) (fun _ => by unfold one; decide) r (k + 1) h0
    have ha := h a List.mem_cons_self
    rw [S_cons, show a * one k = a by unfold one; rw [Int.mul_one]]
    rcases List.mem_cons.mp hx with e | e
    · omega
    · have := one_ge r (k + 1) h0 x e
      omega
theorem one_sum : ∀ (xs : List Int) (k : Nat), S one k xs = xs.sum
  | [], _ => rfl
  | a :: r, k => by
    rw [S_cons, List.sum_cons, one_sum r (k + 1), show a * one k = a by unfold one; rw [Int.mul_one]]
theorem sm_of {xs : List Int} (h : NN xs) (hl : xs.length ≤ 100000) {c : Int} (hc : S one 0 xs ≤ c) (hc2 : c ≤ 1000000) : Sm xs := by
  refine ⟨hl, fun x hx => ?_⟩
  have h1 := one_ge xs 0 h x hx
  have h2 := h x hx
  have h3 : (2 : Nat) ^ 20 ≤ 2 ^ 1000 := by decide +kernel
  have h4 : (2 : Nat) ^ 20 = 1048576 := by decide
  omega
end Sh

/-! Own words for exceptions: isinstance of what an except suite holds, with the class told by the reading. -/
namespace Sh
open PySem PySem.Spec PyProof.Rows L2
theorem units65 {k : Nat} {A : Around} (hr : Room k A) : A.units + 65 < cLine := by have := hr.un; omega
section
variable {K : PySem.W.Frag} {D Y : Addr}
theorem kit_yes (hc : PySem.W.isClsIn K Y = true) (ht : PySem.W.typeIn K (.ref Y) = some (.type "type")) (hs : PySem.W.subIn K (.ref D) (.ref Y) = some true) : PySem.W.kitOne K (.ref D) (.ref Y) = some true := by
  have e2 : ((PySem.W.clsIn K Y).isSome && PySem.W.typeIn K (.ref Y) == some (.type "type")) = true := by
    have h2 : (PySem.W.clsIn K Y).isSome = true := hc
    rw [h2, ht]
    rfl
  unfold PySem.W.kitOne
  split
  · rfl
  · show (if ((PySem.W.clsIn K Y).isSome && PySem.W.typeIn K (.ref Y) == some (.type "type")) = true then PySem.W.subIn K (.ref D) (.ref Y) else none) = some true
    rw [if_pos e2, hs]
theorem kit_no (hc : PySem.W.isClsIn K Y = true) (ht : PySem.W.typeIn K (.ref Y) = some (.type "type")) (h0 : PySem.W.subIn K (.ref D) (.ref D) = some true) (hs : PySem.W.subIn K (.ref D) (.ref Y) = some false) : PySem.W.kitOne K (.ref D) (.ref Y) = some false := by
  have e2 : ((PySem.W.clsIn K Y).isSome && PySem.W.typeIn K (.ref Y) == some (.type "type")) = true := by
    have h2 : (PySem.W.clsIn K Y).isSome = true := hc
    rw [h2, ht]
    rfl
  unfold PySem.W.kitOne
  split
  · rename_i e
    have e3 : Value.ref D = Value.ref Y := beq_iff_eq.mp e
    cases e3
    rw [h0] at hs
    cases hs
  · show (if ((PySem.W.clsIn K Y).isSome && PySem.W.typeIn K (.ref Y) == some (.type "type")) = true then PySem.W.subIn K (.ref D) (.ref Y) else none) = some false
    rw [if_pos e2, hs]
theorem kit_ve (hs : PySem.W.subIn K (.ref D) (.type "ValueError") = some true) : PySem.W.kitOne K (.ref D) (.type "ValueError") = some true := by
  unfold PySem.W.kitOne
  rw [if_neg (by intro e; cases (beq_iff_eq.mp e))]
  show (if PySem.W.kitMeta "ValueError" = true then PySem.W.subIn K (.ref D) (.type "ValueError") else none) = some true
  rw [if_pos (by decide +kernel), hs]
end
/-- isinstance of what an except suite holds: its class as the reading tells it -/
def rIsX (K : PySem.W.Frag) (a : Addr) (cls : Value) (d : Option Addr) : List V → Hp → VK → Prop := fun xs H Q => ∃ (D : Addr), cls = .ref D ∧ d = none ∧ ExcC K D ∧ rIsE K D a xs H Q
theorem call_isX {X : Cx} {K : PySem.W.Frag} {a : Addr} {oe : Obj} {pn : List (Addr × Obj)} {cls : Value} {d : Option Addr} (hK : X.K = K) (hz : Zc cls d oe) (hf : ∃ vs, oe.data = .fields vs) : CallR (X.suite a ((a, oe) :: pn)) (.builtin "isinstance") (rIsX K a cls d) := by
  subst hK
  rintro pins s σ H xs us Q I r ⟨D, rfl, rfl, C, h⟩
  exact call_isE C hz hf pins s σ H xs us Q I r h
section
variable {σ : L2.St} {H : Hp} {K : PySem.W.Frag} {ta tb : TE} {a D : Addr}
theorem xv_isX {b : Bool} {c : V} {cv : Value} (ha : Val ta σ H (.ref a)) (hb : Val tb σ H c) (hE : ExcC K D) (hc : ∀ u, RelV c u → u = cv) (hk : PySem.W.kitOne K (.ref D) cv = some b) : Val (tCB (rIsX K a (.ref D) none) (tCons ta (tCons tb tNil))) σ H (.bl b) :=
  fun Q q => ha _ (hb _ ⟨D, rfl, rfl, hE, c, cv, b, rfl, hc, hk, q⟩)
theorem xv_isC {b : Bool} {C : Addr} (ha : Val ta σ H (.ref a)) (hE : ExcC K D) (hk : PySem.W.kitOne K (.ref D) (.ref C) = some b) : Val (tCB (rIsX K a (.ref D) none) (tCons ta (tCons (tC (.ref C)) tNil))) σ H (.bl b) :=
  xv_isX ha val_c hE (fun u r => r) hk
theorem xv_isT {b : Bool} {n : String} (ha : Val ta σ H (.ref a)) (hE : ExcC K D) (hk : PySem.W.kitOne K (.ref D) (.type n) = some b) : Val (tCB (rIsX K a (.ref D) none) (tCons ta (tCons (tC (.ty n)) tNil))) σ H (.bl b) :=
  xv_isX ha val_c hE (fun u r => r) hk
end
/-- try: f(..) except C as n: suite -/
theorem xq_try {σ : L2.St} {H : Hp} {K : PySem.W.Frag} {D : Ends} {tz : TS} {sp : Sp} {c : Value} {i : Nat} {ts : Addr → Value → Option Addr → TS} {Wout : WX} {ta : TA} {vs : List V} (h : Arg ta σ H vs)
    (q : sp vs H (fun _ H1 => tz D σ H1) (fun cls d H' => wAs K c i ts Wout { D with nx := tz D } cls d σ H')) : tSeq (fun D σ H => tDrop (tCallS sp (WE (wAs K c i ts Wout D)) ta) D σ H) tz D σ H := h _ q
end Sh

namespace Sh
/-! rows: noughts and ones, no two ones side by side, the last a one; there is one of each weight -/
structure Rw (xs : List Int) : Prop where
  zo : ∀ x ∈ xs, x = 0 ∨ x = 1
  st : stillB 0 xs = true
  ba : xs = [] ∨ xs.getLastD 0 = 1
theorem still_snoc (ys : List Int) (c : Int) : stillB 0 (ys ++ [c]) = (stillB 0 ys && !(decide (1 < c) || (decide (0 < c) && decide (0 < ys.getLastD 0)))) := by
  rw [stillB_append]
  show (stillB 0 ys && (!(decide (1 < c) || (decide (0 < c) && decide (0 < ys.getLastD 0))) && true)) = _
  rw [Bool.and_true]
theorem zo_init {ys : List Int} {c : Int} (h : ∀ x ∈ ys ++ [c], x = 0 ∨ x = 1) : (∀ x ∈ ys, x = 0 ∨ x = 1) ∧ (c = 0 ∨ c = 1) := ⟨fun x hx => h x (List.mem_append_left _ hx), h c (List.mem_append_right _ List.mem_cons_self)⟩
theorem S_snoc (f : Nat → Int) (ys : List Int) (c : Int) : S f 0 (ys ++ [c]) = S f 0 ys + c * f ys.length := by
  rw [S_append, S_one, Nat.zero_add]
theorem Z_lt : ∀ (n : Nat) (xs : List Int), xs.length = n → (∀ x ∈ xs, x = 0 ∨ x = 1) → stillB 0 xs = true → S W 0 xs < W n
  | 0, xs, h, _, _ => by
    rw [List.eq_nil_of_length_eq_zero h]
    decide
  | n + 1, xs, h, hz, hs => by
    obtain ⟨ys, c, rfl⟩ := snoc_of (xs := xs) (by intro e; rw [e] at h; cases h)
    have hl : ys.length = n := by
      rw [List.length_append, List.length_singleton] at h
      omega
    obtain ⟨z1, z2⟩ := zo_init hz
    rw [still_snoc, Bool.and_eq_true] at hs
    obtain ⟨s1, s2⟩ := hs
    have ih := Z_lt n ys hl z1 s1
    rw [S_snoc, hl]
    rcases z2 with rfl | rfl
    · have := W_lt n
      omega
    · match n, ys, hl, z1, s1, s2, ih with
      | 0, ys, hl, _, _, _, _ =>
        rw [List.eq_nil_of_length_eq_zero hl]
        decide
      | m + 1, ys, hl, z1, s1, s2, ih =>
        obtain ⟨zs, d, rfl⟩ := snoc_of (xs := ys) (by intro e; rw [e] at hl; cases hl)
        have hl2 : zs.length = m := by
          rw [List.length_append, List.length_singleton] at hl
          omega
        obtain ⟨y1, y2⟩ := zo_init z1
        rw [still_snoc, Bool.and_eq_true] at s1
        have ih2 := Z_lt m zs hl2 y1 s1.1
        have hd : d = 0 := by
          rcases y2 with e | e
          · exact e
          · subst e
            simp at s2
        subst hd
        rw [S_snoc]
        show _ < W m + W (m + 1)
        omega
/-- greedy, from the top -/
def gr : Nat → Int → List Int
  | 0, _ => []
  | k + 1, n => if W k ≤ n then 1 :: gr k (n - W k) else 0 :: gr k n
theorem gr_len : ∀ (k : Nat) (n : Int), (gr k n).length = k
  | 0, _ => rfl
  | k + 1, n => by
    unfold gr
    split <;> rw [List.length_cons, gr_len k]
theorem zo_nonneg {xs : List Int} (h : ∀ x ∈ xs, x = 0 ∨ x = 1) : ∀ x ∈ xs, 0 ≤ x := fun x hx => by
  rcases h x hx with e | e <;> omega
theorem Z_gr : ∀ (n : Nat) (xs : List Int), xs.length = n → (∀ x ∈ xs, x = 0 ∨ x = 1) → stillB 0 xs = true → gr n (S W 0 xs) = xs.reverse
  | 0, xs, h, _, _ => by
    rw [List.eq_nil_of_length_eq_zero h]
    rfl
  | n + 1, xs, h, hz, hs => by
    obtain ⟨ys, c, rfl⟩ := snoc_of (xs := xs) (by intro e; rw [e] at h; cases h)
    have hl : ys.length = n := by
      rw [List.length_append, List.length_singleton] at h
      omega
    obtain ⟨z1, z2⟩ := zo_init hz
    rw [still_snoc, Bool.and_eq_true] at hs
    have ih := Z_gr n ys hl z1 hs.1
    have hlt := Z_lt n ys hl z1 hs.1
    have h0 := S_nonneg (f := W) (fun k => Int.le_of_lt (W_pos k)) ys 0 (zo_nonneg z1)
    rw [S_snoc, hl, List.reverse_append]
    unfold gr
    rcases z2 with rfl | rfl
    · rw [Int.zero_mul, Int.add_zero, if_neg (by omega), ih]
      rfl
    · rw [Int.one_mul, if_pos (by omega), Int.add_sub_cancel, ih]
      rfl
theorem Rw.nonneg {xs : List Int} (h : Rw xs) : ∀ x ∈ xs, 0 ≤ x := zo_nonneg h.zo
theorem Rw.top {xs : List Int} (h : Rw xs) (hne : xs ≠ []) : W (xs.length - 1) ≤ S W 0 xs := by
  obtain ⟨ys, c, rfl⟩ := snoc_of hne
  have hc : c = 1 := by
    rcases h.ba with e | e
    · simp at e
    · simpa using e
  subst hc
  have h0 := S_nonneg (f := W) (fun k => Int.le_of_lt (W_pos k)) ys 0 (zo_nonneg (zo_init h.zo).1)
  rw [S_snoc, List.length_append, List.length_singleton, Nat.add_sub_cancel]
  omega
theorem Rw.lt {xs : List Int} (h : Rw xs) : S W 0 xs < W xs.length := Z_lt _ xs rfl h.zo h.st
theorem Rw.len_le {xs ys : List Int} (hx : Rw xs) (hy : Rw ys) (e : S W 0 xs = S W 0 ys) : xs.length ≤ ys.length := by
  by_cases h0 : xs = []
  · rw [h0]
    exact Nat.zero_le _
  · have h1 := hx.top h0
    have h2 := hy.lt
    by_cases hl : xs.length ≤ ys.length
    · exact hl
    · have h3 := W_mono (i := ys.length) (j := xs.length - 1) (by omega)
      omega
/-- ONE ROW OF EACH WEIGHT -/
theorem Rw.uniq {xs ys : List Int} (hx : Rw xs) (hy : Rw ys) (e : S W 0 xs = S W 0 ys) : xs = ys := by
  have hl : xs.length = ys.length := Nat.le_antisymm (hx.len_le hy e) (hy.len_le hx e.symm)
  have h1 := Z_gr _ xs rfl hx.zo hx.st
  have h2 := Z_gr _ ys rfl hy.zo hy.st
  rw [hl, e, h2] at h1
  have h3 := congrArg List.reverse h1
  rw [List.reverse_reverse, List.reverse_reverse] at h3
  exact h3.symm
theorem gr_ok : ∀ (k : Nat) (n : Int), 0 ≤ n → n < W k → (∀ x ∈ (gr k n).reverse, x = 0 ∨ x = 1) ∧ stillB 0 (gr k n).reverse = true ∧ S W 0 (gr k n).reverse = n ∧ (0 < k → (W (k - 1) ≤ n ↔ (gr k n).reverse.getLastD 0 = 1))
  | 0, n, h0, h1 => by
    have h1 : n < 1 := h1
    have : n = 0 := by omega
    subst this
    exact ⟨fun x h => (nomatch h), rfl, rfl, fun z => (nomatch z)⟩
  | k + 1, n, h0, h1 => by
    unfold gr
    by_cases hc : W k ≤ n
    · rw [if_pos hc, List.reverse_cons]
      have hlt : n - W k < W k := by
        match k, h1, hc with
        | 0, h1, hc =>
          have h1 : n < 2 := h1
          show n - 1 < 1
          omega
        | j + 1, h1, hc =>
          have h1 : n < W j + W (j + 1) := h1
          have := W_lt j
          omega
      obtain ⟨a1, a2, a3, a4⟩ := gr_ok k (n - W k) (by omega) hlt
      have hlen : (gr k (n - W k)).reverse.length = k := by rw [List.length_reverse, gr_len]
      have hlast : (gr k (n - W k)).reverse.getLastD 0 ≤ 0 := by
        match k, h1, hc, a1, a4, hlen with
        | 0, _, _, _, _, hlen =>
          rw [List.eq_nil_of_length_eq_zero hlen]
          decide
        | j + 1, h1, hc, a1, a4, hlen =>
          obtain ⟨ys, c, e⟩ := snoc_of (xs := (gr (j + 1) (n - W (j + 1))).reverse) (by intro e; rw [e] at hlen; cases hlen)
          rw [e] at a1 a4
          rw [e]
          have h1 : n < W j + W (j + 1) := h1
          have h5 := a4 (Nat.succ_pos j)
          have h6 : ¬ W (j + 1 - 1) ≤ n - W (j + 1) := by
            show ¬ W j ≤ _
            omega
          have hc1 : c ≠ 1 := fun e => h6 (h5.mpr (by rw [e]; simp))
          rcases (zo_init a1).2 with e | e
          · rw [e]
            simp
          · exact absurd e hc1
      refine ⟨fun x hx => ?_, ?_, ?_, fun _ => ⟨fun _ => by simp, fun _ => hc⟩⟩
      · rcases List.mem_append.mp hx with h | h
        · exact a1 x h
        · exact .inr (List.mem_singleton.mp h)
      · rw [still_snoc, a2, decide_eq_false (show ¬ 0 < (gr k (n - W k)).reverse.getLastD 0 by omega)]
        rfl
      · rw [S_snoc, a3, hlen]
        omega
    · rw [if_neg hc, List.reverse_cons]
      obtain ⟨a1, a2, a3, a4⟩ := gr_ok k n h0 (by omega)
      have hlen : (gr k n).reverse.length = k := by rw [List.length_reverse, gr_len]
      refine ⟨fun x hx => ?_, ?_, ?_, fun _ => ⟨fun z => absurd z hc, fun z => ?_⟩⟩
      · rcases List.mem_append.mp hx with h | h
        · exact a1 x h
        · exact .inl (List.mem_singleton.mp h)
      · rw [still_snoc, a2]
        rfl
      · rw [S_snoc, a3]
        omega
      · simp at z
/-- the row of a number, as greed finds it -/
theorem gr_rw {k : Nat} {n : Int} (h0 : 0 ≤ n) (h1 : n < W k) (ht : 0 < k → W (k - 1) ≤ n) : Rw (gr k n).reverse ∧ S W 0 (gr k n).reverse = n := by
  obtain ⟨a1, a2, a3, a4⟩ := gr_ok k n h0 h1
  refine ⟨⟨a1, a2, ?_⟩, a3⟩
  by_cases hk : 0 < k
  · exact .inr ((a4 hk).mp (ht hk))
  · have : k = 0 := by omega
    subst this
    exact .inl rfl
theorem W_two : ∀ j : Nat, (2 : Int) ^ j ≤ W (2 * j)
  | 0 => by decide
  | j + 1 => by
    have ih := W_two j
    have h1 := W_lt (2 * j)
    show (2 : Int) ^ j * 2 ≤ W (2 * j) + W (2 * j + 1)
    omega
theorem T60_W : T60 < W 1000 := by
  have h1 := W_two 500
  have h2 : T60 < (2 : Int) ^ 500 := by decide +kernel
  exact Int.lt_of_lt_of_le h2 h1
/-- as the law asks it of a row: what stands at i, what beneath -/
theorem Rw.at {xs : List Int} (h : Rw xs) {i : Nat} {c : Int} (hi : xs[i]? = some c) : (c = 0 ∨ c = 1) ∧ c + prev xs i ≤ 1 ∧ (prev xs i = 0 ∨ prev xs i = 1) := by
  have h1 := h.zo c (List.mem_of_getElem? hi)
  have hp : prev xs i = 0 ∨ prev xs i = 1 := by
    match i with
    | 0 => exact .inl (prev_zero xs)
    | j + 1 =>
      have hj : j < xs.length := by
        have := (List.getElem?_eq_some_iff.mp hi).1
        omega
      rw [prev_succ (get_of hj)]
      exact h.zo _ (List.mem_of_getElem? (get_of hj))
  refine ⟨h1, ?_, hp⟩
  have h2 := stillB_take hi
  have h3 : stillB 0 (xs.take (i + 1)) = true := by
    cases e : stillB 0 (xs.take (i + 1)) with
    | true => rfl
    | false => exact absurd (stillB_stop _ e) (by rw [h.st]; decide)
  rw [h3] at h2
  have h4 := (Bool.and_eq_true_iff.mp h2.symm).2
  rcases h1 with e | e
  · omega
  · subst e
    rcases hp with e | e
    · omega
    · rw [e] at h4
      simp at h4
theorem Rw.end {xs : List Int} (h : Rw xs) : xs = [] ∨ prev xs xs.length = 1 := by
  unfold prev
  rw [List.take_length]
  exact h.ba
theorem Rw.nil : Rw [] := ⟨fun _ h => (nomatch h), rfl, .inl rfl⟩
theorem Rw.sm {xs : List Int} (h : Rw xs) (hl : xs.length ≤ 100000) : Sm xs := ⟨hl, fun x hx => by
  have h3 : (2 : Nat) ^ 20 ≤ 2 ^ 1000 := by decide +kernel
  have h4 : (2 : Nat) ^ 20 = 1048576 := by decide
  rcases h.zo x hx with e | e <;> omega⟩
end Sh

/-! Own words over the layer for rows: chained comparisons, reversed lists, a list beside the empty one. -/
namespace Sh
open PySem PySem.Spec PyProof.Rows L2
section
variable {σ : L2.St} {H : Hp} {K : PySem.W.Frag} {ta tb tc te : TE} {D : Ends} {ts tz tu : TS} {x y w : V}
theorem xv_chain {r r' : R2} {a b : Bool} (ha : Val ta σ H x) (hb : Val tb σ H y) (hr : ∀ Q : VK, Q (.bl a) H → r x y H Q) (h2 : a = true → Val tc σ H w ∧ ∀ Q : VK, Q (.bl b) H → r' y w H Q) : Val (tChain r r' ta tb tc) σ H (.bl (a && b)) := fun Q q =>
  ha _ (hb _ (hr _ ⟨a, rfl, by
    cases a with
    | true => exact (h2 rfl).1 _ ((h2 rfl).2 _ q)
    | false => exact q⟩))
theorem xq_forRev {ta : TA} {a : Addr} {xs : List V} {j : Nat} (h : Arg ta σ H [.ref a]) (hx : SqL K H a xs) (Pv : Nat → L2.St → Hp → Prop) (h0 : Pv 0 σ H) (hq : ∀ i σ H, Pv i σ H → SqL K H a xs)
    (hs : ∀ (i : Nat) (x : V) (σ' : L2.St) (H' : Hp), i < xs.length → xs[xs.length - 1 - i]? = some x → Pv i σ' H' → ts { D with nx := Pv (i + 1), ct := Pv (i + 1), bk := tz D } (σ'.set j (some x)) H') (hd : ∀ σ' H', Pv xs.length σ' H' → tz D σ' H') :
    tSeq (tFor (iRev K ta) (gName j) ts) tz D σ H := h _ ⟨a, xs, rfl, hx, RT.for_Itv (D := { D with nx := tz D }) Pv h0 hq hs hd⟩
theorem ev_eqI {a : Addr} {ns : List Int} (ha : Evl.Ev ta σ H (.ref a)) (hS : SqL K H a (ns.map V.int)) : Evl.Ev (tOp (rEqD K) ta (tLst tNil)) σ H (.bl (decide (ns = []))) :=
  Evl.ev_opL ha (Evl.el_lst Evl.ea_nil (by decide)) (fun p H1 h1 e1 => fun H2 e2 Q q => ⟨_, _, .lst (Same.seq e2 (Same.seq e1 hS)) (dpAll_int ns), .lst (SqL.of (e2 p _ h1)) .nil, shaped_int ns, by decide +kernel, by rw [show (PyData.list []) = .list (([] : List Int).map PyData.int) from rfl, eqv_int]; exact q H2 (Evl.Ex.refl H2)⟩)
/-- is it a number from 0 to below 10 ** 60 -/
def numB : V → Bool
  | .int n => decide (0 ≤ n) && decide (n < T60)
  | _ => false
theorem numB_int {n : Int} (h0 : 0 ≤ n) (h1 : n < T60) : numB (.int n) = true := by
  show (decide (0 ≤ n) && decide (n < T60)) = true
  rw [decide_eq_true h0, decide_eq_true h1]
  rfl
theorem numB_lo {n : Int} (h0 : n < 0) : numB (.int n) = false := by
  show (decide (0 ≤ n) && decide (n < T60)) = false
  rw [decide_eq_false (by omega)]
  rfl
theorem numB_hi {n : Int} (h0 : T60 ≤ n) : numB (.int n) = false := by
  show (decide (0 ≤ n) && decide (n < T60)) = false
  rw [decide_eq_false (p := n < T60) (by omega), Bool.and_false]
/-- the kinds of things that are asked -/
def Kd (K : PySem.W.Frag) (H : Hp) (x : V) : Prop := (∃ n, x = .int n) ∨ (numB x = false ∧ (TyX K H x (.type "bool") ∨ ∃ t, TyX K H x (.type t) ∧ kitB t "int" = some false))
theorem Kd.int {n : Int} : Kd K H (.int n) := .inl ⟨n, rfl⟩
theorem Kd.bl {b : Bool} : Kd K H (.bl b) := .inr ⟨rfl, .inl (.base (.bl b))⟩
theorem Kd.str {s : Str} : Kd K H (.str s) := .inr ⟨rfl, .inr ⟨"str", .base (.str s), by decide +kernel⟩⟩
theorem Kd.non : Kd K H .non := .inr ⟨rfl, .inr ⟨"NoneType", .base .non, by decide +kernel⟩⟩
theorem Kd.lst {a : Addr} {xs : List V} (h : SqL K H a xs) : Kd K H (.ref a) := .inr ⟨rfl, .inr ⟨"list", tyx_L h, by decide +kernel⟩⟩
theorem xr_lst {Q : VK} {tr : TA} (h : tr σ H fun xs H1 => xs.length ≤ sizeLine ∧ ∀ p, H1 p = none → Q (.ref p) (upd H1 p (.lst xs))) : tLst tr σ H Q := h
theorem xr_nil {Q : List V → Hp → Prop} (h : Q [] H) : tNil σ H Q := h
theorem xr_opR {r : R2} {Q : VK} (h : ta σ H fun x H1 => tb σ H1 fun y H2 => r x y H2 Q) : tOp r ta tb σ H Q := h
end
end Sh

/-! Own words over the layer for a heap carried to its end: lists beside the empty one, picks. -/
namespace Sh
open PySem PySem.Spec PyProof.Rows L2
section
variable {σ : L2.St} {H : Hp} {K : PySem.W.Frag} {ta tb te : TE} {D : Ends} {ts tz tu : TS}
/-- a list of moves beside [] -/
theorem et_eqM {ab : Addr} {ps : List Addr} {ms : List Mv} (ha : Evl.Ev ta σ H (.ref ab)) (hb : H ab = some (.lst (ps.map V.ref))) (hm : MvL H ps ms) : Evl.EvT (tTest (tOp (rEqD K) ta (tLst tNil))) σ H (decide (ms = [])) :=
  Evl.et_test (Evl.ev_opL ha (Evl.el_lst Evl.ea_nil (by decide)) (fun p H1 h1 e1 => fun H2 e2 Q q => ⟨_, _, .lst (SqL.of (e2 ab _ (e1 ab _ hb))) (mvs_dp ((hm.same e1).same e2)), .lst (SqL.of (e2 p _ h1)) .nil, mvDs_shaped _, by decide +kernel, by rw [eqv_nilM]; exact q H2 (Evl.Ex.refl H2)⟩))
theorem et_neM {ab : Addr} {ps : List Addr} {ms : List Mv} (ha : Evl.Ev ta σ H (.ref ab)) (hb : H ab = some (.lst (ps.map V.ref))) (hm : MvL H ps ms) : Evl.EvT (tTest (tOp (rNeD K) ta (tLst tNil))) σ H (!decide (ms = [])) :=
  Evl.et_test (Evl.ev_opL ha (Evl.el_lst Evl.ea_nil (by decide)) (fun p H1 h1 e1 => fun H2 e2 Q q => ⟨_, _, .lst (SqL.of (e2 ab _ (e1 ab _ hb))) (mvs_dp ((hm.same e1).same e2)), .lst (SqL.of (e2 p _ h1)) .nil, mvDs_shaped _, by decide +kernel, by rw [eqv_nilM]; exact q H2 (Evl.Ex.refl H2)⟩))
/-- a list of ints beside [] -/
theorem et_eqI {a : Addr} {ns : List Int} (ha : Evl.Ev ta σ H (.ref a)) (hS : SqL K H a (ns.map V.int)) : Evl.EvT (tTest (tOp (rEqD K) ta (tLst tNil))) σ H (decide (ns = [])) :=
  Evl.et_test (Evl.ev_opL ha (Evl.el_lst Evl.ea_nil (by decide)) (fun p H1 h1 e1 => fun H2 e2 Q q => ⟨_, _, .lst (Same.seq e2 (Same.seq e1 hS)) (dpAll_int ns), .lst (SqL.of (e2 p _ h1)) .nil, shaped_int ns, by decide +kernel, by rw [show (PyData.list []) = .list (([] : List Int).map PyData.int) from rfl, eqv_int]; exact q H2 (Evl.Ex.refl H2)⟩))
theorem et_neI {a : Addr} {ns : List Int} (ha : Evl.Ev ta σ H (.ref a)) (hS : SqL K H a (ns.map V.int)) : Evl.EvT (tTest (tOp (rNeD K) ta (tLst tNil))) σ H (!decide (ns = [])) :=
  Evl.et_test (Evl.ev_opL ha (Evl.el_lst Evl.ea_nil (by decide)) (fun p H1 h1 e1 => fun H2 e2 Q q => ⟨_, _, .lst (Same.seq e2 (Same.seq e1 hS)) (dpAll_int ns), .lst (SqL.of (e2 p _ h1)) .nil, shaped_int ns, by decide +kernel, by rw [show (PyData.list []) = .list (([] : List Int).map PyData.int) from rfl, eqv_int]; exact q H2 (Evl.Ex.refl H2)⟩))
/-- what was picked by hand: none, or a list of numbers -/
def PkV (K : PySem.W.Frag) (H : Hp) (pv : V) (pk : List Int) : Prop := (pv = .non ∧ pk = []) ∨ ∃ b, pv = .ref b ∧ SqL K H b (pk.map V.int)
theorem PkV.same {H' : Hp} {pv : V} {pk : List Int} (e : Same H H') (h : PkV K H pv pk) : PkV K H' pv pk := by
  rcases h with h | ⟨b, e1, e2⟩
  · exact .inl h
  · exact .inr ⟨b, e1, e.seq e2⟩
theorem PkV.get {pv : V} {pk : List Int} (h : PkV K H pv pk) (hn : pk ≠ []) : ∃ b, pv = .ref b ∧ SqL K H b (pk.map V.int) := by
  rcases h with h | h
  · exact absurd h.2 hn
  · exact h
/-- x is None or x == [] -/
theorem et_noPk {i : Nat} {pv : V} {pk : List Int} (hv : σ[i]? = some (some pv)) (h : PkV K H pv pk) : Evl.EvT (tOr (tTest (tOp rIsN (tVar i) (tC .non))) (tTest (tOp (rEqD K) (tVar i) (tLst tNil)))) σ H (decide (pk = [])) := by
  rcases h with ⟨rfl, rfl⟩ | ⟨b, rfl, hS⟩
  · exact Evl.et_is (Evl.et_or (a := true) (b := true) (fun H1 e Q q => ⟨_, hv, rfl, ⟨true, rfl, q H1 (Evl.Ex.refl H1)⟩⟩) (fun z => (nomatch z))) (by decide)
  · exact Evl.et_is (Evl.et_or (a := false) (fun H1 e Q q => ⟨_, hv, rfl, ⟨false, rfl, q H1 (Evl.Ex.refl H1)⟩⟩) (fun _ => et_eqI (Evl.ev_var hv) hS)) (Bool.false_or _)
/-! by hand -/
theorem xr_callD {sp : Sp} {dvs : List V} {E : XK} {tr : TA} {Q : VK} (h : tr σ H fun vs H1 => sp (vs ++ dvs) H1 Q E) : tCall sp dvs E tr σ H Q := h
theorem xs_run {i : Nat} (h : te σ H fun v H1 => D.nx (σ.set i (some v)) H1) : tAsg te (gName i) D σ H := h
theorem xr_when {t : TT} (h : t σ H fun b H1 => if b = true then ts { D with nx := tz D } σ H1 else tz D σ H1) : tSeq (tIfS t ts tNext) tz D σ H := h
theorem xr_test {Q : Bool → Hp → Prop} (h : te σ H fun x H1 => ∃ k, x = .bl k ∧ Q k H1) : tTest te σ H Q := h
theorem xr_op {r : R2} {Q : VK} (h : ta σ H fun x H1 => tb σ H1 fun y H2 => r x y H2 Q) : tOp r ta tb σ H Q := h
theorem ofNat_emod (n m : Nat) : ((n : Int) % (m : Int)).toNat = n % m := by
  rw [← Int.natCast_emod, Int.toNat_natCast]
end
end Sh

/-! Own words over the layer for a pair of lists compared. -/
namespace Sh
open PySem PySem.Spec PyProof.Rows L2
theorem xr_tup {σ : L2.St} {H : Hp} {Q : VK} {tr : TA} (h : tr σ H fun xs H1 => xs.length ≤ sizeLine ∧ ∀ p, H1 p = none → Q (.ref p) (upd H1 p (.tup xs))) : tTup tr σ H Q := h
theorem shaped_pair (ns : List Int) : SeqAt.shaped (.tuple [.list (ns.map PyData.int), .list []]) = true := by
  unfold SeqAt.shaped
  rw [Bool.and_eq_true]
  refine ⟨?_, decide_eq_true ?_⟩
  · show (PyData.canLayAll0 (ns.map PyData.int) && true) = true
    rw [canLayAll_int ns]
    rfl
  · have := depthAll_int ns
    simp only [PyData.depth, PyData.depthAll]
    omega
theorem eqv_pair (ns : List Int) : PyData.eqv (.tuple [.list (ns.map PyData.int), .list []]) (.tuple [.list (ns.map PyData.int), .list []]) = true := by
  have h := eqvAll_int ns ns
  rw [decide_eq_true rfl] at h
  simp [PyData.eqv, PyData.eqvAll, h]
end Sh

namespace Sh
/-! the end of a heap is its row -/
theorem bare_last {ys : List Int} (h : ys.getD (ys.length - 1) 0 ≠ 0) : bare ys = ys := by
  by_cases h0 : ys = []
  · subst h0
    rfl
  · obtain ⟨zs, c, rfl⟩ := snoc_of h0
    rw [getD_last] at h
    exact bare_snoc zs h
theorem last_bare {ys : List Int} (h : bare ys = ys) (hne : ys ≠ []) : ys.getD (ys.length - 1) 0 ≠ 0 := by
  obtain ⟨zs, c, rfl⟩ := snoc_of hne
  rw [getD_last]
  rintro rfl
  rw [bare_zero] at h
  have h1 := bare_len zs
  rw [h, List.length_append, List.length_singleton] at h1
  omega
theorem rw_of_still {ys : List Int} (hn : NN ys) (hm : mvs ys = []) (hb : bare ys = ys) : Rw ys := by
  have hf : ∀ m, mvFits ys m = false := fun m => by
    cases h : mvFits ys m with
    | false => rfl
    | true =>
      have := mem_mvs.mpr h
      rw [hm] at this
      cases this
  have h1 : ∀ i, i < ys.length → ys.getD i 0 ≤ 1 := fun i hi => by
    have h := hf (false, i)
    have h : (decide (i < ys.length) && decide (1 < ys.getD i 0)) = false := h
    rw [decide_eq_true hi, Bool.true_and] at h
    have := of_decide_eq_false h
    omega
  have h2 : ∀ i, i + 1 < ys.length → ¬ (0 < ys.getD i 0 ∧ 0 < ys.getD (i + 1) 0) := fun i hi hh => by
    have h := hf (true, i)
    have h : (decide (i + 1 < ys.length) && (decide (0 < ys.getD i 0) && decide (0 < ys.getD (i + 1) 0))) = false := h
    rw [decide_eq_true hi, decide_eq_true hh.1, decide_eq_true hh.2] at h
    cases h
  have hz : ∀ i, i < ys.length → ys.getD i 0 = 0 ∨ ys.getD i 0 = 1 := fun i hi => by
    have := h1 i hi
    have := hn.get i
    omega
  have hs : ∀ i, i ≤ ys.length → stillB 0 (ys.take i) = true := by
    intro i
    induction i with
    | zero => intro _; rfl
    | succ i ih =>
      intro hi
      rw [stillB_take (get_of (show i < ys.length by omega)), ih (by omega), decide_eq_false (show ¬ 1 < ys.getD i 0 by have := h1 i (by omega); omega)]
      show (!(decide (0 < ys.getD i 0) && decide (0 < prev ys i))) = true
      cases i with
      | zero =>
        rw [prev_zero]
        simp
      | succ j =>
        rw [prev_succ (get_of (show j < ys.length by omega))]
        have := h2 j (by omega)
        by_cases ha : 0 < ys.getD j 0
        · rw [decide_eq_false (show ¬ 0 < ys.getD (j + 1) 0 from fun z => this ⟨ha, z⟩)]
          rfl
        · rw [decide_eq_false ha, Bool.and_false]
          rfl
  refine ⟨fun x hx => ?_, ?_, ?_⟩
  · obtain ⟨i, hi, rfl⟩ := List.getElem_of_mem hx
    have h := hz i hi
    rw [List.getD_eq_getElem?_getD, List.getElem?_eq_getElem hi] at h
    exact h
  · have h := hs ys.length (Nat.le_refl _)
    rw [List.take_length] at h
    exact h
  · by_cases h0 : ys = []
    · exact .inl h0
    · refine .inr ?_
      have hl := last_bare hb h0
      have hlen : 0 < ys.length := List.length_pos_iff.mpr h0
      have h3 := hz (ys.length - 1) (by omega)
      obtain ⟨zs, c, rfl⟩ := snoc_of h0
      rw [getD_last] at hl h3
      rcases h3 with e | e
      · exact absurd e hl
      · rw [e]
        simp
theorem endOf_bare {xs : List Int} (hb : bare xs = xs) (log : List Mv) : bare (endOf xs log) = endOf xs log := by
  by_cases h : log = []
  · subst h
    exact hb
  · obtain ⟨l, m, rfl⟩ := snoc_of h
    rw [endOf_snoc]
    exact bare_idem _
theorem log_nil {pk xs : List Int} {log : List Mv} (h : OkLog pk xs log) (hm : mvs xs = []) : log = [] := by
  cases log with
  | nil => rfl
  | cons m r =>
    have h2 := h.at_ 0 m rfl
    have h2 : (mvs xs)[pickI pk 0 (mvs xs).length]? = some m := h2
    rw [hm] at h2
    cases h2
/-- one step laid back, where the heap is three high -/
def laid (xs : List Int) : List Int := bump (bump (bump xs (xs.length - 1) (-1)) (xs.length - 2) 1) (xs.length - 3) 1
def laidBack (xs : List Int) : List Int := if xs.length < 3 then xs else if (laid xs).getD (xs.length - 1) 0 = 0 then (laid xs).dropLast else laid xs
theorem laid_len (xs : List Int) : (laid xs).length = xs.length := by
  unfold laid
  rw [bump_len, bump_len, bump_len]
structure Heap0 (xs : List Int) (c : Int) : Prop where
  nn : NN xs
  ba : bare xs = xs
  sum : S one 0 xs ≤ c
theorem laid_get {xs : List Int} (h3 : ¬ xs.length < 3) : (laid xs).getD (xs.length - 1) 0 = xs.getD (xs.length - 1) 0 - 1 ∧ (laid xs).getD (xs.length - 2) 0 = xs.getD (xs.length - 2) 0 + 1 := by
  unfold laid
  refine ⟨?_, ?_⟩
  · rw [getD_bump _ _ _ _ (by rw [bump_len, bump_len]; omega), if_neg (by omega), getD_bump _ _ _ _ (by rw [bump_len]; omega), if_neg (by omega), getD_bump _ _ _ _ (by omega), if_pos rfl]
    omega
  · rw [getD_bump _ _ _ _ (by rw [bump_len, bump_len]; omega), if_neg (by omega), getD_bump _ _ _ _ (by rw [bump_len]; omega), if_pos rfl, getD_bump _ _ _ _ (by omega), if_neg (by omega)]
theorem laidBack_ok {xs : List Int} {c : Int} (h : Heap0 xs c) : Heap0 (laidBack xs) (c + 1) ∧ S W 0 (laidBack xs) = S W 0 xs ∧ (laidBack xs).length ≤ xs.length := by
  unfold laidBack
  by_cases h3 : xs.length < 3
  · rw [if_pos h3]
    exact ⟨⟨h.nn, h.ba, by have := h.sum; omega⟩, rfl, Nat.le_refl _⟩
  · rw [if_neg h3]
    have hne : xs ≠ [] := by
      rintro rfl
      simp at h3
    have hl := last_bare h.ba hne
    have hl0 := h.nn.get (xs.length - 1)
    have hl1 := h.nn.get (xs.length - 2)
    have hl2 := h.nn.get (xs.length - 3)
    obtain ⟨g1, g2⟩ := laid_get h3
    have hn : NN (laid xs) := by
      unfold laid
      refine NN.bump (NN.bump (NN.bump h.nn (by omega) (by omega)) (by rw [bump_len]; omega) ?_) (by rw [bump_len, bump_len]; omega) ?_
      · rw [getD_bump _ _ _ _ (by omega), if_neg (by omega)]
        omega
      · rw [getD_bump _ _ _ _ (by rw [bump_len]; omega), if_neg (by omega), getD_bump _ _ _ _ (by omega), if_neg (by omega)]
        omega
    have hS : ∀ f : Nat → Int, S f 0 (laid xs) = S f 0 xs - f (xs.length - 1) + f (xs.length - 2) + f (xs.length - 3) := fun f => by
      unfold laid
      rw [S_bump f _ _ _ _ (by rw [bump_len, bump_len]; omega), S_bump f _ _ _ _ (by rw [bump_len]; omega), S_bump f _ _ _ _ (by omega)]
      simp only [Nat.zero_add]
      omega
    have hW : S W 0 (laid xs) = S W 0 xs := by
      rw [hS]
      obtain ⟨j, hj⟩ : ∃ j, xs.length = j + 3 := ⟨xs.length - 3, by omega⟩
      rw [hj]
      show S W 0 xs - (W j + W (j + 1)) + W (j + 1) + W j = _
      omega
    have h1 : S one 0 (laid xs) ≤ c + 1 := by
      rw [hS]
      have := h.sum
      show S one 0 xs - 1 + 1 + 1 ≤ c + 1
      omega
    have hlen := laid_len xs
    by_cases h0 : (laid xs).getD (xs.length - 1) 0 = 0
    · rw [if_pos h0]
      obtain ⟨zs, d, e⟩ := snoc_of (xs := laid xs) (by intro e; rw [e] at hlen; simp at hlen; omega)
      have hzl : zs.length = xs.length - 1 := by
        rw [e, List.length_append, List.length_singleton] at hlen
        omega
      have hd : d = 0 := by
        rw [← hlen, e, getD_last] at h0
        exact h0
      subst hd
      have hz2 : zs.getD (zs.length - 1) 0 = xs.getD (xs.length - 2) 0 + 1 := by
        rw [← g2, e, List.getD_eq_getElem?_getD, List.getD_eq_getElem?_getD, List.getElem?_append_left (by omega)]
        congr 2
        omega
      rw [e, S_append, S_one] at hW h1
      rw [e, List.dropLast_concat]
      refine ⟨⟨fun x hx => hn x (by rw [e]; exact List.mem_append_left _ hx), bare_last (by rw [hz2]; omega), by omega⟩, by omega, by omega⟩
    · rw [if_neg h0]
      exact ⟨⟨hn, bare_last (by rw [hlen]; exact h0), h1⟩, hW, by omega⟩
theorem mvs_rw {ys : List Int} (h : Rw ys) : mvs ys = [] := by
  cases e : mvs ys with
  | nil => rfl
  | cons m r =>
    have hf : mvFits ys m = true := mem_mvs.mp (by rw [e]; exact List.mem_cons_self)
    have hk := mvFits_lt hf
    obtain ⟨b, k⟩ := m
    have hk : k < ys.length := hk
    have h1 := h.zo _ (List.mem_of_getElem? (get_of hk))
    cases b with
    | false =>
      have hf : (decide (k < ys.length) && decide (1 < ys.getD k 0)) = true := hf
      have := of_decide_eq_true (Bool.and_eq_true_iff.mp hf).2
      omega
    | true =>
      have hf : (decide (k + 1 < ys.length) && (decide (0 < ys.getD k 0) && decide (0 < ys.getD (k + 1) 0))) = true := hf
      obtain ⟨f1, f2⟩ := Bool.and_eq_true_iff.mp hf
      obtain ⟨f2, f3⟩ := Bool.and_eq_true_iff.mp f2
      have f1 := of_decide_eq_true f1
      have f2 : 0 < ys.getD k 0 := of_decide_eq_true f2
      have f3 := of_decide_eq_true f3
      obtain ⟨a1, a2, a3⟩ := h.at (get_of f1)
      rw [prev_succ (get_of hk)] at a2
      have a2 : ys.getD (k + 1) 0 + ys.getD k 0 ≤ 1 := a2
      have f3 : 0 < ys.getD (k + 1) 0 := f3
      omega
theorem S_le2 {f g : Nat → Int} {c : Int} (hf : ∀ j, f j ≤ c * g j) : ∀ (xs : List Int) (k : Nat), NN xs → S f k xs ≤ c * S g k xs
  | [], k, _ => by simp [S]
  | a :: r, k, h => by
    have ih := S_le2 hf r (k + 1) (fun x hx => h x (List.mem_cons_of_mem _ hx))
    have h1 := Int.mul_le_mul_of_nonneg_left (hf k) (h a List.mem_cons_self)
    rw [S_cons, S_cons, Int.mul_add, show c * (a * g k) = a * (c * g k) by rw [← Int.mul_assoc, ← Int.mul_assoc, Int.mul_comm c a]]
    omega
theorem pot_W : ∀ k, pot k ≤ 3 * W k
  | 0 => by decide
  | 1 => by decide
  | k + 2 => by
    have h1 := pot_W (k + 1)
    have h2 := W_pos k
    have e1 : pot (k + 1) = (k : Int) + 5 := by
      unfold pot
      rw [if_pos (by omega)]
      omega
    have e2 : pot (k + 2) = (k : Int) + 6 := by
      unfold pot
      rw [if_pos (by omega)]
      omega
    show pot (k + 2) ≤ 3 * (W k + W (k + 1))
    omega
theorem pot_rw {xs ys : List Int} (hR : Rw ys) (hw : S W 0 ys = S W 0 xs) (hx : Heap0 xs 40) (hl : xs.length ≤ 8) : (ys.length : Int) + 2 * S pot 0 ys ≤ 19000 := by
  have h1 := S_le2 pot_W ys 0 hR.nonneg
  have h2 := S_le (f := W) (c := 34) xs 0 xs.length hx.nn (fun j hj => by
    have := W_mono (i := j) (j := 7) (by omega)
    have h9 : W 7 = 34 := by decide
    omega) (by omega)
  have h3 := hx.sum
  have h4 : (ys.length : Int) ≤ 1362 := by
    by_cases h0 : ys = []
    · rw [h0]
      decide
    · have := hR.top h0
      have := W_ge (ys.length - 1)
      omega
  omega
theorem W_in {xs : List Int} (h : NN xs) {c : Int} (hc : S one 0 xs ≤ c) (hl : xs.length ≤ 9) (h0 : c ≤ 1000) : 0 ≤ S W 0 xs ∧ S W 0 xs < T60 := by
  have h1 := S_nonneg (f := W) (fun k => Int.le_of_lt (W_pos k)) xs 0 h
  have h2 := S_le (f := W) (c := 89) xs 0 xs.length h (fun j hj => by
    have := W_mono (i := j) (j := 9) (by omega)
    have h9 : W 9 = 89 := by decide
    omega) (by omega)
  have h3 : (89000 : Int) < T60 := by decide +kernel
  omega
end Sh

namespace K06
open PySem PySem.Spec PyProof.Rows L2 Sh
def topS (i : Nat) : Stmt := PySem.Challenge.pw_shellstair_k06_whole_one_end.main.body.getD i (.Pass ⟨0, 0, 0, 0⟩)
abbrev st_fits : Stmt := topS 5
theorem sc_fits : FnScope ["heap", "move", "step"] ["heap", "move"] (defScope st_fits) := ⟨rfl, rfl, rfl, by decide +kernel, rfl, by decide +kernel, by decide +kernel⟩
abbrev st_moves : Stmt := topS 6
theorem sc_moves : FnScope ["heap", "found", "step"] ["heap"] (defScope st_moves) := ⟨rfl, rfl, rfl, by decide +kernel, rfl, by decide +kernel, by decide +kernel⟩
abbrev st_bare : Stmt := topS 7
theorem sc_bare : FnScope ["counts", "size"] ["counts"] (defScope st_bare) := ⟨rfl, rfl, rfl, by decide +kernel, rfl, by decide +kernel, by decide +kernel⟩
abbrev st_done : Stmt := topS 8
theorem sc_done : FnScope ["heap", "move", "step", "counts"] ["heap", "move"] (defScope st_done) := ⟨rfl, rfl, rfl, by decide +kernel, rfl, by decide +kernel, by decide +kernel⟩
abbrev st_picked : Stmt := topS 9
theorem sc_picked : FnScope ["able", "picks", "many", "pick"] ["able", "picks", "many"] (defScope st_picked) := ⟨rfl, rfl, rfl, by decide +kernel, rfl, by decide +kernel, by decide +kernel⟩
abbrev st_carried : Stmt := topS 10
theorem sc_carried : FnScope ["heap", "picks", "counts", "log", "able", "move"] ["heap", "picks"] (defScope st_carried) := ⟨rfl, rfl, rfl, by decide +kernel, rfl, by decide +kernel, by decide +kernel⟩
abbrev st_weight : Stmt := topS 12
theorem sc_weight : FnScope ["heap", "total", "here", "above", "many"] ["heap"] (defScope st_weight) := ⟨rfl, rfl, rfl, by decide +kernel, rfl, by decide +kernel, by decide +kernel⟩
abbrev st_is_still : Stmt := topS 13
theorem sc_is_still : FnScope ["heap", "below", "many"] ["heap"] (defScope st_is_still) := ⟨rfl, rfl, rfl, by decide +kernel, rfl, by decide +kernel, by decide +kernel⟩
abbrev st_is_number : Stmt := topS 15
theorem sc_is_number : FnScope ["thing"] ["thing"] (defScope st_is_number) := ⟨rfl, rfl, rfl, by decide +kernel, rfl, by decide +kernel, by decide +kernel⟩
abbrev st_still_heap : Stmt := topS 16
theorem sc_still_heap : FnScope ["number", "worths", "here", "above", "heap", "left", "each"] ["number"] (defScope st_still_heap) := ⟨rfl, rfl, rfl, by decide +kernel, rfl, by decide +kernel, by decide +kernel⟩
abbrev st_row_of : Stmt := topS 17
theorem sc_row_of : FnScope ["number"] ["number"] (defScope st_row_of) := ⟨rfl, rfl, rfl, by decide +kernel, rfl, by decide +kernel, by decide +kernel⟩
abbrev st_l_cell_at : Stmt := topS 19
theorem sc_l_cell_at : FnScope ["_law_script", "_law_k"] ["_law_script", "_law_k"] (defScope st_l_cell_at) := ⟨rfl, rfl, rfl, by decide +kernel, rfl, by decide +kernel, by decide +kernel⟩
abbrev st_l_whole : Stmt := topS 20
theorem sc_l_whole : FnScope ["_law_found"] ["_law_found"] (defScope st_l_whole) := ⟨rfl, rfl, rfl, by decide +kernel, rfl, by decide +kernel, by decide +kernel⟩
abbrev st_l_stream : Stmt := topS 21
theorem sc_l_stream : FnScope ["_law_cell", "_law_many", "_law_found", "_law_number", "_law_k"] ["_law_cell", "_law_many"] (defScope st_l_stream) := ⟨rfl, rfl, rfl, by decide +kernel, rfl, by decide +kernel, by decide +kernel⟩
abbrev st_l_heap : Stmt := topS 22
theorem sc_l_heap : FnScope ["_law_script", "_law_heap_here", "_law_span", "_law_cell"] ["_law_script"] (defScope st_l_heap) := ⟨rfl, rfl, rfl, by decide +kernel, rfl, by decide +kernel, by decide +kernel⟩
abbrev st_l_laid_back : Stmt := topS 23
theorem sc_l_laid_back : FnScope ["_law_heap_here", "_law_made", "_law_top"] ["_law_heap_here"] (defScope st_l_laid_back) := ⟨rfl, rfl, rfl, by decide +kernel, rfl, by decide +kernel, by decide +kernel⟩
abbrev st_l_weight : Stmt := topS 24
theorem sc_l_weight : FnScope ["_law_heap_here", "_law_total", "_law_here", "_law_beyond", "_law_count"] ["_law_heap_here"] (defScope st_l_weight) := ⟨rfl, rfl, rfl, by decide +kernel, rfl, by decide +kernel, by decide +kernel⟩
abbrev st_l_still : Stmt := topS 25
theorem sc_l_still : FnScope ["_law_found", "_law_below", "_law_count"] ["_law_found"] (defScope st_l_still) := ⟨rfl, rfl, rfl, by decide +kernel, rfl, by decide +kernel, by decide +kernel⟩
abbrev st_l_fewer : Stmt := topS 26
theorem sc_l_fewer : FnScope ["_law_log", "_law_fewer_here", "_law_move"] ["_law_log"] (defScope st_l_fewer) := ⟨rfl, rfl, rfl, by decide +kernel, rfl, by decide +kernel, by decide +kernel⟩
abbrev st_l_end : Stmt := topS 27
theorem sc_l_end : FnScope ["_law_heap_here", "_law_picks", "_law_handed", "_law_given", "_law_found", "_law_end_here", "_law_most", "_law_k"] ["_law_heap_here", "_law_picks"] (defScope st_l_end) := ⟨rfl, rfl, rfl, by decide +kernel, rfl, by decide +kernel, by decide +kernel⟩
abbrev st_law : Stmt := topS 28
theorem sc_law : FnScope ["_law_script", "_law_heap_here", "_law_other", "_law_whole_here", "_law_end_here", "_law_numbers", "_law_beside", "_law_told", "_law_row", "_law_kept", "_law_again", "_law_cell"] ["_law_script"] (defScope st_law) := ⟨rfl, rfl, rfl, by decide +kernel, rfl, by decide +kernel, by decide +kernel⟩
/-- what the top has written -/
structure Txt (K : PySem.W.Frag) (mg : Str → Option Value) where
  C_StairError : Addr
  g_StairError : mg "StairError" = some (.ref C_StairError)
  k_StairError : PySem.W.keepIn K (.ref C_StairError) = true
  x_StairError : PySem.W.excIn K C_StairError [.type "ValueError", .type "Exception", .type "BaseException", .type "object"] "ValueError.__new__" = true
  xb_StairError : PySem.W.subIn K (.ref C_StairError) (.type "BaseException") = some true
  xt_StairError : PySem.W.typeIn K (.ref C_StairError) = some (.type "type")
  C_NoMove : Addr
  g_NoMove : mg "NoMove" = some (.ref C_NoMove)
  k_NoMove : PySem.W.keepIn K (.ref C_NoMove) = true
  x_NoMove : PySem.W.excIn K C_NoMove [.type "ValueError", .type "Exception", .type "BaseException", .type "object"] "ValueError.__new__" = true
  xb_NoMove : PySem.W.subIn K (.ref C_NoMove) (.type "BaseException") = some true
  xt_NoMove : PySem.W.typeIn K (.ref C_NoMove) = some (.type "type")
  C_NoNumber : Addr
  g_NoNumber : mg "NoNumber" = some (.ref C_NoNumber)
  k_NoNumber : PySem.W.keepIn K (.ref C_NoNumber) = true
  x_NoNumber : PySem.W.excIn K C_NoNumber [.type "ValueError", .type "Exception", .type "BaseException", .type "object"] "ValueError.__new__" = true
  xb_NoNumber : PySem.W.subIn K (.ref C_NoNumber) (.type "BaseException") = some true
  xt_NoNumber : PySem.W.typeIn K (.ref C_NoNumber) = some (.type "type")
  f_fits : Addr
  d_fits : FuncData
  F_fits : Fun K "fits" "fits" st_fits f_fits d_fits
  g_fits : mg "fits" = some (.ref f_fits)
  b_fits : Binds K d_fits ["heap", "move"] []
  f_moves : Addr
  d_moves : FuncData
  F_moves : Fun K "moves" "moves" st_moves f_moves d_moves
  g_moves : mg "moves" = some (.ref f_moves)
  b_moves : Binds K d_moves ["heap"] []
  f_bare : Addr
  d_bare : FuncData
  F_bare : Fun K "bare" "bare" st_bare f_bare d_bare
  g_bare : mg "bare" = some (.ref f_bare)
  b_bare : Binds K d_bare ["counts"] []
  f_done : Addr
  d_done : FuncData
  F_done : Fun K "done" "done" st_done f_done d_done
  g_done : mg "done" = some (.ref f_done)
  b_done : Binds K d_done ["heap", "move"] []
  f_picked : Addr
  d_picked : FuncData
  F_picked : Fun K "picked" "picked" st_picked f_picked d_picked
  g_picked : mg "picked" = some (.ref f_picked)
  b_picked : Binds K d_picked ["able", "picks", "many"] []
  f_carried : Addr
  d_carried : FuncData
  F_carried : FunD K "carried" "carried" (defArgs st_carried) (defBody st_carried) (defScope st_carried) [V.non] [] f_carried d_carried
  g_carried : mg "carried" = some (.ref f_carried)
  b0_carried : ∃ ds, Vals [V.non] ds ∧ Binds K d_carried ["heap", "picks"] ds
  b1_carried : ∃ ds, Vals [] ds ∧ Binds K d_carried ["heap", "picks"] ds
  f_weight : Addr
  d_weight : FuncData
  F_weight : Fun K "weight" "weight" st_weight f_weight d_weight
  g_weight : mg "weight" = some (.ref f_weight)
  b_weight : Binds K d_weight ["heap"] []
  f_is_still : Addr
  d_is_still : FuncData
  F_is_still : Fun K "is_still" "is_still" st_is_still f_is_still d_is_still
  g_is_still : mg "is_still" = some (.ref f_is_still)
  b_is_still : Binds K d_is_still ["heap"] []
  f_is_number : Addr
  d_is_number : FuncData
  F_is_number : Fun K "is_number" "is_number" st_is_number f_is_number d_is_number
  g_is_number : mg "is_number" = some (.ref f_is_number)
  b_is_number : Binds K d_is_number ["thing"] []
  f_still_heap : Addr
  d_still_heap : FuncData
  F_still_heap : Fun K "still_heap" "still_heap" st_still_heap f_still_heap d_still_heap
  g_still_heap : mg "still_heap" = some (.ref f_still_heap)
  b_still_heap : Binds K d_still_heap ["number"] []
  f_row_of : Addr
  d_row_of : FuncData
  F_row_of : Fun K "row_of" "row_of" st_row_of f_row_of d_row_of
  g_row_of : mg "row_of" = some (.ref f_row_of)
  b_row_of : Binds K d_row_of ["number"] []
  f_l_cell_at : Addr
  d_l_cell_at : FuncData
  F_l_cell_at : Fun K "_law_cell_at" "_law_cell_at" st_l_cell_at f_l_cell_at d_l_cell_at
  g_l_cell_at : mg "_law_cell_at" = some (.ref f_l_cell_at)
  b_l_cell_at : Binds K d_l_cell_at ["_law_script", "_law_k"] []
  f_l_whole : Addr
  d_l_whole : FuncData
  F_l_whole : Fun K "_law_whole" "_law_whole" st_l_whole f_l_whole d_l_whole
  g_l_whole : mg "_law_whole" = some (.ref f_l_whole)
  b_l_whole : Binds K d_l_whole ["_law_found"] []
  f_l_stream : Addr
  d_l_stream : FuncData
  F_l_stream : Fun K "_law_stream" "_law_stream" st_l_stream f_l_stream d_l_stream
  g_l_stream : mg "_law_stream" = some (.ref f_l_stream)
  b_l_stream : Binds K d_l_stream ["_law_cell", "_law_many"] []
  f_l_heap : Addr
  d_l_heap : FuncData
  F_l_heap : Fun K "_law_heap" "_law_heap" st_l_heap f_l_heap d_l_heap
  g_l_heap : mg "_law_heap" = some (.ref f_l_heap)
  b_l_heap : Binds K d_l_heap ["_law_script"] []
  f_l_laid_back : Addr
  d_l_laid_back : FuncData
  F_l_laid_back : Fun K "_law_laid_back" "_law_laid_back" st_l_laid_back f_l_laid_back d_l_laid_back
  g_l_laid_back : mg "_law_laid_back" = some (.ref f_l_laid_back)
  b_l_laid_back : Binds K d_l_laid_back ["_law_heap_here"] []
  f_l_weight : Addr
  d_l_weight : FuncData
  F_l_weight : Fun K "_law_weight" "_law_weight" st_l_weight f_l_weight d_l_weight
  g_l_weight : mg "_law_weight" = some (.ref f_l_weight)
  b_l_weight : Binds K d_l_weight ["_law_heap_here"] []
  f_l_still : Addr
  d_l_still : FuncData
  F_l_still : Fun K "_law_still" "_law_still" st_l_still f_l_still d_l_still
  g_l_still : mg "_law_still" = some (.ref f_l_still)
  b_l_still : Binds K d_l_still ["_law_found"] []
  f_l_fewer : Addr
  d_l_fewer : FuncData
  F_l_fewer : Fun K "_law_fewer" "_law_fewer" st_l_fewer f_l_fewer d_l_fewer
  g_l_fewer : mg "_law_fewer" = some (.ref f_l_fewer)
  b_l_fewer : Binds K d_l_fewer ["_law_log"] []
  f_l_end : Addr
  d_l_end : FuncData
  F_l_end : Fun K "_law_end" "_law_end" st_l_end f_l_end d_l_end
  g_l_end : mg "_law_end" = some (.ref f_l_end)
  b_l_end : Binds K d_l_end ["_law_heap_here", "_law_picks"] []
  f_law : Addr
  d_law : FuncData
  F_law : Fun K "law" "law" st_law f_law d_law
  g_law : mg "law" = some (.ref f_law)
  b_law : Binds K d_law ["_law_script"] []
  m_len : mg "len" = none
  m_range : mg "range" = none
  m_list : mg "list" = none
  m_isinstance : mg "isinstance" = none
  m_int : mg "int" = none
  m_bool : mg "bool" = none
  m_reversed : mg "reversed" = none
  m_tuple : mg "tuple" = none
  m_sum : mg "sum" = none
local macro_rules | `(tactic| walk_at "side") => `(tactic| first | assumption | omega | exact ⟨by decide, by decide⟩ | exact ⟨by decide, by decide, by decide⟩ | (show (0 : Int) < _; first | omega | decide | exact T60_pos | exact T60_pos1 | decide +kernel))
local macro_rules | `(tactic| walk_at "sq") => `(tactic| first | assumption | exact SqL.of (by assumption))
local macro_rules | `(tactic| walk_at "val") => `(tactic| first
  | with_reducible exact val_c
  | ((with_reducible apply xv_c) <;> exact rfl)
  | ((with_reducible apply val_var) <;> rfl)
  | with_reducible exact xv_p60
  | ((with_reducible apply xv_I0) <;> walk_at "val")
  | ((with_reducible apply xv_I) <;> first | walk_at "val" | walk_at "side")
  | ((with_reducible apply xv_eq) <;> first | walk_at "val" | rfl)
  | ((with_reducible apply xv_ne) <;> first | walk_at "val" | rfl)
  | ((with_reducible apply xv_U) <;> walk_at "val")
  | ((with_reducible apply xv_lenI) <;> first | walk_at "val" | walk_at "sq")
  | ((with_reducible apply xv_ix) <;> first | walk_at "val" | walk_at "sq" | walk_at "side")
  | ((with_reducible apply xv_and) <;> first | walk_at "val" | (intro hc; (try replace hc := of_decide_eq_true hc); walk_at "val"))
  | ((with_reducible apply xv_or) <;> first | walk_at "val" | (intro hc; (try replace hc := of_decide_eq_false hc); walk_at "val"))
  | ((with_reducible apply xv_not) <;> walk_at "val")
  | walk_at "val+")
local macro_rules | `(tactic| walk_at "val+") => `(tactic| fail "val")
local macro_rules | `(tactic| walk_at "arg") => `(tactic| first | with_reducible exact xg_nil | ((with_reducible apply xg_cons) <;> first | walk_at "val" | walk_at "arg"))
local macro_rules | `(tactic| walk_at "ans") => `(tactic| first
  | ((with_reducible apply xa_T) <;> walk_at "val")
  | ((with_reducible apply xa_B) <;> walk_at "val")
  | ((with_reducible apply xa_not) <;> walk_at "ans")
  | ((with_reducible apply xa_and) <;> first | walk_at "ans" | (intro hc; (try replace hc := of_decide_eq_true hc); walk_at "ans"))
  | ((with_reducible apply xa_or) <;> first | walk_at "ans" | (intro hc; (try replace hc := of_decide_eq_false hc); walk_at "ans")))

section
variable {P : Program} {w : World} {K : PySem.W.Frag} {mg : Str → Option Value} {base : Heap}
/-! ### a cell of the script -/
def sp_cell (K : PySem.W.Frag) : Sp := fun vs H Q _ => ∃ (a : Addr) (ns : List Int) (j : Nat), vs = [.ref a, .int (j : Int)] ∧ SqL K H a (ns.map V.int) ∧ Q (.int (ns.getD j 0)) H
theorem ok_l_cell_at (T : Txt K mg) : FnOk P w K mg base CX0 1 T.f_l_cell_at T.d_l_cell_at ["_law_script", "_law_k"] (sp_cell K) := by
  refine T.F_l_cell_at.ok sc_l_cell_at (fun vs H Q E h => ?_) (fun cdv A outer s H vs Q E hr h => ?_)
  · obtain ⟨a, ns, j, rfl, _⟩ := h
    rfl
  · obtain ⟨a, ns, j, rfl, hS, q⟩ := h
    refine ⟨_, (pss_cons (ps_if (pt_cmpR op_lt (pv 1) (pe_callB call_len_seq (by rfl) T.m_len PySem.boot_len (pa_cons (pv 0) pa_nil)) (nomark _)) (pss_one (ps_ret (pe_ix ix_list (pv 0) (pv 1) (fun _ _ => rfl)))) pss_nil)
      (pss_one (ps_ret pe_int))), ?_⟩
    refine xs_when (xa_T (xv_I0 (val_var rfl) (xv_lenI (val_var rfl) hS))) (fun hc => ?_) (fun hc => ?_)
    · have hj : (j : Int) < ns.length := of_decide_eq_true hc
      exact st_ret (xv_ix (val_var rfl) (val_var rfl) hS (by omega) hj) q
    · have hj : ¬ (j : Int) < ns.length := of_decide_eq_false hc
      refine st_ret val_c ?_
      rw [List.getD_eq_getElem?_getD, List.getElem?_eq_none (by omega)] at q
      exact q
theorem xv_cell {σ : L2.St} {H : Hp} {ta tb : TE} {a : Addr} {ns : List Int} {j : Nat} (h : Val ta σ H (.ref a)) (h2 : Val tb σ H (.int (j : Int))) (hS : SqL K H a (ns.map V.int)) : Val (tCall (sp_cell K) [] E0 (tCons ta (tCons tb tNil))) σ H (.int (ns.getD j 0)) :=
  xv_call (xg_cons h (xg_cons h2 xg_nil)) fun Q q => ⟨a, ns, j, rfl, hS, q⟩
local macro_rules | `(tactic| walk_at "val+") => `(tactic| ((with_reducible apply xv_cell) <;> first | walk_at "val" | walk_at "sq"))
/-! ### whole numbers -/
def sp_whole : Sp := fun vs H Q _ => ∃ i : Int, vs = [.int i] ∧ Q (.bl true) H
theorem ok_l_whole (T : Txt K mg) : FnOk P w K mg base CX0 1 T.f_l_whole T.d_l_whole ["_law_found"] sp_whole := by
  refine T.F_l_whole.ok sc_l_whole (fun vs H Q E h => ?_) (fun cdv A outer s H vs Q E hr h => ?_)
  · obtain ⟨i, rfl, _⟩ := h
    rfl
  · obtain ⟨i, rfl, q⟩ := h
    refine ⟨_, (pss_one (ps_ret (pe_and (pe_callB call_isi (by rfl) T.m_isinstance (by decide +kernel) (pa_cons (pv 0) (pa_cons (pe_bltn (v := .ty "int") (by rfl) T.m_int (by decide +kernel) rfl) pa_nil))) (pe_one (pe_not (pe_callB call_isi (by rfl) T.m_isinstance (by decide +kernel) (pa_cons (pv 0) (pa_cons (pe_bltn (v := .ty "bool") (by rfl) T.m_bool (by decide +kernel) rfl) pa_nil)))))))), ?_⟩
    exact st_ret (xv_and (xv_isi (val_var rfl) (.base (.int i)) (b := true) (by decide +kernel)) fun _ => xv_not (xv_isi (val_var rfl) (.base (.int i)) (b := false) (by decide +kernel))) q
theorem xv_whole {σ : L2.St} {H : Hp} {ta : TE} {i : Int} (h : Val ta σ H (.int i)) : Val (tCall sp_whole [] E0 (tCons ta tNil)) σ H (.bl true) :=
  xv_call (xg_cons h xg_nil) fun Q q => ⟨i, rfl, q⟩
local macro_rules | `(tactic| walk_at "val+") => `(tactic| ((with_reducible apply xv_whole) <;> walk_at "val"))
/-! ### weight of a list -/
def sp_weight (K : PySem.W.Frag) : Sp := fun vs H Q _ => ∃ (a : Addr) (ns : List Int), vs = [.ref a] ∧ SqL K H a (ns.map V.int) ∧ Sm ns ∧ Q (.int (wt ns)) H
theorem ok_weight (T : Txt K mg) : FnOk P w K mg base CX0 1 T.f_weight T.d_weight ["heap"] (sp_weight K) := by
  refine T.F_weight.ok sc_weight (fun vs H Q E h => ?_) (fun cdv A outer s H vs Q E hr h => ?_)
  · obtain ⟨a, ns, rfl, _⟩ := h
    rfl
  · obtain ⟨a, ns, rfl, hS, hz, q⟩ := h
    refine ⟨_, (pss_cons (ps_set (i := 1) sc_weight.nd rfl (Or.inl rfl) pe_int)
      (pss_cons (ps_set (i := 2) sc_weight.nd rfl (Or.inl rfl) pe_int)
      (pss_cons (ps_set (i := 3) sc_weight.nd rfl (Or.inl rfl) pe_int)
      (pss_cons (ps_for PassesOwn.never rfl (pi_list (pv 0)) (pg_name (i := 4) sc_weight.nd rfl (Or.inl rfl)) (pss_cons (ps_set (i := 1) sc_weight.nd rfl (Or.inl rfl) (pe_op op_add (pv 1) (pe_op op_mulW (pv 4) (pv 2))))
      (pss_one (ps_par (i := 2) (j := 3) (by rfl) sc_weight.nd rfl rfl (by decide) rfl rfl (pa_cons (pv 3) (pa_cons (pe_op op_add (pv 2) (pv 3)) pa_nil)) (by rfl)))))
      (pss_one (ps_ret (pv 1))))))), ?_⟩
    refine xq_set val_c ?_
    refine xq_set val_c ?_
    refine xq_set val_c ?_
    refine xq_forI (ns := ns) (val_var rfl) (Same.refl H) hS (fun i σ H' => ∃ y, σ = [some (.ref a), some (.int (S W 0 (ns.take i))), some (.int (W i)), some (.int (W (i + 1))), y] ∧ H' = H) ⟨_, rfl, rfl⟩ ?_ ?_
    · rintro i n σ H' e hn ⟨y, rfl, rfl⟩
      have hi : i < ns.length := (List.getElem?_eq_some_iff.mp hn).1
      have hc : CMulW n (W i) := wide_mul (hz.mag n (List.mem_of_getElem? hn)) (W_bitsN i) (by decide) (by omega) (by have := hz.len; omega)
      refine xq_set (xv_I0 (val_var rfl) (xv_I (val_var rfl) (val_var rfl) hc)) ?_
      refine xs_par (xg_cons (val_var rfl) (xg_cons (xv_I0 (val_var rfl) (val_var rfl)) xg_nil)) ⟨e, some (.int n), ?_, rfl⟩
      rw [S_take hn, Nat.zero_add]
      rfl
    · rintro σ H' e ⟨y, rfl, rfl⟩
      rw [List.take_length]
      exact st_ret (val_var rfl) q
theorem ok_l_weight (T : Txt K mg) : FnOk P w K mg base CX0 1 T.f_l_weight T.d_l_weight ["_law_heap_here"] (sp_weight K) := by
  refine T.F_l_weight.ok sc_l_weight (fun vs H Q E h => ?_) (fun cdv A outer s H vs Q E hr h => ?_)
  · obtain ⟨a, ns, rfl, _⟩ := h
    rfl
  · obtain ⟨a, ns, rfl, hS, hz, q⟩ := h
    refine ⟨_, (pss_cons (ps_set (i := 1) sc_l_weight.nd rfl (Or.inl rfl) pe_int)
      (pss_cons (ps_set (i := 2) sc_l_weight.nd rfl (Or.inl rfl) pe_int)
      (pss_cons (ps_set (i := 3) sc_l_weight.nd rfl (Or.inl rfl) pe_int)
      (pss_cons (ps_for PassesOwn.never rfl (pi_list (pv 0)) (pg_name (i := 4) sc_l_weight.nd rfl (Or.inl rfl)) (pss_cons (ps_set (i := 1) sc_l_weight.nd rfl (Or.inl rfl) (pe_op op_add (pv 1) (pe_op op_mulW (pv 4) (pv 2))))
      (pss_one (ps_par (i := 2) (j := 3) (by rfl) sc_l_weight.nd rfl rfl (by decide) rfl rfl (pa_cons (pv 3) (pa_cons (pe_op op_add (pv 2) (pv 3)) pa_nil)) (by rfl)))))
      (pss_one (ps_ret (pv 1))))))), ?_⟩
    refine xq_set val_c ?_
    refine xq_set val_c ?_
    refine xq_set val_c ?_
    refine xq_forI (ns := ns) (val_var rfl) (Same.refl H) hS (fun i σ H' => ∃ y, σ = [some (.ref a), some (.int (S W 0 (ns.take i))), some (.int (W i)), some (.int (W (i + 1))), y] ∧ H' = H) ⟨_, rfl, rfl⟩ ?_ ?_
    · rintro i n σ H' e hn ⟨y, rfl, rfl⟩
      have hi : i < ns.length := (List.getElem?_eq_some_iff.mp hn).1
      have hc : CMulW n (W i) := wide_mul (hz.mag n (List.mem_of_getElem? hn)) (W_bitsN i) (by decide) (by omega) (by have := hz.len; omega)
      refine xq_set (xv_I0 (val_var rfl) (xv_I (val_var rfl) (val_var rfl) hc)) ?_
      refine xs_par (xg_cons (val_var rfl) (xg_cons (xv_I0 (val_var rfl) (val_var rfl)) xg_nil)) ⟨e, some (.int n), ?_, rfl⟩
      rw [S_take hn, Nat.zero_add]
      rfl
    · rintro σ H' e ⟨y, rfl, rfl⟩
      rw [List.take_length]
      exact st_ret (val_var rfl) q
theorem xv_weight {σ : L2.St} {H : Hp} {ta : TE} {a : Addr} {ns : List Int} (h : Val ta σ H (.ref a)) (hS : SqL K H a (ns.map V.int)) (hz : Sm ns) : Val (tCall (sp_weight K) [] E0 (tCons ta tNil)) σ H (.int (wt ns)) :=
  xv_call (xg_cons h xg_nil) fun Q q => ⟨a, ns, rfl, hS, hz, q⟩
local macro_rules | `(tactic| walk_at "val+") => `(tactic| ((with_reducible apply xv_weight) <;> first | walk_at "val" | walk_at "sq" | walk_at "side"))
/-! ### is_still -/
def sp_is_still (K : PySem.W.Frag) : Sp := fun vs H Q _ => ∃ (a : Addr) (ns : List Int), vs = [.ref a] ∧ SqL K H a (ns.map V.int) ∧ ns.length ≤ 100000 ∧ Q (.bl (stillB 0 ns)) H
theorem ok_is_still (T : Txt K mg) : FnOk P w K mg base CX0 1 T.f_is_still T.d_is_still ["heap"] (sp_is_still K) := by
  refine T.F_is_still.ok sc_is_still (fun vs H Q E h => ?_) (fun cdv A outer s H vs Q E hr h => ?_)
  · obtain ⟨a, ns, rfl, _⟩ := h
    rfl
  · obtain ⟨a, ns, rfl, hS, hl, q⟩ := h
    refine ⟨_, (pss_cons (ps_set (i := 1) sc_is_still.nd rfl (Or.inl rfl) pe_int)
      (pss_cons (ps_for PassesOwn.never rfl (pi_list (pv 0)) (pg_name (i := 2) sc_is_still.nd rfl (Or.inl rfl)) (pss_cons (ps_if (PW.pt (pw_or (pt_cmpR op_gt (pv 2) pe_int (nomark _)) (pw_or1 (PW.pt (pw_and (pt_cmpR op_gt (pv 2) pe_int (nomark _)) (pw_and1 (pt_cmpR op_gt (pv 1) pe_int (nomark _)))))))) (pss_one (ps_ret pe_bl)) pss_nil)
      (pss_one (ps_set (i := 1) sc_is_still.nd rfl (Or.inl rfl) (pv 2)))))
      (pss_one (ps_ret pe_bl)))), ?_⟩
    refine xq_set val_c ?_
    refine xq_forI (ns := ns) (val_var rfl) (Same.refl H) hS (fun i σ H' => ∃ y, σ = [some (.ref a), some (.int (prev ns i)), y] ∧ H' = H ∧ stillB 0 (ns.take i) = true) ⟨none, by rw [prev_zero]; rfl, rfl, by simp [stillB]⟩ ?_ ?_
    · rintro i n σ H' e hn ⟨y, rfl, rfl, hb⟩
      have ht := stillB_take hn
      rw [hb, Bool.true_and] at ht
      refine xs_when (by walk_at "ans") (fun hc => ?_) (fun hc => ?_)
      · rw [hc] at ht
        rw [stillB_stop (i + 1) ht] at q
        exact st_ret val_c q
      · rw [hc] at ht
        refine st_set (val_var rfl) ⟨e, some (.int n), ?_, rfl, ht⟩
        rw [prev_succ hn]
        rfl
    · rintro σ H' e ⟨y, rfl, rfl, hb⟩
      rw [List.take_length] at hb
      rw [hb] at q
      exact st_ret val_c q
theorem xv_is_still {σ : L2.St} {H : Hp} {ta : TE} {a : Addr} {ns : List Int} (h : Val ta σ H (.ref a)) (hS : SqL K H a (ns.map V.int)) (hl : ns.length ≤ 100000) : Val (tCall (sp_is_still K) [] E0 (tCons ta tNil)) σ H (.bl (stillB 0 ns)) :=
  xv_call (xg_cons h xg_nil) fun Q q => ⟨a, ns, rfl, hS, hl, q⟩
local macro_rules | `(tactic| walk_at "val+") => `(tactic| ((with_reducible apply xv_is_still) <;> first | walk_at "val" | walk_at "sq" | walk_at "side"))
/-! ### fits -/
def sp_fits (K : PySem.W.Frag) : Sp := fun vs H Q _ => ∃ (a : Addr) (ns : List Int) (p : Addr) (m : Mv), vs = [.ref a, .ref p] ∧ SqL K H a (ns.map V.int) ∧ SqT K H p (mvV m) ∧ Q (.bl (mvFits ns m)) H
theorem ok_fits (T : Txt K mg) : FnOk P w K mg base CX0 1 T.f_fits T.d_fits ["heap", "move"] (sp_fits K) := by
  refine T.F_fits.ok sc_fits (fun vs H Q E h => ?_) (fun cdv A outer s H vs Q E hr h => ?_)
  · obtain ⟨a, ns, p, m, rfl, _⟩ := h
    rfl
  · obtain ⟨a, ns, p, ⟨b, k⟩, rfl, hS, hp, q⟩ := h
    refine ⟨_, (pss_cons (ps_set (i := 2) sc_fits.nd rfl (Or.inl rfl) (pe_ix ix_tup (pv 1) pe_int (fun _ _ => rfl)))
      (pss_cons (ps_if (pt_cmpR op_eq (pe_ix ix_tup (pv 1) pe_int (fun _ _ => rfl)) pe_str (nomark _)) (pss_one (ps_ret (pe_and (pe_cmpR op_lt (pe_op op_add (pv 2) pe_int) (pe_callB call_len_seq (by rfl) T.m_len PySem.boot_len (pa_cons (pv 0) pa_nil)) (nomark _)) (pe_and (pe_cmpR op_gt (pe_ix ix_list (pv 0) (pv 2) (fun _ _ => rfl)) pe_int (nomark _)) (pe_one (pe_cmpR op_gt (pe_ix ix_list (pv 0) (pe_op op_add (pv 2) pe_int) (fun _ _ => rfl)) pe_int (nomark _))))))) pss_nil)
      (pss_one (ps_ret (pe_and (pe_cmpR op_lt (pv 2) (pe_callB call_len_seq (by rfl) T.m_len PySem.boot_len (pa_cons (pv 0) pa_nil)) (nomark _)) (pe_one (pe_cmpR op_gt (pe_ix ix_list (pv 0) (pv 2) (fun _ _ => rfl)) pe_int (nomark _)))))))), ?_⟩
    refine xq_set (xv_ixT (i := 1) (v := .int (k : Int)) (val_var rfl) val_c hp (by rfl)) ?_
    cases b with
    | true =>
      refine xs_when (b := true) (xa_T (by
        have h := xv_eq (xv_ixT (K := K) (i := 0) (v := .str (mvS true)) (val_var (σ := [some (.ref a), some (.ref p), some (.int (k : Int))]) (i := 1) rfl) val_c hp (by rfl)) (val_c (H := H) (v := V.str "join")) (by rfl)
        rw [show decide (V.str (mvS true) = V.str "join") = true from by decide +kernel] at h
        exact h)) (fun _ => ?_) (fun z => (nomatch z))
      refine st_ret (by walk_at "val") ?_
      have e : mvFits ns (true, k) = (decide ((k : Int) + 1 < (ns.length : Int)) && (decide (0 < ns.getD ((k : Int)).toNat 0) && decide (0 < ns.getD ((k : Int) + 1).toNat 0))) := by
        show (decide (k + 1 < ns.length) && _) = _
        rw [show decide (k + 1 < ns.length) = decide ((k : Int) + 1 < (ns.length : Int)) from decide_eq_decide.mpr (by omega)]
        rfl
      rw [e] at q
      exact q
    | false =>
      refine xs_when (b := false) (xa_T (by
        have h := xv_eq (xv_ixT (K := K) (i := 0) (v := .str (mvS false)) (val_var (σ := [some (.ref a), some (.ref p), some (.int (k : Int))]) (i := 1) rfl) val_c hp (by rfl)) (val_c (H := H) (v := V.str "join")) (by rfl)
        rw [show decide (V.str (mvS false) = V.str "join") = false from by decide +kernel] at h
        exact h)) (fun z => (nomatch z)) (fun _ => ?_)
      refine st_ret (by walk_at "val") ?_
      have e : mvFits ns (false, k) = (decide ((k : Int) < (ns.length : Int)) && decide (1 < ns.getD ((k : Int)).toNat 0)) := by
        show (decide (k < ns.length) && _) = _
        rw [show decide (k < ns.length) = decide ((k : Int) < (ns.length : Int)) from decide_eq_decide.mpr (by omega)]
        rfl
      rw [e] at q
      exact q
theorem xv_fits {σ : L2.St} {H : Hp} {ta tb : TE} {a p : Addr} {ns : List Int} {m : Mv} (h : Val ta σ H (.ref a)) (h2 : Val tb σ H (.ref p)) (hS : SqL K H a (ns.map V.int)) (hp : SqT K H p (mvV m)) : Val (tCall (sp_fits K) [] E0 (tCons ta (tCons tb tNil))) σ H (.bl (mvFits ns m)) :=
  xv_call (xg_cons h (xg_cons h2 xg_nil)) fun Q q => ⟨a, ns, p, m, rfl, hS, hp, q⟩
/-! ### moves, as the program and as the law lists them -/
def sp_moves (K : PySem.W.Frag) : Sp := fun vs H Q _ => ∃ (a : Addr) (ns : List Int), vs = [.ref a] ∧ SqL K H a (ns.map V.int) ∧ ns.length ≤ 20000 ∧
  ∀ H' p ps, Same H H' → H p = none → H' p = some (.lst (ps.map V.ref)) → MvL H' ps (mvs ns) → Q (.ref p) H'
/-- a move laid at the end of the list at l -/
theorem mv_app {σ : L2.St} {H H1 : Hp} {D : Ends} {l : Addr} {ps : List Addr} {ms : List Mv} {b : Bool} {k : Nat} (s : Str) (hs : s = mvS b) (e : Same H H1) (nl : H l = none) (hl : H1 l = some (.lst (ps.map V.ref))) (hm : MvL H1 ps ms) (hz : ms.length ≤ 50000) (hσ : σ[1]? = some (some (.ref l))) (hk : σ[2]? = some (some (.int (k : Int))))
    (q : ∀ H2 ps', Same H H2 → H2 l = some (.lst (ps'.map V.ref)) → MvL H2 ps' (ms ++ [(b, k)]) → D.nx σ H2) :
    tDrop (tBM K "list" rAppend (tVar 1) (tCons (tTup (tCons (tC (.str s)) (tCons (tVar 2) tNil))) tNil)) D σ H1 := by
  subst hs
  refine Evl.s_appU (l := l) hl (Evl.ev_var hσ) (Evl.eu_tup (Evl.ea_cons Evl.ev_c (Evl.ea_cons (Evl.ev_var hk) Evl.ea_nil)) (by show 2 ≤ 100000; omega)) (by rw [List.length_map, hm.len]; omega) fun p H2 np e2 h2 => ?_
  have h3 : H2 l = some (.lst (ps.map V.ref)) := e2 l _ hl
  refine q _ (ps ++ [p]) (same_mut (e.trans e2) nl) ?_ ?_
  · rw [upd_same, List.map_append]
    rfl
  · exact ((hm.same e2).snoc h2).upd h3
/-- a call of fits with a move made for it -/
theorem et_fits {σ : L2.St} {H : Hp} {ta tk : TE} {a : Addr} {ns : List Int} {b : Bool} {k : Nat} {s : Str} (hs : s = mvS b) (ha : Evl.Ev ta σ H (.ref a)) (hS : SqL K H a (ns.map V.int)) (hk : Evl.Ev tk σ H (.int (k : Int))) :
    Evl.EvT (tB (tCall (sp_fits K) [] E0 (tCons ta (tCons (tTup (tCons (tC (.str s)) (tCons tk tNil))) tNil)))) σ H (mvFits ns (b, k)) := fun H1 e Q q => by
  subst hs
  refine ha H1 e _ fun H2 e2 => ?_
  refine (Evl.eu_tup (Evl.ea_cons Evl.ev_c (Evl.ea_cons hk Evl.ea_nil)) (by show 2 ≤ 100000; omega)) H2 (e.trans e2) _ fun p H3 np e3 h3 => ?_
  exact ⟨a, ns, p, (b, k), rfl, Evl.ex_l ((e.trans e2).trans e3) hS, SqT.of h3, _, rfl, q H3 (e2.trans e3)⟩
theorem ok_moves (T : Txt K mg) : FnOk P w K mg base CX0 2 T.f_moves T.d_moves ["heap"] (sp_moves K) := by
  refine T.F_moves.ok sc_moves (fun vs H Q E h => ?_) (fun cdv A outer s H vs Q E hr h => ?_)
  · obtain ⟨a, ns, rfl, _⟩ := h
    rfl
  · obtain ⟨a, ns, rfl, hS, hz, q⟩ := h
    refine ⟨_, (pss_cons (ps_set (i := 1) sc_moves.nd rfl (Or.inl rfl) (pe_lst pa_nil))
      (pss_cons (ps_for PassesOwn.never rfl (pi_range1 (by rfl) T.m_range (pa_cons (pe_callB call_len_seq (by rfl) T.m_len PySem.boot_len (pa_cons (pv 0) pa_nil)) pa_nil)) (pg_name (i := 2) sc_moves.nd rfl (Or.inl rfl)) (Evl.pss_cut (ps_if (pt_val (pe_call (ok_fits T) (hr.mono (by decide)) (by rfl) T.g_fits T.F_fits.kp T.b_fits .nil pass0 (pa_cons (pv 0) (pa_cons (pe_tup (pa_cons pe_str (pa_cons (pv 2) pa_nil))) pa_nil)))) (pss_one (ps_expr (pe_bm PySem.F.plainAttrs_list PySem.F.slot_list_append PySem.F.type_list_append mt_append (pv 1) (pa_cons (pe_tup (pa_cons pe_str (pa_cons (pv 2) pa_nil))) pa_nil)))) pss_nil)
      (pss_one (ps_if (pt_val (pe_call (ok_fits T) (hr.mono (by decide)) (by rfl) T.g_fits T.F_fits.kp T.b_fits .nil pass0 (pa_cons (pv 0) (pa_cons (pe_tup (pa_cons pe_str (pa_cons (pv 2) pa_nil))) pa_nil)))) (pss_one (ps_expr (pe_bm PySem.F.plainAttrs_list PySem.F.slot_list_append PySem.F.type_list_append mt_append (pv 1) (pa_cons (pe_tup (pa_cons pe_str (pa_cons (pv 2) pa_nil))) pa_nil)))) pss_nil))))
      (pss_one (ps_ret (pv 1))))), ?_⟩
    refine Evl.q_asgL (Evl.el_lst Evl.ea_nil (by decide)) fun l H1 nl e1 h1 => ?_
    have hS1 := Same.seq e1 hS
    refine xq_forR (n := ns.length) (by walk_at "arg") (by omega) (fun i σ H' => ∃ (y : Option V) (ps : List Addr), σ = [some (.ref a), some (.ref l), y] ∧ Same H H' ∧ H' l = some (.lst (ps.map V.ref)) ∧ MvL H' ps (mvTo ns i)) ⟨none, [], rfl, e1, h1, trivial⟩ ?_ ?_
    · rintro i σ H' hi ⟨y, ps, rfl, e2, h2, hm⟩
      have hS2 := Same.seq e2 hS
      have hi2 : (i : Int) < ns.length := by omega
      have hl := mvTo_len ns i
      refine xs_cut (Mid := fun σ H' => ∃ (ps : List Addr), σ = [some (.ref a), some (.ref l), some (.int (i : Int))] ∧ Same H H' ∧ H' l = some (.lst (ps.map V.ref)) ∧ MvL H' ps (mvTo ns i ++ (if mvFits ns (true, i) = true then [(true, i)] else []))) ?_ ?_
      · refine Evl.s_when (et_fits (b := true) (k := i) rfl (Evl.ev_var rfl) hS2 (Evl.ev_var rfl)) (fun hc H3 e3 => ?_) (fun hc H3 e3 => ?_)
        · refine mv_app (b := true) (k := i) _ rfl (Same.trans e2 e3) nl (e3 l _ h2) (hm.same e3) (by omega) rfl rfl fun H4 ps' e4 h4 hm4 => ⟨ps', rfl, e4, h4, ?_⟩
          rw [if_pos hc]
          exact hm4
        · refine ⟨ps, rfl, Same.trans e2 e3, e3 l _ h2, ?_⟩
          rw [hc, if_neg Bool.false_ne_true, List.append_nil]
          exact hm.same e3
      · rintro σ H' ⟨ps, rfl, e2, h2, hm⟩
        have hS2 := Same.seq e2 hS
        have hl3 : (mvTo ns i ++ (if mvFits ns (true, i) = true then [(true, i)] else [])).length ≤ 2 * i + 1 := by
          rw [List.length_append]
          split
          · show _ + 1 ≤ _
            omega
          · show _ + 0 ≤ _
            omega
        refine Evl.s_when (et_fits (b := false) (k := i) rfl (Evl.ev_var rfl) hS2 (Evl.ev_var rfl)) (fun hc H3 e3 => ?_) (fun hc H3 e3 => ?_)
        · refine mv_app (b := false) (k := i) _ rfl (Same.trans e2 e3) nl (e3 l _ h2) (hm.same e3) (by omega) rfl rfl fun H4 ps' e4 h4 hm4 => ⟨_, ps', rfl, e4, h4, ?_⟩
          show MvL H4 ps' (mvTo ns i ++ (_ ++ if mvFits ns (false, i) = true then [(false, i)] else []))
          rw [if_pos hc, ← List.append_assoc]
          exact hm4
        · refine ⟨_, ps, rfl, Same.trans e2 e3, e3 l _ h2, ?_⟩
          show MvL H3 ps (mvTo ns i ++ (_ ++ if mvFits ns (false, i) = true then [(false, i)] else []))
          rw [hc, if_neg Bool.false_ne_true, List.append_nil]
          exact hm.same e3
    · rintro σ H' ⟨y, ps, rfl, e2, h2, hm⟩
      exact st_ret (val_var rfl) (q H' l ps e2 nl h2 hm)
/-! ### done -/
/-- what bare (a new list) and _law_bare (in place) have in common: the list without noughts at its end -/
def sp_bareN (K : PySem.W.Frag) : Sp := fun vs H Q _ => ∃ (a : Addr) (ns : List Int), vs = [.ref a] ∧ SqL K H a (ns.map V.int) ∧ ns.length ≤ 90000 ∧ ∀ H' p, Same H H' → H p = none → H' p = some (.lst ((bare ns).map V.int)) → Q (.ref p) H'
theorem bare_take : ∀ (n : Nat) (ns : List Int) (s : Nat), n = s → s ≤ ns.length → bare (ns.take s) = bare ns → (s = 0 ∨ ns.getD (s - 1) 0 ≠ 0) → ns.take s = bare ns
  | _, ns, s, _, hs, hb, h => by
    rw [← hb]
    rcases h with h | h
    · subst h
      rfl
    · by_cases h0 : s = 0
      · subst h0
        rfl
      · obtain ⟨j, rfl⟩ : ∃ j, s = j + 1 := ⟨s - 1, by omega⟩
        have hj := get_of (show j < ns.length by omega)
        rw [take_more hj]
        exact (bare_snoc _ h).symm
theorem ok_bare (T : Txt K mg) : FnOk P w K mg base CX0 1 T.f_bare T.d_bare ["counts"] (sp_bareN K) := by
  refine T.F_bare.ok sc_bare (fun vs H Q E h => ?_) (fun cdv A outer s H vs Q E hr h => ?_)
  · obtain ⟨a, ns, rfl, _⟩ := h
    rfl
  · obtain ⟨a, ns, rfl, hS, hz, q⟩ := h
    refine ⟨_, (pss_cons (ps_set (i := 1) sc_bare.nd rfl (Or.inl rfl) (pe_callB call_len_seq (by rfl) T.m_len PySem.boot_len (pa_cons (pv 0) pa_nil)))
      (pss_cons (ps_while PassesOwn.never (PW.pt (pw_and (pt_cmpR op_gt (pv 1) pe_int (nomark _)) (pw_and1 (pt_cmpR op_eq (pe_ix ix_list (pv 0) (pe_op op_sub (pv 1) pe_int) (fun _ _ => rfl)) pe_int (nomark _))))) (pss_one (ps_set (i := 1) sc_bare.nd rfl (Or.inl rfl) (pe_op op_sub (pv 1) pe_int))))
      (pss_one (ps_ret (pe_slice sl_list (pv 0) po_none (po_some (pv 1))))))), ?_⟩
    refine xq_set (by walk_at "val") ?_
    refine xq_while (fun m σ H' => σ = [some (.ref a), some (.int (m : Int))] ∧ H' = H ∧ m ≤ ns.length ∧ bare (ns.take m) = bare ns) ns.length ⟨rfl, rfl, Nat.le_refl _, by rw [List.take_length]⟩ ?_
    rintro m σ H' ⟨rfl, rfl, hm, hb⟩
    refine ⟨_, by walk_at "ans", fun hc => ?_, fun hc => ?_⟩
    · rw [Bool.and_eq_true] at hc
      have c1 : (0 : Int) < m := of_decide_eq_true hc.1
      have c2 := V.int.inj (of_decide_eq_true hc.2)
      obtain ⟨j, rfl⟩ : ∃ j, m = j + 1 := ⟨m - 1, by omega⟩
      have c2 : ns.getD j 0 = 0 := by
        rw [show (((j + 1 : Nat) : Int) - 1).toNat = j by omega] at c2
        exact c2
      refine st_set (by walk_at "val") ⟨j, by omega, ?_, rfl, by omega, ?_⟩
      · show [some (V.ref a), some (V.int (((j + 1 : Nat) : Int) - 1))] = _
        rw [show ((j + 1 : Nat) : Int) - 1 = (j : Int) by omega]
      · rw [take_more (get_of (show j < ns.length by omega)), c2, bare_zero] at hb
        exact hb
    · have ht : ns.take m = bare ns := by
        refine bare_take m ns m rfl hm hb ?_
        by_cases h0 : m = 0
        · exact .inl h0
        · refine .inr fun e => ?_
          have c2 := of_decide_eq_false (Bool.and_eq_false_imp.mp hc (decide_eq_true (by omega)))
          refine c2 ?_
          rw [show ((m : Int) - 1).toNat = m - 1 by omega, e]
      refine Evl.s_retL (Evl.el_sl (Evl.ev_var rfl) Evl.eo_none (Evl.eo_some (Evl.ev_var rfl)) hS) fun p H1 np e1 h1 => q H1 p e1 np ?_
      rw [h1, cut_hi, ← List.map_take, ht]
/-- done, where the move fits; where it does not, the refusal of the class at C -/
def sp_done (K : PySem.W.Frag) (C : Addr) : Sp := fun vs H Q E => ∃ (a : Addr) (ns : List Int) (p : Addr) (m : Mv), vs = [.ref a, .ref p] ∧ H a = some (.lst (ns.map V.int)) ∧ SqT K H p (mvV m) ∧ ns.length ≤ 20000 ∧
  (mvFits ns m = true → ∀ H' l, Same H H' → H l = none → H' l = some (.lst ((mvDone ns m).map V.int)) → Q (.ref l) H') ∧ (mvFits ns m = false → E (.ref C) none H)
theorem ok_done (T : Txt K mg) : FnOk P w K mg base (L2.CX P w) 2 T.f_done T.d_done ["heap", "move"] (sp_done K T.C_NoMove) := by
  refine T.F_done.okX sc_done (fun vs H Q E h => ?_) (fun cdv A outer s H vs Q E hr h => ?_)
  · obtain ⟨a, ns, p, m, rfl, _⟩ := h
    rfl
  · obtain ⟨a, ns, p, m, rfl, hl, hp, hz, q1, q2⟩ := h
    refine ⟨_, (pss_cons (ps_if (pt_not (pt_val (pe_call (ok_fits T) (hr.mono (by decide)) (by rfl) T.g_fits T.F_fits.kp T.b_fits .nil pass0 (pa_cons (pv 0) (pa_cons (pv 1) pa_nil))))) (pss_one (ps_raise rfl (takes_of rfl rfl rfl rfl) (pmk_own PySem.F.excBase_ValueError T.x_NoMove T.g_NoMove T.k_NoMove (raises_own T.xb_NoMove T.xt_NoMove) rfl))) pss_nil)
      (pss_cons (ps_set (i := 2) sc_done.nd rfl (Or.inl rfl) (pe_ix ix_tup (pv 1) pe_int (fun _ _ => rfl)))
      (pss_cons (ps_set (i := 3) sc_done.nd rfl (Or.inl rfl) (pe_op op_cat (pv 0) (pe_lst (pa_cons pe_int (pa_cons pe_int pa_nil)))))
      (pss_cons (ps_if (pt_cmpR op_eq (pe_ix ix_tup (pv 1) pe_int (fun _ _ => rfl)) pe_str (nomark _)) (pss_cons (ps_asg (pe_op op_sub (pe_ix ix_list (pv 3) (pv 2) (fun _ _ => rfl)) pe_int) (pg_sub (pv 3) (pv 2) set_list))
      (pss_cons (ps_asg (pe_op op_sub (pe_ix ix_list (pv 3) (pe_op op_add (pv 2) pe_int) (fun _ _ => rfl)) pe_int) (pg_sub (pv 3) (pe_op op_add (pv 2) pe_int) set_list))
      (pss_cons (ps_asg (pe_op op_add (pe_ix ix_list (pv 3) (pe_op op_add (pv 2) pe_int) (fun _ _ => rfl)) pe_int) (pg_sub (pv 3) (pe_op op_add (pv 2) pe_int) set_list))
      (pss_one (ps_ret (pe_call (ok_bare T) (hr.mono (by decide)) (by rfl) T.g_bare T.F_bare.kp T.b_bare .nil pass0 (pa_cons (pv 3) pa_nil))))))) pss_nil)
      (pss_cons (ps_asg (pe_op op_sub (pe_ix ix_list (pv 3) (pv 2) (fun _ _ => rfl)) pe_int) (pg_sub (pv 3) (pv 2) set_list))
      (pss_cons (ps_asg (pe_op op_add (pe_ix ix_list (pv 3) (pe_op op_add (pv 2) pe_int) (fun _ _ => rfl)) pe_int) (pg_sub (pv 3) (pe_op op_add (pv 2) pe_int) set_list))
      (pss_cons (ps_if (pt_cmpR op_eq (pv 2) pe_int (nomark _)) (pss_one (ps_asg (pe_op op_add (pe_ix ix_list (pv 3) pe_int (fun _ _ => rfl)) pe_int) (pg_sub (pv 3) pe_int set_list))) pss_nil)
      (pss_cons (ps_if (pt_cmpR op_gt (pv 2) pe_int (nomark _)) (pss_one (ps_asg (pe_op op_add (pe_ix ix_list (pv 3) (pe_op op_sub (pv 2) pe_int) (fun _ _ => rfl)) pe_int) (pg_sub (pv 3) (pe_op op_sub (pv 2) pe_int) set_list))) pss_nil)
      (pss_one (ps_ret (pe_call (ok_bare T) (hr.mono (by decide)) (by rfl) T.g_bare T.F_bare.kp T.b_bare .nil pass0 (pa_cons (pv 3) pa_nil)))))))))))), ?_⟩
    have hS := SqL.of (K := K) hl
    refine xs_when (xa_not (xa_B (xv_fits (val_var rfl) (val_var rfl) hS hp))) (fun hc => ?_) (fun hc => ?_)
    · exact q2 (by simpa using hc)
    · have hf : mvFits ns m = true := by simpa using hc
      refine xq_set (xv_ixT (i := 1) (v := .int (m.2 : Int)) (val_var rfl) val_c hp (by rfl)) ?_
      refine Evl.q_asgL (xl_cat (l := a) (Evl.ev_var rfl) hl (Evl.el_lst (Evl.ea_cons Evl.ev_c (Evl.ea_cons Evl.ev_c Evl.ea_nil)) (by show 2 ≤ 100000; omega)) (by
        rw [List.length_map]
        show _ + 2 ≤ _
        omega)) fun l H1 nl e1 h1 => ?_
      have h1' : H1 l = some (.lst ((ns ++ [0, 0]).map V.int)) := by
        rw [h1, List.map_append]
        rfl
      refine done_tail (K := K) (c := 3) (s := 2) (m := 1) (l := l) (p := p) (ns := ns) (mv := m) rfl rfl rfl (Evl.ex_t e1 hp) h1' (mvFits_lt hf) fun H2 xs e2 h2 ex => ?_
      refine ⟨l, xs, rfl, SqL.of h2, ?_, fun H3 r e3 nr h3 => ?_⟩
      · rw [ex, mvRaw_len]
        omega
      · have s2 : Same H H2 := fun b o hb => by rw [e2 b (ne_of_none hb nl)]; exact e1 b o hb
        refine q1 hf H3 r (s2.trans e3) (s2.free nr) ?_
        rw [h3, ex]
        rfl
/-- the law's own -/
def sp_ldone (K : PySem.W.Frag) : Sp := fun vs H Q _ => ∃ (a : Addr) (ns : List Int) (p : Addr) (m : Mv), vs = [.ref a, .ref p] ∧ SqL K H a (ns.map V.int) ∧ SqT K H p (mvV m) ∧ ns.length ≤ 20000 ∧ mvFits ns m = true ∧
  ∀ H' l, Same H H' → H l = none → H' l = some (.lst ((mvDone ns m).map V.int)) → Q (.ref l) H'
/-! ### a stream of drawn numbers -/
def sp_stream : Sp := fun vs H Q _ => ∃ (c : Int) (n : Nat), vs = [.int c, .int (n : Int)] ∧ n ≤ 1000 ∧ ∀ H' p (ms : List Int), Same H H' → H p = none → H' p = some (.lst (ms.map V.int)) → ms.length = n → (∀ x ∈ ms, 0 ≤ x ∧ x < 2147483647) → Q (.ref p) H'
theorem ok_l_stream (T : Txt K mg) : FnOk P w K mg base CX0 1 T.f_l_stream T.d_l_stream ["_law_cell", "_law_many"] sp_stream := by
  refine T.F_l_stream.ok sc_l_stream (fun vs H Q E h => ?_) (fun cdv A outer s H vs Q E hr h => ?_)
  · obtain ⟨c, n, rfl, _⟩ := h
    rfl
  · obtain ⟨c, n, rfl, hn, q⟩ := h
    refine ⟨_, (pss_cons (ps_set (i := 2) sc_l_stream.nd rfl (Or.inl rfl) (pe_lst pa_nil))
      (pss_cons (ps_set (i := 3) sc_l_stream.nd rfl (Or.inl rfl) (pe_op op_add (pe_op op_mod (pv 0) pe_int) pe_int))
      (pss_cons (ps_for PassesOwn.never rfl (pi_range1 (by rfl) T.m_range (pa_cons (pv 1) pa_nil)) (pg_name (i := 4) sc_l_stream.nd rfl (Or.inl rfl)) (pss_cons (ps_set (i := 3) sc_l_stream.nd rfl (Or.inl rfl) (pe_op op_mod (pe_op op_add (pe_op op_add (pe_op op_mulW (pv 3) (pv 3)) (pe_op op_mulW pe_int (pv 3))) (pv 4)) pe_int))
      (pss_one (ps_expr (pe_bm PySem.F.plainAttrs_list PySem.F.slot_list_append PySem.F.type_list_append mt_append (pv 2) (pa_cons (pv 3) pa_nil))))))
      (pss_one (ps_ret (pv 2)))))), ?_⟩
    refine Evl.q_asgL (Evl.el_lst Evl.ea_nil (by decide)) fun l H1 nl e1 h1 => ?_
    refine xq_set (by walk_at "val") ?_
    refine xq_forR (n := n) (xg_cons (val_var rfl) xg_nil) (by omega) (fun i σ H' => ∃ (x : Int) (y : Option V) (ms : List Int), σ = [some (.int c), some (.int (n : Int)), some (.ref l), some (.int x), y] ∧ Same H H' ∧ H' l = some (.lst (ms.map V.int)) ∧ ms.length = i ∧ (0 ≤ x ∧ x < 2200000000) ∧ (∀ x ∈ ms, 0 ≤ x ∧ x < 2147483647)) ⟨_, none, [], rfl, e1, h1, rfl, by omega, fun _ h => nomatch h⟩ ?_ ?_
    · rintro i σ H' hi ⟨x, y, ms, rfl, e2, h2, hl, hx, hm⟩
      have c1 : CMulW x x := wide_mul (a := 40) (b := 40) (by omega) (by omega) (by decide) (by decide) (by decide)
      have c2 : CMulW 48271 x := wide_mul (a := 40) (b := 40) (by decide) (by omega) (by decide) (by decide) (by decide)
      refine xq_set (by walk_at "val") ?_
      generalize hy : (x * x + 48271 * x + (i : Int)) % 2147483647 = z
      have hz : 0 ≤ z ∧ z < 2147483647 := by
        rw [← hy]
        exact ⟨Int.emod_nonneg _ (by decide), Int.emod_lt_of_pos _ (by decide)⟩
      refine Evl.s_app (l := l) h2 (Evl.ev_var rfl) (Evl.ev_var rfl) (by rw [List.length_map]; omega) fun H3 e3 => ?_
      refine ⟨z, _, ms ++ [z], rfl, same_mut (e2.trans e3) nl, ?_, by rw [List.length_append, List.length_singleton, hl], by omega, fun x hx => ?_⟩
      · rw [upd_same, List.map_append]
        rfl
      · rcases List.mem_append.mp hx with h | h
        · exact hm x h
        · rw [List.mem_singleton.mp h]
          exact hz
    · rintro σ H' ⟨x, y, ms, rfl, e2, h2, hl, hx, hm⟩
      exact st_ret (val_var rfl) (q H' l ms e2 nl h2 hl hm)
/-! ### is_number -/
def sp_is_number (K : PySem.W.Frag) : Sp := fun vs H Q _ => ∃ x : V, vs = [x] ∧ Kd K H x ∧ Q (.bl (numB x)) H
theorem ok_is_number (T : Txt K mg) : FnOk P w K mg base CX0 1 T.f_is_number T.d_is_number ["thing"] (sp_is_number K) := by
  refine T.F_is_number.ok sc_is_number (fun vs H Q E h => ?_) (fun cdv A outer s H vs Q E hr h => ?_)
  · obtain ⟨x, rfl, _⟩ := h
    rfl
  · obtain ⟨x, rfl, hk, q⟩ := h
    refine ⟨_, (pss_cons (ps_if (PW.pt (pw_or (pt_not (pt_val (pe_callB call_isi (by rfl) T.m_isinstance (by decide +kernel) (pa_cons (pv 0) (pa_cons (pe_bltn (v := .ty "int") (by rfl) T.m_int (by decide +kernel) rfl) pa_nil))))) (pw_or1 (pt_val (pe_callB call_isi (by rfl) T.m_isinstance (by decide +kernel) (pa_cons (pv 0) (pa_cons (pe_bltn (v := .ty "bool") (by rfl) T.m_bool (by decide +kernel) rfl) pa_nil))))))) (pss_one (ps_ret pe_bl)) pss_nil)
      (pss_one (ps_ret (pe_chain op_le op_lt pe_int (pv 0) (pe_op op_pow pe_int pe_int))))), ?_⟩
    rcases hk with ⟨n, rfl⟩ | ⟨hn, ht | ⟨t, ht, hi⟩⟩
    · refine xs_when (b := false) (xa_or (a := false) (xa_not (a := true) (xa_B (xv_isi (val_var rfl) (.base (.int n)) (by decide +kernel)))) fun _ => xa_B (xv_isi (val_var rfl) (.base (.int n)) (by decide +kernel))) (fun z => (nomatch z)) (fun _ => ?_)
      exact st_ret (xv_chain (a := decide (0 ≤ n)) (b := decide (n < T60)) val_c (val_var rfl) (fun Q q => ⟨_, _, rfl, rfl, q⟩) fun _ => ⟨xv_p60, fun Q q => ⟨_, _, rfl, rfl, q⟩⟩) q
    · refine xs_when (b := true) (xa_or (a := false) (xa_not (a := true) (xa_B (xv_isi (val_var rfl) ht (by decide +kernel)))) fun _ => xa_B (xv_isi (val_var rfl) ht (by decide +kernel))) (fun _ => ?_) (fun z => (nomatch z))
      rw [hn] at q
      exact st_ret val_c q
    · refine xs_when (b := true) (xa_or (a := true) (b := true) (xa_not (a := false) (xa_B (xv_isi (val_var rfl) ht hi))) fun z => (nomatch z)) (fun _ => ?_) (fun z => (nomatch z))
      rw [hn] at q
      exact st_ret val_c q
/-! ### still_heap: the row of a number -/
def sp_still_heap : Sp := fun vs H Q _ => ∃ n : Int, vs = [.int n] ∧ 0 ≤ n ∧ n < W 1000 ∧ ∀ H' p (xs : List Int), Same H H' → H p = none → H' p = some (.lst (xs.map V.int)) → Rw xs → S W 0 xs = n → xs.length ≤ 1000 → Q (.ref p) H'
theorem ok_still_heap (T : Txt K mg) : FnOk P w K mg base CX0 1 T.f_still_heap T.d_still_heap ["number"] sp_still_heap := by
  refine T.F_still_heap.ok sc_still_heap (fun vs H Q E h => ?_) (fun cdv A outer s H vs Q E hr h => ?_)
  · obtain ⟨n, rfl, _⟩ := h
    rfl
  · obtain ⟨n, rfl, hn0, hn1, q⟩ := h
    refine ⟨_, (pss_cons (ps_set (i := 1) sc_still_heap.nd rfl (Or.inl rfl) (pe_lst pa_nil))
      (pss_cons (ps_set (i := 2) sc_still_heap.nd rfl (Or.inl rfl) pe_int)
      (pss_cons (ps_set (i := 3) sc_still_heap.nd rfl (Or.inl rfl) pe_int)
      (pss_cons (ps_while PassesOwn.never (pt_cmpR op_le (pv 2) (pv 0) (nomark _)) (pss_cons (ps_expr (pe_bm PySem.F.plainAttrs_list PySem.F.slot_list_append PySem.F.type_list_append mt_append (pv 1) (pa_cons (pv 2) pa_nil)))
      (pss_one (ps_par (i := 2) (j := 3) (by rfl) sc_still_heap.nd rfl rfl (by decide) rfl rfl (pa_cons (pv 3) (pa_cons (pe_op op_add (pv 2) (pv 3)) pa_nil)) (by rfl)))))
      (pss_cons (ps_set (i := 4) sc_still_heap.nd rfl (Or.inl rfl) (pe_lst pa_nil))
      (pss_cons (ps_set (i := 5) sc_still_heap.nd rfl (Or.inl rfl) (pv 0))
      (pss_cons (ps_for PassesOwn.never rfl (pi_reversed (by rfl) T.m_reversed (pa_cons (pv 1) pa_nil)) (pg_name (i := 6) sc_still_heap.nd rfl (Or.inl rfl)) (pss_one (ps_if (pt_cmpR op_le (pv 6) (pv 5) (nomark _)) (pss_cons (ps_expr (pe_bm PySem.F.plainAttrs_list PySem.F.slot_list_append PySem.F.type_list_append mt_append (pv 4) (pa_cons pe_int pa_nil)))
      (pss_one (ps_set (i := 5) sc_still_heap.nd rfl (Or.inl rfl) (pe_op op_sub (pv 5) (pv 6))))) (pss_one (ps_expr (pe_bm PySem.F.plainAttrs_list PySem.F.slot_list_append PySem.F.type_list_append mt_append (pv 4) (pa_cons pe_int pa_nil)))))))
      (pss_one (ps_ret (pe_revL (pv 4))))))))))), ?_⟩
    refine Evl.q_asgL (Evl.el_lst Evl.ea_nil (by decide)) fun l H1 nl e1 h1 => ?_
    refine xq_set val_c ?_
    refine xq_set val_c ?_
    refine xq_while (fun m σ H' => ∃ k : Nat, σ = [some (.int n), some (.ref l), some (.int (W k)), some (.int (W (k + 1))), none, none, none] ∧ Same H H' ∧ H' l = some (.lst (((List.range k).map W).map V.int)) ∧ (0 < k → W (k - 1) ≤ n) ∧ k ≤ 1000 ∧ m = 1000 - k) 1000 ⟨0, rfl, e1, h1, fun z => (nomatch z), by omega, rfl⟩ ?_
    rintro m σ H2 ⟨k, rfl, e2, h2, hk, hk2, rfl⟩
    refine ⟨_, by walk_at "ans", fun hc => ?_, fun hc => ?_⟩
    · have hc : W k ≤ n := of_decide_eq_true hc
      have hlt : k < 1000 := by
        by_cases h : k < 1000
        · exact h
        · have := W_mono (i := 1000) (j := k) (by omega)
          omega
      refine Evl.q_app (l := l) h2 (Evl.ev_var rfl) (Evl.ev_var rfl) (by rw [List.length_map, List.length_map, List.length_range]; omega) fun H3 e3 => ?_
      refine xs_par (xg_cons (val_var rfl) (xg_cons (xv_I0 (val_var rfl) (val_var rfl)) xg_nil)) ⟨1000 - (k + 1), by omega, k + 1, rfl, same_mut (e2.trans e3) nl, ?_, fun _ => hc, by omega, rfl⟩
      rw [upd_same, List.range_succ, List.map_append, List.map_append]
      rfl
    · have hc : n < W k := by
        have := of_decide_eq_false hc
        omega
      refine Evl.q_asgL (Evl.el_lst Evl.ea_nil (by decide)) fun b H3 nb e3 h3 => ?_
      refine xq_set (val_var rfl) ?_
      have hbl : l ≠ b := ne_of_none h2 nb
      have nb0 : H b = none := Same.free e2 nb
      have hlen : (((List.range k).map W).map V.int).length = k := by rw [List.length_map, List.length_map, List.length_range]
      refine xq_forRev (xs := ((List.range k).map W).map V.int) (xg_cons (val_var rfl) xg_nil) (SqL.of (e3 l _ h2)) (fun i σ H' => ∃ (hs : List Int) (left : Int) (y : Option V), σ = [some (.int n), some (.ref l), some (.int (W k)), some (.int (W (k + 1))), some (.ref b), some (.int left), y] ∧ Same H H' ∧ H' l = some (.lst (((List.range k).map W).map V.int)) ∧ H' b = some (.lst (hs.map V.int)) ∧ hs ++ gr (k - i) left = gr k n ∧ hs.length = i)
        ⟨[], n, none, rfl, Same.trans e2 e3, e3 l _ h2, h3, rfl, rfl⟩ (fun i σ H h => by
          obtain ⟨hs, left, y, _, _, h, _⟩ := h
          exact SqL.of h) ?_ ?_
      · rintro i x σ H4 hi hx ⟨hs, left, y, rfl, e4, hl4, hb4, hg, hlen2⟩
        rw [hlen] at hi hx
        obtain ⟨j, hj⟩ : ∃ j, k - i = j + 1 := ⟨k - i - 1, by omega⟩
        have hj2 : k - 1 - i = j := by omega
        have hj3 : k - (i + 1) = j := by omega
        rw [hj2, List.getElem?_map, List.getElem?_map, List.getElem?_range (by omega)] at hx
        obtain rfl : V.int (W j) = x := Option.some.inj hx
        rw [hj] at hg
        refine xs_if (by walk_at "ans") (fun hc => ?_) (fun hc => ?_)
        · have hc := of_decide_eq_true hc
          refine Evl.q_app (l := b) hb4 (Evl.ev_var rfl) Evl.ev_c (by rw [List.length_map]; omega) fun H5 e5 => ?_
          refine st_set (xv_I0 (val_var rfl) (val_var rfl)) ⟨hs ++ [1], left - W j, _, rfl, same_mut (e4.trans e5) nb0, ?_, ?_, ?_, by rw [List.length_append, List.length_singleton, hlen2]⟩
          · rw [upd_ne hbl]
            exact e5 l _ hl4
          · rw [upd_same, List.map_append]
            rfl
          · rw [hj3, ← hg, List.append_assoc]
            congr 1
            show _ = gr (j + 1) left
            conv => rhs; unfold gr
            rw [if_pos hc]
            rfl
        · have hc := of_decide_eq_false hc
          refine Evl.s_app (l := b) hb4 (Evl.ev_var rfl) Evl.ev_c (by rw [List.length_map]; omega) fun H5 e5 => ?_
          refine ⟨hs ++ [0], left, _, rfl, same_mut (e4.trans e5) nb0, ?_, ?_, ?_, by rw [List.length_append, List.length_singleton, hlen2]⟩
          · rw [upd_ne hbl]
            exact e5 l _ hl4
          · rw [upd_same, List.map_append]
            rfl
          · rw [hj3, ← hg, List.append_assoc]
            congr 1
            show _ = gr (j + 1) left
            conv => rhs; unfold gr
            rw [if_neg hc]
            rfl
      · rintro σ H4 ⟨hs, left, y, rfl, e4, hl4, hb4, hg, hlen2⟩
        rw [hlen, Nat.sub_self] at hg
        have hg : hs = gr k n := by
          rw [← hg]
          show hs = hs ++ []
          rw [List.append_nil]
        obtain ⟨r1, r2⟩ := gr_rw hn0 hc hk
        refine Evl.s_retL (xl_revL (Evl.ev_var rfl) (SqL.of hb4)) fun p H5 np e5 h5 => ?_
        rw [← List.map_reverse, hg] at h5
        exact q H5 p _ (e4.trans e5) (Same.free e4 np) h5 r1 r2 (by rw [List.length_reverse, gr_len]; exact hk2)
/-! ### row_of -/
def sp_row_of (K : PySem.W.Frag) (C : Addr) : Sp := fun vs H Q E => ∃ x : V, vs = [x] ∧ Kd K H x ∧
  (∀ n : Int, x = .int n → 0 ≤ n → n < T60 → ∀ H' p (xs : List Int), Same H H' → H p = none → H' p = some (.lst (xs.map V.int)) → Rw xs → S W 0 xs = n → xs.length ≤ 1000 → Q (.ref p) H') ∧ (numB x = false → E (.ref C) none H)
theorem ok_row_of (T : Txt K mg) : FnOk P w K mg base (L2.CX P w) 2 T.f_row_of T.d_row_of ["number"] (sp_row_of K T.C_NoNumber) := by
  refine T.F_row_of.okX sc_row_of (fun vs H Q E h => ?_) (fun cdv A outer s H vs Q E hr h => ?_)
  · obtain ⟨x, rfl, _⟩ := h
    rfl
  · obtain ⟨x, rfl, hk, q1, q2⟩ := h
    refine ⟨_, (pss_cons (ps_if (pt_not (pt_val (pe_call (ok_is_number T) (hr.mono (by decide)) (by rfl) T.g_is_number T.F_is_number.kp T.b_is_number .nil pass0 (pa_cons (pv 0) pa_nil)))) (pss_one (ps_raise rfl (takes_of rfl rfl rfl rfl) (pmk_own PySem.F.excBase_ValueError T.x_NoNumber T.g_NoNumber T.k_NoNumber (raises_own T.xb_NoNumber T.xt_NoNumber) rfl))) pss_nil)
      (pss_one (ps_ret (pe_call (ok_still_heap T) (hr.mono (by decide)) (by rfl) T.g_still_heap T.F_still_heap.kp T.b_still_heap .nil pass0 (pa_cons (pv 0) pa_nil))))), ?_⟩
    refine xs_when (xa_not (xa_B (xv_call (xg_cons (val_var rfl) xg_nil) fun Q q => ⟨x, rfl, hk, q⟩))) (fun hc => ?_) (fun hc => ?_)
    · exact q2 (by simpa using hc)
    · have hc : numB x = true := by simpa using hc
      have hx : ∃ n, x = .int n ∧ 0 ≤ n ∧ n < T60 := by
        rcases hk with ⟨n, rfl⟩ | ⟨hn, _⟩
        · have hc : (decide (0 ≤ n) && decide (n < T60)) = true := hc
          rw [Bool.and_eq_true, decide_eq_true_eq, decide_eq_true_eq] at hc
          exact ⟨n, rfl, hc.1, hc.2⟩
        · rw [hn] at hc
          cases hc
      obtain ⟨n, rfl, h0, h1⟩ := hx
      refine xr_ret (xr_call (xg_go (xg_cons (val_var (i := 0) rfl) xg_nil) ?_))
      exact ⟨n, rfl, h0, Int.lt_trans h1 T60_W, q1 n rfl h0 h1⟩
/-! ### a row, as the law tells it -/
def sp_lrow (K : PySem.W.Frag) : Sp := fun vs H Q _ => ∃ (a : Addr) (xs : List Int), vs = [.ref a] ∧ SqL K H a (xs.map V.int) ∧ Rw xs ∧ ∀ H', Same H H' → Q (.bl true) H'
theorem ok_l_still (T : Txt K mg) : FnOk P w K mg base CX0 2 T.f_l_still T.d_l_still ["_law_found"] (sp_lrow K) := by
  refine T.F_l_still.ok sc_l_still (fun vs H Q E h => ?_) (fun cdv A outer s H vs Q E hr h => ?_)
  · obtain ⟨a, xs, rfl, _⟩ := h
    rfl
  · obtain ⟨a, xs, rfl, hS, hR, q⟩ := h
    refine ⟨_, (pss_cons (ps_if (pt_not (pt_val (pe_callB call_isi (by rfl) T.m_isinstance (by decide +kernel) (pa_cons (pv 0) (pa_cons (pe_bltn (v := .ty "list") (by rfl) T.m_list (by decide +kernel) rfl) pa_nil))))) (pss_one (ps_ret pe_bl)) pss_nil)
      (pss_cons (ps_set (i := 1) sc_l_still.nd rfl (Or.inl rfl) pe_int)
      (pss_cons (ps_for PassesOwn.never rfl (pi_list (pv 0)) (pg_name (i := 2) sc_l_still.nd rfl (Or.inl rfl)) (pss_cons (ps_if (PW.pt (pw_or (pt_not (pt_val (pe_call (ok_l_whole T) (hr.mono (by decide)) (by rfl) T.g_l_whole T.F_l_whole.kp T.b_l_whole .nil pass0 (pa_cons (pv 2) pa_nil)))) (pw_or (pt_cmpR op_lt (pv 2) pe_int (nomark _)) (pw_or (pt_cmpR op_gt (pv 2) pe_int (nomark _)) (pw_or1 (pt_cmpR op_gt (pe_op op_add (pv 2) (pv 1)) pe_int (nomark _))))))) (pss_one (ps_ret pe_bl)) pss_nil)
      (pss_one (ps_set (i := 1) sc_l_still.nd rfl (Or.inl rfl) (pv 2)))))
      (pss_one (ps_ret (pe_or (pe_cmpR (op_eqD hr.units) (pv 0) (pe_lst pa_nil) (nomark _)) (pe_one (pe_cmpR op_eq (pv 1) pe_int (nomark _))))))))), ?_⟩
    refine xs_when (b := false) (xa_not (a := true) (xa_B (xv_isi (val_var rfl) (tyx_L hS) (by decide +kernel)))) (fun z => (nomatch z)) (fun _ => ?_)
    refine xq_set val_c ?_
    refine xq_forI (H0 := H) (ns := xs) (val_var rfl) (Same.refl H) hS (fun i σ H' => ∃ y, σ = [some (.ref a), some (.int (prev xs i)), y] ∧ H' = H) ⟨none, by rw [prev_zero]; rfl, rfl⟩ ?_ ?_
    · rintro i c σ H' e hi ⟨y, rfl, rfl⟩
      obtain ⟨c1, c2, c3⟩ := hR.at hi
      refine xs_when (b := false) (xa_or (a := false) (xa_not (a := true) (xa_B (xv_whole (val_var rfl)))) fun _ => xa_or (a := false) (xa_T (xv_to (xv_I0 (val_var rfl) val_c) (by rw [decide_eq_false (by omega)]))) fun _ => xa_or (a := false) (xa_T (xv_to (xv_I0 (val_var rfl) val_c) (by rw [decide_eq_false (by omega)]))) fun _ =>
        xa_T (xv_to (xv_I0 (xv_I0 (val_var rfl) (val_var rfl)) val_c) (by rw [decide_eq_false (by omega)]))) (fun z => (nomatch z)) (fun _ => ?_)
      refine st_set (val_var rfl) ⟨e, some (.int c), ?_, rfl⟩
      rw [prev_succ hi]
      rfl
    · rintro σ H' e ⟨y, rfl, rfl⟩
      refine Evl.s_ret (v := .bl true) (Evl.ev_is (Evl.ev_orV (ev_eqI (Evl.ev_var rfl) hS) fun hc => Evl.ev_op (Evl.ev_var rfl) Evl.ev_c (Evl.rv_eq rfl)) ?_) fun H1 e1 => q H1 e1
      rcases hR.end with h | h
      · rw [decide_eq_true h]
        rfl
      · rw [h, decide_eq_true (p := V.int 1 = V.int 1) rfl, Bool.or_true]
/-! ### picked -/
def sp_picked (K : PySem.W.Frag) : Sp := fun vs H Q _ => ∃ (a : Addr) (ps : List Addr) (ms : List Mv) (pz : V) (pk : List Int) (n : Nat), vs = [.ref a, pz, .int (n : Int)] ∧ H a = some (.lst (ps.map V.ref)) ∧ MvL H ps ms ∧ ms ≠ [] ∧ PkV K H pz pk ∧
  ∀ H' p m, Same H H' → ms[pickI pk n ms.length]? = some m → H' p = some (.tup (mvV m)) → Q (.ref p) H'
theorem ok_picked (T : Txt K mg) : FnOk P w K mg base CX0 1 T.f_picked T.d_picked ["able", "picks", "many"] (sp_picked K) := by
  refine T.F_picked.ok sc_picked (fun vs H Q E h => ?_) (fun cdv A outer s H vs Q E hr h => ?_)
  · obtain ⟨a, ps, ms, pz, pk, n, rfl, _⟩ := h
    rfl
  · obtain ⟨a, ps, ms, pz, pk, n, rfl, ha, hm, hne, hpk, q⟩ := h
    refine ⟨_, (pss_cons (ps_if (PW.pt (pw_or (pt_cmpR op_isN (pv 1) pe_non (nomark _)) (pw_or1 (pt_cmpR (op_eqD hr.units) (pv 1) (pe_lst pa_nil) (nomark _))))) (pss_one (ps_ret (pe_ix ix_list (pv 0) pe_int (fun _ _ => rfl)))) pss_nil)
      (pss_cons (ps_set (i := 3) sc_picked.nd rfl (Or.inl rfl) (pe_ix ix_list (pv 1) (pe_op op_mod (pv 2) (pe_callB call_len_seq (by rfl) T.m_len PySem.boot_len (pa_cons (pv 1) pa_nil))) (fun _ _ => rfl)))
      (pss_one (ps_ret (pe_ix ix_list (pv 0) (pe_op op_mod (pv 3) (pe_callB call_len_seq (by rfl) T.m_len PySem.boot_len (pa_cons (pv 0) pa_nil))) (fun _ _ => rfl)))))), ?_⟩
    have hpos : 0 < ms.length := List.length_pos_iff.mpr hne
    have hpl : ((ps.map V.ref).length : Int) = (ms.length : Int) := by rw [List.length_map, hm.len]
    refine Evl.q_when (et_noPk (i := 1) rfl hpk) (fun hc H1 e1 => ?_) (fun hc H1 e1 => ?_)
    · have hc := of_decide_eq_true hc
      obtain ⟨p, p1, p2⟩ := (hm.same e1).get (i := 0) (List.getElem?_eq_getElem hpos)
      refine st_ret (xv_ixV (K := K) (i := ((0 : Nat) : Int)) (val_var rfl) val_c (SqL.of (e1 a _ ha)) (atI_nat (v := .ref p) (by rw [List.getElem?_map, p1]; rfl))) (q H1 p _ e1 ?_ p2)
      rw [show pickI pk n ms.length = 0 from by unfold pickI; rw [if_pos hc]]
      exact List.getElem?_eq_getElem hpos
    · have hc := of_decide_eq_false hc
      obtain ⟨b, rfl, hS⟩ := (hpk.same e1).get hc
      have hkp : 0 < pk.length := List.length_pos_iff.mpr hc
      have hk0 : 0 < (pk.length : Int) := by omega
      have hb1 : 0 ≤ (n : Int) % (pk.length : Int) := Int.emod_nonneg _ (by omega)
      have hb2 : (n : Int) % (pk.length : Int) < (pk.length : Int) := Int.emod_lt_of_pos _ hk0
      refine xq_set (xv_ix (val_var rfl) (xv_I (val_var rfl) (xv_lenI (val_var rfl) hS) hk0) hS hb1 hb2) ?_
      have hL1 : SqL K H1 a (ps.map V.ref) := SqL.of (e1 a _ ha)
      have hm0 : 0 < (ms.length : Int) := by omega
      have hr1 : 0 ≤ pk.getD ((n : Int) % (pk.length : Int)).toNat 0 % (ms.length : Int) := Int.emod_nonneg _ (by omega)
      have hr2 : pk.getD ((n : Int) % (pk.length : Int)).toNat 0 % (ms.length : Int) < (ms.length : Int) := Int.emod_lt_of_pos _ hm0
      have hp : pickI pk n ms.length = (pk.getD ((n : Int) % (pk.length : Int)).toNat 0 % (ms.length : Int)).toNat := by
        unfold pickI
        rw [if_neg hc, ofNat_emod]
      have hlt : pickI pk n ms.length < ms.length := by omega
      obtain ⟨p, p1, p2⟩ := (hm.same e1).get (List.getElem?_eq_getElem hlt)
      refine st_ret (xv_ixV (i := ((pickI pk n ms.length : Nat) : Int)) (val_var rfl) (xv_to (xv_I (val_var rfl) (xv_to (xv_len (val_var rfl) hL1) (by rw [hpl])) hm0) (by rw [hp, Int.toNat_of_nonneg hr1])) hL1 (atI_nat (v := .ref p) (by rw [List.getElem?_map, p1]; rfl))) (q H1 p _ e1 (List.getElem?_eq_getElem hlt) p2)
/-! ### carried -/
def sp_carried (K : PySem.W.Frag) : Sp := fun vs H Q _ => ∃ (a : Addr) (xs : List Int) (pz : V) (pk : List Int), vs = [.ref a, pz] ∧ SqL K H a (xs.map V.int) ∧ NN xs ∧ (xs.length : Int) + 2 * S pot 0 xs ≤ 19000 ∧ PkV K H pz pk ∧
  ∀ H' p lc ll (log : List Mv) (qs : List Addr), Same H H' → H' p = some (.tup [.ref lc, .ref ll]) → H lc = none → H ll = none → lc ≠ ll → H' lc = some (.lst ((endOf xs log).map V.int)) → H' ll = some (.lst (qs.map V.ref)) → MvL H' qs log → OkLog pk xs log → mvs (endOf xs log) = [] → Q (.ref p) H'
/-- what stays in bounds -/
theorem left_len {xs : List Int} {log : List Mv} (h : Left xs log) : (log.length : Int) ≤ S pot 0 xs ∧ ((endOf xs log).length : Int) ≤ (xs.length : Int) + 2 * S pot 0 xs := by
  have h1 := S_nonneg pot_pos _ 0 h.nn
  have h2 := h.pot
  have h3 := h.len
  omega
theorem ok_carried (T : Txt K mg) : FnOk P w K mg base CX0 3 T.f_carried T.d_carried ["heap", "picks"] (sp_carried K) := by
  refine T.F_carried.ok sc_carried (fun vs H Q E h => ?_) (fun cdv A outer s H vs Q E hr h => ?_)
  · obtain ⟨a, xs, pz, pk, rfl, _⟩ := h
    rfl
  · obtain ⟨a, xs, pz, pk, rfl, hS, hx, hz, hpk, q⟩ := h
    refine ⟨_, PSs.nox (pss_cons (ps_set (i := 2) sc_carried.nd rfl (Or.inl rfl) (pe_callTy call_list_of (by rfl) T.m_list (by decide +kernel) (pa_cons (pv 0) pa_nil)))
      (pss_cons (ps_set (i := 3) sc_carried.nd rfl (Or.inl rfl) (pe_lst pa_nil))
      (pss_cons (ps_set (i := 4) sc_carried.nd rfl (Or.inl rfl) (pe_call (ok_moves T) (hr.mono (by decide)) (by rfl) T.g_moves T.F_moves.kp T.b_moves .nil pass0 (pa_cons (pv 2) pa_nil)))
      (pss_cons (ps_while PassesOwn.never (pt_cmpR (op_neD hr.units) (pv 4) (pe_lst pa_nil) (nomark _)) (pss_cons (ps_set (i := 5) sc_carried.nd rfl (Or.inl rfl) (pe_call (ok_picked T) (hr.mono (by decide)) (by rfl) T.g_picked T.F_picked.kp T.b_picked .nil pass0 (pa_cons (pv 4) (pa_cons (pv 1) (pa_cons (pe_callB call_len_seq (by rfl) T.m_len PySem.boot_len (pa_cons (pv 3) pa_nil)) pa_nil)))))
      (pss_cons (ps_expr (pe_bm PySem.F.plainAttrs_list PySem.F.slot_list_append PySem.F.type_list_append mt_append (pv 3) (pa_cons (pv 5) pa_nil)))
      (pss_cons (ps_set (i := 2) sc_carried.nd rfl (Or.inl rfl) (pe_call (ok_done T) (hr.mono (by decide)) (by rfl) T.g_done T.F_done.kp T.b_done .nil passL (pa_cons (pv 2) (pa_cons (pv 5) pa_nil))))
      (pss_one (ps_set (i := 4) sc_carried.nd rfl (Or.inl rfl) (pe_call (ok_moves T) (hr.mono (by decide)) (by rfl) T.g_moves T.F_moves.kp T.b_moves .nil pass0 (pa_cons (pv 2) pa_nil))))))))
      (pss_one (ps_ret (pe_tup (pa_cons (pv 2) (pa_cons (pv 3) pa_nil))))))))), ?_⟩
    have hpp := S_nonneg pot_pos xs 0 hx
    refine Evl.q_asgL (xl_listQ (Evl.ev_var rfl) hS) fun lc H1 nc e1 h1 => ?_
    refine Evl.q_asgL (Evl.el_lst Evl.ea_nil (by decide)) fun ll H2 nl e2 h2 => ?_
    refine xq_run ?_
    refine xg_go (by walk_at "arg") ⟨lc, xs, rfl, SqL.of (e2 lc _ h1), by omega, fun H3 ab ps e3 na h3 hm => ?_⟩
    have nl0 : H ll = none := Same.free e1 nl
    refine Evl.q_while (fun m σ H' => ∃ (lc ll ab : Addr) (y : Option V) (log : List Mv) (qs ps : List Addr), σ = [some (.ref a), some pz, some (.ref lc), some (.ref ll), some (.ref ab), y] ∧ Same H H' ∧ H lc = none ∧ H ll = none ∧ lc ≠ ll ∧ H' lc = some (.lst ((endOf xs log).map V.int)) ∧ H' ll = some (.lst (qs.map V.ref)) ∧ MvL H' qs log ∧ OkLog pk xs log ∧ H' ab = some (.lst (ps.map V.ref)) ∧ MvL H' ps (mvs (endOf xs log)) ∧ log.length + m = (S pot 0 xs).toNat)
      (S pot 0 xs).toNat ⟨lc, ll, ab, none, [], [], ps, rfl, Same.trans e1 (Same.trans e2 e3), nc, nl0, (ne_of_none h1 nl), e3 lc _ (e2 lc _ h1), e3 ll _ h2, trivial, .nil pk xs, h3, hm, Nat.zero_add _⟩ ?_
    · rintro m σ H4 ⟨lc, ll, ab, y, log, qs, ps, rfl, e4, nc, nl, hne, hlc, hll, hq, hlog, hab, hm, hme⟩
      refine ⟨_, et_neM (Evl.ev_var rfl) hab hm, fun hc H5 e5 => ?_, fun hc H5 e5 => ?_⟩
      · refine ⟨_, fun _ _ z => z, ?_⟩
        have hc : mvs (endOf xs log) ≠ [] := by simpa using hc
        have L := left_of hx log hlog
        obtain ⟨l1, l2⟩ := left_len L
        have hlc5 := e5 lc _ hlc
        have hll5 := e5 ll _ hll
        refine xq_run ?_
        refine xg_go (xg_cons (val_var (i := 4) rfl) (xg_cons (val_var (i := 1) rfl) (xg_cons (xv_to (xv_len (val_var (i := 3) rfl) (SqL.of hll5)) (by rw [List.length_map, hq.len])) xg_nil))) ⟨ab, ps, _, pz, pk, log.length, rfl, e5 ab _ hab, hm.same e5, hc, (hpk.same e4).same e5, fun H6 p mv e6 hpick hp => ?_⟩
        have hfit : mvFits (endOf xs log) mv = true := mem_mvs.mp (List.mem_of_getElem? hpick)
        have hlog2 := hlog.snoc hpick
        have L2' := left_of hx _ hlog2
        obtain ⟨l3, l4⟩ := left_len L2'
        rw [List.length_append, List.length_singleton] at l3
        rw [endOf_snoc] at l4
        refine Evl.q_app (l := ll) (e6 ll _ hll5) (Evl.ev_var rfl) (Evl.ev_var rfl) (by rw [List.length_map, hq.len]; omega) fun H7 e7 => ?_
        have e47 : Same H H7 := e4.trans (Same.trans e5 (Same.trans e6 e7))
        have e8 : Same H (upd H7 ll (.lst (qs.map V.ref ++ [.ref p]))) := same_mut e47 nl
        have hll7 : H7 ll = some (.lst (qs.map V.ref)) := e7 ll _ (e6 ll _ hll5)
        have hlc7 : (upd H7 ll (.lst (qs.map V.ref ++ [.ref p]))) lc = some (.lst ((endOf xs log).map V.int)) := by
          rw [upd_ne hne]
          exact e7 lc _ (e6 lc _ hlc5)
        have hp7 : (upd H7 ll (.lst (qs.map V.ref ++ [.ref p]))) p = some (.tup (mvV mv)) := by
          rw [upd_ne (ne_of (e7 p _ hp) hll7 (by intro z; cases z))]
          exact e7 p _ hp
        have hq7 : MvL (upd H7 ll (.lst (qs.map V.ref ++ [.ref p]))) (qs ++ [p]) (log ++ [mv]) := MvL.snoc hp7 (MvL.upd hll7 (((hq.same e5).same e6).same e7))
        have hll8 : (upd H7 ll (.lst (qs.map V.ref ++ [.ref p]))) ll = some (.lst ((qs ++ [p]).map V.ref)) := by
          rw [upd_same, List.map_append]
          rfl
        generalize upd H7 ll (.lst (qs.map V.ref ++ [.ref p])) = H8 at e8 hlc7 hp7 hq7 hll8
        refine xq_run ?_
        refine xr_call (xg_go (xg_cons (val_var (i := 2) rfl) (xg_cons (val_var (i := 5) rfl) xg_nil)) ?_)
        refine ⟨lc, endOf xs log, p, mv, rfl, hlc7, SqT.of hp7, by omega, fun _ H9 l2 e9 n9 h9 => ?_, fun z => (nomatch hfit.symm.trans z)⟩
        refine xs_run ?_
        refine xg_go (xg_cons (val_var (i := 2) rfl) xg_nil) ⟨l2, mvDone (endOf xs log) mv, rfl, SqL.of h9, by omega, fun H10 ab2 ps2 e10 n10 h10 hm10 => ?_⟩
        refine ⟨m - 1, by omega, l2, ll, ab2, _, log ++ [mv], qs ++ [p], ps2, rfl, Same.trans e8 (Same.trans e9 e10), Same.free e8 n9, nl, (ne_of_none hll8 n9).symm, ?_, e10 ll _ (e9 ll _ hll8), (hq7.same e9).same e10, hlog2, h10, ?_, ?_⟩
        · rw [endOf_snoc]
          exact e10 l2 _ h9
        · rw [endOf_snoc]
          exact hm10
        · rw [List.length_append, List.length_singleton]
          omega
      · have hc : mvs (endOf xs log) = [] := by simpa using hc
        refine Evl.s_retU (Evl.eu_tup (Evl.ea_cons (Evl.ev_var rfl) (Evl.ea_cons (Evl.ev_var rfl) Evl.ea_nil)) (by show 2 ≤ 100000; omega)) fun p H6 np e6 h6 => ?_
        exact q H6 p lc ll log qs (e4.trans (Same.trans e5 e6)) h6 nc nl hne (e6 lc _ (e5 lc _ hlc)) (e6 ll _ (e5 ll _ hll)) ((hq.same e5).same e6) hlog hc
/-! ### the heap -/
def sp_heap (K : PySem.W.Frag) : Sp := fun vs H Q _ => ∃ (a : Addr) (ns : List Int), vs = [.ref a] ∧ SqL K H a (ns.map V.int) ∧
  ∀ H' p (xs : List Int), Same H H' → H p = none → H' p = some (.lst (xs.map V.int)) → Heap0 xs 40 → xs.length ≤ 8 → Q (.ref p) H'
theorem ok_l_heap (T : Txt K mg) : FnOk P w K mg base CX0 2 T.f_l_heap T.d_l_heap ["_law_script"] (sp_heap K) := by
  refine T.F_l_heap.ok sc_l_heap (fun vs H Q E h => ?_) (fun cdv A outer s H vs Q E hr h => ?_)
  · obtain ⟨a, ns, rfl, _⟩ := h
    rfl
  · obtain ⟨a, ns, rfl, hS, q⟩ := h
    refine ⟨_, (pss_cons (ps_set (i := 1) sc_l_heap.nd rfl (Or.inl rfl) (pe_op op_rep (pe_lst (pa_cons pe_int pa_nil)) pe_int))
      (pss_cons (ps_set (i := 2) sc_l_heap.nd rfl (Or.inl rfl) (pe_op op_add pe_int (pe_op op_mod (pe_call (ok_l_cell_at T) (hr.mono (by decide)) (by rfl) T.g_l_cell_at T.F_l_cell_at.kp T.b_l_cell_at .nil pass0 (pa_cons (pv 0) (pa_cons pe_int pa_nil))) pe_int)))
      (pss_cons (ps_for PassesOwn.never rfl (pi_list (pe_slice sl_list (pv 0) (po_some pe_int) (po_some pe_int))) (pg_name (i := 3) sc_l_heap.nd rfl (Or.inl rfl)) (pss_one (ps_asg (pe_op op_add (pe_ix ix_list (pv 1) (pe_op op_mod (pv 3) (pv 2)) (fun _ _ => rfl)) pe_int) (pg_sub (pv 1) (pe_op op_mod (pv 3) (pv 2)) set_list))))
      (pss_cons (ps_while PassesOwn.never (PW.pt (pw_and (pt_cmpR op_gt (pe_callB call_len_seq (by rfl) T.m_len PySem.boot_len (pa_cons (pv 1) pa_nil)) pe_int (nomark _)) (pw_and1 (pt_cmpR op_eq (pe_ix ix_list (pv 1) (pe_op op_sub (pe_callB call_len_seq (by rfl) T.m_len PySem.boot_len (pa_cons (pv 1) pa_nil)) pe_int) (fun _ _ => rfl)) pe_int (nomark _))))) (pss_one (ps_expr (pe_bm0 PySem.F.plainAttrs_list PySem.F.slot_list_pop PySem.F.type_list_pop mt_pop (pv 1)))))
      (pss_one (ps_ret (pv 1))))))), ?_⟩
    refine Evl.q_asgL (xl_rep (k := 8) (Evl.el_lst (Evl.ea_cons Evl.ev_c Evl.ea_nil) (by decide)) Evl.ev_c (by decide) (by decide)) fun l H1 nl e1 h1 => ?_
    rw [flat_rep] at h1
    have hS1 := Same.seq e1 hS
    refine xq_set (by walk_at "val") ?_
    have hs1 : 0 < 1 + ns.getD 0 0 % 8 := by omega
    have hs2 : 1 + ns.getD 0 0 % 8 ≤ 8 := by omega
    generalize 1 + ns.getD 0 0 % 8 = sp at hs1 hs2
    have hcs : ((ns.take (41 : Int).toNat).drop (1 : Int).toNat).length ≤ 40 := by
      rw [List.length_drop, List.length_take]
      omega
    refine Evl.q_forNLn (xs := ((ns.take (41 : Int).toNat).drop (1 : Int).toNat).map V.int) (by
      have h := Evl.el_sl (Evl.ev_var (σ := [some (.ref a), some (.ref l), some (.int sp), none]) (i := 0) rfl) (Evl.eo_some (Evl.ev_c (v := V.int 1))) (Evl.eo_some (Evl.ev_c (v := V.int 41))) hS1
      rw [cut_int (by decide) (by decide)] at h
      exact h) (fun p i σ H' => ∃ (y : Option V) (hs : List Int), σ = [some (.ref a), some (.ref l), some (.int sp), y] ∧ H' p = some (.lst (((ns.take (41 : Int).toNat).drop (1 : Int).toNat).map V.int)) ∧ p ≠ l ∧ Same H H' ∧ H' l = some (.lst (hs.map V.int)) ∧ hs.length = 8 ∧ NN hs ∧ S one 0 hs ≤ (i : Int))
      (fun p H2 np e2 h2 => ⟨none, _, rfl, h2, (ne_of_none h1 np).symm, Same.trans e1 e2, e2 l _ h1, by decide, fun x hx => by rw [(List.mem_replicate.mp hx).2]; exact Int.le_refl _, by rw [S_zeros]; decide⟩) (fun p i σ' H' _ h => by
        obtain ⟨y, hs, _, h, _⟩ := h
        exact SqL.of h) ?_ ?_
    · rintro p i x σ H' hi ⟨y, hs, rfl, hp, hne, e6, hl6, hlen, hN, hsum⟩
      rw [List.getElem?_map] at hi
      obtain ⟨n, hn, rfl⟩ := Option.map_eq_some_iff.mp hi
      have hj : 0 ≤ n % sp ∧ n % sp < sp := ⟨Int.emod_nonneg _ (by omega), Int.emod_lt_of_pos _ hs1⟩
      refine xs_bump (d := 1) (i := (n % sp).toNat) (j := n % sp) (fun x => rfl) (val_var rfl) (xv_I (val_var rfl) (val_var rfl) hs1) (by omega) hl6 (by omega) ?_
      refine ⟨_, _, rfl, ?_, hne, same_mut e6 nl, upd_same, by rw [bump_len]; exact hlen, hN.bump (by omega) ?_, ?_⟩
      · rw [upd_ne hne]
        exact hp
      · have := hN.get (n % sp).toNat
        omega
      · rw [S_bump one _ _ _ _ (by omega)]
        show _ + 1 * 1 ≤ _
        omega
    · rintro p σ H6 ⟨y, hs, rfl, hp, hne, e6, hl6, hlen, hN, hsum⟩
      rw [List.length_map] at hsum
      refine xq_pops (l := l) rfl hl6 fun H7 e7 h7 => ?_
      have e07 : Same H H7 := fun b o hb => by
        rw [e7 b (ne_of_none hb nl)]
        exact e6 b o hb
      have hbl := bare_len hs
      exact st_ret (val_var rfl) (q H7 l _ e07 nl h7 ⟨hN.bare, bare_idem hs, by rw [bare_S]; omega⟩ (by omega))
/-! ### laid back -/
def sp_laid (K : PySem.W.Frag) : Sp := fun vs H Q _ => ∃ (a : Addr) (xs : List Int), vs = [.ref a] ∧ SqL K H a (xs.map V.int) ∧ xs.length ≤ 1000 ∧ ∀ H' p, Same H H' → H p = none → H' p = some (.lst ((laidBack xs).map V.int)) → Q (.ref p) H'
theorem ok_l_laid_back (T : Txt K mg) : FnOk P w K mg base CX0 1 T.f_l_laid_back T.d_l_laid_back ["_law_heap_here"] (sp_laid K) := by
  refine T.F_l_laid_back.ok sc_l_laid_back (fun vs H Q E h => ?_) (fun cdv A outer s H vs Q E hr h => ?_)
  · obtain ⟨a, xs, rfl, _⟩ := h
    rfl
  · obtain ⟨a, xs, rfl, hS, hz, q⟩ := h
    refine ⟨_, (pss_cons (ps_set (i := 1) sc_l_laid_back.nd rfl (Or.inl rfl) (pe_callTy call_list_of (by rfl) T.m_list (by decide +kernel) (pa_cons (pv 0) pa_nil)))
      (pss_cons (ps_set (i := 2) sc_l_laid_back.nd rfl (Or.inl rfl) (pe_op op_sub (pe_callB call_len_seq (by rfl) T.m_len PySem.boot_len (pa_cons (pv 1) pa_nil)) pe_int))
      (pss_cons (ps_if (pt_cmpR op_lt (pv 2) pe_int (nomark _)) (pss_one (ps_ret (pv 1))) pss_nil)
      (pss_cons (ps_asg (pe_op op_sub (pe_ix ix_list (pv 1) (pv 2) (fun _ _ => rfl)) pe_int) (pg_sub (pv 1) (pv 2) set_list))
      (pss_cons (ps_asg (pe_op op_add (pe_ix ix_list (pv 1) (pe_op op_sub (pv 2) pe_int) (fun _ _ => rfl)) pe_int) (pg_sub (pv 1) (pe_op op_sub (pv 2) pe_int) set_list))
      (pss_cons (ps_asg (pe_op op_add (pe_ix ix_list (pv 1) (pe_op op_sub (pv 2) pe_int) (fun _ _ => rfl)) pe_int) (pg_sub (pv 1) (pe_op op_sub (pv 2) pe_int) set_list))
      (pss_cons (ps_if (pt_cmpR op_eq (pe_ix ix_list (pv 1) (pv 2) (fun _ _ => rfl)) pe_int (nomark _)) (pss_one (ps_expr (pe_bm0 PySem.F.plainAttrs_list PySem.F.slot_list_pop PySem.F.type_list_pop mt_pop (pv 1)))) pss_nil)
      (pss_one (ps_ret (pv 1)))))))))), ?_⟩
    refine Evl.q_asgL (xl_listQ (Evl.ev_var rfl) hS) fun l H1 nl e1 h1 => ?_
    have hL := SqL.of (K := K) h1
    refine xq_set (by walk_at "val") ?_
    unfold laidBack at q
    refine xs_when (by walk_at "ans") (fun hc => ?_) (fun hc => ?_)
    · have hc := of_decide_eq_true hc
      rw [if_pos (by omega)] at q
      exact st_ret (val_var rfl) (q H1 l e1 nl h1)
    · have hc := of_decide_eq_false hc
      rw [if_neg (by omega)] at q
      refine xq_bump (d := -1) (i := xs.length - 1) (fun x => by rw [Int.sub_eq_add_neg]) (val_var rfl) (val_var rfl) (by omega) h1 (by omega) ?_
      refine xq_bump (d := 1) (i := xs.length - 2) (fun x => rfl) (val_var rfl) (xv_I0 (val_var rfl) val_c) (by omega) upd_same (by rw [bump_len]; omega) ?_
      refine xq_bump (d := 1) (i := xs.length - 3) (fun x => rfl) (val_var rfl) (xv_I0 (val_var rfl) val_c) (by omega) upd_same (by rw [bump_len, bump_len]; omega) ?_
      have e2 : Same H (upd (upd (upd H1 l (.lst ((Sh.bump xs (xs.length - 1) (-1)).map V.int))) l (.lst ((Sh.bump (Sh.bump xs (xs.length - 1) (-1)) (xs.length - 2) 1).map V.int))) l (.lst ((laid xs).map V.int))) := same_mut (same_mut (same_mut e1 nl) nl) nl
      have h2 : (upd (upd (upd H1 l (.lst ((Sh.bump xs (xs.length - 1) (-1)).map V.int))) l (.lst ((Sh.bump (Sh.bump xs (xs.length - 1) (-1)) (xs.length - 2) 1).map V.int))) l (.lst ((laid xs).map V.int))) l = some (.lst ((laid xs).map V.int)) := upd_same
      show tSeq _ _ _ _ (upd (upd (upd H1 l (.lst ((Sh.bump xs (xs.length - 1) (-1)).map V.int))) l (.lst ((Sh.bump (Sh.bump xs (xs.length - 1) (-1)) (xs.length - 2) 1).map V.int))) l (.lst ((laid xs).map V.int)))
      generalize (upd (upd (upd H1 l (.lst ((Sh.bump xs (xs.length - 1) (-1)).map V.int))) l (.lst ((Sh.bump (Sh.bump xs (xs.length - 1) (-1)) (xs.length - 2) 1).map V.int))) l (.lst ((laid xs).map V.int))) = H2 at e2 h2
      have hlen := laid_len xs
      have hix : ((xs.length : Int) - 1).toNat = xs.length - 1 := by omega
      refine xs_when (xa_T (xv_eq (xv_ix (val_var rfl) (val_var rfl) (SqL.of h2) (by omega) (by omega)) val_c rfl)) (fun hd => ?_) (fun hd => ?_)
      · have hd := V.int.inj (of_decide_eq_true hd)
        rw [hix] at hd
        rw [if_pos hd] at q
        have hne : (laid xs) ≠ [] := by
          intro e
          rw [e] at hlen
          simp at hlen
          omega
        obtain ⟨zs, d, e⟩ := snoc_of hne
        refine ⟨.ref l, rfl, .inl ⟨rfl, _, SqL.of h2⟩, l, _, .int d, rfl, rfl, h2, ?_, ?_⟩
        · rw [e, List.map_append, List.length_append, List.length_map, List.map_singleton, List.length_singleton, Nat.add_sub_cancel, List.getElem?_append_right (by rw [List.length_map]; exact Nat.le_refl _), List.length_map, Nat.sub_self]
          rfl
        · refine st_ret (val_var rfl) (q _ l (same_mut e2 nl) nl ?_)
          rw [upd_same, List.map_dropLast]
      · have hd : ¬ (laid xs).getD (xs.length - 1) 0 = 0 := fun z => of_decide_eq_false hd (by rw [hix, z])
        rw [if_neg hd] at q
        exact st_ret (val_var rfl) (q _ l e2 nl h2)
/-! ### the fewer -/
def sp_fewer (K : PySem.W.Frag) : Sp := fun vs H Q _ => ∃ (a : Addr) (qs : List Addr) (log : List Mv), vs = [.ref a] ∧ SqL K H a (qs.map V.ref) ∧ MvL H qs log ∧ ∀ H', Same H H' → Q (.int ((log.filter fewer).length : Int)) H'
theorem eqv_part0 (b : Bool) (k : Nat) : (if b = true then true else PyData.eqv (mvD (b, k)) (mvD (false, 0))) = fewer (b, k) := by
  cases b with
  | true => rfl
  | false =>
    rw [if_neg Bool.false_ne_true, mvD_eqv]
    unfold fewer
    simp
theorem ok_l_fewer (T : Txt K mg) : FnOk P w K mg base CX0 1 T.f_l_fewer T.d_l_fewer ["_law_log"] (sp_fewer K) := by
  refine T.F_l_fewer.ok sc_l_fewer (fun vs H Q E h => ?_) (fun cdv A outer s H vs Q E hr h => ?_)
  · obtain ⟨a, qs, log, rfl, _⟩ := h
    rfl
  · obtain ⟨a, qs, log, rfl, hS, hq, q⟩ := h
    refine ⟨_, (pss_cons (ps_set (i := 1) sc_l_fewer.nd rfl (Or.inl rfl) pe_int)
      (pss_cons (ps_for PassesOwn.never rfl (pi_list (pv 0)) (pg_name (i := 2) sc_l_fewer.nd rfl (Or.inl rfl)) (pss_cons (ps_if (PW.pt (pw_or (pt_not (pt_val (pe_callB call_isi (by rfl) T.m_isinstance (by decide +kernel) (pa_cons (pv 2) (pa_cons (pe_bltn (v := .ty "tuple") (by rfl) T.m_tuple (by decide +kernel) rfl) pa_nil))))) (pw_or1 (pt_cmpR op_ne (pe_callB call_len_seq (by rfl) T.m_len PySem.boot_len (pa_cons (pv 2) pa_nil)) pe_int (nomark _))))) (pss_one (ps_ret (pe_un un_neg pe_int))) pss_nil)
      (pss_one (ps_if (PW.pt (pw_or (pt_cmpR op_eq (pe_ix ix_tup (pv 2) pe_int (fun _ _ => rfl)) pe_str (nomark _)) (pw_or1 (pt_cmpR (op_eqD hr.units) (pv 2) (pe_tup (pa_cons pe_str (pa_cons pe_int pa_nil))) (nomark _))))) (pss_one (ps_set (i := 1) sc_l_fewer.nd rfl (Or.inl rfl) (pe_op op_add (pv 1) pe_int))) pss_nil))))
      (pss_one (ps_ret (pv 1))))), ?_⟩
    refine xq_set val_c ?_
    refine xq_forV (H0 := H) (a := a) (xs := qs.map V.ref) (val_var rfl) (Same.refl H) hS (fun i σ H' => ∃ y, σ = [some (.ref a), some (.int ((((log.take i).filter fewer).length : Nat) : Int)), y]) ⟨none, rfl⟩ ?_ ?_
    · rintro i v σ H' e hi ⟨y, rfl⟩
      rw [List.getElem?_map] at hi
      obtain ⟨p, hp, rfl⟩ := Option.map_eq_some_iff.mp hi
      have hi2 : i < log.length := by
        rw [← hq.len]
        exact (List.getElem?_eq_some_iff.mp hp).1
      have hm : log[i]? = some log[i] := List.getElem?_eq_getElem hi2
      obtain ⟨p', p1, p2⟩ := (hq.same e).get hm
      have epp : p' = p := Option.some.inj (p1.symm.trans hp)
      subst epp
      have htk : log.take (i + 1) = log.take i ++ [log[i]] := take_more hm
      generalize log[i] = m at hm p2 htk
      obtain ⟨b, k⟩ := m
      have hP := SqT.of (K := K) p2
      refine xs_when (b := false) (xa_or (a := false) (xa_not (a := true) (xa_B (xv_isi (val_var rfl) (tyx_T hP) (by decide +kernel)))) fun _ => xa_T (xv_to (xv_ne (xv_lenT (val_var rfl) hP) val_c rfl) (by rfl))) (fun z => (nomatch z)) (fun _ => ?_)
      refine Evl.s_when (b := fewer (b, k)) (Evl.et_is (Evl.et_or (a := b) (b := fewer (b, k)) (fun H1 e1 Q q => by
        have h := xv_eq (xv_ixT (K := K) (i := 0) (v := .str (mvS b)) (val_var (σ := [some (.ref a), some (.int ((((log.take i).filter fewer).length : Nat) : Int)), some (.ref p')]) (i := 2) rfl) val_c (Evl.ex_t e1 hP) (by rfl)) (val_c (H := H1) (v := V.str "join")) (by rfl)
        rw [show decide (V.str (mvS b) = V.str "join") = b from by cases b <;> decide +kernel] at h
        exact xa_T h _ (q H1 (Evl.Ex.refl H1))) fun hb => Evl.et_test (Evl.ev_opU (Evl.ev_var rfl) (Evl.eu_tup (Evl.ea_cons Evl.ev_c (Evl.ea_cons Evl.ev_c Evl.ea_nil)) (by show 2 ≤ 100000; omega)) fun p2 H1 h1 e1 => fun H2 e2 Q q => ⟨_, _, mv_dp (Evl.ex_t e2 (Evl.ex_t e1 hP)), .tup (Evl.ex_t e2 (SqT.of h1)) (.cons (.str _) (.cons (.int _) .nil)), mvD_shaped _, (by decide +kernel), by
          have h := eqv_part0 b k
          rw [if_neg (by rw [hb]; decide)] at h
          rw [← h] at q
          exact q H2 (Evl.Ex.refl H2)⟩)) (by cases b <;> rfl)) (fun hc H1 e1 => ?_) (fun hc H1 e1 => ?_)
      · refine st_set (xv_I0 (val_var rfl) val_c) ⟨Same.trans e e1, some (.ref p'), ?_⟩
        rw [htk, List.filter_append, List.length_append, List.filter_cons, if_pos hc]
        rfl
      · refine ⟨Same.trans e e1, some (.ref p'), ?_⟩
        rw [htk, List.filter_append, List.length_append, List.filter_cons, if_neg (by rw [hc]; decide)]
        rfl
    · rintro σ H' e ⟨y, rfl⟩
      rw [List.length_map, hq.len, List.take_length]
      exact st_ret (val_var rfl) (q H' e)
/-! ### the end of a heap -/
def sp_end (K : PySem.W.Frag) : Sp := fun vs H Q _ => ∃ (a : Addr) (xs : List Int) (c : Addr) (pk : List Int), vs = [.ref a, .ref c] ∧ SqL K H a (xs.map V.int) ∧ SqL K H c (pk.map V.int) ∧ Heap0 xs 41 ∧ xs.length ≤ 8 ∧
  ∀ H' p (ys : List Int), Same H H' → H p = none → H' p = some (.lst (ys.map V.int)) → Rw ys → S W 0 ys = S W 0 xs → ys.length ≤ 19000 → Q (.ref p) H'
theorem pot_in {xs : List Int} (hx : Heap0 xs 41) (hl : xs.length ≤ 8) : (xs.length : Int) + 2 * S pot 0 xs ≤ 19000 := by
  have h := pot_le hx.nn
  have h0 := S_nonneg (f := one) (fun _ => by unfold one; decide) xs 0 hx.nn
  have h1 : ((xs.length : Int) + 3) * S one 0 xs ≤ 11 * 41 := Int.mul_le_mul (by omega) hx.sum h0 (by decide)
  omega
theorem ok_l_end (T : Txt K mg) : FnOk P w K mg base CX0 4 T.f_l_end T.d_l_end ["_law_heap_here", "_law_picks"] (sp_end K) := by
  refine T.F_l_end.ok sc_l_end (fun vs H Q E h => ?_) (fun cdv A outer s H vs Q E hr h => ?_)
  · obtain ⟨a, xs, c, pk, rfl, _⟩ := h
    rfl
  · obtain ⟨a, xs, c, pk, rfl, hS, hC, hx, hl, q⟩ := h
    refine ⟨_, (pss_cons (ps_set (i := 2) sc_l_end.nd rfl (Or.inl rfl) (pe_callTy call_list_of (by rfl) T.m_list (by decide +kernel) (pa_cons (pv 0) pa_nil)))
      (pss_cons (ps_set (i := 3) sc_l_end.nd rfl (Or.inl rfl) (pe_callTy call_list_of (by rfl) T.m_list (by decide +kernel) (pa_cons (pv 1) pa_nil)))
      (pss_cons (ps_set (i := 4) sc_l_end.nd rfl (Or.inl rfl) (pe_call (dvs := []) (ok_carried T) (hr.mono (by decide)) (by rfl) T.g_carried T.F_carried.kp T.b1_carried.choose_spec.2 T.b1_carried.choose_spec.1 pass0 (pa_cons (pv 2) (pa_cons (pv 3) pa_nil))))
      (pss_cons (ps_if (PW.pt (pw_or (pt_not (pt_val (pe_callB call_isi (by rfl) T.m_isinstance (by decide +kernel) (pa_cons (pv 4) (pa_cons (pe_bltn (v := .ty "tuple") (by rfl) T.m_tuple (by decide +kernel) rfl) pa_nil))))) (pw_or (pt_cmpR op_ne (pe_callB call_len_seq (by rfl) T.m_len PySem.boot_len (pa_cons (pv 4) pa_nil)) pe_int (nomark _)) (pw_or (pt_cmpR (op_neD hr.units) (pv 2) (pv 0) (nomark _)) (pw_or1 (pt_cmpR (op_neD hr.units) (pv 3) (pv 1) (nomark _))))))) (pss_one (ps_ret pe_non)) pss_nil)
      (pss_cons (ps_set (i := 5) sc_l_end.nd rfl (Or.inl rfl) (pe_ix ix_tup (pv 4) pe_int (fun _ _ => rfl)))
      (pss_cons (ps_if (PW.pt (pw_or (pt_not (pt_val (pe_call (ok_l_still T) (hr.mono (by decide)) (by rfl) T.g_l_still T.F_l_still.kp T.b_l_still .nil pass0 (pa_cons (pv 5) pa_nil)))) (pw_or1 (pt_not (pt_val (pe_callB call_isi (by rfl) T.m_isinstance (by decide +kernel) (pa_cons (pe_ix ix_tup (pv 4) pe_int (fun _ _ => rfl)) (pa_cons (pe_bltn (v := .ty "list") (by rfl) T.m_list (by decide +kernel) rfl) pa_nil)))))))) (pss_one (ps_ret pe_non)) pss_nil)
      (pss_cons (ps_set (i := 6) sc_l_end.nd rfl (Or.inl rfl) pe_int)
      (pss_cons (ps_for PassesOwn.never rfl (pi_range1 (by rfl) T.m_range (pa_cons (pe_callB call_len_seq (by rfl) T.m_len PySem.boot_len (pa_cons (pv 0) pa_nil)) pa_nil)) (pg_name (i := 7) sc_l_end.nd rfl (Or.inl rfl)) (pss_one (ps_set (i := 6) sc_l_end.nd rfl (Or.inl rfl) (pe_op op_add (pv 6) (pe_op op_mulW (pe_op op_add (pe_op op_add (pv 7) pe_int) (pe_callTy call_int1 (by rfl) T.m_int (by decide +kernel) (pa_cons (pe_cmpR op_gt (pv 7) pe_int (nomark _)) pa_nil))) (pe_ix ix_list (pv 0) (pv 7) (fun _ _ => rfl)))))))
      (pss_cons (ps_if (PW.pt (pw_or (pt_cmpR op_gt (pe_callB call_len_seq (by rfl) T.m_len PySem.boot_len (pa_cons (pe_ix ix_tup (pv 4) pe_int (fun _ _ => rfl)) pa_nil)) (pv 6) (nomark _)) (pw_or1 (pt_cmpR op_ne (pe_call (ok_l_fewer T) (hr.mono (by decide)) (by rfl) T.g_l_fewer T.F_l_fewer.kp T.b_l_fewer .nil pass0 (pa_cons (pe_ix ix_tup (pv 4) pe_int (fun _ _ => rfl)) pa_nil)) (pe_op op_sub (pe_callB (cr_sum rfl) (by rfl) T.m_sum (by decide +kernel) (pa_cons (pv 0) pa_nil)) (pe_callB (cr_sum rfl) (by rfl) T.m_sum (by decide +kernel) (pa_cons (pv 5) pa_nil))) (nomark _))))) (pss_one (ps_ret pe_non)) pss_nil)
      (pss_one (ps_ret (pv 5)))))))))))), ?_⟩
    have hpot := pot_in hx hl
    have hpp := S_nonneg pot_pos xs 0 hx.nn
    refine Evl.q_asgL (xl_listQ (Evl.ev_var (i := 0) rfl) hS) fun ha H1 nha e1 h1 => ?_
    refine Evl.q_asgL (xl_listQ (Evl.ev_var (i := 1) rfl) (Same.seq e1 hC)) fun ga H2 nga e2 h2 => ?_
    have e02 : Same H H2 := Same.trans e1 e2
    have hh2 := e2 ha _ h1
    refine xq_run ?_
    refine xr_callD (xg_go (xg_cons (val_var (i := 2) rfl) (xg_cons (val_var (i := 3) rfl) xg_nil)) ?_)
    refine ⟨ha, xs, .ref ga, pk, rfl, SqL.of hh2, hx.nn, hpot, .inr ⟨ga, rfl, SqL.of h2⟩, fun H7 t lc ll log qs e7 ht nlc nll hne hlc hll hq hlog hend => ?_⟩
    have L := left_of hx.nn log hlog
    obtain ⟨l1, l2⟩ := left_len L
    have hR := rw_of_still L.nn hend (endOf_bare hx.ba log)
    have hwt := L.wt
    have hT := SqT.of (K := K) ht
    have hL := SqL.of (K := K) hll
    have hE := SqL.of (K := K) hlc
    have e07 : Same H H7 := e02.trans e7
    have hS7 := e07.seq hS
    have hC7 := e07.seq hC
    have hh7 := SqL.of (K := K) (e7 ha _ hh2)
    have hga7 := SqL.of (K := K) (e7 ga _ h2)
    have hfew := L.few
    have hone0 := S_nonneg (f := one) (fun _ => by unfold one; decide) _ 0 hx.nn
    have sm0 : Sm xs := sm_of hx.nn (by omega) (Int.le_refl _) (by have := hx.sum; omega)
    refine xs_when (b := false) (xa_or (a := false) (xa_not (a := true) (xa_B (xv_isi (val_var rfl) (tyx_T hT) (by decide +kernel)))) fun _ => xa_or (a := false) (xa_T (xv_to (xv_ne (xv_lenT (val_var rfl) hT) val_c rfl) (by rfl))) fun _ =>
      xa_or (a := false) (xa_T (xv_to (xv_neL (val_var rfl) (val_var rfl) hh7 hS7) (by rw [decide_eq_true rfl]; rfl))) fun _ => xa_T (xv_to (xv_neL (val_var rfl) (val_var rfl) hga7 hC7) (by rw [decide_eq_true rfl]; rfl))) (fun z => (nomatch z)) (fun _ => ?_)
    refine xq_set (xv_ixT (i := 0) (v := .ref lc) (val_var rfl) val_c hT rfl) ?_
    have v1 : ∀ {σ : L2.St} {te : TE} {H' : Hp}, Same H7 H' → Val te σ H' (.ref t) → Val (tOp (rIxT K) te (tC (.int 1))) σ H' (.ref ll) := fun e h => xv_ixT (i := 1) h val_c (Evl.ex_t e hT) rfl
    refine Evl.q_when (b := false) (Evl.et_or (a := false) (Evl.et_not (a := true) (Evl.et_B fun H3 e3 Q q => xr_call (xg_go (xg_cons (val_var (i := 5) rfl) xg_nil) ⟨lc, _, rfl, Same.seq e3 hE, hR, fun H4 e4 => q H4 e4⟩))) fun _ => Evl.et_not (a := true) (Evl.et_B fun H3 e3 Q q => xv_isi (v1 e3 (val_var (i := 4) rfl)) (tyx_L (Same.seq e3 hL)) (by decide +kernel) _ (q H3 (Evl.Ex.refl H3)))) (fun z => (nomatch z)) (fun _ H8 e8 => ?_)
    refine xq_set val_c ?_
    have hS8 := Same.seq e8 hS7
    refine xq_forR (n := xs.length) (by walk_at "arg") (by omega) (fun i σ H' => ∃ y, σ = [some (.ref a), some (.ref c), some (.ref ha), some (.ref ga), some (.ref t), some (.ref lc), some (.int (S pot 0 (xs.take i))), y] ∧ H' = H8) ⟨none, rfl, rfl⟩ ?_ ?_
    · rintro i σ H' hi ⟨y, rfl, rfl⟩
      have hn := get_of hi
      have hb : CMulW ((i : Int) + 3 + (if decide ((0 : Int) < (i : Int)) = true then 1 else 0)) (xs.getD i 0) := wide_mul (a := 20) (b := 1000) (by split <;> omega) (sm0.mag _ (List.mem_of_getElem? hn)) (by decide) (by decide) (by decide)
      refine st_set (xv_I0 (val_var rfl) (xv_I (xv_I0 (xv_I0 (val_var rfl) val_c) (xv_cb (v := .int (if decide ((0 : Int) < (i : Int)) = true then 1 else 0)) (xg_cons (xv_I0 (val_var rfl) val_c) xg_nil) fun Q q => .inr ⟨_, rfl, q⟩)) (xv_ix (i := (i : Int)) (val_var rfl) (val_var rfl) hS8 (by omega) (by omega)) hb)) ?_
      refine ⟨some (.int (i : Int)), ?_, rfl⟩
      have e : S pot 0 (xs.take (i + 1)) = S pot 0 (xs.take i) + ((i : Int) + 3 + (if decide ((0 : Int) < (i : Int)) = true then 1 else 0)) * xs.getD i 0 := by
        rw [S_take hn, Nat.zero_add, Int.mul_comm]
        congr 2
        unfold pot
        congr 1
        by_cases h0 : 0 < i
        · rw [if_pos h0, if_pos (decide_eq_true (by omega))]
        · rw [if_neg h0, if_neg (by rw [decide_eq_true_eq]; omega)]
      rw [e]
      rfl
    · rintro σ H' ⟨y, rfl, rfl⟩
      rw [List.take_length]
      have vs : ∀ {σ : L2.St} {ta : TE} {b : Addr} {ys : List Int} {H1 : Hp}, Val ta σ H1 (.ref b) → SqL K H1 b (ys.map V.int) → Val (tCB (rSum K) (tCons ta tNil)) σ H1 (.int ys.sum) := fun h hS => xv_cb (xg_cons h xg_nil) fun Q q => ⟨_, _, rfl, hS, q⟩
      refine Evl.q_when (b := false) (Evl.et_or (a := false) (Evl.et_test fun H3 e3 Q q => xv_to (xv_I0 (xv_len (v1 (Same.trans e8 e3) (val_var (i := 4) rfl)) (Same.seq e3 (Same.seq e8 hL))) (val_var (i := 6) rfl)) (by
          show V.bl (decide (S pot 0 xs < ((qs.map V.ref).length : Int))) = _
          rw [List.length_map, hq.len, decide_eq_false (by omega)]) _ (q H3 (Evl.Ex.refl H3))) fun _ => Evl.et_test fun H3 e3 Q q => ?_) (fun z => (nomatch z)) (fun _ H9 e9 => ?_)
      · refine xr_op (xr_call (xg_go (xg_cons (v1 (Same.trans e8 e3) (val_var (i := 4) rfl)) xg_nil) ⟨ll, qs, log, rfl, Same.seq e3 (Same.seq e8 hL), (hq.same e8).same e3, fun H4 e4 => ?_⟩))
        refine xv_go (xv_I0 (vs (val_var (i := 0) rfl) (Same.seq e4 (Same.seq e3 hS8))) (vs (val_var (i := 5) rfl) (Same.seq e4 (Same.seq e3 (Same.seq e8 hE))))) ?_
        rw [one_sum, one_sum] at hfew
        rw [hfew]
        refine ⟨rfl, ?_⟩
        rw [decide_eq_true rfl]
        exact q H4 e4
      · exact st_ret (val_var (i := 5) rfl) (q H9 lc _ (e07.trans (Same.trans e8 e9)) (Same.free e02 nlc) (e9 lc _ (e8 lc _ hlc)) hR hwt (by omega))
/-! ### the law -/
def sp_law (K : PySem.W.Frag) : Sp := fun vs H Q _ => ∃ (a : Addr) (ns : List Int), vs = [.ref a] ∧ SqL K H a (ns.map V.int) ∧ ns.length ≤ 63 ∧ ∀ H', Q (.bl true) H'
theorem ok_law (T : Txt K mg) : FnOk P w K mg base CX0 5 T.f_law T.d_law ["_law_script"] (sp_law K) := by
  refine T.F_law.ok sc_law (fun vs H Q E h => ?_) (fun cdv A outer s H vs Q E hr h => ?_)
  · obtain ⟨a, ns, rfl, _⟩ := h
    rfl
  · obtain ⟨a, ns, rfl, hS, hl, q⟩ := h
    refine ⟨_, (pss_cons (ps_set (i := 1) sc_law.nd rfl (Or.inl rfl) (pe_call (ok_l_heap T) (hr.mono (by decide)) (by rfl) T.g_l_heap T.F_l_heap.kp T.b_l_heap .nil pass0 (pa_cons (pv 0) pa_nil)))
      (pss_cons (ps_set (i := 2) sc_law.nd rfl (Or.inl rfl) (pv 1))
      (Evl.pss_cut (ps_if (pt_cmpR op_eq (pe_op op_mod (pe_op op_fdiv (pe_call (ok_l_cell_at T) (hr.mono (by decide)) (by rfl) T.g_l_cell_at T.F_l_cell_at.kp T.b_l_cell_at .nil pass0 (pa_cons (pv 0) (pa_cons pe_int pa_nil))) pe_int) pe_int) pe_int (nomark _)) (pss_one (ps_set (i := 2) sc_law.nd rfl (Or.inl rfl) (pe_call (ok_l_laid_back T) (hr.mono (by decide)) (by rfl) T.g_l_laid_back T.F_l_laid_back.kp T.b_l_laid_back .nil pass0 (pa_cons (pv 1) pa_nil)))) pss_nil)
      (pss_cons (ps_set (i := 3) sc_law.nd rfl (Or.inl rfl) (pe_call (ok_l_weight T) (hr.mono (by decide)) (by rfl) T.g_l_weight T.F_l_weight.kp T.b_l_weight .nil pass0 (pa_cons (pv 1) pa_nil)))
      (pss_cons (ps_set (i := 4) sc_law.nd rfl (Or.inl rfl) (pe_call (ok_l_end T) (hr.mono (by decide)) (by rfl) T.g_l_end T.F_l_end.kp T.b_l_end .nil pass0 (pa_cons (pv 1) (pa_cons (pe_lc (own := [("_law_cell", 11)]) (g := gName 11) (tt := tYes) rfl sc_law.nd (pi_list (pe_slice sl_list (pv 0) po_none (po_some pe_int))) (blkOk_by (N := ["_law_script", "_law_heap_here", "_law_other", "_law_whole_here", "_law_end_here", "_law_numbers", "_law_beside", "_law_told", "_law_row", "_law_kept", "_law_again", "_law_cell"]) (sc := defScope st_law) (by decide +kernel)) (fun _ _ _ _ _ => pg_name (i := 11) sc_law.nd rfl (Or.inl rfl)) (fun _ _ _ _ _ => pts_nil) (fun _ _ _ _ _ => (pe_op op_mod (pv 11) (pe_op op_add (pe_op op_pow pe_int pe_int) pe_int)))) pa_nil))))
      (pss_cons (ps_set (i := 5) sc_law.nd rfl (Or.inl rfl) (pe_call (ok_l_stream T) (hr.mono (by decide)) (by rfl) T.g_l_stream T.F_l_stream.kp T.b_l_stream .nil pass0 (pa_cons (pe_call (ok_l_cell_at T) (hr.mono (by decide)) (by rfl) T.g_l_cell_at T.F_l_cell_at.kp T.b_l_cell_at .nil pass0 (pa_cons (pv 0) (pa_cons pe_int pa_nil))) (pa_cons pe_int pa_nil))))
      (pss_cons (ps_set (i := 6) sc_law.nd rfl (Or.inl rfl) (pe_call (ok_l_end T) (hr.mono (by decide)) (by rfl) T.g_l_end T.F_l_end.kp T.b_l_end .nil pass0 (pa_cons (pv 2) (pa_cons (pe_slice sl_list (pv 5) po_none (po_some (pe_op op_mod (pe_ix ix_list (pv 5) pe_int (fun _ _ => rfl)) pe_int))) pa_nil))))
      (pss_cons (ps_if (PW.pt (pw_or (pt_cmpR op_isN (pv 4) pe_non (nomark _)) (pw_or (pt_cmpR op_isN (pv 6) pe_non (nomark _)) (pw_or1 (pt_cmpR (op_neD hr.units) (pv 4) (pv 6) (nomark _)))))) (pss_one (ps_ret pe_bl)) pss_nil)
      (pss_cons (ps_if (PW.pt (pw_or (pt_cmpR op_ne (pe_call (ok_l_weight T) (hr.mono (by decide)) (by rfl) T.g_l_weight T.F_l_weight.kp T.b_l_weight .nil pass0 (pa_cons (pv 4) pa_nil)) (pv 3) (nomark _)) (pw_or1 (pt_cmpR op_notBl (pe_call (ok_is_still T) (hr.mono (by decide)) (by rfl) T.g_is_still T.F_is_still.kp T.b_is_still .nil pass0 (pa_cons (pv 4) pa_nil)) pe_bl (nomark _))))) (pss_one (ps_ret pe_bl)) pss_nil)
      (pss_cons (ps_set (i := 7) sc_law.nd rfl (Or.inl rfl) (pe_call (ok_weight T) (hr.mono (by decide)) (by rfl) T.g_weight T.F_weight.kp T.b_weight .nil pass0 (pa_cons (pv 4) pa_nil)))
      (pss_cons (ps_set (i := 8) sc_law.nd rfl (Or.inl rfl) (pe_call (ok_row_of T) (hr.mono (by decide)) (by rfl) T.g_row_of T.F_row_of.kp T.b_row_of .nil passL (pa_cons (pv 3) pa_nil)))
      (pss_cons (ps_if (PW.pt (pw_or (pt_not (pt_val (pe_call (ok_l_whole T) (hr.mono (by decide)) (by rfl) T.g_l_whole T.F_l_whole.kp T.b_l_whole .nil pass0 (pa_cons (pv 7) pa_nil)))) (pw_or (pt_cmpR op_ne (pv 7) (pv 3) (nomark _)) (pw_or (pt_not (pt_val (pe_call (ok_l_still T) (hr.mono (by decide)) (by rfl) T.g_l_still T.F_l_still.kp T.b_l_still .nil pass0 (pa_cons (pv 8) pa_nil)))) (pw_or1 (pt_cmpR (op_neD hr.units) (pv 8) (pv 4) (nomark _))))))) (pss_one (ps_ret pe_bl)) pss_nil)
      (pss_cons (ps_set (i := 9) sc_law.nd rfl (Or.inl rfl) (pe_callTy call_list_of (by rfl) T.m_list (by decide +kernel) (pa_cons (pv 4) pa_nil)))
      (pss_cons (ps_set (i := 10) sc_law.nd rfl (Or.inl rfl) (pe_call (dvs := [V.non]) (ok_carried T) (hr.mono (by decide)) (by rfl) T.g_carried T.F_carried.kp T.b0_carried.choose_spec.2 T.b0_carried.choose_spec.1 pass0 (pa_cons (pv 4) pa_nil)))
      (pss_cons (ps_if (PW.pt (pw_or (pt_not (pt_val (pe_callB call_isi (by rfl) T.m_isinstance (by decide +kernel) (pa_cons (pv 10) (pa_cons (pe_bltn (v := .ty "tuple") (by rfl) T.m_tuple (by decide +kernel) rfl) pa_nil))))) (pw_or (pt_cmpR (op_neD hr.units) (pv 10) (pe_tup (pa_cons (pv 9) (pa_cons (pe_lst pa_nil) pa_nil))) (nomark _)) (pw_or1 (pt_not (pt_val (pe_call (ok_l_still T) (hr.mono (by decide)) (by rfl) T.g_l_still T.F_l_still.kp T.b_l_still .nil pass0 (pa_cons (pe_ix ix_tup (pv 10) pe_int (fun _ _ => rfl)) pa_nil)))))))) (pss_one (ps_ret pe_bl)) pss_nil)
      (pss_cons (ps_expr (pe_bm PySem.F.plainAttrs_list PySem.F.slot_list_append PySem.F.type_list_append mt_append (pe_ix ix_tup (pv 10) pe_int (fun _ _ => rfl)) (pa_cons pe_int pa_nil)))
      (pss_one (ps_ret (pe_cmpR (op_eqD hr.units) (pv 4) (pv 9) (nomark _)))))))))))))))))))), ?_⟩
    refine xq_run ?_
    refine xg_go (by walk_at "arg") ⟨a, ns, rfl, hS, fun H1 x xs e1 nx h1 hx hxl => ?_⟩
    have hx41 : Heap0 xs 41 := ⟨hx.nn, hx.ba, by have := hx.sum; omega⟩
    obtain ⟨w0, w1⟩ := W_in hx.nn hx.sum (by omega) (by decide)
    have sm0 : Sm xs := sm_of hx.nn (by omega) (Int.le_refl _) (by have := hx.sum; omega)
    have hS1 := Same.seq e1 hS
    refine xq_set (val_var rfl) ?_
    refine xs_cut (Mid := fun σ H' => ∃ (o : Addr) (os : List Int), σ = [some (.ref a), some (.ref x), some (.ref o), none, none, none, none, none, none, none, none, none] ∧ Same H1 H' ∧ H' o = some (.lst (os.map V.int)) ∧ Heap0 os 41 ∧ S W 0 os = S W 0 xs ∧ os.length ≤ 8) ?_ ?_
    · refine xs_if (by walk_at "ans") (fun hc => ?_) (fun hc => ?_)
      · refine xs_run (xr_call (xg_go (xg_cons (val_var (i := 1) rfl) xg_nil) ⟨x, xs, rfl, SqL.of h1, by omega, fun H2 o e2 no h2 => ?_⟩))
        obtain ⟨o1, o2, o3⟩ := laidBack_ok hx
        exact ⟨o, _, rfl, e2, h2, o1, o2, by omega⟩
      · exact ⟨x, xs, rfl, Same.refl H1, h1, hx41, rfl, hxl⟩
    rintro σ H2 ⟨o, os, rfl, e2, ho, hos, how, hol⟩
    have e02 : Same H H2 := Same.trans e1 e2
    have hS2 := e02.seq hS
    have hx2 := e2 x _ h1
    have hX2 := SqL.of (K := K) hx2
    refine xq_set (by walk_at "val") ?_
    -- the end of the heap
    have hcl : (ns.take 12).length ≤ 12 := by
      rw [List.length_take]
      omega
    refine xq_run (xr_call (xr_cons (xv_go (val_var (i := 1) rfl) (xr_cons ?_))))
    refine xl_mapI (K := K) (j := 11) (ws := [11]) (cs := ns.take 12) (F := fun c => .int (c % (T60 + 1))) (by
      have h := Evl.el_sl (Evl.ev_var (σ := [some (.ref a), some (.ref x), some (.ref o), some (.int (wt xs)), none, none, none, none, none, none, none, none]) (i := 0) rfl) Evl.eo_none (Evl.eo_some (Evl.ev_c (v := V.int 12))) hS2
      rw [show cutV (ns.map V.int) none (some 12) = (ns.take 12).map V.int by rw [List.map_take]; exact cut_hi _ 12] at h
      exact h) (by omega) (fun _ => rfl) (fun c H3 e hc => xe_I (C := fun _ j => 0 < j) (g := fun i j => .int (i % j)) (Evl.ev_var (i := 11) rfl) (xe_I0 xe_p60 Evl.ev_c) T60_pos1) H2 (Evl.Ex.refl H2) _ fun l0 H3 nl e3 h3 => ?_
    rw [show (ns.take 12).map (fun c => V.int (c % (T60 + 1))) = ((ns.take 12).map fun c => c % (T60 + 1)).map V.int from by rw [List.map_map]; rfl] at h3
    refine xr_nil ⟨x, xs, l0, _, rfl, SqL.of (e3 x _ hx2), SqL.of h3, hx41, hxl, fun H4 en ys e4 nen h4 hR hw hyl => ?_⟩
    have e04 : Same H H4 := e02.trans (Same.trans e3 e4)
    have hS4 := e04.seq hS
    -- another
    refine xq_run (xr_call (xg_go (by walk_at "arg") ⟨ns.getD 0 0, 7, rfl, by decide, fun H5 nb ms e5 n5 h5 hml hmr => ?_⟩))
    have hN5 := SqL.of (K := K) h5
    have h6 : 0 ≤ ms.getD 6 0 := (hmr _ (List.mem_of_getElem? (get_of (show 6 < ms.length by omega)))).1
    have hu : 0 ≤ ms.getD 6 0 % 7 := Int.emod_nonneg _ (by decide)
    obtain ⟨u, hu⟩ : ∃ u : Nat, ms.getD 6 0 % 7 = (u : Int) := ⟨_, (Int.toNat_of_nonneg hu).symm⟩
    refine xq_run (xr_call (xr_cons (xv_go (val_var (i := 2) rfl) (xr_cons ?_))))
    refine Evl.el_sl (hi := some (u : Int)) (Evl.ev_var (i := 5) rfl) Evl.eo_none (Evl.eo_some (Evl.ev_is (xe_I (C := fun _ j => 0 < j) (xe_ix (i := 6) (Evl.ev_var (i := 5) rfl) Evl.ev_c hN5 (by decide) (by omega)) Evl.ev_c (by decide)) (by show V.int (ms.getD 6 0 % 7) = _; rw [hu]))) hN5 H5 (Evl.Ex.refl H5) _ fun l1 H6 nl1 e6 h6' => ?_
    rw [cut_hi, ← List.map_take] at h6'
    have e26 : Same H2 H6 := Same.trans e3 (Same.trans e4 (Same.trans e5 e6))
    refine xr_nil ⟨o, os, l1, _, rfl, SqL.of (e26 o _ ho), SqL.of h6', hos, hol, fun H7 be zs e7 nbe h7 hRz hwz hzl => ?_⟩
    have hyz : ys = zs := hR.uniq hRz (by rw [hw, hwz, how])
    subst hyz
    have h47 : Same H4 H7 := Same.trans e5 (Same.trans e6 e7)
    have hE := h47 en _ h4
    have hEL := SqL.of (K := K) hE
    have hBL := SqL.of (K := K) h7
    refine xs_when (b := false) (xa_or (a := false) (ans_isN (val_var rfl) rfl) fun _ => xa_or (a := false) (ans_isN (val_var rfl) rfl) fun _ => xa_T (xv_to (xv_neL (val_var rfl) (val_var rfl) hEL hBL) (by rw [decide_eq_true rfl]; rfl))) (fun z => (nomatch z)) (fun _ => ?_)
    have smy : Sm ys := hR.sm (by omega)
    have hww : wt ys = wt xs := hw
    refine xs_when (b := false) (xa_or (a := false) (xa_T (xv_to (xv_ne (xv_weight (val_var rfl) hEL smy) (val_var rfl) rfl) (by rw [hww, decide_eq_true rfl]; rfl))) fun _ => xa_T (val_op (x := .bl true) (y := .bl true) (xv_call (xg_cons (val_var rfl) xg_nil) fun Q q => ⟨en, ys, rfl, hEL, by omega, by rw [hR.st]; exact q⟩) val_c fun Q q => ⟨true, true, rfl, rfl, q⟩)) (fun z => (nomatch z)) (fun _ => ?_)
    refine xq_set (xv_weight (val_var rfl) hEL smy) ?_
    rw [hww]
    refine xq_run (xr_call (xg_go (xg_cons (val_var (i := 3) rfl) xg_nil) ?_))
    refine ⟨_, rfl, .int, fun n' en' _ _ H8 r rs e8 nr h8 hRr hwr hrl => ?_, fun z => (nomatch (numB_int w0 w1).symm.trans z)⟩
    obtain rfl := V.int.inj en'
    have hry : rs = ys := hRr.uniq hR (by rw [hwr, hw])
    subst hry
    have hE8 := e8 en _ hE
    refine Evl.q_when (b := false) (Evl.et_or (a := false) (Evl.et_not (a := true) (Evl.et_B fun H9 e9 Q q => xv_whole (val_var (i := 7) rfl) _ (q H9 (Evl.Ex.refl H9)))) fun _ => Evl.et_or (a := false) (Evl.et_test fun H9 e9 Q q => xv_to (xv_ne (val_var (i := 7) rfl) (val_var (i := 3) rfl) rfl) (by rw [decide_eq_true rfl]; rfl) _ (q H9 (Evl.Ex.refl H9))) fun _ =>
      Evl.et_or (a := false) (Evl.et_not (a := true) (Evl.et_B fun H9 e9 Q q => xr_call (xg_go (xg_cons (val_var (i := 8) rfl) xg_nil) ⟨r, _, rfl, SqL.of (e9 r _ h8), hR, fun H10 e10 => q H10 e10⟩))) fun _ => Evl.et_test fun H9 e9 Q q => xv_to (xv_neL (val_var (i := 8) rfl) (val_var (i := 4) rfl) (SqL.of (e9 r _ h8)) (SqL.of (e9 en _ hE8))) (by rw [decide_eq_true rfl]; rfl) _ (q H9 (Evl.Ex.refl H9))) (fun z => (nomatch z)) (fun _ H9 e9 => ?_)
    have hE9 := e9 en _ hE8
    -- carried again
    refine Evl.q_asgL (xl_listQ (Evl.ev_var (i := 4) rfl) (SqL.of hE9)) fun ke H10 nke e10 h10 => ?_
    have hE10 := e10 en _ hE9
    have hNNy : NN rs := hR.nonneg
    have hlog0 : ∀ {pk log}, OkLog pk rs log → mvs (endOf rs log) = [] → log = [] := fun h1 h2 => log_nil h1 (mvs_rw hR)
    refine xq_run (xr_callD (xg_go (xg_cons (val_var (i := 4) rfl) xg_nil) ?_))
    refine ⟨en, rs, .non, [], rfl, SqL.of hE10, hNNy, pot_rw hR hw hx hxl, .inl ⟨rfl, rfl⟩, fun H11 t lc ll log qs e11 ht nlc nll hne hlc hll hq hlog hend => ?_⟩
    obtain rfl := hlog0 hlog hend
    have hqs : qs = [] := List.eq_nil_of_length_eq_zero hq.len
    subst hqs
    have hlc : H11 lc = some (.lst (rs.map V.int)) := hlc
    have hll : H11 ll = some (.lst []) := hll
    have hT := SqT.of (K := K) ht
    have hE11 := e11 en _ hE10
    have hk11 := e11 ke _ h10
    refine Evl.q_when (b := false) (Evl.et_or (a := false) (Evl.et_not (a := true) (Evl.et_B fun H12 e12 Q q => xv_isi (val_var (i := 10) rfl) (tyx_T (Evl.ex_t e12 hT)) (by decide +kernel) _ (q H12 (Evl.Ex.refl H12)))) fun _ => Evl.et_or (a := false) (Evl.et_test fun H12 e12 Q q => ?_) fun _ =>
      Evl.et_not (a := true) (Evl.et_B fun H12 e12 Q q => xr_call (xg_go (xg_cons (xv_ixT (i := 0) (v := .ref lc) (val_var (i := 10) rfl) val_c (Evl.ex_t e12 hT) rfl) xg_nil) ⟨lc, _, rfl, SqL.of (e12 lc _ hlc), hR, fun H13 e13 => q H13 e13⟩))) (fun z => (nomatch z)) (fun _ H12 e12 => ?_)
    · refine xr_op (xv_go (val_var (i := 10) rfl) ?_)
      refine xr_tup (xr_cons (xv_go (val_var (i := 9) rfl) (xr_cons ?_)))
      refine (Evl.el_lst Evl.ea_nil (by decide)) H12 (Evl.Ex.refl H12) _ fun z H13 nz e13 h13 => ?_
      refine xr_nil ⟨Evl.sz_of (by show 2 ≤ 100000; omega), fun z2 nz2 => ?_⟩
      have e14 : Same H13 (upd H13 z2 (.tup [.ref ke, .ref z])) := Evl.Ex.new nz2
      have h14 : (upd H13 z2 (.tup [.ref ke, .ref z])) z2 = some (.tup [.ref ke, .ref z]) := upd_same
      generalize upd H13 z2 (.tup [.ref ke, .ref z]) = H14 at e14 h14
      have e1214 : Same H12 H14 := Same.trans e13 e14
      refine ⟨.tuple [.list (rs.map PyData.int), .list []], .tuple [.list (rs.map PyData.int), .list []], .tup (Evl.ex_t e1214 (Evl.ex_t e12 hT)) (.cons (.lst (SqL.of (e1214 lc _ (e12 lc _ hlc))) (dpAll_int rs)) (.cons (.lst (SqL.of (e1214 ll _ (e12 ll _ hll))) .nil) .nil)),
        .tup (SqT.of h14) (.cons (.lst (SqL.of (e1214 ke _ (e12 ke _ hk11))) (dpAll_int rs)) (.cons (.lst (SqL.of (e14 z _ h13)) .nil) .nil)), shaped_pair rs, shaped_pair rs, ?_⟩
      rw [eqv_pair]
      exact q H14 e1214
    · have hE12 := e12 en _ hE11
      have hk12 := e12 ke _ hk11
      have hlc12 := e12 lc _ hlc
      have n1 : en ≠ lc := ne_of_none hE10 nlc
      have n2 : ke ≠ lc := ne_of_none h10 nlc
      refine Evl.q_app (l := lc) hlc12 (Evl.ev_is (fun H13 e13 Q q => xv_ixT (i := 0) (v := .ref lc) (val_var (i := 10) rfl) val_c (Evl.ex_t e13 (Evl.ex_t e12 hT)) rfl _ (q H13 (Evl.Ex.refl H13))) rfl) Evl.ev_c (by rw [List.length_map]; omega) fun H13 e13 => ?_
      refine st_ret (xv_to (xv_eqL (ns := rs) (ms := rs) (val_var (i := 4) rfl) (val_var (i := 9) rfl) (SqL.of ?_) (SqL.of ?_)) (by rw [decide_eq_true rfl])) (q _)
      · rw [upd_ne n1]
        exact e13 en _ hE12
      · rw [upd_ne n2]
        exact e13 ke _ hk12
end
theorem all_mk {l : PySem.W.OpenLaw} {w : World} {K : PySem.W.Frag} {h : Heap} {mg : Str → Option Value} {fa : Addr} (X : K.In h) (G : h.Ns mainGlobals mg) (hfa : mg "law" = some (.ref fa))
    {C_StairError : Addr} (a_StairError : PySem.W.nsIn K mainGlobals "StairError" = some (some (.ref C_StairError)))
    (k_StairError : PySem.W.keepIn K (.ref C_StairError) = true) (x_StairError : PySem.W.excIn K C_StairError [.type "ValueError", .type "Exception", .type "BaseException", .type "object"] "ValueError.__new__" = true) (xb_StairError : PySem.W.subIn K (.ref C_StairError) (.type "BaseException") = some true) (xt_StairError : PySem.W.typeIn K (.ref C_StairError) = some (.type "type"))
    {C_NoMove : Addr} (a_NoMove : PySem.W.nsIn K mainGlobals "NoMove" = some (some (.ref C_NoMove)))
    (k_NoMove : PySem.W.keepIn K (.ref C_NoMove) = true) (x_NoMove : PySem.W.excIn K C_NoMove [.type "ValueError", .type "Exception", .type "BaseException", .type "object"] "ValueError.__new__" = true) (xb_NoMove : PySem.W.subIn K (.ref C_NoMove) (.type "BaseException") = some true) (xt_NoMove : PySem.W.typeIn K (.ref C_NoMove) = some (.type "type"))
    {C_NoNumber : Addr} (a_NoNumber : PySem.W.nsIn K mainGlobals "NoNumber" = some (some (.ref C_NoNumber)))
    (k_NoNumber : PySem.W.keepIn K (.ref C_NoNumber) = true) (x_NoNumber : PySem.W.excIn K C_NoNumber [.type "ValueError", .type "Exception", .type "BaseException", .type "object"] "ValueError.__new__" = true) (xb_NoNumber : PySem.W.subIn K (.ref C_NoNumber) (.type "BaseException") = some true) (xt_NoNumber : PySem.W.typeIn K (.ref C_NoNumber) = some (.type "type"))
    {f_fits : Addr} (a_fits : PySem.W.nsIn K mainGlobals "fits" = some (some (.ref f_fits)))
    {od_fits an_fits : Option Addr} {sl_fits : Array (Option Value)} {oc_fits kV_fits dc_fits pm_fits cd_fits ct_fits : Value} (l_fits : K.lookup f_fits = some ⟨oc_fits, od_fits, .func (PySem.W.fnOf "fits" "fits" (defArgs st_fits) (defBody st_fits) (defScope st_fits) .none kV_fits dc_fits pm_fits an_fits cd_fits ct_fits), sl_fits⟩) (c_fits : PySem.W.codeIn K cd_fits "fits" = true) (k_fits : PySem.W.keepIn K (.ref f_fits) = true)
    {f_moves : Addr} (a_moves : PySem.W.nsIn K mainGlobals "moves" = some (some (.ref f_moves)))
    {od_moves an_moves : Option Addr} {sl_moves : Array (Option Value)} {oc_moves kV_moves dc_moves pm_moves cd_moves ct_moves : Value} (l_moves : K.lookup f_moves = some ⟨oc_moves, od_moves, .func (PySem.W.fnOf "moves" "moves" (defArgs st_moves) (defBody st_moves) (defScope st_moves) .none kV_moves dc_moves pm_moves an_moves cd_moves ct_moves), sl_moves⟩) (c_moves : PySem.W.codeIn K cd_moves "moves" = true) (k_moves : PySem.W.keepIn K (.ref f_moves) = true)
    {f_bare : Addr} (a_bare : PySem.W.nsIn K mainGlobals "bare" = some (some (.ref f_bare)))
    {od_bare an_bare : Option Addr} {sl_bare : Array (Option Value)} {oc_bare kV_bare dc_bare pm_bare cd_bare ct_bare : Value} (l_bare : K.lookup f_bare = some ⟨oc_bare, od_bare, .func (PySem.W.fnOf "bare" "bare" (defArgs st_bare) (defBody st_bare) (defScope st_bare) .none kV_bare dc_bare pm_bare an_bare cd_bare ct_bare), sl_bare⟩) (c_bare : PySem.W.codeIn K cd_bare "bare" = true) (k_bare : PySem.W.keepIn K (.ref f_bare) = true)
    {f_done : Addr} (a_done : PySem.W.nsIn K mainGlobals "done" = some (some (.ref f_done)))
    {od_done an_done : Option Addr} {sl_done : Array (Option Value)} {oc_done kV_done dc_done pm_done cd_done ct_done : Value} (l_done : K.lookup f_done = some ⟨oc_done, od_done, .func (PySem.W.fnOf "done" "done" (defArgs st_done) (defBody st_done) (defScope st_done) .none kV_done dc_done pm_done an_done cd_done ct_done), sl_done⟩) (c_done : PySem.W.codeIn K cd_done "done" = true) (k_done : PySem.W.keepIn K (.ref f_done) = true)
    {f_picked : Addr} (a_picked : PySem.W.nsIn K mainGlobals "picked" = some (some (.ref f_picked)))
    {od_picked an_picked : Option Addr} {sl_picked : Array (Option Value)} {oc_picked kV_picked dc_picked pm_picked cd_picked ct_picked : Value} (l_picked : K.lookup f_picked = some ⟨oc_picked, od_picked, .func (PySem.W.fnOf "picked" "picked" (defArgs st_picked) (defBody st_picked) (defScope st_picked) .none kV_picked dc_picked pm_picked an_picked cd_picked ct_picked), sl_picked⟩) (c_picked : PySem.W.codeIn K cd_picked "picked" = true) (k_picked : PySem.W.keepIn K (.ref f_picked) = true)
    {f_carried : Addr} (a_carried : PySem.W.nsIn K mainGlobals "carried" = some (some (.ref f_carried)))
    {t_carried : Addr}
    {od_carried an_carried : Option Addr} {sl_carried : Array (Option Value)} {oc_carried kV_carried dc_carried pm_carried cd_carried ct_carried : Value} (l_carried : K.lookup f_carried = some ⟨oc_carried, od_carried, .func (PySem.W.fnOf "carried" "carried" (defArgs st_carried) (defBody st_carried) (defScope st_carried) (.ref t_carried) kV_carried dc_carried pm_carried an_carried cd_carried ct_carried), sl_carried⟩) (c_carried : PySem.W.codeIn K cd_carried "carried" = true) (k_carried : PySem.W.keepIn K (.ref f_carried) = true)
    {oc2_carried : Value} {od2_carried : Option Addr} {n2_carried : Nat} {sl2_carried : Array (Option Value)} (t2_carried : K.lookup t_carried = some ⟨oc2_carried, od2_carried, .seq #[.none] n2_carried, sl2_carried⟩)
    {f_weight : Addr} (a_weight : PySem.W.nsIn K mainGlobals "weight" = some (some (.ref f_weight)))
    {od_weight an_weight : Option Addr} {sl_weight : Array (Option Value)} {oc_weight kV_weight dc_weight pm_weight cd_weight ct_weight : Value} (l_weight : K.lookup f_weight = some ⟨oc_weight, od_weight, .func (PySem.W.fnOf "weight" "weight" (defArgs st_weight) (defBody st_weight) (defScope st_weight) .none kV_weight dc_weight pm_weight an_weight cd_weight ct_weight), sl_weight⟩) (c_weight : PySem.W.codeIn K cd_weight "weight" = true) (k_weight : PySem.W.keepIn K (.ref f_weight) = true)
    {f_is_still : Addr} (a_is_still : PySem.W.nsIn K mainGlobals "is_still" = some (some (.ref f_is_still)))
    {od_is_still an_is_still : Option Addr} {sl_is_still : Array (Option Value)} {oc_is_still kV_is_still dc_is_still pm_is_still cd_is_still ct_is_still : Value} (l_is_still : K.lookup f_is_still = some ⟨oc_is_still, od_is_still, .func (PySem.W.fnOf "is_still" "is_still" (defArgs st_is_still) (defBody st_is_still) (defScope st_is_still) .none kV_is_still dc_is_still pm_is_still an_is_still cd_is_still ct_is_still), sl_is_still⟩) (c_is_still : PySem.W.codeIn K cd_is_still "is_still" = true) (k_is_still : PySem.W.keepIn K (.ref f_is_still) = true)
    {f_is_number : Addr} (a_is_number : PySem.W.nsIn K mainGlobals "is_number" = some (some (.ref f_is_number)))
    {od_is_number an_is_number : Option Addr} {sl_is_number : Array (Option Value)} {oc_is_number kV_is_number dc_is_number pm_is_number cd_is_number ct_is_number : Value} (l_is_number : K.lookup f_is_number = some ⟨oc_is_number, od_is_number, .func (PySem.W.fnOf "is_number" "is_number" (defArgs st_is_number) (defBody st_is_number) (defScope st_is_number) .none kV_is_number dc_is_number pm_is_number an_is_number cd_is_number ct_is_number), sl_is_number⟩) (c_is_number : PySem.W.codeIn K cd_is_number "is_number" = true) (k_is_number : PySem.W.keepIn K (.ref f_is_number) = true)
    {f_still_heap : Addr} (a_still_heap : PySem.W.nsIn K mainGlobals "still_heap" = some (some (.ref f_still_heap)))
    {od_still_heap an_still_heap : Option Addr} {sl_still_heap : Array (Option Value)} {oc_still_heap kV_still_heap dc_still_heap pm_still_heap cd_still_heap ct_still_heap : Value} (l_still_heap : K.lookup f_still_heap = some ⟨oc_still_heap, od_still_heap, .func (PySem.W.fnOf "still_heap" "still_heap" (defArgs st_still_heap) (defBody st_still_heap) (defScope st_still_heap) .none kV_still_heap dc_still_heap pm_still_heap an_still_heap cd_still_heap ct_still_heap), sl_still_heap⟩) (c_still_heap : PySem.W.codeIn K cd_still_heap "still_heap" = true) (k_still_heap : PySem.W.keepIn K (.ref f_still_heap) = true)
    {f_row_of : Addr} (a_row_of : PySem.W.nsIn K mainGlobals "row_of" = some (some (.ref f_row_of)))
    {od_row_of an_row_of : Option Addr} {sl_row_of : Array (Option Value)} {oc_row_of kV_row_of dc_row_of pm_row_of cd_row_of ct_row_of : Value} (l_row_of : K.lookup f_row_of = some ⟨oc_row_of, od_row_of, .func (PySem.W.fnOf "row_of" "row_of" (defArgs st_row_of) (defBody st_row_of) (defScope st_row_of) .none kV_row_of dc_row_of pm_row_of an_row_of cd_row_of ct_row_of), sl_row_of⟩) (c_row_of : PySem.W.codeIn K cd_row_of "row_of" = true) (k_row_of : PySem.W.keepIn K (.ref f_row_of) = true)
    {f_l_cell_at : Addr} (a_l_cell_at : PySem.W.nsIn K mainGlobals "_law_cell_at" = some (some (.ref f_l_cell_at)))
    {od_l_cell_at an_l_cell_at : Option Addr} {sl_l_cell_at : Array (Option Value)} {oc_l_cell_at kV_l_cell_at dc_l_cell_at pm_l_cell_at cd_l_cell_at ct_l_cell_at : Value} (l_l_cell_at : K.lookup f_l_cell_at = some ⟨oc_l_cell_at, od_l_cell_at, .func (PySem.W.fnOf "_law_cell_at" "_law_cell_at" (defArgs st_l_cell_at) (defBody st_l_cell_at) (defScope st_l_cell_at) .none kV_l_cell_at dc_l_cell_at pm_l_cell_at an_l_cell_at cd_l_cell_at ct_l_cell_at), sl_l_cell_at⟩) (c_l_cell_at : PySem.W.codeIn K cd_l_cell_at "_law_cell_at" = true) (k_l_cell_at : PySem.W.keepIn K (.ref f_l_cell_at) = true)
    {f_l_whole : Addr} (a_l_whole : PySem.W.nsIn K mainGlobals "_law_whole" = some (some (.ref f_l_whole)))
    {od_l_whole an_l_whole : Option Addr} {sl_l_whole : Array (Option Value)} {oc_l_whole kV_l_whole dc_l_whole pm_l_whole cd_l_whole ct_l_whole : Value} (l_l_whole : K.lookup f_l_whole = some ⟨oc_l_whole, od_l_whole, .func (PySem.W.fnOf "_law_whole" "_law_whole" (defArgs st_l_whole) (defBody st_l_whole) (defScope st_l_whole) .none kV_l_whole dc_l_whole pm_l_whole an_l_whole cd_l_whole ct_l_whole), sl_l_whole⟩) (c_l_whole : PySem.W.codeIn K cd_l_whole "_law_whole" = true) (k_l_whole : PySem.W.keepIn K (.ref f_l_whole) = true)
    {f_l_stream : Addr} (a_l_stream : PySem.W.nsIn K mainGlobals "_law_stream" = some (some (.ref f_l_stream)))
    {od_l_stream an_l_stream : Option Addr} {sl_l_stream : Array (Option Value)} {oc_l_stream kV_l_stream dc_l_stream pm_l_stream cd_l_stream ct_l_stream : Value} (l_l_stream : K.lookup f_l_stream = some ⟨oc_l_stream, od_l_stream, .func (PySem.W.fnOf "_law_stream" "_law_stream" (defArgs st_l_stream) (defBody st_l_stream) (defScope st_l_stream) .none kV_l_stream dc_l_stream pm_l_stream an_l_stream cd_l_stream ct_l_stream), sl_l_stream⟩) (c_l_stream : PySem.W.codeIn K cd_l_stream "_law_stream" = true) (k_l_stream : PySem.W.keepIn K (.ref f_l_stream) = true)
    {f_l_heap : Addr} (a_l_heap : PySem.W.nsIn K mainGlobals "_law_heap" = some (some (.ref f_l_heap)))
    {od_l_heap an_l_heap : Option Addr} {sl_l_heap : Array (Option Value)} {oc_l_heap kV_l_heap dc_l_heap pm_l_heap cd_l_heap ct_l_heap : Value} (l_l_heap : K.lookup f_l_heap = some ⟨oc_l_heap, od_l_heap, .func (PySem.W.fnOf "_law_heap" "_law_heap" (defArgs st_l_heap) (defBody st_l_heap) (defScope st_l_heap) .none kV_l_heap dc_l_heap pm_l_heap an_l_heap cd_l_heap ct_l_heap), sl_l_heap⟩) (c_l_heap : PySem.W.codeIn K cd_l_heap "_law_heap" = true) (k_l_heap : PySem.W.keepIn K (.ref f_l_heap) = true)
    {f_l_laid_back : Addr} (a_l_laid_back : PySem.W.nsIn K mainGlobals "_law_laid_back" = some (some (.ref f_l_laid_back)))
    {od_l_laid_back an_l_laid_back : Option Addr} {sl_l_laid_back : Array (Option Value)} {oc_l_laid_back kV_l_laid_back dc_l_laid_back pm_l_laid_back cd_l_laid_back ct_l_laid_back : Value} (l_l_laid_back : K.lookup f_l_laid_back = some ⟨oc_l_laid_back, od_l_laid_back, .func (PySem.W.fnOf "_law_laid_back" "_law_laid_back" (defArgs st_l_laid_back) (defBody st_l_laid_back) (defScope st_l_laid_back) .none kV_l_laid_back dc_l_laid_back pm_l_laid_back an_l_laid_back cd_l_laid_back ct_l_laid_back), sl_l_laid_back⟩) (c_l_laid_back : PySem.W.codeIn K cd_l_laid_back "_law_laid_back" = true) (k_l_laid_back : PySem.W.keepIn K (.ref f_l_laid_back) = true)
    {f_l_weight : Addr} (a_l_weight : PySem.W.nsIn K mainGlobals "_law_weight" = some (some (.ref f_l_weight)))
    {od_l_weight an_l_weight : Option Addr} {sl_l_weight : Array (Option Value)} {oc_l_weight kV_l_weight dc_l_weight pm_l_weight cd_l_weight ct_l_weight : Value} (l_l_weight : K.lookup f_l_weight = some ⟨oc_l_weight, od_l_weight, .func (PySem.W.fnOf "_law_weight" "_law_weight" (defArgs st_l_weight) (defBody st_l_weight) (defScope st_l_weight) .none kV_l_weight dc_l_weight pm_l_weight an_l_weight cd_l_weight ct_l_weight), sl_l_weight⟩) (c_l_weight : PySem.W.codeIn K cd_l_weight "_law_weight" = true) (k_l_weight : PySem.W.keepIn K (.ref f_l_weight) = true)
    {f_l_still : Addr} (a_l_still : PySem.W.nsIn K mainGlobals "_law_still" = some (some (.ref f_l_still)))
    {od_l_still an_l_still : Option Addr} {sl_l_still : Array (Option Value)} {oc_l_still kV_l_still dc_l_still pm_l_still cd_l_still ct_l_still : Value} (l_l_still : K.lookup f_l_still = some ⟨oc_l_still, od_l_still, .func (PySem.W.fnOf "_law_still" "_law_still" (defArgs st_l_still) (defBody st_l_still) (defScope st_l_still) .none kV_l_still dc_l_still pm_l_still an_l_still cd_l_still ct_l_still), sl_l_still⟩) (c_l_still : PySem.W.codeIn K cd_l_still "_law_still" = true) (k_l_still : PySem.W.keepIn K (.ref f_l_still) = true)
    {f_l_fewer : Addr} (a_l_fewer : PySem.W.nsIn K mainGlobals "_law_fewer" = some (some (.ref f_l_fewer)))
    {od_l_fewer an_l_fewer : Option Addr} {sl_l_fewer : Array (Option Value)} {oc_l_fewer kV_l_fewer dc_l_fewer pm_l_fewer cd_l_fewer ct_l_fewer : Value} (l_l_fewer : K.lookup f_l_fewer = some ⟨oc_l_fewer, od_l_fewer, .func (PySem.W.fnOf "_law_fewer" "_law_fewer" (defArgs st_l_fewer) (defBody st_l_fewer) (defScope st_l_fewer) .none kV_l_fewer dc_l_fewer pm_l_fewer an_l_fewer cd_l_fewer ct_l_fewer), sl_l_fewer⟩) (c_l_fewer : PySem.W.codeIn K cd_l_fewer "_law_fewer" = true) (k_l_fewer : PySem.W.keepIn K (.ref f_l_fewer) = true)
    {f_l_end : Addr} (a_l_end : PySem.W.nsIn K mainGlobals "_law_end" = some (some (.ref f_l_end)))
    {od_l_end an_l_end : Option Addr} {sl_l_end : Array (Option Value)} {oc_l_end kV_l_end dc_l_end pm_l_end cd_l_end ct_l_end : Value} (l_l_end : K.lookup f_l_end = some ⟨oc_l_end, od_l_end, .func (PySem.W.fnOf "_law_end" "_law_end" (defArgs st_l_end) (defBody st_l_end) (defScope st_l_end) .none kV_l_end dc_l_end pm_l_end an_l_end cd_l_end ct_l_end), sl_l_end⟩) (c_l_end : PySem.W.codeIn K cd_l_end "_law_end" = true) (k_l_end : PySem.W.keepIn K (.ref f_l_end) = true)
    {f_law : Addr} (a_law : PySem.W.nsIn K mainGlobals "law" = some (some (.ref f_law)))
    {od_law an_law : Option Addr} {sl_law : Array (Option Value)} {oc_law kV_law dc_law pm_law cd_law ct_law : Value} (l_law : K.lookup f_law = some ⟨oc_law, od_law, .func (PySem.W.fnOf "law" "law" (defArgs st_law) (defBody st_law) (defScope st_law) .none kV_law dc_law pm_law an_law cd_law ct_law), sl_law⟩) (c_law : PySem.W.codeIn K cd_law "law" = true) (k_law : PySem.W.keepIn K (.ref f_law) = true)
    (z_len : PySem.W.nsIn K mainGlobals "len" = some none)
    (z_range : PySem.W.nsIn K mainGlobals "range" = some none)
    (z_list : PySem.W.nsIn K mainGlobals "list" = some none)
    (z_isinstance : PySem.W.nsIn K mainGlobals "isinstance" = some none)
    (z_int : PySem.W.nsIn K mainGlobals "int" = some none)
    (z_bool : PySem.W.nsIn K mainGlobals "bool" = some none)
    (z_reversed : PySem.W.nsIn K mainGlobals "reversed" = some none)
    (z_tuple : PySem.W.nsIn K mainGlobals "tuple" = some none)
    (z_sum : PySem.W.nsIn K mainGlobals "sum" = some none) :
    ∃ fd : FuncData, (∀ (s : Shared) (v : Value), BindsTo s fd ⟨[v], []⟩ [("_law_script", v)]) ∧ ∀ base : Heap, K.In base → base.Ns mainGlobals mg → FnOk l.prog w K mg base CX0 5 fa fd ["_law_script"] (sp_law K) := by
  have e := hfa.symm.trans (PySem.W.mg_of X G a_law)
  cases e
  let T : Txt K mg := { C_StairError := C_StairError, g_StairError := PySem.W.mg_of X G a_StairError, k_StairError := k_StairError, x_StairError := x_StairError, xb_StairError := xb_StairError, xt_StairError := xt_StairError, C_NoMove := C_NoMove, g_NoMove := PySem.W.mg_of X G a_NoMove, k_NoMove := k_NoMove, x_NoMove := x_NoMove, xb_NoMove := xb_NoMove, xt_NoMove := xt_NoMove, C_NoNumber := C_NoNumber, g_NoNumber := PySem.W.mg_of X G a_NoNumber, k_NoNumber := k_NoNumber, x_NoNumber := x_NoNumber, xb_NoNumber := xb_NoNumber, xt_NoNumber := xt_NoNumber, f_fits := f_fits, d_fits := _, F_fits := fun_mk (st := st_fits) l_fits c_fits k_fits, g_fits := PySem.W.mg_of X G a_fits, b_fits := (fun_mk (st := st_fits) l_fits c_fits k_fits).binds (ps := ["heap", "move"]) (fun _ _ _ _ _ _ us hl => match us, hl with | [_, _], _ => rfl), f_moves := f_moves, d_moves := _, F_moves := fun_mk (st := st_moves) l_moves c_moves k_moves, g_moves := PySem.W.mg_of X G a_moves, b_moves := (fun_mk (st := st_moves) l_moves c_moves k_moves).binds (ps := ["heap"]) (fun _ _ _ _ _ _ us hl => match us, hl with | [_], _ => rfl), f_bare := f_bare, d_bare := _, F_bare := fun_mk (st := st_bare) l_bare c_bare k_bare, g_bare := PySem.W.mg_of X G a_bare, b_bare := (fun_mk (st := st_bare) l_bare c_bare k_bare).binds (ps := ["counts"]) (fun _ _ _ _ _ _ us hl => match us, hl with | [_], _ => rfl), f_done := f_done, d_done := _, F_done := fun_mk (st := st_done) l_done c_done k_done, g_done := PySem.W.mg_of X G a_done, b_done := (fun_mk (st := st_done) l_done c_done k_done).binds (ps := ["heap", "move"]) (fun _ _ _ _ _ _ us hl => match us, hl with | [_, _], _ => rfl), f_picked := f_picked, d_picked := _, F_picked := fun_mk (st := st_picked) l_picked c_picked k_picked, g_picked := PySem.W.mg_of X G a_picked, b_picked := (fun_mk (st := st_picked) l_picked c_picked k_picked).binds (ps := ["able", "picks", "many"]) (fun _ _ _ _ _ _ us hl => match us, hl with | [_, _, _], _ => rfl), f_carried := f_carried, d_carried := _, F_carried := (⟨⟨_, _, _, _, _, _, _, _, _, _, rfl, l_carried, c_carried, .inr ⟨by decide, t_carried, _, [.none], n2_carried, rfl, t2_carried, rfl, .cons rfl (.nil)⟩, .inl rfl⟩, k_carried⟩ : FunD K "carried" "carried" (defArgs st_carried) (defBody st_carried) (defScope st_carried) [V.non] [] f_carried _), g_carried := PySem.W.mg_of X G a_carried, b0_carried := (⟨⟨_, _, _, _, _, _, _, _, _, _, rfl, l_carried, c_carried, .inr ⟨by decide, t_carried, _, [.none], n2_carried, rfl, t2_carried, rfl, .cons rfl (.nil)⟩, .inl rfl⟩, k_carried⟩ : FunD K "carried" "carried" (defArgs st_carried) (defBody st_carried) (defScope st_carried) [V.non] [] f_carried _).binds1 1 0 (by decide) rfl (fun _ _ _ _ _ _ _ us its e1 e2 => match us, its, e1, e2 with | [_], [_], _, _ => ⟨_, rfl, rfl⟩), b1_carried := (⟨⟨_, _, _, _, _, _, _, _, _, _, rfl, l_carried, c_carried, .inr ⟨by decide, t_carried, _, [.none], n2_carried, rfl, t2_carried, rfl, .cons rfl (.nil)⟩, .inl rfl⟩, k_carried⟩ : FunD K "carried" "carried" (defArgs st_carried) (defBody st_carried) (defScope st_carried) [V.non] [] f_carried _).binds1 2 1 (by decide) rfl (fun _ _ _ _ _ _ _ us its e1 e2 => match us, its, e1, e2 with | [_, _], [_], _, _ => ⟨_, rfl, rfl⟩), f_weight := f_weight, d_weight := _, F_weight := fun_mk (st := st_weight) l_weight c_weight k_weight, g_weight := PySem.W.mg_of X G a_weight, b_weight := (fun_mk (st := st_weight) l_weight c_weight k_weight).binds (ps := ["heap"]) (fun _ _ _ _ _ _ us hl => match us, hl with | [_], _ => rfl), f_is_still := f_is_still, d_is_still := _, F_is_still := fun_mk (st := st_is_still) l_is_still c_is_still k_is_still, g_is_still := PySem.W.mg_of X G a_is_still, b_is_still := (fun_mk (st := st_is_still) l_is_still c_is_still k_is_still).binds (ps := ["heap"]) (fun _ _ _ _ _ _ us hl => match us, hl with | [_], _ => rfl), f_is_number := f_is_number, d_is_number := _, F_is_number := fun_mk (st := st_is_number) l_is_number c_is_number k_is_number, g_is_number := PySem.W.mg_of X G a_is_number, b_is_number := (fun_mk (st := st_is_number) l_is_number c_is_number k_is_number).binds (ps := ["thing"]) (fun _ _ _ _ _ _ us hl => match us, hl with | [_], _ => rfl), f_still_heap := f_still_heap, d_still_heap := _, F_still_heap := fun_mk (st := st_still_heap) l_still_heap c_still_heap k_still_heap, g_still_heap := PySem.W.mg_of X G a_still_heap, b_still_heap := (fun_mk (st := st_still_heap) l_still_heap c_still_heap k_still_heap).binds (ps := ["number"]) (fun _ _ _ _ _ _ us hl => match us, hl with | [_], _ => rfl), f_row_of := f_row_of, d_row_of := _, F_row_of := fun_mk (st := st_row_of) l_row_of c_row_of k_row_of, g_row_of := PySem.W.mg_of X G a_row_of, b_row_of := (fun_mk (st := st_row_of) l_row_of c_row_of k_row_of).binds (ps := ["number"]) (fun _ _ _ _ _ _ us hl => match us, hl with | [_], _ => rfl), f_l_cell_at := f_l_cell_at, d_l_cell_at := _, F_l_cell_at := fun_mk (st := st_l_cell_at) l_l_cell_at c_l_cell_at k_l_cell_at, g_l_cell_at := PySem.W.mg_of X G a_l_cell_at, b_l_cell_at := (fun_mk (st := st_l_cell_at) l_l_cell_at c_l_cell_at k_l_cell_at).binds (ps := ["_law_script", "_law_k"]) (fun _ _ _ _ _ _ us hl => match us, hl with | [_, _], _ => rfl), f_l_whole := f_l_whole, d_l_whole := _, F_l_whole := fun_mk (st := st_l_whole) l_l_whole c_l_whole k_l_whole, g_l_whole := PySem.W.mg_of X G a_l_whole, b_l_whole := (fun_mk (st := st_l_whole) l_l_whole c_l_whole k_l_whole).binds (ps := ["_law_found"]) (fun _ _ _ _ _ _ us hl => match us, hl with | [_], _ => rfl), f_l_stream := f_l_stream, d_l_stream := _, F_l_stream := fun_mk (st := st_l_stream) l_l_stream c_l_stream k_l_stream, g_l_stream := PySem.W.mg_of X G a_l_stream, b_l_stream := (fun_mk (st := st_l_stream) l_l_stream c_l_stream k_l_stream).binds (ps := ["_law_cell", "_law_many"]) (fun _ _ _ _ _ _ us hl => match us, hl with | [_, _], _ => rfl), f_l_heap := f_l_heap, d_l_heap := _, F_l_heap := fun_mk (st := st_l_heap) l_l_heap c_l_heap k_l_heap, g_l_heap := PySem.W.mg_of X G a_l_heap, b_l_heap := (fun_mk (st := st_l_heap) l_l_heap c_l_heap k_l_heap).binds (ps := ["_law_script"]) (fun _ _ _ _ _ _ us hl => match us, hl with | [_], _ => rfl), f_l_laid_back := f_l_laid_back, d_l_laid_back := _, F_l_laid_back := fun_mk (st := st_l_laid_back) l_l_laid_back c_l_laid_back k_l_laid_back, g_l_laid_back := PySem.W.mg_of X G a_l_laid_back, b_l_laid_back := (fun_mk (st := st_l_laid_back) l_l_laid_back c_l_laid_back k_l_laid_back).binds (ps := ["_law_heap_here"]) (fun _ _ _ _ _ _ us hl => match us, hl with | [_], _ => rfl), f_l_weight := f_l_weight, d_l_weight := _, F_l_weight := fun_mk (st := st_l_weight) l_l_weight c_l_weight k_l_weight, g_l_weight := PySem.W.mg_of X G a_l_weight, b_l_weight := (fun_mk (st := st_l_weight) l_l_weight c_l_weight k_l_weight).binds (ps := ["_law_heap_here"]) (fun _ _ _ _ _ _ us hl => match us, hl with | [_], _ => rfl), f_l_still := f_l_still, d_l_still := _, F_l_still := fun_mk (st := st_l_still) l_l_still c_l_still k_l_still, g_l_still := PySem.W.mg_of X G a_l_still, b_l_still := (fun_mk (st := st_l_still) l_l_still c_l_still k_l_still).binds (ps := ["_law_found"]) (fun _ _ _ _ _ _ us hl => match us, hl with | [_], _ => rfl), f_l_fewer := f_l_fewer, d_l_fewer := _, F_l_fewer := fun_mk (st := st_l_fewer) l_l_fewer c_l_fewer k_l_fewer, g_l_fewer := PySem.W.mg_of X G a_l_fewer, b_l_fewer := (fun_mk (st := st_l_fewer) l_l_fewer c_l_fewer k_l_fewer).binds (ps := ["_law_log"]) (fun _ _ _ _ _ _ us hl => match us, hl with | [_], _ => rfl), f_l_end := f_l_end, d_l_end := _, F_l_end := fun_mk (st := st_l_end) l_l_end c_l_end k_l_end, g_l_end := PySem.W.mg_of X G a_l_end, b_l_end := (fun_mk (st := st_l_end) l_l_end c_l_end k_l_end).binds (ps := ["_law_heap_here", "_law_picks"]) (fun _ _ _ _ _ _ us hl => match us, hl with | [_, _], _ => rfl), f_law := _, d_law := _, F_law := fun_mk (st := st_law) l_law c_law k_law, g_law := PySem.W.mg_of X G a_law, b_law := (fun_mk (st := st_law) l_law c_law k_law).binds (ps := ["_law_script"]) (fun _ _ _ _ _ _ us hl => match us, hl with | [_], _ => rfl), m_len := PySem.W.mg_none_of X G z_len, m_range := PySem.W.mg_none_of X G z_range, m_list := PySem.W.mg_none_of X G z_list, m_isinstance := PySem.W.mg_none_of X G z_isinstance, m_int := PySem.W.mg_none_of X G z_int, m_bool := PySem.W.mg_none_of X G z_bool, m_reversed := PySem.W.mg_none_of X G z_reversed, m_tuple := PySem.W.mg_none_of X G z_tuple, m_sum := PySem.W.mg_none_of X G z_sum }
  exact ⟨PySem.W.fnOf "law" "law" (defArgs st_law) (defBody st_law) (defScope st_law) .none kV_law dc_law pm_law an_law cd_law ct_law, fun s v => .of_eq rfl, fun base _ _ => ok_law T⟩
end K06
open PySem PySem.W PyProof.Rows
set_option maxHeartbeats 0 in
theorem PySem.Challenge.cw_shellstair_k06_whole_one_end_holds : PySem.Challenge.rw_shellstair_k06_whole_one_end.Holds := by
  w_on; o_law; k_head; (case hw => w_witness2)
  k_fill
  refine L2.walk_of (l := PySem.Challenge.rw_shellstair_k06_whole_one_end) (n := 63) (k := 5) (x := "_law_script") (CX := fun _ => L2.CX0) (sp := fun w => K06.sp_law _) rfl (by decide) rfl ⟨rfl, by decide, by decide⟩ (fun w h Y => PySem.W.kIn_of Y) ?F (fun _ _ a ns hl _ hS => ⟨a, ns, rfl, hS, hl, fun _ => rfl⟩) (fun _ _ _ _ _ h => h)
  case F =>
    intro w mg fa h KX G hmg
    refine' K06.all_mk KX G hmg ?a_StairError ?k_StairError ?x_StairError ?xb_StairError ?xt_StairError ?a_NoMove ?k_NoMove ?x_NoMove ?xb_NoMove ?xt_NoMove ?a_NoNumber ?k_NoNumber ?x_NoNumber ?xb_NoNumber ?xt_NoNumber ?a_fits ?l_fits ?c_fits ?k_fits ?a_moves ?l_moves ?c_moves ?k_moves ?a_bare ?l_bare ?c_bare ?k_bare ?a_done ?l_done ?c_done ?k_done ?a_picked ?l_picked ?c_picked ?k_picked ?a_carried ?l_carried ?c_carried ?k_carried ?t2_carried ?a_weight ?l_weight ?c_weight ?k_weight ?a_is_still ?l_is_still ?c_is_still ?k_is_still ?a_is_number ?l_is_number ?c_is_number ?k_is_number ?a_still_heap ?l_still_heap ?c_still_heap ?k_still_heap ?a_row_of ?l_row_of ?c_row_of ?k_row_of ?a_l_cell_at ?l_l_cell_at ?c_l_cell_at ?k_l_cell_at ?a_l_whole ?l_l_whole ?c_l_whole ?k_l_whole ?a_l_stream ?l_l_stream ?c_l_stream ?k_l_stream ?a_l_heap ?l_l_heap ?c_l_heap ?k_l_heap ?a_l_laid_back ?l_l_laid_back ?c_l_laid_back ?k_l_laid_back ?a_l_weight ?l_l_weight ?c_l_weight ?k_l_weight ?a_l_still ?l_l_still ?c_l_still ?k_l_still ?a_l_fewer ?l_l_fewer ?c_l_fewer ?k_l_fewer ?a_l_end ?l_l_end ?c_l_end ?k_l_end ?a_law ?l_law ?c_law ?k_law ?z_len ?z_range ?z_list ?z_isinstance ?z_int ?z_bool ?z_reversed ?z_tuple ?z_sum
    (case a_StairError => k_is); (case k_StairError => k_is); (case x_StairError => k_exc); (case xb_StairError => k_is); (case xt_StairError => k_is); (case a_NoMove => k_is)
    (case k_NoMove => k_is); (case x_NoMove => k_exc); (case xb_NoMove => k_is); (case xt_NoMove => k_is); (case a_NoNumber => k_is); (case k_NoNumber => k_is)
    (case x_NoNumber => k_exc); (case xb_NoNumber => k_is); (case xt_NoNumber => k_is); (case a_fits => k_is); (case l_fits => k_is); (case c_fits => k_is)
    (case k_fits => k_is); (case a_moves => k_is); (case l_moves => k_is); (case c_moves => k_is); (case k_moves => k_is); (case a_bare => k_is)
    (case l_bare => k_is); (case c_bare => k_is); (case k_bare => k_is); (case a_done => k_is); (case l_done => k_is); (case c_done => k_is)
    (case k_done => k_is); (case a_picked => k_is); (case l_picked => k_is); (case c_picked => k_is); (case k_picked => k_is); (case a_carried => k_is)
    (case l_carried => k_is); (case c_carried => k_is); (case k_carried => k_is); (case t2_carried => k_is); (case a_weight => k_is); (case l_weight => k_is)
    (case c_weight => k_is); (case k_weight => k_is); (case a_is_still => k_is); (case l_is_still => k_is); (case c_is_still => k_is); (case k_is_still => k_is)
    (case a_is_number => k_is); (case l_is_number => k_is); (case c_is_number => k_is); (case k_is_number => k_is); (case a_still_heap => k_is); (case l_still_heap => k_is)
    (case c_still_heap => k_is); (case k_still_heap => k_is); (case a_row_of => k_is); (case l_row_of => k_is); (case c_row_of => k_is); (case k_row_of => k_is)
    (case a_l_cell_at => k_is); (case l_l_cell_at => k_is); (case c_l_cell_at => k_is); (case k_l_cell_at => k_is); (case a_l_whole => k_is); (case l_l_whole => k_is)
    (case c_l_whole => k_is); (case k_l_whole => k_is); (case a_l_stream => k_is); (case l_l_stream => k_is); (case c_l_stream => k_is); (case k_l_stream => k_is)
    (case a_l_heap => k_is); (case l_l_heap => k_is); (case c_l_heap => k_is); (case k_l_heap => k_is); (case a_l_laid_back => k_is); (case l_l_laid_back => k_is)
    (case c_l_laid_back => k_is); (case k_l_laid_back => k_is); (case a_l_weight => k_is); (case l_l_weight => k_is); (case c_l_weight => k_is); (case k_l_weight => k_is)
    (case a_l_still => k_is); (case l_l_still => k_is); (case c_l_still => k_is); (case k_l_still => k_is); (case a_l_fewer => k_is); (case l_l_fewer => k_is)
    (case c_l_fewer => k_is); (case k_l_fewer => k_is); (case a_l_end => k_is); (case l_l_end => k_is); (case c_l_end => k_is); (case k_l_end => k_is)
    (case a_law => k_is); (case l_law => k_is); (case c_law => k_is); (case k_law => k_is); (case z_len => k_is); (case z_range => k_is)
    (case z_list => k_is); (case z_isinstance => k_is); (case z_int => k_is); (case z_bool => k_is); (case z_reversed => k_is); (case z_tuple => k_is)
    (case z_sum => k_is)
