import PyProof.Rows.All
import Wide.All
import OpenK.AllK
import Wide.FinOn
import HandS.ForMost
import HandS.ForExc
import HandS.Steps
import HandS.Evl
import HandS.Wide
import HandS.IsInst
import HandS.Style
import HandS.Deep
import HandS.Rev
import PySem.Challenge.RW_shellstair_k08_woven
set_option Elab.async false
set_option linter.all false
set_option maxRecDepth 100000
set_option maxHeartbeats 1000000
namespace Sh
/-! the worth of a step, and weighted sums over a list of counts -/
def W : Nat → Int
  | 0 => 1
  | 1 => 2
  | n + 2 => W n + W (n + 1)
/-- f-weighted sum of the counts, the first one on step k -/
def S (f : Nat → Int) : Nat → List Int → Int
  | _, [] => 0
  | k, c :: r => c * f k + S f (k + 1) r
abbrev wt (xs : List Int) : Int := S W 0 xs
theorem W_pos : ∀ n, 0 < W n
  | 0 => by decide
  | 1 => by decide
  | n + 2 => by
    have h1 := W_pos n
    have h2 := W_pos (n + 1)
    show 0 < W n + W (n + 1)
    omega
theorem W_lt : ∀ n, W n < W (n + 1)
  | 0 => by decide
  | n + 1 => by
    have h1 := W_pos n
    show W (n + 1) < W n + W (n + 1)
    omega
theorem W_mono {i j : Nat} (h : i ≤ j) : W i ≤ W j := by
  induction j with
  | zero =>
    have : i = 0 := by omega
    subst this
    exact Int.le_refl _
  | succ j ih =>
    by_cases e : i = j + 1
    · subst e
      exact Int.le_refl _
    · have := ih (by omega)
      have := W_lt j
      omega
theorem W_ge : ∀ n : Nat, (n : Int) < W n
  | 0 => by decide
  | n + 1 => by
    have := W_ge n
    have := W_lt n
    omega
theorem W_bits : ∀ n, W n < 2 ^ (n + 1)
  | 0 => by decide
  | 1 => by decide
  | n + 2 => by
    have h1 := W_bits n
    have h2 := W_bits (n + 1)
    have e1 : (2 : Int) ^ (n + 2 + 1) = 4 * 2 ^ (n + 1) := by
      rw [Int.pow_succ, Int.pow_succ]
      omega
    have e2 : (2 : Int) ^ (n + 1 + 1) = 2 * 2 ^ (n + 1) := by rw [Int.pow_succ]; omega
    have h3 : (0 : Int) < 2 ^ (n + 1) := Int.pow_pos (by decide)
    show W n + W (n + 1) < 2 ^ (n + 2 + 1)
    rw [e2] at h2
    rw [e1]
    generalize (2 : Int) ^ (n + 1) = z at *
    omega
theorem W_bitsN (n : Nat) : (W n).natAbs < 2 ^ (n + 1) := by
  have h1 := W_bits n
  have h2 := W_pos n
  have e : ((2 ^ (n + 1) : Nat) : Int) = 2 ^ (n + 1) := by norm_cast
  omega
/-! sums -/
theorem S_nil (f : Nat → Int) (k : Nat) : S f k [] = 0 := rfl
theorem S_cons (f : Nat → Int) (k : Nat) (c : Int) (r : List Int) : S f k (c :: r) = c * f k + S f (k + 1) r := rfl
theorem S_append (f : Nat → Int) : ∀ (xs ys : List Int) (k : Nat), S f k (xs ++ ys) = S f k xs + S f (k + xs.length) ys
  | [], ys, k => by simp [S]
  | c :: r, ys, k => by
    have ih := S_append f r ys (k + 1)
    show c * f k + S f (k + 1) (r ++ ys) = c * f k + S f (k + 1) r + S f (k + (r.length + 1)) ys
    rw [ih, show k + 1 + r.length = k + (r.length + 1) by omega]
    omega
theorem S_one (f : Nat → Int) (k : Nat) (c : Int) : S f k [c] = c * f k := by simp [S]
theorem take_more {α : Type} {l : List α} {i : Nat} {x : α} (h : l[i]? = some x) : l.take (i + 1) = l.take i ++ [x] := by
  rw [List.take_succ, h]
  rfl
theorem S_take {f : Nat → Int} {xs : List Int} {i : Nat} {c : Int} (h : xs[i]? = some c) (k : Nat) : S f k (xs.take (i + 1)) = S f k (xs.take i) + c * f (k + i) := by
  have hl : i < xs.length := (List.getElem?_eq_some_iff.mp h).1
  rw [take_more h, S_append, S_one, List.length_take, Nat.min_eq_left (Nat.le_of_lt hl)]
theorem S_zeros (f : Nat → Int) : ∀ (n k : Nat), S f k (List.replicate n 0) = 0
  | 0, k => rfl
  | n + 1, k => by
    show 0 * f k + S f (k + 1) (List.replicate n 0) = 0
    rw [S_zeros f n, Int.zero_mul, Int.add_zero]
theorem S_nonneg {f : Nat → Int} (hf : ∀ k, 0 ≤ f k) : ∀ (xs : List Int) (k : Nat), (∀ x ∈ xs, 0 ≤ x) → 0 ≤ S f k xs
  | [], _, _ => Int.le_refl _
  | c :: r, k, h => by
    have h1 := S_nonneg hf r (k + 1) fun x hx => h x (List.mem_cons_of_mem _ hx)
    have h2 := Int.mul_nonneg (h c List.mem_cons_self) (hf k)
    show 0 ≤ c * f k + S f (k + 1) r
    omega
/-! 10 ** 60 -/
def T60 : Int := 10 ^ 60
theorem T60_eq : (10 : Int) ^ (60 : Int).toNat = T60 := by decide +kernel
theorem T60_pos : 0 < T60 := by decide +kernel
theorem T60_pos1 : 0 < T60 + 1 := by decide +kernel
theorem T60_bits : T60.natAbs < 2 ^ 200 := by decide +kernel
/-- a list that is no longer, no greater than a machine could not bear -/
structure Sm (ns : List Int) : Prop where
  len : ns.length ≤ 100000
  mag : ∀ x ∈ ns, x.natAbs < 2 ^ 1000
theorem small60 {x : Int} (h0 : 0 ≤ x) (h : x ≤ T60) : x.natAbs < 2 ^ 1000 := by
  have h1 := T60_bits
  have h2 : (2 : Nat) ^ 200 ≤ 2 ^ 1000 := by decide +kernel
  omega
/-! noughts at the end left out -/
def bare (xs : List Int) : List Int := (xs.reverse.dropWhile (· == 0)).reverse
theorem bare_zero (xs : List Int) : bare (xs ++ [0]) = bare xs := by
  unfold bare
  rw [List.reverse_append]
  rfl
theorem bare_snoc (xs : List Int) {c : Int} (h : c ≠ 0) : bare (xs ++ [c]) = xs ++ [c] := by
  unfold bare
  rw [List.reverse_append]
  show (List.dropWhile (· == 0) (c :: xs.reverse)).reverse = _
  rw [List.dropWhile_cons, if_neg (by simpa using h), List.reverse_cons, List.reverse_reverse]
theorem bare_nil : bare [] = [] := rfl
theorem snoc_of {α : Type} {xs : List α} (h : xs ≠ []) : ∃ ys c, xs = ys ++ [c] := ⟨xs.dropLast, xs.getLast h, (List.dropLast_concat_getLast h).symm⟩
/-- a list is its bare one and noughts -/
theorem bare_rest : ∀ (n : Nat) (xs : List Int), xs.length = n → ∃ k, xs = bare xs ++ List.replicate k 0
  | 0, xs, h => ⟨0, by rw [List.eq_nil_of_length_eq_zero h]; rfl⟩
  | n + 1, xs, h => by
    obtain ⟨ys, c, rfl⟩ := snoc_of (xs := xs) (by intro e; rw [e] at h; cases h)
    rw [List.length_append, List.length_singleton] at h
    by_cases hc : c = 0
    · subst hc
      obtain ⟨k, e⟩ := bare_rest n ys (by omega)
      refine ⟨k + 1, ?_⟩
      rw [bare_zero, List.replicate_succ', ← List.append_assoc, ← e]
    · refine ⟨0, ?_⟩
      rw [bare_snoc ys hc]
      simp
theorem bare_S (f : Nat → Int) (k : Nat) (xs : List Int) : S f k (bare xs) = S f k xs := by
  obtain ⟨n, e⟩ := bare_rest _ xs rfl
  have h := congrArg (S f k) e
  rw [S_append, S_zeros, Int.add_zero] at h
  exact h.symm
theorem bare_mem {xs : List Int} {x : Int} (h : x ∈ bare xs) : x ∈ xs := by
  obtain ⟨n, e⟩ := bare_rest _ xs rfl
  rw [e]
  exact List.mem_append_left _ h
theorem bare_len (xs : List Int) : (bare xs).length ≤ xs.length := by
  obtain ⟨n, e⟩ := bare_rest _ xs rfl
  have h := congrArg List.length e
  rw [List.length_append] at h
  omega
theorem bare_idem (xs : List Int) : bare (bare xs) = bare xs := by
  by_cases h : bare xs = []
  · rw [h]
    rfl
  · obtain ⟨ys, c, e⟩ := snoc_of h
    rw [e]
    refine bare_snoc ys ?_
    intro hc
    unfold bare at e
    have h2 := congrArg List.reverse e
    rw [List.reverse_reverse, List.reverse_append, List.reverse_singleton, List.singleton_append] at h2
    have h3 := List.head?_dropWhile_not (· == 0) xs.reverse
    rw [h2] at h3
    simp [hc] at h3
theorem getD_last (ys : List Int) (c : Int) : (ys ++ [c]).getD ((ys ++ [c]).length - 1) 0 = c := by
  rw [List.getD_eq_getElem?_getD, List.length_append, List.length_singleton, Nat.add_sub_cancel, List.getElem?_append_right (Nat.le_refl _), Nat.sub_self]
  rfl
theorem Sm.bare {xs : List Int} (h : Sm xs) : Sm (bare xs) := ⟨Nat.le_trans (bare_len xs) h.len, fun x hx => h.mag x (bare_mem hx)⟩
/-! still heaps: no step with two, no two neighbours (b: what lies beneath) -/
def stillB : Int → List Int → Bool
  | _, [] => true
  | b, m :: r => !(decide (1 < m) || (decide (0 < m) && decide (0 < b))) && stillB m r
theorem stillB_append : ∀ (xs ys : List Int) (b : Int), stillB b (xs ++ ys) = (stillB b xs && stillB (xs.getLastD b) ys)
  | [], ys, b => by simp [stillB]
  | m :: r, ys, b => by
    show (!(decide (1 < m) || (decide (0 < m) && decide (0 < b))) && stillB m (r ++ ys)) = (!(decide (1 < m) || (decide (0 < m) && decide (0 < b))) && stillB m r && stillB ((m :: r).getLastD b) ys)
    rw [stillB_append r ys m, Bool.and_assoc, List.getLastD_cons]
/-- what lies beneath step i -/
def prev (ns : List Int) (i : Nat) : Int := (ns.take i).getLastD 0
theorem prev_zero (ns : List Int) : prev ns 0 = 0 := by simp [prev]
theorem prev_succ {ns : List Int} {i : Nat} {m : Int} (h : ns[i]? = some m) : prev ns (i + 1) = m := by
  unfold prev
  rw [take_more h]
  simp
theorem stillB_take {ns : List Int} {i : Nat} {m : Int} (h : ns[i]? = some m) : stillB 0 (ns.take (i + 1)) = (stillB 0 (ns.take i) && !(decide (1 < m) || (decide (0 < m) && decide (0 < prev ns i)))) := by
  rw [take_more h, stillB_append]
  show (stillB 0 (ns.take i) && (!(decide (1 < m) || (decide (0 < m) && decide (0 < prev ns i))) && true)) = _
  rw [Bool.and_true]
theorem stillB_stop {ns : List Int} (i : Nat) (h : stillB 0 (ns.take i) = false) : stillB 0 ns = false := by
  have e : ns = ns.take i ++ ns.drop i := (List.take_append_drop i ns).symm
  rw [e, stillB_append, h, Bool.false_and]
theorem getD_of {ns : List Int} {i : Nat} {m : Int} (h : ns[i]? = some m) : ns.getD i 0 = m := by
  rw [List.getD_eq_getElem?_getD, h]
  rfl
theorem get_of {ns : List Int} {i : Nat} (h : i < ns.length) : ns[i]? = some (ns.getD i 0) := by
  rw [List.getD_eq_getElem?_getD, List.getElem?_eq_getElem h]
  rfl
end Sh

/-! Own words over the hand layer: what is evaluated without a change of the tracked heap (Val, Ans), loops with a word that stands over the entry's heap. -/
namespace Sh
open PySem PySem.Spec PyProof.Rows L2
section
variable {σ : L2.St} {H H0 H1 : Hp} {K : PySem.W.Frag} {ta tb tc te tl : TE} {tr : TA} {t u : TT} {x y z v : V} {vs : List V} {D : Ends} {ts tz tu : TS}
def Arg (ta : TA) (σ : L2.St) (H : Hp) (vs : List V) : Prop := ∀ Q : List V → Hp → Prop, Q vs H → ta σ H Q
theorem xg_nil : Arg tNil σ H [] := fun _ q => q
theorem xg_cons (h : Val te σ H v) (hr : Arg tr σ H vs) : Arg (tCons te tr) σ H (v :: vs) := fun _ q => h _ (hr _ q)
theorem xv_go {Q : VK} (h : Val te σ H v) (q : Q v H) : te σ H Q := h Q q
theorem xg_go {ta : TA} {Q : List V → Hp → Prop} (h : Arg ta σ H vs) (q : Q vs H) : ta σ H Q := h Q q
theorem xv_c {w : V} (e : v = w) : Val (tC v) σ H w := fun _ q => by
  subst e
  exact q
theorem xv_I0 {g : Int → Int → V} {i j : Int} (ha : Val ta σ H (.int i)) (hb : Val tb σ H (.int j)) : Val (tOp (rI0 g) ta tb) σ H (g i j) := val_op ha hb fun Q q => ⟨i, j, rfl, rfl, q⟩
theorem xv_I {C : Int → Int → Prop} {g : Int → Int → V} {i j : Int} (ha : Val ta σ H (.int i)) (hb : Val tb σ H (.int j)) (hc : C i j) : Val (tOp (rI C g) ta tb) σ H (g i j) := val_op ha hb fun Q q => ⟨i, j, rfl, rfl, hc, q⟩
theorem xv_U {g : Int → V} {i : Int} (ha : Val ta σ H (.int i)) : Val (tUn (rU g) ta) σ H (g i) := fun Q q => ha _ ⟨i, rfl, q⟩
theorem xv_eq (ha : Val ta σ H x) (hb : Val tb σ H y) (hs : scal x y = true) : Val (tOp rEq ta tb) σ H (.bl (decide (x = y))) := val_op ha hb fun Q q => ⟨hs, q⟩
theorem xv_ne (ha : Val ta σ H x) (hb : Val tb σ H y) (hs : scal x y = true) : Val (tOp rNe ta tb) σ H (.bl (!decide (x = y))) := val_op ha hb fun Q q => ⟨hs, q⟩
theorem xv_to {w : V} (h : Val te σ H v) (e : v = w) : Val te σ H w := e ▸ h
/-- len of a list -/
abbrev rLenQ (K : PySem.W.Frag) : List V → Hp → VK → Prop := fun xs H Q => ∃ p ys, xs = [.ref p] ∧ (SqL K H p ys ∨ SqT K H p ys) ∧ Q (.int ys.length) H
theorem xv_len {p : Addr} {xs : List V} (ha : Val ta σ H (.ref p)) (h : SqL K H p xs) : Val (tCB (rLenQ K) (tCons ta tNil)) σ H (.int (xs.length : Int)) := fun Q q => ha _ ⟨p, xs, rfl, .inl h, q⟩
theorem xv_lenI {p : Addr} {ns : List Int} (ha : Val ta σ H (.ref p)) (h : SqL K H p (ns.map V.int)) : Val (tCB (rLenQ K) (tCons ta tNil)) σ H (.int (ns.length : Int)) := fun Q q => ha _ ⟨p, _, rfl, .inl h, by rw [List.length_map]; exact q⟩
theorem xv_cb {r : List V → Hp → VK → Prop} {ta : TA} (h : Arg ta σ H vs) (hr : ∀ Q : VK, Q v H → r vs H Q) : Val (tCB r ta) σ H v := fun Q q => h _ (hr Q q)
/-- an int of a list at a place -/
theorem atI_int {ns : List Int} {i : Int} (h0 : 0 ≤ i) (h1 : i < ns.length) : atI (ns.map V.int) i = some (.int (ns.getD i.toNat 0)) := by
  obtain ⟨n, rfl⟩ := Int.eq_ofNat_of_zero_le h0
  have hn : n < ns.length := by omega
  refine atI_nat ?_
  rw [List.getElem?_map, List.getD_eq_getElem?_getD]
  show Option.map V.int ns[n]? = some (V.int (ns[n]?.getD 0))
  rw [List.getElem?_eq_getElem hn]
  rfl
theorem xv_ix {p : Addr} {ns : List Int} {i : Int} (ha : Val ta σ H (.ref p)) (hb : Val tb σ H (.int i)) (h : SqL K H p (ns.map V.int)) (h0 : 0 ≤ i) (h1 : i < ns.length) : Val (tOp (rIxL K) ta tb) σ H (.int (ns.getD i.toNat 0)) :=
  val_op ha hb fun Q q => ⟨p, _, i, _, rfl, rfl, h, atI_int h0 h1, q⟩
theorem xv_ixV {p : Addr} {xs : List V} {i : Int} (ha : Val ta σ H (.ref p)) (hb : Val tb σ H (.int i)) (h : SqL K H p xs) (hv : atI xs i = some v) : Val (tOp (rIxL K) ta tb) σ H v :=
  val_op ha hb fun Q q => ⟨p, _, i, _, rfl, rfl, h, hv, q⟩
theorem xv_ixT {p : Addr} {xs : List V} {i : Int} (ha : Val ta σ H (.ref p)) (hb : Val tb σ H (.int i)) (h : SqT K H p xs) (hv : atI xs i = some v) : Val (tOp (rIxT K) ta tb) σ H v :=
  val_op ha hb fun Q q => ⟨p, _, i, _, rfl, rfl, h, hv, q⟩
/-- a def whose promise gives a value and leaves the heap -/
theorem xv_call {sp : Sp} {E : XK} (h : Arg tr σ H vs) (hs : ∀ Q : VK, Q v H → sp (vs ++ []) H Q E) : Val (tCall sp [] E tr) σ H v := fun Q q => h _ (hs Q q)
theorem xv_and {a b : Bool} (h1 : Val ta σ H (.bl a)) (h2 : a = true → Val tb σ H (.bl b)) : Val (tAndV ta tb) σ H (.bl (a && b)) := fun Q q => h1 _ ⟨a, rfl, by
  cases a with
  | true => exact h2 rfl _ q
  | false => exact q⟩
theorem xv_or {a b : Bool} (h1 : Val ta σ H (.bl a)) (h2 : a = false → Val tb σ H (.bl b)) : Val (tOrV ta tb) σ H (.bl (a || b)) := fun Q q => h1 _ ⟨a, rfl, by
  cases a with
  | true => exact q
  | false => exact h2 rfl _ q⟩
theorem xv_not {a : Bool} (h1 : Val ta σ H (.bl a)) : Val (tNotV ta) σ H (.bl (!a)) := fun Q q => h1 _ ⟨a, rfl, q⟩
theorem xv_p60 : Val (tOp (rI CPow fun i j => .int (i ^ j.toNat)) (tC (.int 10)) (tC (.int 60))) σ H (.int T60) := fun Q q => ⟨10, 60, rfl, rfl, ⟨by decide, by decide, by decide⟩, by
  show Q (.int ((10 : Int) ^ (60 : Int).toNat)) H
  rw [T60_eq]
  exact q⟩
/-! tests -/
theorem xa_T {b : Bool} (h : Val te σ H (.bl b)) : Ans (tTest te) σ H b := fun Q q => h _ ⟨b, rfl, q⟩
theorem xa_B {b : Bool} (h : Val te σ H (.bl b)) : Ans (tB te) σ H b := fun Q q => h _ ⟨b, rfl, q⟩
theorem xa_not {a : Bool} (h : Ans t σ H a) : Ans (tNot t) σ H (!a) := fun Q q => h _ q
theorem xa_and {a b : Bool} (h1 : Ans t σ H a) (h2 : a = true → Ans u σ H b) : Ans (tAnd t u) σ H (a && b) := fun Q q => h1 _ (by
  cases a with
  | true => exact h2 rfl _ q
  | false => exact q)
theorem xa_or {a b : Bool} (h1 : Ans t σ H a) (h2 : a = false → Ans u σ H b) : Ans (tOr t u) σ H (a || b) := fun Q q => h1 _ (by
  cases a with
  | true => exact q
  | false => exact h2 rfl _ q)
/-! statements -/
theorem xs_par {i j : Nat} {w : V} {ta : TA} (h : Arg ta σ H [v, w]) (q : D.nx ((σ.set i (some v)).set j (some w)) H) : tPar i j ta D σ H := h _ ⟨v, w, rfl, q⟩
theorem xs_if {b : Bool} (h : Ans t σ H b) (h1 : b = true → ts D σ H) (h2 : b = false → tu D σ H) : tIfS t ts tu D σ H := h _ (by
  cases b with
  | true => exact h1 rfl
  | false => exact h2 rfl)
/-- an if without else, something behind it -/
theorem xs_when {b : Bool} (h : Ans t σ H b) (h1 : b = true → ts { D with nx := tz D } σ H) (h2 : b = false → tz D σ H) : tSeq (tIfS t ts tNext) tz D σ H := xs_if (D := { D with nx := tz D }) h h1 h2
/-- if c: x = e, told by what holds of x behind it -/
theorem xs_ifSet {Pv : V → Prop} {b : Bool} {i : Nat} {v0 : V} (h : Ans t σ H b) (hv : b = true → Val te σ H v) (p1 : b = true → Pv v) (p0 : b = false → Pv v0) (hs : σ.set i (some v0) = σ) (k : ∀ v, Pv v → tz D (σ.set i (some v)) H) :
    tSeq (tIfS t (tAsg te (gName i)) tNext) tz D σ H := xs_when h (fun hb => st_set (D := { D with nx := tz D }) (hv hb) (k v (p1 hb))) fun hb => by
  have q := k v0 (p0 hb)
  rw [hs] at q
  exact q
theorem xs_cut {Mid : L2.St → Hp → Prop} (h : ts { D with nx := Mid } σ H) (k : ∀ σ' H', Mid σ' H' → tz D σ' H') : Evl.tCut ts tz D σ H := ⟨Mid, h, k⟩
theorem xs_seq {D : Ends} (h : ts { D with nx := tz D } σ H) : tSeq ts tz D σ H := h
/-- a for over a list of ints, which stands at H0: what was tracked at H0 stays -/
theorem xs_forI {a : Addr} {ns : List Int} {j : Nat} (hv : Val tl σ H (.ref a)) (e0 : Same H0 H) (hx : SqL K H0 a (ns.map V.int)) (P : Nat → L2.St → Hp → Prop) (h0 : P 0 σ H)
    (hs : ∀ i n σ' H', Same H0 H' → ns[i]? = some n → P i σ' H' → ts { D with nx := fun s h => Same H0 h ∧ P (i + 1) s h, ct := fun s h => Same H0 h ∧ P (i + 1) s h, bk := D.nx } (σ'.set j (some (.int n))) H')
    (hd : ∀ σ' H', Same H0 H' → P ns.length σ' H' → D.nx σ' H') : tFor (iList K tl) (gName j) ts D σ H :=
  hv _ ⟨a, rfl, ⟨_, e0.seq hx⟩, for_list (xs := ns.map V.int) (fun i s h => Same H0 h ∧ P i s h) ⟨e0, h0⟩ (fun _ _ _ _ p => p.1.seq hx)
    (fun i x σ' H' hi p => by
      rw [List.getElem?_map] at hi
      cases e : ns[i]? with
      | none =>
        rw [e] at hi
        cases hi
      | some n =>
        rw [e] at hi
        cases hi
        exact hs i n σ' H' p.1 e p.2)
    (fun σ' H' p => by
      rw [List.length_map] at p
      exact hd σ' H' p.1 p.2)⟩
theorem xs_forV {a : Addr} {xs : List V} {g : TG} (hv : Val tl σ H (.ref a)) (e0 : Same H0 H) (hx : SqL K H0 a xs) (P : Nat → L2.St → Hp → Prop) (h0 : P 0 σ H)
    (hs : ∀ i x σ' H', Same H0 H' → xs[i]? = some x → P i σ' H' → g x σ' H' fun σ2 H2 => ts { D with nx := fun s h => Same H0 h ∧ P (i + 1) s h, ct := fun s h => Same H0 h ∧ P (i + 1) s h, bk := D.nx } σ2 H2)
    (hd : ∀ σ' H', Same H0 H' → P xs.length σ' H' → D.nx σ' H') : tFor (iList K tl) g ts D σ H :=
  hv _ ⟨a, rfl, ⟨_, e0.seq hx⟩, for_list (xs := xs) (fun i s h => Same H0 h ∧ P i s h) ⟨e0, h0⟩ (fun _ _ _ _ p => p.1.seq hx)
    (fun i x σ' H' hi p => hs i x σ' H' p.1 hi p.2) (fun σ' H' p => hd σ' H' p.1 p.2)⟩
/-- a for over range(n) -/
theorem xs_forR {ta : TA} {j : Nat} {n : Nat} (h : Arg ta σ H [.int (n : Int)]) (hn : n < 2 ^ 62) (P : Nat → L2.St → Hp → Prop) (h0 : P 0 σ H)
    (hs : ∀ (i : Nat) σ' H', i < n → P i σ' H' → ts { D with nx := P (i + 1), ct := P (i + 1), bk := D.nx } (σ'.set j (some (.int (i : Int)))) H')
    (hd : ∀ σ' H', P n σ' H' → D.nx σ' H') : tFor (iRng1 ta) (gName j) ts D σ H :=
  h _ ⟨(n : Int), rfl, by omega, by omega, for_range (lo := 0) (n := n) P h0 (fun i σ' H' hi p => by
    show ts { D with nx := P (i + 1), ct := P (i + 1), bk := D.nx } (σ'.set j (some (.int ((0 : Int) + (i : Int))))) H'
    rw [Int.zero_add]
    exact hs i σ' H' hi p) hd⟩
/-- a while whose test leaves the heap: a word and a measure -/
theorem xs_while (P : Nat → L2.St → Hp → Prop) (m0 : Nat) (h0 : P m0 σ H)
    (hs : ∀ m σ' H', P m σ' H' → ∃ b, Ans t σ' H' b ∧ (b = true → ts { D with nx := fun s h => ∃ m', m' < m ∧ P m' s h, ct := fun s h => ∃ m', m' < m ∧ P m' s h, bk := D.nx } σ' H') ∧ (b = false → D.nx σ' H')) : tWhile t ts D σ H :=
  ⟨P, ⟨m0, h0⟩, fun m σ' H' p => by
    obtain ⟨b, hb, h1, h2⟩ := hs m σ' H' p
    refine hb _ ?_
    cases b with
    | true => exact ⟨fun s h => ∃ m', m' < m ∧ P m' s h, fun _ _ z => z, h1 rfl⟩
    | false => exact h2 rfl⟩
/-! the same, something behind -/
theorem xq_set {i : Nat} (h : Val te σ H v) (q : tz D (σ.set i (some v)) H) : tSeq (tAsg te (gName i)) tz D σ H := st_set (D := { D with nx := tz D }) h q
/-- read by hand, step by step -/
theorem xr_ret (h : te σ H fun v H1 => D.rt v H1) : tRet te D σ H := h
theorem xr_and {Q : VK} (h : ta σ H fun x H1 => ∃ c, x = .bl c ∧ if c = true then tb σ H1 Q else Q (.bl false) H1) : tAndV ta tb σ H Q := h
theorem xr_call {sp : Sp} {E : XK} {Q : VK} (h : tr σ H fun vs H1 => sp (vs ++ []) H1 Q E) : tCall sp [] E tr σ H Q := h
theorem xr_cons {Q : List V → Hp → Prop} (h : te σ H fun x H1 => tr σ H1 fun xs H2 => Q (x :: xs) H2) : tCons te tr σ H Q := h
/-- x = e, e read by hand -/
theorem xq_run {i : Nat} (h : te σ H fun v H1 => tz D (σ.set i (some v)) H1) : tSeq (tAsg te (gName i)) tz D σ H := h
theorem xq_par {i j : Nat} {w : V} {ta : TA} (h : Arg ta σ H [v, w]) (q : tz D ((σ.set i (some v)).set j (some w)) H) : tSeq (tPar i j ta) tz D σ H := xs_par (D := { D with nx := tz D }) h q
theorem xq_if {b : Bool} (h : Ans t σ H b) (h1 : b = true → ts { D with nx := tz D } σ H) (h2 : b = false → tu { D with nx := tz D } σ H) : tSeq (tIfS t ts tu) tz D σ H := xs_if (D := { D with nx := tz D }) h h1 h2
theorem xq_forI {a : Addr} {ns : List Int} {j : Nat} (hv : Val tl σ H (.ref a)) (e0 : Same H0 H) (hx : SqL K H0 a (ns.map V.int)) (P : Nat → L2.St → Hp → Prop) (h0 : P 0 σ H)
    (hs : ∀ i n σ' H', Same H0 H' → ns[i]? = some n → P i σ' H' → ts { D with nx := fun s h => Same H0 h ∧ P (i + 1) s h, ct := fun s h => Same H0 h ∧ P (i + 1) s h, bk := tz D } (σ'.set j (some (.int n))) H')
    (hd : ∀ σ' H', Same H0 H' → P ns.length σ' H' → tz D σ' H') : tSeq (tFor (iList K tl) (gName j) ts) tz D σ H := xs_forI (D := { D with nx := tz D }) hv e0 hx P h0 hs hd
theorem xq_forV {a : Addr} {xs : List V} {g : TG} (hv : Val tl σ H (.ref a)) (e0 : Same H0 H) (hx : SqL K H0 a xs) (P : Nat → L2.St → Hp → Prop) (h0 : P 0 σ H)
    (hs : ∀ i x σ' H', Same H0 H' → xs[i]? = some x → P i σ' H' → g x σ' H' fun σ2 H2 => ts { D with nx := fun s h => Same H0 h ∧ P (i + 1) s h, ct := fun s h => Same H0 h ∧ P (i + 1) s h, bk := tz D } σ2 H2)
    (hd : ∀ σ' H', Same H0 H' → P xs.length σ' H' → tz D σ' H') : tSeq (tFor (iList K tl) g ts) tz D σ H := xs_forV (D := { D with nx := tz D }) hv e0 hx P h0 hs hd
theorem xq_forR {ta : TA} {j : Nat} {n : Nat} (h : Arg ta σ H [.int (n : Int)]) (hn : n < 2 ^ 62) (P : Nat → L2.St → Hp → Prop) (h0 : P 0 σ H)
    (hs : ∀ (i : Nat) σ' H', i < n → P i σ' H' → ts { D with nx := P (i + 1), ct := P (i + 1), bk := tz D } (σ'.set j (some (.int (i : Int)))) H')
    (hd : ∀ σ' H', P n σ' H' → tz D σ' H') : tSeq (tFor (iRng1 ta) (gName j) ts) tz D σ H := xs_forR (D := { D with nx := tz D }) h hn P h0 hs hd
theorem xq_while (P : Nat → L2.St → Hp → Prop) (m0 : Nat) (h0 : P m0 σ H)
    (hs : ∀ m σ' H', P m σ' H' → ∃ b, Ans t σ' H' b ∧ (b = true → ts { D with nx := fun s h => ∃ m', m' < m ∧ P m' s h, ct := fun s h => ∃ m', m' < m ∧ P m' s h, bk := tz D } σ' H') ∧ (b = false → tz D σ' H')) : tSeq (tWhile t ts) tz D σ H := xs_while (D := { D with nx := tz D }) P m0 h0 hs
end
/-! ### isinstance -/
section
variable {σ : L2.St} {H : Hp} {K : PySem.W.Frag} {ta : TE}
theorem tyx_L {a : Addr} {xs : List V} (h : SqL K H a xs) : TyX K H (.ref a) (.type "list") := by
  rcases h with (h | ⟨o, h⟩) | ⟨o, its, n, h, hc, _⟩
  · exact .base (.lst h)
  · exact .base (.frz h)
  · exact .kList h hc
theorem xv_isi {x : V} {T a : String} {b : Bool} (ha : Val ta σ H x) (ht : TyX K H x (.type a)) (hk : kitB a T = some b) : Val (tCB (rIsi K) (tCons ta (tCons (tC (.ty T)) tNil))) σ H (.bl b) :=
  fun Q q => ha _ ⟨x, .ty T, .type a, .type T, b, rfl, .ty T, ht, kit_ty hk, q⟩
end
/-! ### what makes new lists (over Evl) -/
section
open Evl
variable {σ : L2.St} {H H' H0 : Hp} {K : PySem.W.Frag} {ta tb tc te tl : TE} {tr : TA} {t u : TT} {x y z v : V} {xs ys vs : List V} {D : Ends} {ts tz tu : TS}
theorem xe_I0 {g : Int → Int → V} {i j : Int} (ha : Ev ta σ H (.int i)) (hb : Ev tb σ H (.int j)) : Ev (tOp (rI0 g) ta tb) σ H (g i j) := ev_op ha hb rv_I0
theorem xe_I {C : Int → Int → Prop} {g : Int → Int → V} {i j : Int} (ha : Ev ta σ H (.int i)) (hb : Ev tb σ H (.int j)) (hc : C i j) : Ev (tOp (rI C g) ta tb) σ H (g i j) := ev_op ha hb (rv_I hc)
theorem xe_p60 : Ev (tOp (rI CPow fun i j => .int (i ^ j.toNat)) (tC (.int 10)) (tC (.int 60))) σ H (.int T60) := fun H1 e Q q => xv_p60 _ (q H1 (Ex.refl H1))
theorem xe_len {p : Addr} (ha : Ev ta σ H (.ref p)) (h : SqL K H p xs) : Ev (tCB (rLenQ K) (tCons ta tNil)) σ H (.int (xs.length : Int)) := fun H1 e Q q => ha H1 e _ fun H2 e2 => ⟨p, xs, rfl, .inl (ex_l (e.trans e2) h), q H2 e2⟩
theorem xe_ix {p : Addr} {ns : List Int} {i : Int} (ha : Ev ta σ H (.ref p)) (hb : Ev tb σ H (.int i)) (h : SqL K H p (ns.map V.int)) (h0 : 0 ≤ i) (h1 : i < ns.length) : Ev (tOp (rIxL K) ta tb) σ H (.int (ns.getD i.toNat 0)) := ev_op ha hb (rv_ixL h (atI_int h0 h1))
theorem xl_rep {k : Int} (ha : EvL ta σ H xs) (hb : Ev tb σ H (.int k)) (hk : -(2 ^ 63) ≤ k ∧ k < 2 ^ 63) (hz : xs.length * k.toNat ≤ 100000) : EvL (tOp rRep ta tb) σ H (List.replicate k.toNat xs).flatten := fun H1 e Q q =>
  ha H1 e _ fun p H2 hp e2 h2 => hb H2 (e.trans e2) _ fun H3 e3 => ⟨p, k, xs, rfl, rfl, e3 p _ h2, hk.1, hk.2, sz_of hz, fun p3 h3 => q p3 _ (fresh_back (e2.trans e3) h3) ((e2.trans e3).trans (Ex.new h3)) upd_same⟩
theorem xl_cat {l : Addr} (ha : Ev ta σ H (.ref l)) (hl : H l = some (.lst xs)) (hb : EvL tb σ H ys) (hz : xs.length + ys.length ≤ 100000) : EvL (tOp rCat ta tb) σ H (xs ++ ys) := fun H1 e Q q =>
  ha H1 e _ fun H2 e2 => hb H2 (e.trans e2) _ fun p H3 hp e3 h3 => ⟨l, p, xs, ys, rfl, rfl, ((e.trans e2).trans e3) l _ hl, h3, sz_of hz, fun p4 h4 => q p4 _ (fresh_back (e2.trans e3) h4) ((e2.trans e3).trans (Ex.new h4)) upd_same⟩
theorem xl_catR {l : Addr} (ha : EvL ta σ H xs) (hb : Ev tb σ H (.ref l)) (hl : H l = some (.lst ys)) (hz : xs.length + ys.length ≤ 100000) : EvL (tOp rCat ta tb) σ H (xs ++ ys) := fun H1 e Q q =>
  ha H1 e _ fun p H2 hp e2 h2 => hb H2 (e.trans e2) _ fun H3 e3 => ⟨p, l, xs, ys, rfl, rfl, e3 p _ h2, ((e.trans e2).trans e3) l _ hl, sz_of hz, fun p4 h4 => q p4 _ (fresh_back (e2.trans e3) h4) ((e2.trans e3).trans (Ex.new h4)) upd_same⟩
theorem xl_catN (ha : EvL ta σ H xs) (hb : EvL tb σ H ys) (hz : xs.length + ys.length ≤ 100000) : EvL (tOp rCat ta tb) σ H (xs ++ ys) := fun H1 e Q q =>
  ha H1 e _ fun p H2 hp e2 h2 => hb H2 (e.trans e2) _ fun p3 H3 hp3 e3 h3 => ⟨p, p3, xs, ys, rfl, rfl, e3 p _ h2, h3, sz_of hz, fun p4 h4 => q p4 _ (fresh_back (e2.trans e3) h4) ((e2.trans e3).trans (Ex.new h4)) upd_same⟩
theorem xl_catV {l m : Addr} (ha : Ev ta σ H (.ref l)) (hl : H l = some (.lst xs)) (hb : Ev tb σ H (.ref m)) (hm : H m = some (.lst ys)) (hz : xs.length + ys.length ≤ 100000) : EvL (tOp rCat ta tb) σ H (xs ++ ys) := fun H1 e Q q =>
  ha H1 e _ fun H2 e2 => hb H2 (e.trans e2) _ fun H3 e3 => ⟨l, m, xs, ys, rfl, rfl, ((e.trans e2).trans e3) l _ hl, ((e.trans e2).trans e3) m _ hm, sz_of hz, fun p4 h4 => q p4 _ (fresh_back (e2.trans e3) h4) ((e2.trans e3).trans (Ex.new h4)) upd_same⟩
/-- list(xs) -/
abbrev rListQ (K : PySem.W.Frag) : List V → Hp → VK → Prop := fun xs H Q => ∃ p ys, xs = [.ref p] ∧ (SqL K H p ys ∨ SqT K H p ys) ∧ ∀ l, H l = none → Q (.ref l) (upd H l (.lst ys))
theorem xl_listQ {p : Addr} (ha : Ev ta σ H (.ref p)) (h : SqL K H p xs) : EvL (tCB (rListQ K) (tCons ta tNil)) σ H xs := fun H1 e Q q =>
  ha H1 e _ fun H2 e2 => ⟨p, xs, rfl, .inl (ex_l (e.trans e2) h), fun l hl => q l _ (fresh_back e2 hl) (e2.trans (Ex.new hl)) upd_same⟩
theorem xl_revL {p : Addr} (ha : Ev ta σ H (.ref p)) (h : SqL K H p xs) : EvL (tRevL K ta) σ H xs.reverse := fun H1 e Q q =>
  ha H1 e _ fun H2 e2 => ⟨p, xs, rfl, ex_l (e.trans e2) h, fun l hl => q l _ (fresh_back e2 hl) (e2.trans (Ex.new hl)) upd_same⟩
/-- [0] * n, of ints -/
theorem flat_rep (k : Nat) (c : Int) : (List.replicate k [V.int c]).flatten = (List.replicate k c).map V.int := by
  induction k with
  | zero => rfl
  | succ k ih => rw [List.replicate_succ, List.flatten_cons, ih] <;> rfl
theorem cut_all (xs : List V) (a b : Nat) : cutV xs (some (a : Int)) (some (b : Int)) = (xs.take b).drop a := by
  unfold cutV
  rw [show HT.sIx xs.length 0 (some (a : Int)) = min a xs.length from HT.sIx_nat xs.length 0 a, show HT.sIx xs.length xs.length (some (b : Int)) = min b xs.length from HT.sIx_nat xs.length xs.length b]
  rw [List.drop_take]
  by_cases ha : a ≤ xs.length
  · have e1 : min a xs.length = a := Nat.min_eq_left ha
    rw [e1]
    by_cases hb : b ≤ xs.length
    · rw [Nat.min_eq_left hb]
    · have e2 : min b xs.length = xs.length := Nat.min_eq_right (by omega)
      rw [e2, List.take_of_length_le (by rw [List.length_drop]; omega), List.take_of_length_le (by rw [List.length_drop]; omega)]
  · have e1 : min a xs.length = xs.length := Nat.min_eq_right (by omega)
    rw [e1, List.drop_length, List.drop_of_length_le (by omega)]
    simp
theorem cut_lo (xs : List V) (a : Nat) : cutV xs (some (a : Int)) none = xs.drop a := by
  unfold cutV
  rw [show HT.sIx xs.length 0 (some (a : Int)) = min a xs.length from HT.sIx_nat xs.length 0 a, HT.sIx_none]
  by_cases ha : a ≤ xs.length
  · rw [Nat.min_eq_left ha, List.take_of_length_le (by rw [List.length_drop]; omega)]
  · rw [Nat.min_eq_right (by omega), List.drop_length, List.drop_of_length_le (by omega)]
    simp
theorem cut_hi (xs : List V) (b : Nat) : cutV xs none (some (b : Int)) = xs.take b := by
  have h := cut_all xs 0 b
  rw [List.drop_zero] at h
  rw [← h]
  unfold cutV
  rw [HT.sIx_none, show HT.sIx xs.length 0 (some ((0 : Nat) : Int)) = min 0 xs.length from HT.sIx_nat xs.length 0 0, Nat.zero_min]
theorem cut_int {ns : List Int} {a b : Int} (ha : 0 ≤ a) (hb : 0 ≤ b) : cutV (ns.map V.int) (some a) (some b) = ((ns.take b.toNat).drop a.toNat).map V.int := by
  obtain ⟨x, rfl⟩ := Int.eq_ofNat_of_zero_le ha
  obtain ⟨y, rfl⟩ := Int.eq_ofNat_of_zero_le hb
  rw [List.map_drop, List.map_take]
  exact cut_all _ x y
/-- [e for x in xs], xs a new list of ints, e's value F x -/
theorem xl_mapI {cs : List Int} {F : Int → V} {j : Nat} {ws : List Nat} (h : EvL tl σ H (cs.map V.int)) (hz : cs.length ≤ 40000) (hw : ∀ x, wipe ((wipe σ ws).set j (some x)) ws = wipe σ ws)
    (he : ∀ x H1, Ex H H1 → x ∈ cs → Ev te ((wipe σ ws).set j (some (.int x))) H1 (F x)) : EvL (tLc (iList K tl) (gName j) tYes te ws) σ H (cs.map F) := by
  have r := el_lcNL (K := K) (vs := ws) (j := j) (t := tYes) (fun _ => true) (fun i => F (cs.getD i 0)) h (by rw [List.length_map]; exact hz) hw (fun i x H1 e hi => fun H2 e2 Q q => q H2 (Ex.refl H2)) (te := te) (fun i x H1 e hi _ => by
    rw [List.getElem?_map] at hi
    cases hc : cs[i]? with
    | none =>
      rw [hc] at hi
      cases hi
    | some c =>
      rw [hc] at hi
      cases hi
      rw [getD_of hc]
      exact he c H1 e (List.mem_of_getElem? hc))
  have e : given (cs.map V.int).length (fun _ => true) (fun i => F (cs.getD i 0)) = cs.map F := by
    unfold given
    rw [List.filter_eq_self.mpr (fun _ _ => rfl), List.length_map]
    refine List.ext_getElem? fun i => ?_
    rw [List.getElem?_map, List.getElem?_map]
    by_cases hi : i < cs.length
    · rw [List.getElem?_range hi, get_of hi]
      rfl
    · rw [List.getElem?_eq_none (by rw [List.length_range]; omega), List.getElem?_eq_none (by omega)]
      rfl
  rw [e] at r
  exact r
/-- what was tracked ahead of a list's making stays when that list is changed -/
theorem same_mut {p : Addr} {o : HO} (e : Same H H') (h : H p = none) : Same H (upd H' p o) := Ex.mut e h
end
/-! ### while len(xs) > 0 and xs[len(xs) - 1] == 0: xs.pop() -/
section
variable {σ : L2.St} {H : Hp} {K : PySem.W.Frag} {D : Ends}
theorem xs_pops {i : Nat} {l : Addr} {xs : List Int} (hσ : σ[i]? = some (some (.ref l))) (hl : H l = some (.lst (xs.map V.int)))
    (q : ∀ H', (∀ b, b ≠ l → H' b = H b) → H' l = some (.lst ((bare xs).map V.int)) → D.nx σ H') :
    tWhile (tAnd (tTest (tOp (rI0 fun i j => .bl (decide (j < i))) (tCB (rLenQ K) (tCons (tVar i) tNil)) (tC (.int 0))))
      (tTest (tOp rEq (tOp (rIxL K) (tVar i) (tOp (rI0 fun i j => .int (i - j)) (tCB (rLenQ K) (tCons (tVar i) tNil)) (tC (.int 1)))) (tC (.int 0)))))
      (tDrop (tBM0 K "list" rPop (tVar i))) D σ H := by
  refine xs_while (fun m s H' => ∃ ys : List Int, s = σ ∧ (∀ b, b ≠ l → H' b = H b) ∧ H' l = some (.lst (ys.map V.int)) ∧ bare ys = bare xs ∧ ys.length = m) _ ⟨xs, rfl, fun _ _ => rfl, hl, rfl, rfl⟩ ?_
  rintro m s H' ⟨ys, rfl, e3, h3, hb, rfl⟩
  refine ⟨_, xa_and (xa_T (xv_I0 (xv_lenI (val_var hσ) (SqL.of h3)) val_c)) fun hc => xa_T (xv_eq (xv_ix (val_var hσ) (xv_I0 (xv_lenI (val_var hσ) (SqL.of h3)) val_c) (SqL.of h3) (by
    have := of_decide_eq_true hc
    omega) (by omega)) val_c rfl), fun hc => ?_, fun hc => ?_⟩
  · rw [Bool.and_eq_true] at hc
    obtain ⟨c1, c2⟩ := hc
    have c1 := of_decide_eq_true c1
    have c2 := V.int.inj (of_decide_eq_true c2)
    obtain ⟨zs, c, rfl⟩ := snoc_of (xs := ys) (by
      rintro rfl
      simp at c1)
    rw [show (((zs ++ [c]).length : Int) - 1).toNat = (zs ++ [c]).length - 1 by omega, getD_last] at c2
    subst c2
    refine ⟨.ref l, hσ, .inl ⟨rfl, _, SqL.of h3⟩, l, _, .int 0, rfl, rfl, h3, ?_, ?_⟩
    · rw [List.length_map, List.getElem?_map, List.length_append, List.length_singleton, Nat.add_sub_cancel, List.getElem?_append_right (Nat.le_refl _), Nat.sub_self]
      rfl
    · refine ⟨zs.length, by rw [List.length_append, List.length_singleton]; omega, zs, rfl, fun b hb => by rw [upd_ne hb]; exact e3 b hb, ?_, ?_, rfl⟩
      · rw [upd_same, List.map_append, List.map_singleton, List.dropLast_concat]
      · rw [← hb, bare_zero]
  · have hy : bare ys = ys := by
      by_cases h0 : ys = []
      · rw [h0]
        rfl
      · obtain ⟨zs, c, rfl⟩ := snoc_of h0
        refine bare_snoc zs fun e => ?_
        subst e
        have c1 := of_decide_eq_false (Bool.and_eq_false_imp.mp hc (decide_eq_true (by rw [List.length_append, List.length_singleton]; omega)))
        refine c1 ?_
        have e9 : (((zs ++ [(0 : Int)]).length : Int) - 1).toNat = (zs ++ [(0 : Int)]).length - 1 := by omega
        rw [e9, getD_last]
    refine q H' e3 ?_
    rw [h3, ← hb, hy]
theorem xq_pops {tz : TS} {i : Nat} {l : Addr} {xs : List Int} (hσ : σ[i]? = some (some (.ref l))) (hl : H l = some (.lst (xs.map V.int)))
    (q : ∀ H', (∀ b, b ≠ l → H' b = H b) → H' l = some (.lst ((bare xs).map V.int)) → tz D σ H') :
    tSeq (tWhile (tAnd (tTest (tOp (rI0 fun i j => .bl (decide (j < i))) (tCB (rLenQ K) (tCons (tVar i) tNil)) (tC (.int 0))))
      (tTest (tOp rEq (tOp (rIxL K) (tVar i) (tOp (rI0 fun i j => .int (i - j)) (tCB (rLenQ K) (tCons (tVar i) tNil)) (tC (.int 1)))) (tC (.int 0)))))
      (tDrop (tBM0 K "list" rPop (tVar i)))) tz D σ H := xs_pops (D := { D with nx := tz D }) hσ hl q
end
/-! ### lists of ints compared -/
section
variable {σ : L2.St} {H : Hp} {K : PySem.W.Frag} {ta tb : TE}
theorem dpAll_int (ns : List Int) : DpAll K H (ns.map V.int) (ns.map PyData.int) := by
  induction ns with
  | nil => exact .nil
  | cons n r ih => exact .cons (.int n) ih
theorem eqvAll_int : ∀ ns ms : List Int, PyData.eqvAll (ns.map PyData.int) (ms.map PyData.int) = decide (ns = ms)
  | [], [] => by simp [PyData.eqvAll]
  | [], m :: ms => by simp [PyData.eqvAll]
  | n :: ns, [] => by simp [PyData.eqvAll]
  | n :: ns, m :: ms => by
    show (n == m && PyData.eqvAll (ns.map PyData.int) (ms.map PyData.int)) = decide (n :: ns = m :: ms)
    rw [eqvAll_int ns ms]
    by_cases h : n = m
    · subst h
      by_cases h2 : ns = ms
      · subst h2
        simp
      · simp [h2]
    · simp [h]
theorem eqv_int (ns ms : List Int) : PyData.eqv (.list (ns.map PyData.int)) (.list (ms.map PyData.int)) = decide (ns = ms) := by
  rw [← eqvAll_int]
  simp [PyData.eqv]
theorem canLayAll_int : ∀ ns : List Int, PyData.canLayAll0 (ns.map PyData.int) = true
  | [] => rfl
  | n :: ns => by
    show (true && PyData.canLayAll0 (ns.map PyData.int)) = true
    rw [canLayAll_int ns]
    rfl
theorem depthAll_int : ∀ ns : List Int, PyData.depthAll (ns.map PyData.int) ≤ 1
  | [] => by simp [PyData.depthAll]
  | n :: ns => by
    have := depthAll_int ns
    simp only [List.map_cons, PyData.depthAll, PyData.depth]
    omega
theorem shaped_int (ns : List Int) : SeqAt.shaped (.list (ns.map PyData.int)) = true := by
  unfold SeqAt.shaped
  rw [Bool.and_eq_true]
  refine ⟨canLayAll_int ns, decide_eq_true ?_⟩
  have := depthAll_int ns
  simp only [PyData.depth]
  omega
/-- xs == ys, xs != ys of lists of ints -/
theorem xv_eqL {a b : Addr} {ns ms : List Int} (ha : Val ta σ H (.ref a)) (hb : Val tb σ H (.ref b)) (h1 : SqL K H a (ns.map V.int)) (h2 : SqL K H b (ms.map V.int)) : Val (tOp (rEqD K) ta tb) σ H (.bl (decide (ns = ms))) :=
  val_op ha hb fun Q q => ⟨_, _, .lst h1 (dpAll_int ns), .lst h2 (dpAll_int ms), shaped_int ns, shaped_int ms, by rw [eqv_int]; exact q⟩
theorem xv_neL {a b : Addr} {ns ms : List Int} (ha : Val ta σ H (.ref a)) (hb : Val tb σ H (.ref b)) (h1 : SqL K H a (ns.map V.int)) (h2 : SqL K H b (ms.map V.int)) : Val (tOp (rNeD K) ta tb) σ H (.bl (!decide (ns = ms))) :=
  val_op ha hb fun Q q => ⟨_, _, .lst h1 (dpAll_int ns), .lst h2 (dpAll_int ms), shaped_int ns, shaped_int ms, by rw [eqv_int]; exact q⟩
end
end Sh

namespace Sh
/-! moves of shells: (true, k) the join at step k, (false, k) the part -/
abbrev Mv := Bool × Nat
def mvFits (ns : List Int) : Mv → Bool
  | (true, k) => decide (k + 1 < ns.length) && (decide (0 < ns.getD k 0) && decide (0 < ns.getD (k + 1) 0))
  | (false, k) => decide (k < ns.length) && decide (1 < ns.getD k 0)
def mvAt (ns : List Int) (k : Nat) : List Mv := (if mvFits ns (true, k) = true then [(true, k)] else []) ++ (if mvFits ns (false, k) = true then [(false, k)] else [])
def mvTo (ns : List Int) : Nat → List Mv
  | 0 => []
  | n + 1 => mvTo ns n ++ mvAt ns n
def mvs (ns : List Int) : List Mv := mvTo ns ns.length
def bump (ns : List Int) (i : Nat) (d : Int) : List Int := ns.set i (ns.getD i 0 + d)
def mvRaw (ns : List Int) : Mv → List Int
  | (true, k) => bump (bump (bump (ns ++ [0, 0]) k (-1)) (k + 1) (-1)) (k + 2) 1
  | (false, k) =>
    if k = 0 then bump (bump (ns ++ [0, 0]) 0 (-2)) 1 1
    else if k = 1 then bump (bump (bump (ns ++ [0, 0]) 1 (-2)) 2 1) 0 1
    else bump (bump (bump (ns ++ [0, 0]) k (-2)) (k + 1) 1) (k - 2) 1
def mvDone (ns : List Int) (m : Mv) : List Int := bare (mvRaw ns m)
theorem bump_len (ns : List Int) (i : Nat) (d : Int) : (bump ns i d).length = ns.length := by
  unfold bump
  rw [List.length_set]
theorem mvRaw_len (ns : List Int) (m : Mv) : (mvRaw ns m).length = ns.length + 2 := by
  obtain ⟨b, k⟩ := m
  cases b with
  | true => simp [mvRaw, bump_len]
  | false =>
    simp only [mvRaw]
    split
    · simp [bump_len]
    · split <;> simp [bump_len]
theorem mvDone_len (ns : List Int) (m : Mv) : (mvDone ns m).length ≤ ns.length + 2 := by
  have := bare_len (mvRaw ns m)
  rw [mvRaw_len] at this
  exact this
theorem mvFits_lt {ns : List Int} {m : Mv} (h : mvFits ns m = true) : m.2 < ns.length := by
  obtain ⟨b, k⟩ := m
  cases b with
  | true =>
    simp only [mvFits, Bool.and_eq_true, decide_eq_true_eq] at h
    show k < ns.length
    omega
  | false =>
    simp only [mvFits, Bool.and_eq_true, decide_eq_true_eq] at h
    exact h.1
theorem mem_mvAt {ns : List Int} {k : Nat} {m : Mv} : m ∈ mvAt ns k ↔ m.2 = k ∧ mvFits ns m = true := by
  obtain ⟨b, j⟩ := m
  unfold mvAt
  cases b with
  | true =>
    by_cases h1 : mvFits ns (true, k) = true <;> by_cases h2 : mvFits ns (false, k) = true <;> simp only [h1, h2, if_true, if_false, List.mem_append, List.mem_cons, List.not_mem_nil, Prod.mk.injEq, or_false, false_or, Bool.false_eq_true] <;> constructor <;> intro h
    all_goals first
      | (obtain ⟨rfl, h⟩ := h; simp_all)
      | (rcases h with h | h <;> simp_all)
      | simp_all
  | false =>
    by_cases h1 : mvFits ns (true, k) = true <;> by_cases h2 : mvFits ns (false, k) = true <;> simp only [h1, h2, if_true, if_false, List.mem_append, List.mem_cons, List.not_mem_nil, Prod.mk.injEq, or_false, false_or, Bool.false_eq_true] <;> constructor <;> intro h
    all_goals first
      | (obtain ⟨rfl, h⟩ := h; simp_all)
      | (rcases h with h | h <;> simp_all)
      | simp_all
theorem mem_mvTo {ns : List Int} {m : Mv} : ∀ {n : Nat}, m ∈ mvTo ns n ↔ m.2 < n ∧ mvFits ns m = true
  | 0 => by simp [mvTo]
  | n + 1 => by
    show m ∈ mvTo ns n ++ mvAt ns n ↔ _
    rw [List.mem_append, mem_mvTo, mem_mvAt]
    constructor
    · rintro (⟨h1, h2⟩ | ⟨h1, h2⟩)
      · exact ⟨by omega, h2⟩
      · exact ⟨by omega, h2⟩
    · rintro ⟨h1, h2⟩
      by_cases h : m.2 = n
      · exact .inr ⟨h, h2⟩
      · exact .inl ⟨by omega, h2⟩
theorem mem_mvs {ns : List Int} {m : Mv} : m ∈ mvs ns ↔ mvFits ns m = true := by
  unfold mvs
  rw [mem_mvTo]
  exact ⟨fun h => h.2, fun h => ⟨mvFits_lt h, h⟩⟩
theorem mvTo_len (ns : List Int) : ∀ n, (mvTo ns n).length ≤ 2 * n
  | 0 => Nat.le_refl _
  | n + 1 => by
    have := mvTo_len ns n
    show (mvTo ns n ++ mvAt ns n).length ≤ _
    have h : (mvAt ns n).length ≤ 2 := by
      unfold mvAt
      rw [List.length_append]
      split <;> split <;> simp
    rw [List.length_append]
    omega
theorem mvs_len (ns : List Int) : (mvs ns).length ≤ 2 * ns.length := mvTo_len ns _
end Sh

/-! Own words over the layer for moves: tuples of a text and a step, lists of them; stores into a list of ints. -/
namespace Sh
open PySem PySem.Spec PyProof.Rows L2
def mvS (b : Bool) : Str := if b then "join" else "part"
def mvV (m : Mv) : List V := [.str (mvS m.1), .int (m.2 : Int)]
/-- the addresses of the moves' tuples -/
def MvL (H : Hp) : List Addr → List Mv → Prop
  | [], [] => True
  | p :: ps, m :: ms => H p = some (.tup (mvV m)) ∧ MvL H ps ms
  | _, _ => False
theorem MvL.mono {H H' : Hp} (e : ∀ p m, H p = some (.tup (mvV m)) → H' p = some (.tup (mvV m))) : ∀ {ps : List Addr} {ms : List Mv}, MvL H ps ms → MvL H' ps ms
  | [], [], _ => trivial
  | p :: ps, m :: ms, h => ⟨e p m h.1, MvL.mono e h.2⟩
  | [], _ :: _, h => h.elim
  | _ :: _, [], h => h.elim
theorem MvL.same {H H' : Hp} (e : Same H H') {ps : List Addr} {ms : List Mv} (h : MvL H ps ms) : MvL H' ps ms := h.mono fun p m z => e p _ z
theorem MvL.upd {H : Hp} {l : Addr} {xs : List V} {o : HO} (hl : H l = some (.lst xs)) {ps : List Addr} {ms : List Mv} (h : MvL H ps ms) : MvL (upd H l o) ps ms := h.mono fun p m z => by
  rw [upd_ne (ne_of z hl (by intro e; cases e))]
  exact z
theorem MvL.snoc {H : Hp} {p : Addr} {m : Mv} (hp : H p = some (.tup (mvV m))) : ∀ {ps : List Addr} {ms : List Mv}, MvL H ps ms → MvL H (ps ++ [p]) (ms ++ [m])
  | [], [], _ => ⟨hp, trivial⟩
  | q :: ps, n :: ms, h => ⟨h.1, MvL.snoc hp h.2⟩
  | [], _ :: _, h => h.elim
  | _ :: _, [], h => h.elim
theorem MvL.len {H : Hp} : ∀ {ps : List Addr} {ms : List Mv}, MvL H ps ms → ps.length = ms.length
  | [], [], _ => rfl
  | q :: ps, n :: ms, h => by rw [List.length_cons, List.length_cons, MvL.len h.2]
  | [], _ :: _, h => h.elim
  | _ :: _, [], h => h.elim
theorem MvL.get {H : Hp} : ∀ {ps : List Addr} {ms : List Mv} {i : Nat} {m : Mv}, MvL H ps ms → ms[i]? = some m → ∃ p, ps[i]? = some p ∧ H p = some (.tup (mvV m))
  | [], [], i, m, _, e => by simp at e
  | p :: ps, n :: ms, 0, m, h, e => by
    have e : n = m := Option.some.inj e
    subst e
    exact ⟨p, rfl, h.1⟩
  | p :: ps, n :: ms, i + 1, m, h, e => by
    obtain ⟨q, e1, e2⟩ := MvL.get (i := i) h.2 (by simpa using e)
    exact ⟨q, by simpa using e1, e2⟩
  | [], _ :: _, _, _, h, _ => h.elim
  | _ :: _, [], _, _, h, _ => h.elim
/-! moves compared -/
def mvD (m : Mv) : PyData := .tuple [.str (mvS m.1), .int (m.2 : Int)]
section
variable {σ : L2.St} {H : Hp} {K : PySem.W.Frag} {ta tb : TE}
theorem mv_dp {p : Addr} {m : Mv} (h : SqT K H p (mvV m)) : Dp K H (.ref p) (mvD m) := .tup h (.cons (.str _) (.cons (.int _) .nil))
theorem mvS_ok (b : Bool) : PyData.canLay0 (.str (mvS b)) = true := by cases b <;> decide +kernel
theorem mvD_lay (m : Mv) : (mvD m).canLay0 = true := by
  have h := mvS_ok m.1
  simp only [mvD, PyData.canLay0, PyData.canLayAll0, Bool.and_true] at h ⊢
  exact h
theorem mvD_depth (m : Mv) : (mvD m).depth = 1 := by simp [mvD, PyData.depth, PyData.depthAll]
theorem mvD_shaped (m : Mv) : SeqAt.shaped (mvD m) = true := by
  unfold SeqAt.shaped
  rw [mvD_lay, mvD_depth]
  decide
theorem mvS_inj {b c : Bool} : (mvS b == mvS c) = decide (b = c) := by cases b <;> cases c <;> decide +kernel
theorem mvD_eqv (m n : Mv) : PyData.eqv (mvD m) (mvD n) = decide (m = n) := by
  obtain ⟨b, i⟩ := m
  obtain ⟨c, j⟩ := n
  show (mvS b == mvS c && ((i : Int) == (j : Int) && true)) = decide ((b, i) = (c, j))
  rw [mvS_inj, Bool.and_true]
  by_cases h : b = c
  · subst h
    by_cases h2 : i = j
    · subst h2
      simp
    · have h3 : (i : Int) ≠ (j : Int) := by omega
      simp [h2, h3]
  · simp [h]
theorem mvs_dp : ∀ {ps : List Addr} {ms : List Mv}, MvL H ps ms → DpAll K H (ps.map V.ref) (ms.map mvD)
  | [], [], _ => .nil
  | p :: ps, m :: ms, h => .cons (mv_dp (SqT.of h.1)) (mvs_dp h.2)
  | [], _ :: _, h => h.elim
  | _ :: _, [], h => h.elim
theorem mvDs_lay : ∀ ms : List Mv, PyData.canLayAll0 (ms.map mvD) = true
  | [] => rfl
  | m :: ms => by
    show ((mvD m).canLay0 && PyData.canLayAll0 (ms.map mvD)) = true
    rw [mvD_lay, mvDs_lay ms]
    rfl
theorem mvDs_depth : ∀ ms : List Mv, PyData.depthAll (ms.map mvD) ≤ 1
  | [] => by simp [PyData.depthAll]
  | m :: ms => by
    have := mvDs_depth ms
    simp only [List.map_cons, PyData.depthAll, mvD_depth]
    omega
theorem mvDs_shaped (ms : List Mv) : SeqAt.shaped (.list (ms.map mvD)) = true := by
  unfold SeqAt.shaped
  rw [Bool.and_eq_true]
  refine ⟨mvDs_lay ms, decide_eq_true ?_⟩
  have := mvDs_depth ms
  simp only [PyData.depth]
  omega
/-- m != n, of moves -/
theorem xv_neM {p q : Addr} {m n : Mv} (ha : Val ta σ H (.ref p)) (hb : Val tb σ H (.ref q)) (h1 : SqT K H p (mvV m)) (h2 : SqT K H q (mvV n)) : Val (tOp (rNeD K) ta tb) σ H (.bl (!decide (m = n))) :=
  val_op ha hb fun Q q => ⟨_, _, mv_dp h1, mv_dp h2, mvD_shaped m, mvD_shaped n, by rw [mvD_eqv]; exact q⟩
/-- m in ms -/
theorem mvD_any (m : Mv) (ms : List Mv) : ((ms.map mvD).any fun z => PyData.eqv z (mvD m)) = decide (m ∈ ms) := by
  rw [List.any_map]
  by_cases h : m ∈ ms
  · rw [decide_eq_true h, List.any_eq_true]
    exact ⟨m, h, by show PyData.eqv (mvD m) (mvD m) = true; rw [mvD_eqv]; simp⟩
  · rw [decide_eq_false h, List.any_eq_false]
    intro n hn
    show ¬ PyData.eqv (mvD n) (mvD m) = true
    rw [mvD_eqv]
    intro e
    exact h ((of_decide_eq_true e) ▸ hn)
theorem xv_inM {p b : Addr} {m : Mv} {ps : List Addr} {ms : List Mv} (ha : Val ta σ H (.ref p)) (hb : Val tb σ H (.ref b)) (h1 : SqT K H p (mvV m)) (h2 : SqL K H b (ps.map V.ref)) (h3 : MvL H ps ms) : Val (tOp (rInD K) ta tb) σ H (.bl (decide (m ∈ ms))) :=
  val_op ha hb fun Q q => ⟨_, _, mv_dp h1, .lst h2 (mvs_dp h3), mvD_shaped m, mvDs_shaped ms, by rw [mvD_any]; exact q⟩
/-- a list of moves beside one of none -/
theorem eqv_nilM (ms : List Mv) : PyData.eqv (.list (ms.map mvD)) (.list []) = decide (ms = []) := by
  cases ms with
  | nil => simp [PyData.eqv, PyData.eqvAll]
  | cons m r => simp [PyData.eqv, PyData.eqvAll]
theorem tyx_T {a : Addr} {xs : List V} (h : SqT K H a xs) : TyX K H (.ref a) (.type "tuple") := by
  rcases h with (h | ⟨o, h⟩) | ⟨o, its, n, h, hc, _⟩
  · exact .base (.tup h)
  · exact .fTuple h
  · exact .kTuple h hc
theorem xv_lenT {p : Addr} {xs : List V} (ha : Val ta σ H (.ref p)) (h : SqT K H p xs) : Val (tCB (rLenQ K) (tCons ta tNil)) σ H (.int (xs.length : Int)) := fun Q q => ha _ ⟨p, xs, rfl, .inr h, q⟩
end
/-! a store -/
section
variable {σ : L2.St} {H : Hp} {K : PySem.W.Frag} {ta tb tc te : TE} {D : Ends} {tz : TS}
theorem ixN_int {n : Nat} {i : Int} (h0 : 0 ≤ i) (h1 : i < n) : ixN n i = some i.toNat := by
  unfold ixN
  rw [if_pos h0, if_pos h1]
theorem xs_setI {l : Addr} {ns : List Int} {i v : Int} (h : Val te σ H (.int v)) (ha : Val ta σ H (.ref l)) (hb : Val tb σ H (.int i)) (hl : H l = some (.lst (ns.map V.int))) (h0 : 0 ≤ i) (h1 : i < ns.length)
    (k : D.nx σ (upd H l (.lst ((ns.set i.toNat v).map V.int)))) : tAsg te (gSub ta tb rSetL) D σ H :=
  h _ (ha _ (hb _ ⟨l, _, i, i.toNat, rfl, rfl, hl, by rw [List.length_map]; exact ixN_int h0 h1, by rw [← List.map_set]; exact k⟩))
/-- xs[i] = xs[i] + d -/
theorem xq_bump {g : Int → Int → V} {l : Addr} {ns : List Int} {i : Nat} {j d c : Int} (hg : ∀ x : Int, g x c = .int (x + d)) (ha : Val ta σ H (.ref l)) (hb : Val tb σ H (.int j)) (hj : j = (i : Int)) (hl : H l = some (.lst (ns.map V.int))) (h1 : i < ns.length)
    (k : tz D σ (upd H l (.lst ((bump ns i d).map V.int)))) : tSeq (tAsg (tOp (rI0 g) (tOp (rIxL K) ta tb) (tC (.int c))) (gSub ta tb rSetL)) tz D σ H := by
  subst hj
  have hv := xv_I0 (g := g) (xv_ix (K := K) ha hb (SqL.of hl) (by omega) (by omega)) (val_c (v := V.int c))
  rw [hg] at hv
  exact xs_setI (D := { D with nx := tz D }) hv ha hb hl (by omega) (by omega) k
theorem xs_bump {g : Int → Int → V} {l : Addr} {ns : List Int} {i : Nat} {j d c : Int} (hg : ∀ x : Int, g x c = .int (x + d)) (ha : Val ta σ H (.ref l)) (hb : Val tb σ H (.int j)) (hj : j = (i : Int)) (hl : H l = some (.lst (ns.map V.int))) (h1 : i < ns.length)
    (k : D.nx σ (upd H l (.lst ((bump ns i d).map V.int)))) : tAsg (tOp (rI0 g) (tOp (rIxL K) ta tb) (tC (.int c))) (gSub ta tb rSetL) D σ H := by
  subst hj
  have hv := xv_I0 (g := g) (xv_ix (K := K) ha hb (SqL.of hl) (by omega) (by omega)) (val_c (v := V.int c))
  rw [hg] at hv
  exact xs_setI hv ha hb hl (by omega) (by omega) k
/-- what stands behind the choice of a move, in done: the slots c of the counts, s of the step, m of the move; spb what is called at the end -/
abbrev doneT (K : PySem.W.Frag) (c s m : Nat) (spb : Sp) : TS :=
  tSeq (tIfS (tTest (tOp rEq (tOp (rIxT K) (tVar m) (tC (.int 0))) (tC (.str "join"))))
      (tSeq (tAsg (tOp (rI0 fun i j => .int (i - j)) (tOp (rIxL K) (tVar c) (tVar s)) (tC (.int 1))) (gSub (tVar c) (tVar s) rSetL))
      (tSeq (tAsg (tOp (rI0 fun i j => .int (i - j)) (tOp (rIxL K) (tVar c) (tOp (rI0 fun i j => .int (i + j)) (tVar s) (tC (.int 1)))) (tC (.int 1))) (gSub (tVar c) (tOp (rI0 fun i j => .int (i + j)) (tVar s) (tC (.int 1))) rSetL))
      (tSeq (tAsg (tOp (rI0 fun i j => .int (i + j)) (tOp (rIxL K) (tVar c) (tOp (rI0 fun i j => .int (i + j)) (tVar s) (tC (.int 2)))) (tC (.int 1))) (gSub (tVar c) (tOp (rI0 fun i j => .int (i + j)) (tVar s) (tC (.int 2))) rSetL))
      (tRet (tCall spb [] E0 (tCons (tVar c) tNil)))))) tNext)
  (tSeq (tAsg (tOp (rI0 fun i j => .int (i - j)) (tOp (rIxL K) (tVar c) (tVar s)) (tC (.int 2))) (gSub (tVar c) (tVar s) rSetL))
  (tSeq (tAsg (tOp (rI0 fun i j => .int (i + j)) (tOp (rIxL K) (tVar c) (tOp (rI0 fun i j => .int (i + j)) (tVar s) (tC (.int 1)))) (tC (.int 1))) (gSub (tVar c) (tOp (rI0 fun i j => .int (i + j)) (tVar s) (tC (.int 1))) rSetL))
  (tSeq (tIfS (tTest (tOp rEq (tVar s) (tC (.int 1)))) (tAsg (tOp (rI0 fun i j => .int (i + j)) (tOp (rIxL K) (tVar c) (tC (.int 0))) (tC (.int 1))) (gSub (tVar c) (tC (.int 0)) rSetL)) tNext)
  (tSeq (tIfS (tTest (tOp (rI0 fun i j => .bl (decide (j < i))) (tVar s) (tC (.int 1)))) (tAsg (tOp (rI0 fun i j => .int (i + j)) (tOp (rIxL K) (tVar c) (tOp (rI0 fun i j => .int (i - j)) (tVar s) (tC (.int 2)))) (tC (.int 1))) (gSub (tVar c) (tOp (rI0 fun i j => .int (i - j)) (tVar s) (tC (.int 2))) rSetL)) tNext)
  (tRet (tCall spb [] E0 (tCons (tVar c) tNil)))))))
theorem done_tail {c s m : Nat} {spb : Sp} {l p : Addr} {ns : List Int} {mv : Mv} (hm : σ[m]? = some (some (.ref p))) (hs : σ[s]? = some (some (.int (mv.2 : Int)))) (hc : σ[c]? = some (some (.ref l))) (hp : SqT K H p (mvV mv))
    (hl : H l = some (.lst ((ns ++ [0, 0]).map V.int))) (hk : mv.2 < ns.length) (hr : ∀ H' xs, (∀ b, b ≠ l → H' b = H b) → H' l = some (.lst (xs.map V.int)) → xs = mvRaw ns mv → spb [.ref l] H' D.rt E0) : doneT K c s m spb D σ H := by
  obtain ⟨b, k⟩ := mv
  have hk : k < ns.length := hk
  have len : (ns ++ [0, 0]).length = ns.length + 2 := by simp
  have vs : ∀ {H'}, Val (tVar s) σ H' (.int (k : Int)) := val_var hs
  have vc : ∀ {H'}, Val (tVar c) σ H' (.ref l) := val_var hc
  have gt1 : ∀ {H'}, Val (tOp (rI0 fun i j => .bl (decide (j < i))) (tVar s) (tC (.int 1))) σ H' (.bl (decide ((1 : Int) < (k : Int)))) := xv_I0 vs val_c
  have eq1 : ∀ {H'}, Val (tOp rEq (tVar s) (tC (.int 1))) σ H' (.bl (decide (V.int (k : Int) = V.int 1))) := xv_eq vs val_c rfl
  have dl : ∀ {A B : Hp} {o : HO}, (∀ x, x ≠ l → B x = A x) → ∀ x, x ≠ l → (upd B l o) x = A x := fun h x hx => by rw [upd_ne hx]; exact h x hx
  have ht : Ans (tTest (tOp rEq (tOp (rIxT K) (tVar m) (tC (.int 0))) (tC (.str "join")))) σ H b := by
    have h := xv_eq (xv_ixT (K := K) (i := 0) (v := .str (mvS b)) (val_var (i := m) hm) val_c hp (by rfl)) (val_c (σ := σ) (H := H) (v := V.str "join")) (by rfl)
    cases b with
    | true => exact xa_T (by rw [show decide (V.str (mvS true) = V.str "join") = true from by decide +kernel] at h; exact h)
    | false => exact xa_T (by rw [show decide (V.str (mvS false) = V.str "join") = false from by decide +kernel] at h; exact h)
  refine xs_when ht (fun hb => ?_) (fun hb => ?_)
  · subst hb
    refine xq_bump (d := -1) (i := k) (fun x => by rw [Int.sub_eq_add_neg]) vc vs rfl hl (by omega) ?_
    refine xq_bump (d := -1) (i := k + 1) (fun x => by rw [Int.sub_eq_add_neg]) vc (xv_I0 vs val_c) rfl upd_same (by rw [bump_len]; omega) ?_
    refine xq_bump (d := 1) (i := k + 2) (fun x => rfl) vc (xv_I0 vs val_c) rfl upd_same (by rw [bump_len, bump_len]; omega) ?_
    exact vc _ (hr _ _ (dl (dl (dl fun _ _ => rfl))) upd_same rfl)
  · subst hb
    refine xq_bump (d := -2) (i := k) (fun x => by rw [Int.sub_eq_add_neg]) vc vs rfl hl (by omega) ?_
    refine xq_bump (d := 1) (i := k + 1) (fun x => rfl) vc (xv_I0 vs val_c) rfl upd_same (by rw [bump_len]; omega) ?_
    by_cases h1 : k = 1
    · refine xs_when (b := true) (xa_T (xv_to eq1 (by rw [h1]; rfl))) (fun _ => ?_) (fun z => (nomatch z))
      refine xs_bump (d := 1) (i := 0) (fun x => rfl) vc val_c rfl upd_same (by rw [bump_len, bump_len]; omega) ?_
      refine xs_when (b := false) (xa_T (xv_to gt1 (by rw [h1]; rfl))) (fun z => (nomatch z)) (fun _ => ?_)
      refine vc _ (hr _ _ (dl (dl (dl fun _ _ => rfl))) upd_same ?_)
      subst h1
      rfl
    · refine xs_when (b := false) (xa_T (xv_to eq1 (by rw [decide_eq_false (by intro e; have := V.int.inj e; omega)]))) (fun z => (nomatch z)) (fun _ => ?_)
      by_cases h2 : k = 0
      · refine xs_when (b := false) (xa_T (xv_to gt1 (by rw [h2]; rfl))) (fun z => (nomatch z)) (fun _ => ?_)
        refine vc _ (hr _ _ (dl (dl fun _ _ => rfl)) upd_same ?_)
        subst h2
        rfl
      · refine xs_when (b := true) (xa_T (xv_to gt1 (by rw [decide_eq_true (by omega)]))) (fun _ => ?_) (fun z => (nomatch z))
        refine xs_bump (d := 1) (i := k - 2) (fun x => rfl) vc (xv_I0 vs val_c) (by omega) upd_same (by rw [bump_len, bump_len]; omega) ?_
        refine vc _ (hr _ _ (dl (dl (dl fun _ _ => rfl))) upd_same ?_)
        simp only [mvRaw, h1, h2, if_false]
end
end Sh

namespace Sh
/-! what a move does to a weighted sum -/
theorem bump_cons (a : Int) (r : List Int) (i : Nat) (d : Int) : bump (a :: r) (i + 1) d = a :: bump r i d := by
  unfold bump
  simp [List.set]
theorem S_bump (f : Nat → Int) : ∀ (ns : List Int) (i k : Nat) (d : Int), i < ns.length → S f k (bump ns i d) = S f k ns + d * f (k + i)
  | [], i, k, d, h => by simp at h
  | a :: r, 0, k, d, h => by
    have e : bump (a :: r) 0 d = (a + d) :: r := by
      unfold bump
      simp
    rw [e, S_cons, S_cons, Int.add_mul]
    show a * f k + d * f k + S f (k + 1) r = a * f k + S f (k + 1) r + d * f k
    omega
  | a :: r, i + 1, k, d, h => by
    have ih := S_bump f r i (k + 1) d (by simpa using h)
    rw [bump_cons, S_cons, S_cons, ih, show k + 1 + i = k + (i + 1) by omega]
    omega
theorem S_two (f : Nat → Int) (ns : List Int) : S f 0 (ns ++ [0, 0]) = S f 0 ns := by
  rw [S_append]
  simp [S]
def mvDelta (f : Nat → Int) : Mv → Int
  | (true, k) => f (k + 2) - f k - f (k + 1)
  | (false, 0) => f 1 - 2 * f 0
  | (false, 1) => f 2 + f 0 - 2 * f 1
  | (false, k + 2) => f (k + 3) + f k - 2 * f (k + 2)
theorem S_mvDone (f : Nat → Int) {ns : List Int} {m : Mv} (hf : mvFits ns m = true) : S f 0 (mvDone ns m) = S f 0 ns + mvDelta f m := by
  have hk := mvFits_lt hf
  unfold mvDone
  rw [bare_S]
  have hl : (ns ++ [(0 : Int), 0]).length = ns.length + 2 := by simp
  obtain ⟨b, k⟩ := m
  have hk : k < ns.length := hk
  cases b with
  | true =>
    show S f 0 (bump (bump (bump (ns ++ [0, 0]) k (-1)) (k + 1) (-1)) (k + 2) 1) = _
    rw [S_bump f _ _ _ _ (by rw [bump_len, bump_len]; omega), S_bump f _ _ _ _ (by rw [bump_len]; omega), S_bump f _ _ _ _ (by omega), S_two]
    show _ = S f 0 ns + (f (k + 2) - f k - f (k + 1))
    simp only [Nat.zero_add]
    omega
  | false =>
    match k, hk with
    | 0, hk =>
      show S f 0 (bump (bump (ns ++ [0, 0]) 0 (-2)) 1 1) = S f 0 ns + (f 1 - 2 * f 0)
      rw [S_bump f _ _ _ _ (by rw [bump_len]; omega), S_bump f _ _ _ _ (by omega), S_two]
      simp only [Nat.zero_add]
      omega
    | 1, hk =>
      show S f 0 (bump (bump (bump (ns ++ [0, 0]) 1 (-2)) 2 1) 0 1) = S f 0 ns + (f 2 + f 0 - 2 * f 1)
      rw [S_bump f _ _ _ _ (by rw [bump_len, bump_len]; omega), S_bump f _ _ _ _ (by rw [bump_len]; omega), S_bump f _ _ _ _ (by omega), S_two]
      simp only [Nat.zero_add]
      omega
    | k + 2, hk =>
      have e : mvRaw ns (false, k + 2) = bump (bump (bump (ns ++ [0, 0]) (k + 2) (-2)) (k + 3) 1) k 1 := by
        simp [mvRaw]
      rw [e]
      show _ = S f 0 ns + (f (k + 3) + f k - 2 * f (k + 2))
      rw [S_bump f _ _ _ _ (by rw [bump_len, bump_len]; omega), S_bump f _ _ _ _ (by rw [bump_len]; omega), S_bump f _ _ _ _ (by omega), S_two]
      simp only [Nat.zero_add]
      omega
theorem W_delta : ∀ m : Mv, mvDelta W m = 0
  | (true, k) => by
    show W k + W (k + 1) - W k - W (k + 1) = 0
    omega
  | (false, 0) => by decide
  | (false, 1) => by decide
  | (false, k + 2) => by
    show W (k + 1) + (W k + W (k + 1)) + W k - 2 * (W k + W (k + 1)) = 0
    omega
def one (_ : Nat) : Int := 1
def pot (k : Nat) : Int := (k : Int) + 3 + (if 0 < k then 1 else 0)
def fewer (m : Mv) : Bool := m.1 || decide (m.2 = 0)
theorem one_delta (m : Mv) : mvDelta one m = - (if fewer m = true then 1 else 0) := by
  match m with
  | (true, k) => simp [mvDelta, one, fewer]
  | (false, 0) => simp [mvDelta, one, fewer]
  | (false, 1) => simp [mvDelta, one, fewer]
  | (false, k + 2) => simp [mvDelta, one, fewer]
theorem pot_delta (m : Mv) : mvDelta pot m ≤ -1 := by
  match m with
  | (true, 0) => decide
  | (true, k + 1) =>
    simp only [mvDelta, pot]
    split <;> split <;> split <;> omega
  | (false, 0) => decide
  | (false, 1) => decide
  | (false, 2) => decide
  | (false, k + 3) =>
    simp only [mvDelta, pot]
    split <;> split <;> split <;> omega
/-! nothing below nought -/
def NN (xs : List Int) : Prop := ∀ x ∈ xs, 0 ≤ x
theorem NN.get {xs : List Int} (h : NN xs) (i : Nat) : 0 ≤ xs.getD i 0 := by
  rw [List.getD_eq_getElem?_getD]
  cases e : xs[i]? with
  | none => exact Int.le_refl _
  | some x => exact h x (List.mem_of_getElem? e)
theorem NN.of {xs : List Int} (h : ∀ i, 0 ≤ xs.getD i 0) : NN xs := fun x hx => by
  obtain ⟨i, hi, e⟩ := List.getElem_of_mem hx
  have := h i
  rw [List.getD_eq_getElem?_getD, List.getElem?_eq_getElem hi] at this
  rw [← e]
  exact this
theorem getD_bump (xs : List Int) (i j : Nat) (d : Int) (hi : i < xs.length) : (bump xs i d).getD j 0 = if j = i then xs.getD i 0 + d else xs.getD j 0 := by
  unfold bump
  rw [List.getD_eq_getElem?_getD, List.getElem?_set]
  by_cases h : i = j
  · subst h
    rw [if_pos rfl, if_pos hi, if_pos rfl]
    rfl
  · rw [if_neg h, if_neg (fun e => h e.symm), List.getD_eq_getElem?_getD (i := j)]
theorem getD_two (xs : List Int) (j : Nat) : (xs ++ [0, 0]).getD j 0 = xs.getD j 0 := by
  rw [List.getD_eq_getElem?_getD, List.getD_eq_getElem?_getD]
  by_cases h : j < xs.length
  · rw [List.getElem?_append_left h]
  · rw [List.getElem?_append_right (by omega), List.getElem?_eq_none (l := xs) (by omega)]
    match h2 : j - xs.length with
    | 0 => rfl
    | 1 => rfl
    | n + 2 => rfl
theorem NN.two {xs : List Int} (h : NN xs) : NN (xs ++ [0, 0]) := .of fun i => by rw [getD_two]; exact h.get i
theorem NN.bump {xs : List Int} (h : NN xs) {i : Nat} {d : Int} (hi : i < xs.length) (hd : 0 ≤ xs.getD i 0 + d) : NN (bump xs i d) := .of fun j => by
  rw [getD_bump xs i j d hi]
  split
  · exact hd
  · exact h.get j
theorem NN.bare {xs : List Int} (h : NN xs) : NN (bare xs) := fun x hx => h x (bare_mem hx)
theorem NN.done {xs : List Int} (h : NN xs) {m : Mv} (hf : mvFits xs m = true) : NN (mvDone xs m) := by
  have hk := mvFits_lt hf
  have hl : (xs ++ [(0 : Int), 0]).length = xs.length + 2 := by simp
  obtain ⟨b, k⟩ := m
  have hk : k < xs.length := hk
  cases b with
  | true =>
    simp only [mvFits, Bool.and_eq_true, decide_eq_true_eq] at hf
    obtain ⟨f1, f2, f3⟩ := hf
    refine NN.bare (NN.bump (NN.bump (NN.bump h.two (by omega) ?_) (by rw [bump_len]; omega) ?_) (by rw [bump_len, bump_len]; omega) ?_)
    · rw [getD_two]; omega
    · rw [getD_bump _ _ _ _ (by omega), if_neg (by omega), getD_two]; omega
    · rw [getD_bump _ _ _ _ (by rw [bump_len]; omega), if_neg (by omega), getD_bump _ _ _ _ (by omega), if_neg (by omega), getD_two]
      have := h.get (k + 2)
      omega
  | false =>
    simp only [mvFits, Bool.and_eq_true, decide_eq_true_eq] at hf
    obtain ⟨f1, f2⟩ := hf
    match k, hk, f2 with
    | 0, hk, f2 =>
      refine NN.bare (xs := Sh.bump (Sh.bump (xs ++ [0, 0]) 0 (-2)) 1 1) (NN.bump (NN.bump h.two (by omega) ?_) (by rw [bump_len]; omega) ?_)
      · rw [getD_two]; omega
      · rw [getD_bump _ _ _ _ (by omega), if_neg (by omega), getD_two]
        have := h.get 1
        omega
    | 1, hk, f2 =>
      refine NN.bare (xs := Sh.bump (Sh.bump (Sh.bump (xs ++ [0, 0]) 1 (-2)) 2 1) 0 1) (NN.bump (NN.bump (NN.bump h.two (by omega) ?_) (by rw [bump_len]; omega) ?_) (by rw [bump_len, bump_len]; omega) ?_)
      · rw [getD_two]; omega
      · rw [getD_bump _ _ _ _ (by omega), if_neg (by omega), getD_two]
        have := h.get 2
        omega
      · rw [getD_bump _ _ _ _ (by rw [bump_len]; omega), if_neg (by omega), getD_bump _ _ _ _ (by omega), if_neg (by omega), getD_two]
        have := h.get 0
        omega
    | k + 2, hk, f2 =>
      have e : mvRaw xs (false, k + 2) = Sh.bump (Sh.bump (Sh.bump (xs ++ [0, 0]) (k + 2) (-2)) (k + 3) 1) k 1 := by
        simp [mvRaw]
      unfold mvDone
      rw [e]
      refine NN.bare (NN.bump (NN.bump (NN.bump h.two (by omega) ?_) (by rw [bump_len]; omega) ?_) (by rw [bump_len, bump_len]; omega) ?_)
      · rw [getD_two]; omega
      · rw [getD_bump _ _ _ _ (by omega), if_neg (by omega), getD_two]
        have := h.get (k + 3)
        omega
      · rw [getD_bump _ _ _ _ (by rw [bump_len]; omega), if_neg (by omega), getD_bump _ _ _ _ (by omega), if_neg (by omega), getD_two]
        have := h.get k
        omega
/-! the way of a heap by picks -/
def endOf (xs : List Int) (log : List Mv) : List Int := log.foldl mvDone xs
theorem endOf_snoc (xs : List Int) (log : List Mv) (m : Mv) : endOf xs (log ++ [m]) = mvDone (endOf xs log) m := by
  unfold endOf
  rw [List.foldl_append]
  rfl
/-- the place of the move picked behind n, of so many -/
def pickI (pk : List Int) (n many : Nat) : Nat := if pk = [] then 0 else (pk.getD (n % pk.length) 0 % (many : Int)).toNat
structure OkLog (pk : List Int) (xs : List Int) (log : List Mv) : Prop where
  at_ : ∀ k m, log[k]? = some m → (mvs (endOf xs (log.take k)))[pickI pk k (mvs (endOf xs (log.take k))).length]? = some m
theorem OkLog.nil (pk xs : List Int) : OkLog pk xs [] := ⟨fun k m h => by simp at h⟩
theorem OkLog.snoc {pk xs : List Int} {log : List Mv} {m : Mv} (h : OkLog pk xs log) (hm : (mvs (endOf xs log))[pickI pk log.length (mvs (endOf xs log)).length]? = some m) : OkLog pk xs (log ++ [m]) := ⟨fun k n hk => by
  by_cases hl : k < log.length
  · rw [List.getElem?_append_left hl] at hk
    rw [List.take_append_of_le_length (by omega)]
    exact h.at_ k n hk
  · rw [List.getElem?_append_right (by omega)] at hk
    have e : k = log.length := by
      by_cases z : k - log.length = 0
      · omega
      · rw [List.getElem?_eq_none (by simp; omega)] at hk
        cases hk
    subst e
    rw [Nat.sub_self] at hk
    have e2 : m = n := Option.some.inj hk
    subst e2
    rw [List.take_append_of_le_length (Nat.le_refl _), List.take_length]
    exact hm⟩
theorem OkLog.init {pk xs : List Int} {log : List Mv} {m : Mv} (h : OkLog pk xs (log ++ [m])) : OkLog pk xs log ∧ mvFits (endOf xs log) m = true := by
  refine ⟨⟨fun k n hk => ?_⟩, ?_⟩
  · have hl := (List.getElem?_eq_some_iff.mp hk).1
    have h2 := h.at_ k n (by rw [List.getElem?_append_left hl]; exact hk)
    rw [List.take_append_of_le_length (by omega)] at h2
    exact h2
  · have h2 := h.at_ log.length m (by rw [List.getElem?_append_right (Nat.le_refl _), Nat.sub_self]; rfl)
    rw [List.take_append_of_le_length (Nat.le_refl _), List.take_length] at h2
    exact mem_mvs.mp (List.mem_of_getElem? h2)
/-- what a log leaves -/
structure Left (xs : List Int) (log : List Mv) : Prop where
  nn : NN (endOf xs log)
  wt : S W 0 (endOf xs log) = S W 0 xs
  pot : S pot 0 (endOf xs log) + (log.length : Int) ≤ S pot 0 xs
  few : S one 0 xs - S one 0 (endOf xs log) = ((log.filter fewer).length : Int)
  len : (endOf xs log).length ≤ xs.length + 2 * log.length
theorem snoc_ind {α : Type} {P : List α → Prop} (h0 : P []) (hs : ∀ l a, P l → P (l ++ [a])) : ∀ (n : Nat) (l : List α), l.length = n → P l
  | 0, l, h => by
    rw [List.eq_nil_of_length_eq_zero h]
    exact h0
  | n + 1, l, h => by
    obtain ⟨ys, c, rfl⟩ := snoc_of (xs := l) (by intro e; rw [e] at h; cases h)
    refine hs _ _ (snoc_ind h0 hs n ys ?_)
    rw [List.length_append, List.length_singleton] at h
    omega
theorem left_of {pk xs : List Int} (hx : NN xs) (log : List Mv) : OkLog pk xs log → Left xs log := by
  refine snoc_ind (P := fun log => OkLog pk xs log → Left xs log) (fun _ => ⟨hx, rfl, by show S Sh.pot 0 xs + 0 ≤ _; omega, by show S one 0 xs - S one 0 xs = 0; omega, Nat.le_refl _⟩) (fun l m ih h => ?_) _ log rfl
  obtain ⟨h1, hf⟩ := h.init
  have L := ih h1
  rw [show Left xs (l ++ [m]) = Left xs (l ++ [m]) from rfl]
  refine ⟨?_, ?_, ?_, ?_, ?_⟩ <;> rw [endOf_snoc]
  · exact L.nn.done hf
  · rw [S_mvDone W hf, W_delta, L.wt]
    omega
  · rw [S_mvDone Sh.pot hf, List.length_append, List.length_singleton]
    have := pot_delta m
    have := L.pot
    omega
  · rw [S_mvDone one hf, one_delta, List.filter_append, List.length_append]
    have := L.few
    by_cases hm : fewer m = true
    · rw [if_pos hm, List.filter_cons, if_pos hm]
      show _ = (((l.filter fewer).length + 1 : Nat) : Int)
      omega
    · rw [if_neg hm, List.filter_cons, if_neg hm]
      show _ = (((l.filter fewer).length + 0 : Nat) : Int)
      omega
  · have := mvDone_len (endOf xs l) m
    have := L.len
    rw [List.length_append, List.length_singleton]
    omega
theorem pot_pos (k : Nat) : 0 ≤ pot k := by
  unfold pot
  split <;> omega
theorem S_le {f : Nat → Int} {c : Int} : ∀ (xs : List Int) (k n : Nat), NN xs → (∀ j, j < n → f j ≤ c) → k + xs.length ≤ n → S f k xs ≤ c * S one k xs
  | [], k, n, _, _, _ => by simp [S]
  | a :: r, k, n, h, hf, hl => by
    have hl2 : k + (r.length + 1) ≤ n := hl
    have ih := S_le r (k + 1) n (fun x hx => h x (List.mem_cons_of_mem _ hx)) hf (by omega)
    have h1 := Int.mul_le_mul_of_nonneg_left (hf k (by omega)) (h a List.mem_cons_self)
    rw [S_cons, S_cons, Int.mul_add, show c * (a * one k) = a * c by unfold one; rw [Int.mul_one, Int.mul_comm]]
    omega
theorem pot_lt {k : Nat} {n : Nat} (h : k < n) : pot k ≤ (n : Int) + 3 := by
  unfold pot
  split <;> omega
theorem pot_le {xs : List Int} (h : NN xs) : S pot 0 xs ≤ ((xs.length : Int) + 3) * S one 0 xs := S_le xs 0 xs.length h (fun j hj => pot_lt hj) (by omega)
theorem one_ge : ∀ (xs : List Int) (k : Nat), NN xs → ∀ x ∈ xs, x ≤ S one k xs
  | [], _, _, x, hx => nomatch hx
  | a :: r, k, h, x, hx => by
    have h0 : NN r := fun y hy => h y (List.mem_cons_of_mem _ hy)
    have h1 := S_nonneg (f := one) (fun _ => by unfold one; decide) r (k + 1) h0
    have ha := h a List.mem_cons_self
    rw [S_cons, show a * one k = a by unfold one; rw [Int.mul_one]]
    rcases List.mem_cons.mp hx with e | e
    · omega
    · have := one_ge r (k + 1) h0 x e
      omega
theorem one_sum : ∀ (xs : List Int) (k : Nat), S one k xs = xs.sum
  | [], _ => rfl
  | a :: r, k => by
    rw [S_cons, List.sum_cons, one_sum r (k + 1), show a * one k = a by unfold one; rw [Int.mul_one]]
theorem sm_of {xs : List Int} (h : NN xs) (hl : xs.length ≤ 100000) {c : Int} (hc : S one 0 xs ≤ c) (hc2 : c ≤ 1000000) : Sm xs := by
  refine ⟨hl, fun x hx => ?_⟩
  have h1 := one_ge xs 0 h x hx
  have h2 := h x hx
  have h3 : (2 : Nat) ^ 20 ≤ 2 ^ 1000 := by decide +kernel
  have h4 : (2 : Nat) ^ 20 = 1048576 := by decide
  omega
end Sh

/-! Own words over the layer for a heap carried to its end: lists beside the empty one, picks. -/
namespace Sh
open PySem PySem.Spec PyProof.Rows L2
section
variable {σ : L2.St} {H : Hp} {K : PySem.W.Frag} {ta tb te : TE} {D : Ends} {ts tz tu : TS}
/-- a list of moves beside [] -/
theorem et_eqM {ab : Addr} {ps : List Addr} {ms : List Mv} (ha : Evl.Ev ta σ H (.ref ab)) (hb : H ab = some (.lst (ps.map V.ref))) (hm : MvL H ps ms) : Evl.EvT (tTest (tOp (rEqD K) ta (tLst tNil))) σ H (decide (ms = [])) :=
  Evl.et_test (Evl.ev_opL ha (Evl.el_lst Evl.ea_nil (by decide)) (fun p H1 h1 e1 => fun H2 e2 Q q => ⟨_, _, .lst (SqL.of (e2 ab _ (e1 ab _ hb))) (mvs_dp ((hm.same e1).same e2)), .lst (SqL.of (e2 p _ h1)) .nil, mvDs_shaped _, by decide +kernel, by rw [eqv_nilM]; exact q H2 (Evl.Ex.refl H2)⟩))
theorem et_neM {ab : Addr} {ps : List Addr} {ms : List Mv} (ha : Evl.Ev ta σ H (.ref ab)) (hb : H ab = some (.lst (ps.map V.ref))) (hm : MvL H ps ms) : Evl.EvT (tTest (tOp (rNeD K) ta (tLst tNil))) σ H (!decide (ms = [])) :=
  Evl.et_test (Evl.ev_opL ha (Evl.el_lst Evl.ea_nil (by decide)) (fun p H1 h1 e1 => fun H2 e2 Q q => ⟨_, _, .lst (SqL.of (e2 ab _ (e1 ab _ hb))) (mvs_dp ((hm.same e1).same e2)), .lst (SqL.of (e2 p _ h1)) .nil, mvDs_shaped _, by decide +kernel, by rw [eqv_nilM]; exact q H2 (Evl.Ex.refl H2)⟩))
/-- a list of ints beside [] -/
theorem et_eqI {a : Addr} {ns : List Int} (ha : Evl.Ev ta σ H (.ref a)) (hS : SqL K H a (ns.map V.int)) : Evl.EvT (tTest (tOp (rEqD K) ta (tLst tNil))) σ H (decide (ns = [])) :=
  Evl.et_test (Evl.ev_opL ha (Evl.el_lst Evl.ea_nil (by decide)) (fun p H1 h1 e1 => fun H2 e2 Q q => ⟨_, _, .lst (Same.seq e2 (Same.seq e1 hS)) (dpAll_int ns), .lst (SqL.of (e2 p _ h1)) .nil, shaped_int ns, by decide +kernel, by rw [show (PyData.list []) = .list (([] : List Int).map PyData.int) from rfl, eqv_int]; exact q H2 (Evl.Ex.refl H2)⟩))
theorem et_neI {a : Addr} {ns : List Int} (ha : Evl.Ev ta σ H (.ref a)) (hS : SqL K H a (ns.map V.int)) : Evl.EvT (tTest (tOp (rNeD K) ta (tLst tNil))) σ H (!decide (ns = [])) :=
  Evl.et_test (Evl.ev_opL ha (Evl.el_lst Evl.ea_nil (by decide)) (fun p H1 h1 e1 => fun H2 e2 Q q => ⟨_, _, .lst (Same.seq e2 (Same.seq e1 hS)) (dpAll_int ns), .lst (SqL.of (e2 p _ h1)) .nil, shaped_int ns, by decide +kernel, by rw [show (PyData.list []) = .list (([] : List Int).map PyData.int) from rfl, eqv_int]; exact q H2 (Evl.Ex.refl H2)⟩))
/-- what was picked by hand: none, or a list of numbers -/
def PkV (K : PySem.W.Frag) (H : Hp) (pv : V) (pk : List Int) : Prop := (pv = .non ∧ pk = []) ∨ ∃ b, pv = .ref b ∧ SqL K H b (pk.map V.int)
theorem PkV.same {H' : Hp} {pv : V} {pk : List Int} (e : Same H H') (h : PkV K H pv pk) : PkV K H' pv pk := by
  rcases h with h | ⟨b, e1, e2⟩
  · exact .inl h
  · exact .inr ⟨b, e1, e.seq e2⟩
theorem PkV.get {pv : V} {pk : List Int} (h : PkV K H pv pk) (hn : pk ≠ []) : ∃ b, pv = .ref b ∧ SqL K H b (pk.map V.int) := by
  rcases h with h | h
  · exact absurd h.2 hn
  · exact h
/-- x is None or x == [] -/
theorem et_noPk {i : Nat} {pv : V} {pk : List Int} (hv : σ[i]? = some (some pv)) (h : PkV K H pv pk) : Evl.EvT (tOr (tTest (tOp rIsN (tVar i) (tC .non))) (tTest (tOp (rEqD K) (tVar i) (tLst tNil)))) σ H (decide (pk = [])) := by
  rcases h with ⟨rfl, rfl⟩ | ⟨b, rfl, hS⟩
  · exact Evl.et_is (Evl.et_or (a := true) (b := true) (fun H1 e Q q => ⟨_, hv, rfl, ⟨true, rfl, q H1 (Evl.Ex.refl H1)⟩⟩) (fun z => (nomatch z))) (by decide)
  · exact Evl.et_is (Evl.et_or (a := false) (fun H1 e Q q => ⟨_, hv, rfl, ⟨false, rfl, q H1 (Evl.Ex.refl H1)⟩⟩) (fun _ => et_eqI (Evl.ev_var hv) hS)) (Bool.false_or _)
/-! by hand -/
theorem xr_callD {sp : Sp} {dvs : List V} {E : XK} {tr : TA} {Q : VK} (h : tr σ H fun vs H1 => sp (vs ++ dvs) H1 Q E) : tCall sp dvs E tr σ H Q := h
theorem xs_run {i : Nat} (h : te σ H fun v H1 => D.nx (σ.set i (some v)) H1) : tAsg te (gName i) D σ H := h
theorem xr_when {t : TT} (h : t σ H fun b H1 => if b = true then ts { D with nx := tz D } σ H1 else tz D σ H1) : tSeq (tIfS t ts tNext) tz D σ H := h
theorem xr_test {Q : Bool → Hp → Prop} (h : te σ H fun x H1 => ∃ k, x = .bl k ∧ Q k H1) : tTest te σ H Q := h
theorem xr_op {r : R2} {Q : VK} (h : ta σ H fun x H1 => tb σ H1 fun y H2 => r x y H2 Q) : tOp r ta tb σ H Q := h
theorem ofNat_emod (n m : Nat) : ((n : Int) % (m : Int)).toNat = n % m := by
  rw [← Int.natCast_emod, Int.toNat_natCast]
end
end Sh

namespace Sh
/-! rows: noughts and ones, no two ones side by side, the last a one; there is one of each weight -/
structure Rw (xs : List Int) : Prop where
  zo : ∀ x ∈ xs, x = 0 ∨ x = 1
  st : stillB 0 xs = true
  ba : xs = [] ∨ xs.getLastD 0 = 1
theorem still_snoc (ys : List Int) (c : Int) : stillB 0 (ys ++ [c]) = (stillB 0 ys && !(decide (1 < c) || (decide (0 < c) && decide (0 < ys.getLastD 0)))) := by
  rw [stillB_append]
  show (stillB 0 ys && (!(decide (1 < c) || (decide (0 < c) && decide (0 < ys.getLastD 0))) && true)) = _
  rw [Bool.and_true]
theorem zo_init {ys : List Int} {c : Int} (h : ∀ x ∈ ys ++ [c], x = 0 ∨ x = 1) : (∀ x ∈ ys, x = 0 ∨ x = 1) ∧ (c = 0 ∨ c = 1) := ⟨fun x hx => h x (List.mem_append_left _ hx), h c (List.mem_append_right _ List.mem_cons_self)⟩
theorem S_snoc (f : Nat → Int) (ys : List Int) (c : Int) : S f 0 (ys ++ [c]) = S f 0 ys + c * f ys.length := by
  rw [S_append, S_one, Nat.zero_add]
theorem Z_lt : ∀ (n : Nat) (xs : List Int), xs.length = n → (∀ x ∈ xs, x = 0 ∨ x = 1) → stillB 0 xs = true → S W 0 xs < W n
  | 0, xs, h, _, _ => by
    rw [List.eq_nil_of_length_eq_zero h]
    decide
  | n + 1, xs, h, hz, hs => by
    obtain ⟨ys, c, rfl⟩ := snoc_of (xs := xs) (by intro e; rw [e] at h; cases h)
    have hl : ys.length = n := by
      rw [List.length_append, List.length_singleton] at h
      omega
    obtain ⟨z1, z2⟩ := zo_init hz
    rw [still_snoc, Bool.and_eq_true] at hs
    obtain ⟨s1, s2⟩ := hs
    have ih := Z_lt n ys hl z1 s1
    rw [S_snoc, hl]
    rcases z2 with rfl | rfl
    · have := W_lt n
      omega
    · match n, ys, hl, z1, s1, s2, ih with
      | 0, ys, hl, _, _, _, _ =>
        rw [List.eq_nil_of_length_eq_zero hl]
        decide
      | m + 1, ys, hl, z1, s1, s2, ih =>
        obtain ⟨zs, d, rfl⟩ := snoc_of (xs := ys) (by intro e; rw [e] at hl; cases hl)
        have hl2 : zs.length = m := by
          rw [List.length_append, List.length_singleton] at hl
          omega
        obtain ⟨y1, y2⟩ := zo_init z1
        rw [still_snoc, Bool.and_eq_true] at s1
        have ih2 := Z_lt m zs hl2 y1 s1.1
        have hd : d = 0 := by
          rcases y2 with e | e
          · exact e
          · subst e
            simp at s2
        subst hd
        rw [S_snoc]
        show _ < W m + W (m + 1)
        omega
/-- greedy, from the top -/
def gr : Nat → Int → List Int
  | 0, _ => []
  | k + 1, n => if W k ≤ n then 1 :: gr k (n - W k) else 0 :: gr k n
theorem gr_len : ∀ (k : Nat) (n : Int), (gr k n).length = k
  | 0, _ => rfl
  | k + 1, n => by
    unfold gr
    split <;> rw [List.length_cons, gr_len k]
theorem zo_nonneg {xs : List Int} (h : ∀ x ∈ xs, x = 0 ∨ x = 1) : ∀ x ∈ xs, 0 ≤ x := fun x hx => by
  rcases h x hx with e | e <;> omega
theorem Z_gr : ∀ (n : Nat) (xs : List Int), xs.length = n → (∀ x ∈ xs, x = 0 ∨ x = 1) → stillB 0 xs = true → gr n (S W 0 xs) = xs.reverse
  | 0, xs, h, _, _ => by
    rw [List.eq_nil_of_length_eq_zero h]
    rfl
  | n + 1, xs, h, hz, hs => by
    obtain ⟨ys, c, rfl⟩ := snoc_of (xs := xs) (by intro e; rw [e] at h; cases h)
    have hl : ys.length = n := by
      rw [List.length_append, List.length_singleton] at h
      omega
    obtain ⟨z1, z2⟩ := zo_init hz
    rw [still_snoc, Bool.and_eq_true] at hs
    have ih := Z_gr n ys hl z1 hs.1
    have hlt := Z_lt n ys hl z1 hs.1
    have h0 := S_nonneg (f := W) (fun k => Int.le_of_lt (W_pos k)) ys 0 (zo_nonneg z1)
    rw [S_snoc, hl, List.reverse_append]
    unfold gr
    rcases z2 with rfl | rfl
    · rw [Int.zero_mul, Int.add_zero, if_neg (by omega), ih]
      rfl
    · rw [Int.one_mul, if_pos (by omega), Int.add_sub_cancel, ih]
      rfl
theorem Rw.nonneg {xs : List Int} (h : Rw xs) : ∀ x ∈ xs, 0 ≤ x := zo_nonneg h.zo
theorem Rw.top {xs : List Int} (h : Rw xs) (hne : xs ≠ []) : W (xs.length - 1) ≤ S W 0 xs := by
  obtain ⟨ys, c, rfl⟩ := snoc_of hne
  have hc : c = 1 := by
    rcases h.ba with e | e
    · simp at e
    · simpa using e
  subst hc
  have h0 := S_nonneg (f := W) (fun k => Int.le_of_lt (W_pos k)) ys 0 (zo_nonneg (zo_init h.zo).1)
  rw [S_snoc, List.length_append, List.length_singleton, Nat.add_sub_cancel]
  omega
theorem Rw.lt {xs : List Int} (h : Rw xs) : S W 0 xs < W xs.length := Z_lt _ xs rfl h.zo h.st
theorem Rw.len_le {xs ys : List Int} (hx : Rw xs) (hy : Rw ys) (e : S W 0 xs = S W 0 ys) : xs.length ≤ ys.length := by
  by_cases h0 : xs = []
  · rw [h0]
    exact Nat.zero_le _
  · have h1 := hx.top h0
    have h2 := hy.lt
    by_cases hl : xs.length ≤ ys.length
    · exact hl
    · have h3 := W_mono (i := ys.length) (j := xs.length - 1) (by omega)
      omega
/-- ONE ROW OF EACH WEIGHT -/
theorem Rw.uniq {xs ys : List Int} (hx : Rw xs) (hy : Rw ys) (e : S W 0 xs = S W 0 ys) : xs = ys := by
  have hl : xs.length = ys.length := Nat.le_antisymm (hx.len_le hy e) (hy.len_le hx e.symm)
  have h1 := Z_gr _ xs rfl hx.zo hx.st
  have h2 := Z_gr _ ys rfl hy.zo hy.st
  rw [hl, e, h2] at h1
  have h3 := congrArg List.reverse h1
  rw [List.reverse_reverse, List.reverse_reverse] at h3
  exact h3.symm
theorem gr_ok : ∀ (k : Nat) (n : Int), 0 ≤ n → n < W k → (∀ x ∈ (gr k n).reverse, x = 0 ∨ x = 1) ∧ stillB 0 (gr k n).reverse = true ∧ S W 0 (gr k n).reverse = n ∧ (0 < k → (W (k - 1) ≤ n ↔ (gr k n).reverse.getLastD 0 = 1))
  | 0, n, h0, h1 => by
    have h1 : n < 1 := h1
    have : n = 0 := by omega
    subst this
    exact ⟨fun x h => (nomatch h), rfl, rfl, fun z => (nomatch z)⟩
  | k + 1, n, h0, h1 => by
    unfold gr
    by_cases hc : W k ≤ n
    · rw [if_pos hc, List.reverse_cons]
      have hlt : n - W k < W k := by
        match k, h1, hc with
        | 0, h1, hc =>
          have h1 : n < 2 := h1
          show n - 1 < 1
          omega
        | j + 1, h1, hc =>
          have h1 : n < W j + W (j + 1) := h1
          have := W_lt j
          omega
      obtain ⟨a1, a2, a3, a4⟩ := gr_ok k (n - W k) (by omega) hlt
      have hlen : (gr k (n - W k)).reverse.length = k := by rw [List.length_reverse, gr_len]
      have hlast : (gr k (n - W k)).reverse.getLastD 0 ≤ 0 := by
        match k, h1, hc, a1, a4, hlen with
        | 0, _, _, _, _, hlen =>
          rw [List.eq_nil_of_length_eq_zero hlen]
          decide
        | j + 1, h1, hc, a1, a4, hlen =>
          obtain ⟨ys, c, e⟩ := snoc_of (xs := (gr (j + 1) (n - W (j + 1))).reverse) (by intro e; rw [e] at hlen; cases hlen)
          rw [e] at a1 a4
          rw [e]
          have h1 : n < W j + W (j + 1) := h1
          have h5 := a4 (Nat.succ_pos j)
          have h6 : ¬ W (j + 1 - 1) ≤ n - W (j + 1) := by
            show ¬ W j ≤ _
            omega
          have hc1 : c ≠ 1 := fun e => h6 (h5.mpr (by rw [e]; simp))
          rcases (zo_init a1).2 with e | e
          · rw [e]
            simp
          · exact absurd e hc1
      refine ⟨fun x hx => ?_, ?_, ?_, fun _ => ⟨fun _ => by simp, fun _ => hc⟩⟩
      · rcases List.mem_append.mp hx with h | h
        · exact a1 x h
        · exact .inr (List.mem_singleton.mp h)
      · rw [still_snoc, a2, decide_eq_false (show ¬ 0 < (gr k (n - W k)).reverse.getLastD 0 by omega)]
        rfl
      · rw [S_snoc, a3, hlen]
        omega
    · rw [if_neg hc, List.reverse_cons]
      obtain ⟨a1, a2, a3, a4⟩ := gr_ok k n h0 (by omega)
      have hlen : (gr k n).reverse.length = k := by rw [List.length_reverse, gr_len]
      refine ⟨fun x hx => ?_, ?_, ?_, fun _ => ⟨fun z => absurd z hc, fun z => ?_⟩⟩
      · rcases List.mem_append.mp hx with h | h
        · exact a1 x h
        · exact .inl (List.mem_singleton.mp h)
      · rw [still_snoc, a2]
        rfl
      · rw [S_snoc, a3]
        omega
      · simp at z
/-- the row of a number, as greed finds it -/
theorem gr_rw {k : Nat} {n : Int} (h0 : 0 ≤ n) (h1 : n < W k) (ht : 0 < k → W (k - 1) ≤ n) : Rw (gr k n).reverse ∧ S W 0 (gr k n).reverse = n := by
  obtain ⟨a1, a2, a3, a4⟩ := gr_ok k n h0 h1
  refine ⟨⟨a1, a2, ?_⟩, a3⟩
  by_cases hk : 0 < k
  · exact .inr ((a4 hk).mp (ht hk))
  · have : k = 0 := by omega
    subst this
    exact .inl rfl
theorem W_two : ∀ j : Nat, (2 : Int) ^ j ≤ W (2 * j)
  | 0 => by decide
  | j + 1 => by
    have ih := W_two j
    have h1 := W_lt (2 * j)
    show (2 : Int) ^ j * 2 ≤ W (2 * j) + W (2 * j + 1)
    omega
theorem T60_W : T60 < W 1000 := by
  have h1 := W_two 500
  have h2 : T60 < (2 : Int) ^ 500 := by decide +kernel
  exact Int.lt_of_lt_of_le h2 h1
/-- as the law asks it of a row: what stands at i, what beneath -/
theorem Rw.at {xs : List Int} (h : Rw xs) {i : Nat} {c : Int} (hi : xs[i]? = some c) : (c = 0 ∨ c = 1) ∧ c + prev xs i ≤ 1 ∧ (prev xs i = 0 ∨ prev xs i = 1) := by
  have h1 := h.zo c (List.mem_of_getElem? hi)
  have hp : prev xs i = 0 ∨ prev xs i = 1 := by
    match i with
    | 0 => exact .inl (prev_zero xs)
    | j + 1 =>
      have hj : j < xs.length := by
        have := (List.getElem?_eq_some_iff.mp hi).1
        omega
      rw [prev_succ (get_of hj)]
      exact h.zo _ (List.mem_of_getElem? (get_of hj))
  refine ⟨h1, ?_, hp⟩
  have h2 := stillB_take hi
  have h3 : stillB 0 (xs.take (i + 1)) = true := by
    cases e : stillB 0 (xs.take (i + 1)) with
    | true => rfl
    | false => exact absurd (stillB_stop _ e) (by rw [h.st]; decide)
  rw [h3] at h2
  have h4 := (Bool.and_eq_true_iff.mp h2.symm).2
  rcases h1 with e | e
  · omega
  · subst e
    rcases hp with e | e
    · omega
    · rw [e] at h4
      simp at h4
theorem Rw.end {xs : List Int} (h : Rw xs) : xs = [] ∨ prev xs xs.length = 1 := by
  unfold prev
  rw [List.take_length]
  exact h.ba
theorem Rw.nil : Rw [] := ⟨fun _ h => (nomatch h), rfl, .inl rfl⟩
theorem Rw.sm {xs : List Int} (h : Rw xs) (hl : xs.length ≤ 100000) : Sm xs := ⟨hl, fun x hx => by
  have h3 : (2 : Nat) ^ 20 ≤ 2 ^ 1000 := by decide +kernel
  have h4 : (2 : Nat) ^ 20 = 1048576 := by decide
  rcases h.zo x hx with e | e <;> omega⟩
end Sh

namespace Sh
/-! the row of a number, named -/
def top (n : Int) : Nat → Nat
  | 0 => 0
  | k + 1 => if W k ≤ n then k + 1 else top n k
theorem top_ok {n : Int} : ∀ K : Nat, n < W K → n < W (top n K) ∧ (0 < top n K → W (top n K - 1) ≤ n) ∧ top n K ≤ K
  | 0, h => ⟨h, fun z => (nomatch z), Nat.le_refl _⟩
  | k + 1, h => by
    unfold top
    by_cases hc : W k ≤ n
    · rw [if_pos hc]
      exact ⟨h, fun _ => hc, Nat.le_refl _⟩
    · rw [if_neg hc]
      obtain ⟨a, b, c⟩ := top_ok k (show n < W k by omega)
      exact ⟨a, b, by omega⟩
def rowOf (n : Int) : List Int := (gr (top n 1000) n).reverse
theorem rowOf_rw {n : Int} (h0 : 0 ≤ n) (h1 : n < W 1000) : Rw (rowOf n) := (gr_rw h0 (top_ok 1000 h1).1 (top_ok 1000 h1).2.1).1
theorem rowOf_wt {n : Int} (h0 : 0 ≤ n) (h1 : n < W 1000) : S W 0 (rowOf n) = n := (gr_rw h0 (top_ok 1000 h1).1 (top_ok 1000 h1).2.1).2
theorem rowOf_len {n : Int} (h1 : n < W 1000) : (rowOf n).length ≤ 1000 := by
  unfold rowOf
  rw [List.length_reverse, gr_len]
  exact (top_ok 1000 h1).2.2
theorem rowOf_sm {n : Int} (h0 : 0 ≤ n) (h1 : n < W 1000) : Sm (rowOf n) := (rowOf_rw h0 h1).sm (Nat.le_trans (rowOf_len h1) (by decide))
theorem rowOf_is {n : Int} (h0 : 0 ≤ n) (h1 : n < W 1000) {xs : List Int} (hR : Rw xs) (hw : S W 0 xs = n) : xs = rowOf n := hR.uniq (rowOf_rw h0 h1) (by rw [hw, rowOf_wt h0 h1])
theorem W_900 : 2 * W 900 ≤ W 1000 := by
  have h1 := W_lt 900
  have h2 : W 902 = W 900 + W 901 := rfl
  have h3 : W 902 ≤ W 1000 := W_mono (by decide)
  have h4 : W 900 < W 901 := h1
  omega
def BB : Int := W 420
theorem BB_W : BB + 100 < W 900 := by
  have h1 : ((421 : Nat) : Int) < W 421 := W_ge 421
  have h2 : W 422 = W 420 + W 421 := rfl
  have h3 : W 422 ≤ W 900 := W_mono (by decide)
  have h4 : BB = W 420 := rfl
  omega
theorem BB_0 : 0 < BB := W_pos 420
theorem BB_62 : (10 : Int) ^ (62 : Int).toNat ≤ BB := by
  have h1 := W_two 210
  have h2 : (10 : Int) ^ (62 : Int).toNat ≤ (2 : Int) ^ 210 := by decide +kernel
  exact Int.le_trans h2 h1
theorem W_BB {k : Nat} (h : k < 290) : W k ≤ BB := W_mono (by omega)
end Sh

/-! Own words over the layer for rows: chained comparisons, reversed lists, a list beside the empty one. -/
namespace Sh
open PySem PySem.Spec PyProof.Rows L2
section
variable {σ : L2.St} {H : Hp} {K : PySem.W.Frag} {ta tb tc te : TE} {D : Ends} {ts tz tu : TS} {x y w : V}
theorem xv_chain {r r' : R2} {a b : Bool} (ha : Val ta σ H x) (hb : Val tb σ H y) (hr : ∀ Q : VK, Q (.bl a) H → r x y H Q) (h2 : a = true → Val tc σ H w ∧ ∀ Q : VK, Q (.bl b) H → r' y w H Q) : Val (tChain r r' ta tb tc) σ H (.bl (a && b)) := fun Q q =>
  ha _ (hb _ (hr _ ⟨a, rfl, by
    cases a with
    | true => exact (h2 rfl).1 _ ((h2 rfl).2 _ q)
    | false => exact q⟩))
theorem xq_forRev {ta : TA} {a : Addr} {xs : List V} {j : Nat} (h : Arg ta σ H [.ref a]) (hx : SqL K H a xs) (Pv : Nat → L2.St → Hp → Prop) (h0 : Pv 0 σ H) (hq : ∀ i σ H, Pv i σ H → SqL K H a xs)
    (hs : ∀ (i : Nat) (x : V) (σ' : L2.St) (H' : Hp), i < xs.length → xs[xs.length - 1 - i]? = some x → Pv i σ' H' → ts { D with nx := Pv (i + 1), ct := Pv (i + 1), bk := tz D } (σ'.set j (some x)) H') (hd : ∀ σ' H', Pv xs.length σ' H' → tz D σ' H') :
    tSeq (tFor (iRev K ta) (gName j) ts) tz D σ H := h _ ⟨a, xs, rfl, hx, RT.for_Itv (D := { D with nx := tz D }) Pv h0 hq hs hd⟩
theorem ev_eqI {a : Addr} {ns : List Int} (ha : Evl.Ev ta σ H (.ref a)) (hS : SqL K H a (ns.map V.int)) : Evl.Ev (tOp (rEqD K) ta (tLst tNil)) σ H (.bl (decide (ns = []))) :=
  Evl.ev_opL ha (Evl.el_lst Evl.ea_nil (by decide)) (fun p H1 h1 e1 => fun H2 e2 Q q => ⟨_, _, .lst (Same.seq e2 (Same.seq e1 hS)) (dpAll_int ns), .lst (SqL.of (e2 p _ h1)) .nil, shaped_int ns, by decide +kernel, by rw [show (PyData.list []) = .list (([] : List Int).map PyData.int) from rfl, eqv_int]; exact q H2 (Evl.Ex.refl H2)⟩)
/-- is it a number from 0 to below 10 ** 60 -/
def numB : V → Bool
  | .int n => decide (0 ≤ n) && decide (n < T60)
  | _ => false
theorem numB_int {n : Int} (h0 : 0 ≤ n) (h1 : n < T60) : numB (.int n) = true := by
  show (decide (0 ≤ n) && decide (n < T60)) = true
  rw [decide_eq_true h0, decide_eq_true h1]
  rfl
theorem numB_lo {n : Int} (h0 : n < 0) : numB (.int n) = false := by
  show (decide (0 ≤ n) && decide (n < T60)) = false
  rw [decide_eq_false (by omega)]
  rfl
theorem numB_hi {n : Int} (h0 : T60 ≤ n) : numB (.int n) = false := by
  show (decide (0 ≤ n) && decide (n < T60)) = false
  rw [decide_eq_false (p := n < T60) (by omega), Bool.and_false]
/-- the kinds of things that are asked -/
def Kd (K : PySem.W.Frag) (H : Hp) (x : V) : Prop := (∃ n, x = .int n) ∨ (numB x = false ∧ (TyX K H x (.type "bool") ∨ ∃ t, TyX K H x (.type t) ∧ kitB t "int" = some false))
theorem Kd.int {n : Int} : Kd K H (.int n) := .inl ⟨n, rfl⟩
theorem Kd.bl {b : Bool} : Kd K H (.bl b) := .inr ⟨rfl, .inl (.base (.bl b))⟩
theorem Kd.str {s : Str} : Kd K H (.str s) := .inr ⟨rfl, .inr ⟨"str", .base (.str s), by decide +kernel⟩⟩
theorem Kd.non : Kd K H .non := .inr ⟨rfl, .inr ⟨"NoneType", .base .non, by decide +kernel⟩⟩
theorem Kd.lst {a : Addr} {xs : List V} (h : SqL K H a xs) : Kd K H (.ref a) := .inr ⟨rfl, .inr ⟨"list", tyx_L h, by decide +kernel⟩⟩
theorem xr_lst {Q : VK} {tr : TA} (h : tr σ H fun xs H1 => xs.length ≤ sizeLine ∧ ∀ p, H1 p = none → Q (.ref p) (upd H1 p (.lst xs))) : tLst tr σ H Q := h
theorem xr_nil {Q : List V → Hp → Prop} (h : Q [] H) : tNil σ H Q := h
theorem xr_opR {r : R2} {Q : VK} (h : ta σ H fun x H1 => tb σ H1 fun y H2 => r x y H2 Q) : tOp r ta tb σ H Q := h
end
end Sh

/-! Own words over the layer: lists of two lists compared, rows by name. -/
namespace Sh
open PySem PySem.Spec PyProof.Rows L2
theorem shaped_two (xs ys : List Int) : SeqAt.shaped (.list [.list (xs.map PyData.int), .list (ys.map PyData.int)]) = true := by
  unfold SeqAt.shaped
  rw [Bool.and_eq_true]
  refine ⟨?_, decide_eq_true ?_⟩
  · show (PyData.canLayAll0 (xs.map PyData.int) && (PyData.canLayAll0 (ys.map PyData.int) && true)) = true
    rw [canLayAll_int xs, canLayAll_int ys]
    rfl
  · have h1 := depthAll_int xs
    have h2 := depthAll_int ys
    simp only [PyData.depth, PyData.depthAll]
    omega
theorem eqv_two (xs ys : List Int) : PyData.eqv (.list [.list (xs.map PyData.int), .list (ys.map PyData.int)]) (.list [.list (xs.map PyData.int), .list (ys.map PyData.int)]) = true := by
  have h := eqvAll_int xs xs
  have h2 := eqvAll_int ys ys
  rw [decide_eq_true rfl] at h h2
  simp [PyData.eqv, PyData.eqvAll, h, h2]
section
variable {σ : L2.St} {H : Hp} {K : PySem.W.Frag} {ta tb te : TE} {D : Ends} {ts tz tu : TS} {p : Addr}
/-- xs.clear() -/
theorem xq_clear {l : Addr} {xs : List V} (ha : Val ta σ H (.ref l)) (hl : H l = some (.lst xs)) (k : tz D σ (upd H l (.lst []))) : tSeq (tDrop (tBM0 K "list" rClear ta)) tz D σ H :=
  ha _ ⟨.inl ⟨rfl, _, SqL.of hl⟩, l, xs, rfl, rfl, hl, k⟩
/-- a for over a list that is made on the way: read by hand up to the list -/
theorem xr_forL {tl : TE} {g : TG} (h : tl σ H fun x H1 => ∃ a, x = .ref a ∧ (∃ xs, SqL K H1 a xs) ∧ tFor (fun σ H R => R (Itl K a) H) g ts { D with nx := tz D } σ H1) : tSeq (tFor (iList K tl) g ts) tz D σ H := h
theorem xs_at {a : Addr} {xs : List V} {g : TG} (Pv : Nat → L2.St → Hp → Prop) (h0 : Pv 0 σ H) (hl : ∀ i σ H, i ≤ xs.length → Pv i σ H → SqL K H a xs)
    (hs : ∀ (i : Nat) (x : V) (σ' : L2.St) (H' : Hp), xs[i]? = some x → Pv i σ' H' → g x σ' H' fun σ2 H2 => ts { D with nx := Pv (i + 1), ct := Pv (i + 1), bk := D.nx } σ2 H2) (hd : ∀ σ' H', Pv xs.length σ' H' → D.nx σ' H') : tFor (fun σ H R => R (Itl K a) H) g ts D σ H :=
  for_list Pv h0 hl hs hd
theorem xr_tupS {Q : VK} {tr : TA} (h : tr σ H fun xs H1 => xs.length ≤ sizeLine ∧ ∀ p, H1 p = none → Q (.ref p) (upd H1 p (.tup xs))) : tTup tr σ H Q := h
/-- (x, y) = e, e read by hand -/
theorem xq_tup {g : TG} (h : te σ H fun v H1 => g v σ H1 fun σ2 H2 => tz D σ2 H2) : tSeq (tAsg te g) tz D σ H := h
theorem xv_ans {t : TT} {a b : Bool} (h : Ans t σ H a) (e : a = b) : Ans t σ H b := e ▸ h
theorem xg_v {tr : TA} {v : V} {vs : List V} (h : Val te σ H v) (hr : Arg tr σ H vs) : Arg (tCons te tr) σ H (v :: vs) := xg_cons h hr
end
end Sh

namespace Sh
/-! woven: what the product of two rows weighs -/
/-- the steps that hold one -/
def LS (xs : List Int) : List Nat := (List.range xs.length).filter fun i => decide (0 < xs.getD i 0)
def sumL (g : Nat → Int) : List Nat → Int
  | [] => 0
  | i :: r => g i + sumL g r
theorem sumL_append (g : Nat → Int) : ∀ a b : List Nat, sumL g (a ++ b) = sumL g a + sumL g b
  | [], b => by simp [sumL]
  | i :: r, b => by
    show g i + sumL g (r ++ b) = g i + sumL g r + sumL g b
    rw [sumL_append g r b]
    omega
theorem sumL_take {g : Nat → Int} {l : List Nat} {k i : Nat} (h : l[k]? = some i) : sumL g (l.take (k + 1)) = sumL g (l.take k) + g i := by
  rw [take_more h, sumL_append]
  simp [sumL]
theorem LS_snoc (ys : List Int) (c : Int) : LS (ys ++ [c]) = LS ys ++ (if 0 < c then [ys.length] else []) := by
  unfold LS
  rw [List.length_append, List.length_singleton, List.range_succ, List.filter_append]
  have e1 : (List.range ys.length).filter (fun i => decide (0 < (ys ++ [c]).getD i 0)) = (List.range ys.length).filter (fun i => decide (0 < ys.getD i 0)) := by
    refine List.filter_congr fun i hi => ?_
    have hi := List.mem_range.mp hi
    rw [List.getD_eq_getElem?_getD, List.getElem?_append_left hi, ← List.getD_eq_getElem?_getD]
  have e2 : (ys ++ [c]).getD ys.length 0 = c := by
    rw [List.getD_eq_getElem?_getD, List.getElem?_append_right (Nat.le_refl _), Nat.sub_self]
    rfl
  rw [e1]
  congr 1
  by_cases h : 0 < c
  · rw [if_pos h, List.filter_cons, if_pos (by rw [e2]; exact decide_eq_true h)]
    rfl
  · rw [if_neg h, List.filter_cons, if_neg (by rw [e2, decide_eq_true_eq]; exact h)]
    rfl
theorem LS_sum (g : Nat → Int) : ∀ (n : Nat) (xs : List Int), xs.length = n → (∀ x ∈ xs, x = 0 ∨ x = 1) → sumL g (LS xs) = S g 0 xs
  | 0, xs, h, _ => by
    rw [List.eq_nil_of_length_eq_zero h]
    rfl
  | n + 1, xs, h, hz => by
    obtain ⟨ys, c, rfl⟩ := snoc_of (xs := xs) (by intro e; rw [e] at h; cases h)
    have hl : ys.length = n := by
      rw [List.length_append, List.length_singleton] at h
      omega
    obtain ⟨z1, z2⟩ := zo_init hz
    rw [LS_snoc, sumL_append, LS_sum g n ys hl z1, S_snoc]
    rcases z2 with rfl | rfl
    · rw [if_neg (by decide)]
      simp [sumL]
    · rw [if_pos (by decide)]
      simp [sumL]
theorem LS_lt {xs : List Int} {i : Nat} (h : i ∈ LS xs) : i < xs.length := List.mem_range.mp (List.mem_filter.mp h).1
theorem LS_len (xs : List Int) : (LS xs).length ≤ xs.length := by
  have h := List.length_filter_le (fun i => decide (0 < xs.getD i 0)) (List.range xs.length)
  rw [List.length_range] at h
  exact h
/-! sums -/
theorem S_congr {f g : Nat → Int} (h : ∀ i, f i = g i) (xs : List Int) (k : Nat) : S f k xs = S g k xs := by rw [show f = g from funext h]
theorem S_addf (f g : Nat → Int) : ∀ (xs : List Int) (k : Nat), S (fun i => f i + g i) k xs = S f k xs + S g k xs
  | [], _ => rfl
  | a :: r, k => by
    rw [S_cons, S_cons, S_cons, S_addf f g r (k + 1), Int.mul_add]
    omega
theorem S_mulf (c : Int) (f : Nat → Int) : ∀ (xs : List Int) (k : Nat), S (fun i => c * f i) k xs = c * S f k xs
  | [], _ => by simp [S]
  | a :: r, k => by
    rw [S_cons, S_cons, S_mulf c f r (k + 1), Int.mul_add, ← Int.mul_assoc, ← Int.mul_assoc, Int.mul_comm a c]
theorem S_mulr (c : Int) (f : Nat → Int) (xs : List Int) (k : Nat) : S (fun i => f i * c) k xs = S f k xs * c := by
  rw [S_congr (fun i => Int.mul_comm (f i) c), S_mulf, Int.mul_comm]
/-- beneath the worths -/
def Vb : Nat → Int
  | 0 => 1
  | n + 1 => W n
theorem Vb_rec (n : Nat) : Vb (n + 2) = Vb n + Vb (n + 1) := by
  match n with
  | 0 => rfl
  | n + 1 => rfl
theorem Vb_le : ∀ n, 0 ≤ Vb n ∧ Vb n ≤ W n
  | 0 => by decide
  | n + 1 => ⟨Int.le_of_lt (W_pos n), Int.le_of_lt (W_lt n)⟩
theorem WW : ∀ i j : Nat, W (i + j + 2) = W i * W j + W i * Vb j + W j * Vb i ∧ W (i + 1 + j + 2) = W (i + 1) * W j + W (i + 1) * Vb j + W j * Vb (i + 1)
  | 0, j => by
    have b0 : Vb 0 = 1 := rfl
    have b1 : Vb 1 = 1 := rfl
    have w0 : W 0 = 1 := rfl
    have w1 : W 1 = 2 := rfl
    have e1 : W (j + 2) = W j + W (j + 1) := rfl
    have e2 : W (j + 3) = W (j + 1) + W (j + 2) := rfl
    have e3 : W (j + 1) = Vb j + W j := by
      match j with
      | 0 => rfl
      | j + 1 => rfl
    rw [show 0 + j + 2 = j + 2 by omega, show 0 + 1 + j + 2 = j + 3 by omega, show (0 : Nat) + 1 = 1 from rfl, b0, b1, w0, w1]
    omega
  | i + 1, j => by
    obtain ⟨h1, h2⟩ := WW i j
    refine ⟨h2, ?_⟩
    have e1 : W (i + 1 + 1 + j + 2) = W (i + j + 2) + W (i + 1 + j + 2) := by
      rw [show i + 1 + 1 + j + 2 = (i + j + 2) + 2 by omega, show i + 1 + j + 2 = (i + j + 2) + 1 by omega]
      rfl
    have e2 : W (i + 1 + 1) = W i + W (i + 1) := rfl
    have e3 : Vb (i + 1 + 1) = Vb i + Vb (i + 1) := Vb_rec i
    rw [e1, h1, h2, e2, e3]
    grind
theorem VV : ∀ i j : Nat, Vb (i + j + 2) = W i * W j + Vb i * Vb j ∧ Vb (i + 1 + j + 2) = W (i + 1) * W j + Vb (i + 1) * Vb j
  | 0, j => by
    have b0 : Vb 0 = 1 := rfl
    have b1 : Vb 1 = 1 := rfl
    have w0 : W 0 = 1 := rfl
    have w1 : W 1 = 2 := rfl
    have e1 : Vb (j + 2) = Vb j + Vb (j + 1) := Vb_rec j
    have e2 : Vb (j + 3) = Vb (j + 1) + Vb (j + 2) := Vb_rec (j + 1)
    have e3 : Vb (j + 1) = W j := rfl
    rw [show 0 + j + 2 = j + 2 by omega, show 0 + 1 + j + 2 = j + 3 by omega, show (0 : Nat) + 1 = 1 from rfl, b0, b1, w0, w1]
    omega
  | i + 1, j => by
    obtain ⟨h1, h2⟩ := VV i j
    refine ⟨h2, ?_⟩
    have e1 : Vb (i + 1 + 1 + j + 2) = Vb (i + j + 2) + Vb (i + 1 + j + 2) := by
      rw [show i + 1 + 1 + j + 2 = (i + j + 2) + 2 by omega, show i + 1 + j + 2 = (i + j + 2) + 1 by omega]
      exact Vb_rec _
    have e2 : W (i + 1 + 1) = W i + W (i + 1) := rfl
    have e3 : Vb (i + 1 + 1) = Vb i + Vb (i + 1) := Vb_rec i
    rw [e1, h1, h2, e2, e3]
    grind
/-- the weight of the woven counts, and what lies beneath it -/
def wv (xs ys : List Int) : Int := S (fun i => S (fun j => W (i + j + 2)) 0 ys) 0 xs
def wb (xs ys : List Int) : Int := S (fun i => S (fun j => Vb (i + j + 2)) 0 ys) 0 xs
theorem wv_eq (xs ys : List Int) : wv xs ys = S W 0 xs * S W 0 ys + S W 0 xs * S Vb 0 ys + S W 0 ys * S Vb 0 xs := by
  have h : ∀ i, S (fun j => W (i + j + 2)) 0 ys = W i * (S W 0 ys + S Vb 0 ys) + Vb i * S W 0 ys := fun i => by
    rw [S_congr (fun j => (WW i j).1), S_addf, S_addf, S_mulf, S_mulf, S_mulr]
    grind
  unfold wv
  rw [S_congr h, S_addf, S_mulr, S_mulr]
  grind
theorem wb_eq (xs ys : List Int) : wb xs ys = S W 0 xs * S W 0 ys + S Vb 0 xs * S Vb 0 ys := by
  have h : ∀ i, S (fun j => Vb (i + j + 2)) 0 ys = W i * S W 0 ys + Vb i * S Vb 0 ys := fun i => by
    rw [S_congr (fun j => (VV i j).1), S_addf, S_mulf, S_mulf]
  unfold wb
  rw [S_congr h, S_addf, S_mulr, S_mulr]
theorem wv_comm (xs ys : List Int) : wv xs ys = wv ys xs := by
  rw [wv_eq, wv_eq]
  grind
theorem V_in {xs : List Int} (h : ∀ x ∈ xs, 0 ≤ x) : 0 ≤ S Vb 0 xs ∧ S Vb 0 xs ≤ S W 0 xs := by
  refine ⟨S_nonneg (fun k => (Vb_le k).1) xs 0 h, ?_⟩
  have h1 := S_nonneg (f := fun k => W k - Vb k) (fun k => by have := (Vb_le k).2; omega) xs 0 h
  have h2 : S W 0 xs = S (fun k => (W k - Vb k) + Vb k) 0 xs := S_congr (fun k => by omega) xs 0
  rw [S_addf] at h2
  omega
theorem wv_in {xs ys : List Int} (hx : ∀ x ∈ xs, 0 ≤ x) (hy : ∀ x ∈ ys, 0 ≤ x) : 0 ≤ wv xs ys ∧ wv xs ys ≤ 3 * (S W 0 xs * S W 0 ys) := by
  obtain ⟨a0, a1⟩ := V_in hx
  obtain ⟨b0, b1⟩ := V_in hy
  have m0 := S_nonneg (f := W) (fun k => Int.le_of_lt (W_pos k)) xs 0 hx
  have n0 := S_nonneg (f := W) (fun k => Int.le_of_lt (W_pos k)) ys 0 hy
  rw [wv_eq]
  have p1 := Int.mul_nonneg m0 n0
  have p2 := Int.mul_nonneg m0 b0
  have p3 := Int.mul_nonneg n0 a0
  have p4 := Int.mul_le_mul_of_nonneg_left b1 m0
  have p5 := Int.mul_le_mul_of_nonneg_left a1 n0
  rw [Int.mul_comm (S W 0 ys) (S W 0 xs)] at p5
  omega
theorem W_mul (i j : Nat) : W i * W j ≤ W (i + j + 2) := by
  rw [(WW i j).1]
  have h1 := Int.mul_nonneg (Int.le_of_lt (W_pos i)) (Vb_le j).1
  have h2 := Int.mul_nonneg (Int.le_of_lt (W_pos j)) (Vb_le i).1
  omega
theorem W_three (k : Nat) : 3 * W k < W (k + 4) := by
  have h0 := W_pos k
  have h1 := W_lt k
  have e2 : W (k + 2) = W k + W (k + 1) := rfl
  have e3 : W (k + 3) = W (k + 1) + W (k + 2) := rfl
  have e4 : W (k + 4) = W (k + 2) + W (k + 3) := rfl
  omega
theorem pair_in {m n : Int} {t u : Nat} (hm0 : 0 ≤ m) (hm : m < W (t + 1)) (hn0 : 0 ≤ n) (hn : n < W (u + 1)) (h : t + u ≤ 900) : 3 * (m * n) < W 1000 := by
  have h1 : m * n ≤ W (t + 1) * W (u + 1) := Int.mul_le_mul (Int.le_of_lt hm) (Int.le_of_lt hn) hn0 (Int.le_of_lt (W_pos _))
  have h2 := W_mul (t + 1) (u + 1)
  have h3 := W_three (t + 1 + (u + 1) + 2)
  have h4 : W (t + 1 + (u + 1) + 2 + 4) ≤ W 1000 := W_mono (by omega)
  omega
/-- the woven number of two numbers -/
def wvN (m n : Int) : Int := wv (rowOf m) (rowOf n)
theorem wvN_comm (m n : Int) : wvN m n = wvN n m := wv_comm _ _
theorem wvN_in {m n : Int} (hm : 0 ≤ m ∧ m < W 1000) (hn : 0 ≤ n ∧ n < W 1000) : 0 ≤ wvN m n ∧ wvN m n ≤ 3 * (m * n) := by
  have h := wv_in (rowOf_rw hm.1 hm.2).nonneg (rowOf_rw hn.1 hn.2).nonneg
  rw [rowOf_wt hm.1 hm.2, rowOf_wt hn.1 hn.2] at h
  exact h
theorem rowOf_0 : rowOf 0 = [] := (rowOf_is (by decide) (W_pos 1000) Rw.nil rfl).symm
theorem wvN_0 (m : Int) : wvN m 0 = 0 := by
  unfold wvN wv
  rw [rowOf_0]
  show S (fun i => 0) 0 (rowOf m) = 0
  have h := S_mulf 0 W (rowOf m) 0
  rw [Int.zero_mul] at h
  exact (S_congr (fun i => (Int.zero_mul (W i)).symm) _ _).trans h
end Sh

namespace K08
open PySem PySem.Spec PyProof.Rows L2 Sh
def topS (i : Nat) : Stmt := PySem.Challenge.pw_shellstair_k08_woven.main.body.getD i (.Pass ⟨0, 0, 0, 0⟩)
abbrev st_weight : Stmt := topS 1
theorem sc_weight : FnScope ["heap", "total", "here", "above", "many"] ["heap"] (defScope st_weight) := ⟨rfl, rfl, rfl, by decide +kernel, rfl, by decide +kernel, by decide +kernel⟩
abbrev st_still_heap : Stmt := topS 3
theorem sc_still_heap : FnScope ["number", "worths", "here", "above", "heap", "left", "each"] ["number"] (defScope st_still_heap) := ⟨rfl, rfl, rfl, by decide +kernel, rfl, by decide +kernel, by decide +kernel⟩
abbrev st_steps_of : Stmt := topS 4
theorem sc_steps_of : FnScope ["heap", "step"] ["heap"] (defScope st_steps_of) := ⟨rfl, rfl, rfl, by decide +kernel, rfl, by decide +kernel, by decide +kernel⟩
abbrev st_woven : Stmt := topS 5
theorem sc_woven : FnScope ["one", "other", "counts", "others", "low", "high"] ["one", "other"] (defScope st_woven) := ⟨rfl, rfl, rfl, by decide +kernel, rfl, by decide +kernel, by decide +kernel⟩
abbrev st_l_cell : Stmt := topS 7
theorem sc_l_cell : FnScope ["_law_script", "_law_k"] ["_law_script", "_law_k"] (defScope st_l_cell) := ⟨rfl, rfl, rfl, by decide +kernel, rfl, by decide +kernel, by decide +kernel⟩
abbrev st_l_whole : Stmt := topS 8
theorem sc_l_whole : FnScope ["_law_found"] ["_law_found"] (defScope st_l_whole) := ⟨rfl, rfl, rfl, by decide +kernel, rfl, by decide +kernel, by decide +kernel⟩
abbrev st_l_heap : Stmt := topS 9
theorem sc_l_heap : FnScope ["_law_number", "_law_worths", "_law_here", "_law_there", "_law_heap_here", "_law_each", "_law_shell"] ["_law_number"] (defScope st_l_heap) := ⟨rfl, rfl, rfl, by decide +kernel, rfl, by decide +kernel, by decide +kernel⟩
abbrev st_l_alike : Stmt := topS 10
theorem sc_l_alike : FnScope ["_law_found", "_law_due", "_law_k"] ["_law_found", "_law_due"] (defScope st_l_alike) := ⟨rfl, rfl, rfl, by decide +kernel, rfl, by decide +kernel, by decide +kernel⟩
abbrev st_l_worth : Stmt := topS 11
theorem sc_l_worth : FnScope ["_law_step", "_law_here", "_law_there", "_law_k"] ["_law_step"] (defScope st_l_worth) := ⟨rfl, rfl, rfl, by decide +kernel, rfl, by decide +kernel, by decide +kernel⟩
abbrev st_l_pair : Stmt := topS 12
theorem sc_l_pair : FnScope ["_law_script", "_law_most", "_law_top", "_law_one", "_law_other", "_law_way"] ["_law_script"] (defScope st_l_pair) := ⟨rfl, rfl, rfl, by decide +kernel, rfl, by decide +kernel, by decide +kernel⟩
abbrev st_l_laid : Stmt := topS 13
theorem sc_l_laid : FnScope ["_law_left", "_law_right", "_law_laid_here", "_law_low", "_law_high", "_law_spot"] ["_law_left", "_law_right"] (defScope st_l_laid) := ⟨rfl, rfl, rfl, by decide +kernel, rfl, by decide +kernel, by decide +kernel⟩
abbrev st_l_weighed : Stmt := topS 14
theorem sc_l_weighed : FnScope ["_law_laid_here", "_law_total", "_law_here", "_law_there", "_law_many"] ["_law_laid_here"] (defScope st_l_weighed) := ⟨rfl, rfl, rfl, by decide +kernel, rfl, by decide +kernel, by decide +kernel⟩
abbrev st_law : Stmt := topS 15
theorem sc_law : FnScope ["_law_script", "_law_one", "_law_other", "_law_left", "_law_right", "_law_due", "_law_handed", "_law_found", "_law_kept", "_law_turned"] ["_law_script"] (defScope st_law) := ⟨rfl, rfl, rfl, by decide +kernel, rfl, by decide +kernel, by decide +kernel⟩
/-- what the top has written -/
structure Txt (K : PySem.W.Frag) (mg : Str → Option Value) where
  f_weight : Addr
  d_weight : FuncData
  F_weight : Fun K "weight" "weight" st_weight f_weight d_weight
  g_weight : mg "weight" = some (.ref f_weight)
  b_weight : Binds K d_weight ["heap"] []
  f_still_heap : Addr
  d_still_heap : FuncData
  F_still_heap : Fun K "still_heap" "still_heap" st_still_heap f_still_heap d_still_heap
  g_still_heap : mg "still_heap" = some (.ref f_still_heap)
  b_still_heap : Binds K d_still_heap ["number"] []
  f_steps_of : Addr
  d_steps_of : FuncData
  F_steps_of : Fun K "steps_of" "steps_of" st_steps_of f_steps_of d_steps_of
  g_steps_of : mg "steps_of" = some (.ref f_steps_of)
  b_steps_of : Binds K d_steps_of ["heap"] []
  f_woven : Addr
  d_woven : FuncData
  F_woven : Fun K "woven" "woven" st_woven f_woven d_woven
  g_woven : mg "woven" = some (.ref f_woven)
  b_woven : Binds K d_woven ["one", "other"] []
  f_l_cell : Addr
  d_l_cell : FuncData
  F_l_cell : Fun K "_law_cell" "_law_cell" st_l_cell f_l_cell d_l_cell
  g_l_cell : mg "_law_cell" = some (.ref f_l_cell)
  b_l_cell : Binds K d_l_cell ["_law_script", "_law_k"] []
  f_l_whole : Addr
  d_l_whole : FuncData
  F_l_whole : Fun K "_law_whole" "_law_whole" st_l_whole f_l_whole d_l_whole
  g_l_whole : mg "_law_whole" = some (.ref f_l_whole)
  b_l_whole : Binds K d_l_whole ["_law_found"] []
  f_l_heap : Addr
  d_l_heap : FuncData
  F_l_heap : Fun K "_law_heap" "_law_heap" st_l_heap f_l_heap d_l_heap
  g_l_heap : mg "_law_heap" = some (.ref f_l_heap)
  b_l_heap : Binds K d_l_heap ["_law_number"] []
  f_l_alike : Addr
  d_l_alike : FuncData
  F_l_alike : Fun K "_law_alike" "_law_alike" st_l_alike f_l_alike d_l_alike
  g_l_alike : mg "_law_alike" = some (.ref f_l_alike)
  b_l_alike : Binds K d_l_alike ["_law_found", "_law_due"] []
  f_l_worth : Addr
  d_l_worth : FuncData
  F_l_worth : Fun K "_law_worth" "_law_worth" st_l_worth f_l_worth d_l_worth
  g_l_worth : mg "_law_worth" = some (.ref f_l_worth)
  b_l_worth : Binds K d_l_worth ["_law_step"] []
  f_l_pair : Addr
  d_l_pair : FuncData
  F_l_pair : Fun K "_law_pair" "_law_pair" st_l_pair f_l_pair d_l_pair
  g_l_pair : mg "_law_pair" = some (.ref f_l_pair)
  b_l_pair : Binds K d_l_pair ["_law_script"] []
  f_l_laid : Addr
  d_l_laid : FuncData
  F_l_laid : Fun K "_law_laid" "_law_laid" st_l_laid f_l_laid d_l_laid
  g_l_laid : mg "_law_laid" = some (.ref f_l_laid)
  b_l_laid : Binds K d_l_laid ["_law_left", "_law_right"] []
  f_l_weighed : Addr
  d_l_weighed : FuncData
  F_l_weighed : Fun K "_law_weighed" "_law_weighed" st_l_weighed f_l_weighed d_l_weighed
  g_l_weighed : mg "_law_weighed" = some (.ref f_l_weighed)
  b_l_weighed : Binds K d_l_weighed ["_law_laid_here"] []
  f_law : Addr
  d_law : FuncData
  F_law : Fun K "law" "law" st_law f_law d_law
  g_law : mg "law" = some (.ref f_law)
  b_law : Binds K d_law ["_law_script"] []
  m_reversed : mg "reversed" = none
  m_range : mg "range" = none
  m_len : mg "len" = none
  m_isinstance : mg "isinstance" = none
  m_int : mg "int" = none
  m_bool : mg "bool" = none
  m_list : mg "list" = none
local macro_rules | `(tactic| walk_at "side") => `(tactic| first | assumption | omega | exact ⟨by decide, by decide⟩ | exact ⟨by decide, by decide, by decide⟩ | (show (0 : Int) < _; first | omega | decide | exact T60_pos | exact T60_pos1 | decide +kernel))
local macro_rules | `(tactic| walk_at "sq") => `(tactic| first | assumption | exact SqL.of (by assumption))
local macro_rules | `(tactic| walk_at "val") => `(tactic| first
  | with_reducible exact val_c
  | ((with_reducible apply xv_c) <;> exact rfl)
  | ((with_reducible apply val_var) <;> rfl)
  | with_reducible exact xv_p60
  | ((with_reducible apply xv_I0) <;> walk_at "val")
  | ((with_reducible apply xv_I) <;> first | walk_at "val" | walk_at "side")
  | ((with_reducible apply xv_eq) <;> first | walk_at "val" | rfl)
  | ((with_reducible apply xv_ne) <;> first | walk_at "val" | rfl)
  | ((with_reducible apply xv_U) <;> walk_at "val")
  | ((with_reducible apply xv_lenI) <;> first | walk_at "val" | walk_at "sq")
  | ((with_reducible apply xv_ix) <;> first | walk_at "val" | walk_at "sq" | walk_at "side")
  | ((with_reducible apply xv_and) <;> first | walk_at "val" | (intro hc; (try replace hc := of_decide_eq_true hc); walk_at "val"))
  | ((with_reducible apply xv_or) <;> first | walk_at "val" | (intro hc; (try replace hc := of_decide_eq_false hc); walk_at "val"))
  | ((with_reducible apply xv_not) <;> walk_at "val")
  | walk_at "val+")
local macro_rules | `(tactic| walk_at "val+") => `(tactic| fail "val")
local macro_rules | `(tactic| walk_at "arg") => `(tactic| first | with_reducible exact xg_nil | ((with_reducible apply xg_cons) <;> first | walk_at "val" | walk_at "arg"))
local macro_rules | `(tactic| walk_at "ans") => `(tactic| first
  | ((with_reducible apply xa_T) <;> walk_at "val")
  | ((with_reducible apply xa_B) <;> walk_at "val")
  | ((with_reducible apply xa_not) <;> walk_at "ans")
  | ((with_reducible apply xa_and) <;> first | walk_at "ans" | (intro hc; (try replace hc := of_decide_eq_true hc); walk_at "ans"))
  | ((with_reducible apply xa_or) <;> first | walk_at "ans" | (intro hc; (try replace hc := of_decide_eq_false hc); walk_at "ans")))

section
variable {P : Program} {w : World} {K : PySem.W.Frag} {mg : Str → Option Value} {base : Heap}
/-! ### a cell of the script -/
def sp_cell (K : PySem.W.Frag) : Sp := fun vs H Q _ => ∃ (a : Addr) (ns : List Int) (j : Nat), vs = [.ref a, .int (j : Int)] ∧ SqL K H a (ns.map V.int) ∧ Q (.int (ns.getD j 0)) H
theorem ok_l_cell (T : Txt K mg) : FnOk P w K mg base CX0 1 T.f_l_cell T.d_l_cell ["_law_script", "_law_k"] (sp_cell K) := by
  refine T.F_l_cell.ok sc_l_cell (fun vs H Q E h => ?_) (fun cdv A outer s H vs Q E hr h => ?_)
  · obtain ⟨a, ns, j, rfl, _⟩ := h
    rfl
  · obtain ⟨a, ns, j, rfl, hS, q⟩ := h
    refine ⟨_, (pss_cons (ps_if (pt_cmpR op_lt (pv 1) (pe_callB call_len_seq (by rfl) T.m_len PySem.boot_len (pa_cons (pv 0) pa_nil)) (nomark _)) (pss_one (ps_ret (pe_ix ix_list (pv 0) (pv 1) (fun _ _ => rfl)))) pss_nil)
      (pss_one (ps_ret pe_int))), ?_⟩
    refine xs_when (xa_T (xv_I0 (val_var rfl) (xv_lenI (val_var rfl) hS))) (fun hc => ?_) (fun hc => ?_)
    · have hj : (j : Int) < ns.length := of_decide_eq_true hc
      exact st_ret (xv_ix (val_var rfl) (val_var rfl) hS (by omega) hj) q
    · have hj : ¬ (j : Int) < ns.length := of_decide_eq_false hc
      refine st_ret val_c ?_
      rw [List.getD_eq_getElem?_getD, List.getElem?_eq_none (by omega)] at q
      exact q
theorem xv_cell {σ : L2.St} {H : Hp} {ta tb : TE} {a : Addr} {ns : List Int} {j : Nat} (h : Val ta σ H (.ref a)) (h2 : Val tb σ H (.int (j : Int))) (hS : SqL K H a (ns.map V.int)) : Val (tCall (sp_cell K) [] E0 (tCons ta (tCons tb tNil))) σ H (.int (ns.getD j 0)) :=
  xv_call (xg_cons h (xg_cons h2 xg_nil)) fun Q q => ⟨a, ns, j, rfl, hS, q⟩
local macro_rules | `(tactic| walk_at "val+") => `(tactic| ((with_reducible apply xv_cell) <;> first | walk_at "val" | walk_at "sq"))
/-! ### whole numbers -/
def sp_whole : Sp := fun vs H Q _ => ∃ i : Int, vs = [.int i] ∧ Q (.bl true) H
theorem ok_l_whole (T : Txt K mg) : FnOk P w K mg base CX0 1 T.f_l_whole T.d_l_whole ["_law_found"] sp_whole := by
  refine T.F_l_whole.ok sc_l_whole (fun vs H Q E h => ?_) (fun cdv A outer s H vs Q E hr h => ?_)
  · obtain ⟨i, rfl, _⟩ := h
    rfl
  · obtain ⟨i, rfl, q⟩ := h
    refine ⟨_, (pss_one (ps_ret (pe_and (pe_callB call_isi (by rfl) T.m_isinstance (by decide +kernel) (pa_cons (pv 0) (pa_cons (pe_bltn (v := .ty "int") (by rfl) T.m_int (by decide +kernel) rfl) pa_nil))) (pe_one (pe_not (pe_callB call_isi (by rfl) T.m_isinstance (by decide +kernel) (pa_cons (pv 0) (pa_cons (pe_bltn (v := .ty "bool") (by rfl) T.m_bool (by decide +kernel) rfl) pa_nil)))))))), ?_⟩
    exact st_ret (xv_and (xv_isi (val_var rfl) (.base (.int i)) (b := true) (by decide +kernel)) fun _ => xv_not (xv_isi (val_var rfl) (.base (.int i)) (b := false) (by decide +kernel))) q
theorem xv_whole {σ : L2.St} {H : Hp} {ta : TE} {i : Int} (h : Val ta σ H (.int i)) : Val (tCall sp_whole [] E0 (tCons ta tNil)) σ H (.bl true) :=
  xv_call (xg_cons h xg_nil) fun Q q => ⟨i, rfl, q⟩
local macro_rules | `(tactic| walk_at "val+") => `(tactic| ((with_reducible apply xv_whole) <;> walk_at "val"))
/-! ### weight of a list -/
def sp_weight (K : PySem.W.Frag) : Sp := fun vs H Q _ => ∃ (a : Addr) (ns : List Int), vs = [.ref a] ∧ SqL K H a (ns.map V.int) ∧ Sm ns ∧ Q (.int (wt ns)) H
theorem ok_weight (T : Txt K mg) : FnOk P w K mg base CX0 1 T.f_weight T.d_weight ["heap"] (sp_weight K) := by
  refine T.F_weight.ok sc_weight (fun vs H Q E h => ?_) (fun cdv A outer s H vs Q E hr h => ?_)
  · obtain ⟨a, ns, rfl, _⟩ := h
    rfl
  · obtain ⟨a, ns, rfl, hS, hz, q⟩ := h
    refine ⟨_, (pss_cons (ps_set (i := 1) sc_weight.nd rfl (Or.inl rfl) pe_int)
      (pss_cons (ps_set (i := 2) sc_weight.nd rfl (Or.inl rfl) pe_int)
      (pss_cons (ps_set (i := 3) sc_weight.nd rfl (Or.inl rfl) pe_int)
      (pss_cons (ps_for PassesOwn.never rfl (pi_list (pv 0)) (pg_name (i := 4) sc_weight.nd rfl (Or.inl rfl)) (pss_cons (ps_set (i := 1) sc_weight.nd rfl (Or.inl rfl) (pe_op op_add (pv 1) (pe_op op_mulW (pv 4) (pv 2))))
      (pss_one (ps_par (i := 2) (j := 3) (by rfl) sc_weight.nd rfl rfl (by decide) rfl rfl (pa_cons (pv 3) (pa_cons (pe_op op_add (pv 2) (pv 3)) pa_nil)) (by rfl)))))
      (pss_one (ps_ret (pv 1))))))), ?_⟩
    refine xq_set val_c ?_
    refine xq_set val_c ?_
    refine xq_set val_c ?_
    refine xq_forI (ns := ns) (val_var rfl) (Same.refl H) hS (fun i σ H' => ∃ y, σ = [some (.ref a), some (.int (S W 0 (ns.take i))), some (.int (W i)), some (.int (W (i + 1))), y] ∧ H' = H) ⟨_, rfl, rfl⟩ ?_ ?_
    · rintro i n σ H' e hn ⟨y, rfl, rfl⟩
      have hi : i < ns.length := (List.getElem?_eq_some_iff.mp hn).1
      have hc : CMulW n (W i) := wide_mul (hz.mag n (List.mem_of_getElem? hn)) (W_bitsN i) (by decide) (by omega) (by have := hz.len; omega)
      refine xq_set (xv_I0 (val_var rfl) (xv_I (val_var rfl) (val_var rfl) hc)) ?_
      refine xs_par (xg_cons (val_var rfl) (xg_cons (xv_I0 (val_var rfl) (val_var rfl)) xg_nil)) ⟨e, some (.int n), ?_, rfl⟩
      rw [S_take hn, Nat.zero_add]
      rfl
    · rintro σ H' e ⟨y, rfl, rfl⟩
      rw [List.take_length]
      exact st_ret (val_var rfl) q
theorem ok_l_weighed (T : Txt K mg) : FnOk P w K mg base CX0 1 T.f_l_weighed T.d_l_weighed ["_law_laid_here"] (sp_weight K) := by
  refine T.F_l_weighed.ok sc_l_weighed (fun vs H Q E h => ?_) (fun cdv A outer s H vs Q E hr h => ?_)
  · obtain ⟨a, ns, rfl, _⟩ := h
    rfl
  · obtain ⟨a, ns, rfl, hS, hz, q⟩ := h
    refine ⟨_, (pss_cons (ps_set (i := 1) sc_l_weighed.nd rfl (Or.inl rfl) pe_int)
      (pss_cons (ps_set (i := 2) sc_l_weighed.nd rfl (Or.inl rfl) pe_int)
      (pss_cons (ps_set (i := 3) sc_l_weighed.nd rfl (Or.inl rfl) pe_int)
      (pss_cons (ps_for PassesOwn.never rfl (pi_list (pv 0)) (pg_name (i := 4) sc_l_weighed.nd rfl (Or.inl rfl)) (pss_cons (ps_set (i := 1) sc_l_weighed.nd rfl (Or.inl rfl) (pe_op op_add (pv 1) (pe_op op_mulW (pv 4) (pv 2))))
      (pss_one (ps_par (i := 2) (j := 3) (by rfl) sc_l_weighed.nd rfl rfl (by decide) rfl rfl (pa_cons (pv 3) (pa_cons (pe_op op_add (pv 2) (pv 3)) pa_nil)) (by rfl)))))
      (pss_one (ps_ret (pv 1))))))), ?_⟩
    refine xq_set val_c ?_
    refine xq_set val_c ?_
    refine xq_set val_c ?_
    refine xq_forI (ns := ns) (val_var rfl) (Same.refl H) hS (fun i σ H' => ∃ y, σ = [some (.ref a), some (.int (S W 0 (ns.take i))), some (.int (W i)), some (.int (W (i + 1))), y] ∧ H' = H) ⟨_, rfl, rfl⟩ ?_ ?_
    · rintro i n σ H' e hn ⟨y, rfl, rfl⟩
      have hi : i < ns.length := (List.getElem?_eq_some_iff.mp hn).1
      have hc : CMulW n (W i) := wide_mul (hz.mag n (List.mem_of_getElem? hn)) (W_bitsN i) (by decide) (by omega) (by have := hz.len; omega)
      refine xq_set (xv_I0 (val_var rfl) (xv_I (val_var rfl) (val_var rfl) hc)) ?_
      refine xs_par (xg_cons (val_var rfl) (xg_cons (xv_I0 (val_var rfl) (val_var rfl)) xg_nil)) ⟨e, some (.int n), ?_, rfl⟩
      rw [S_take hn, Nat.zero_add]
      rfl
    · rintro σ H' e ⟨y, rfl, rfl⟩
      rw [List.take_length]
      exact st_ret (val_var rfl) q
theorem xv_weight {σ : L2.St} {H : Hp} {ta : TE} {a : Addr} {ns : List Int} (h : Val ta σ H (.ref a)) (hS : SqL K H a (ns.map V.int)) (hz : Sm ns) : Val (tCall (sp_weight K) [] E0 (tCons ta tNil)) σ H (.int (wt ns)) :=
  xv_call (xg_cons h xg_nil) fun Q q => ⟨a, ns, rfl, hS, hz, q⟩
local macro_rules | `(tactic| walk_at "val+") => `(tactic| ((with_reducible apply xv_weight) <;> first | walk_at "val" | walk_at "sq" | walk_at "side"))
/-! ### worth of a step -/
def sp_worth : Sp := fun vs H Q _ => ∃ n : Nat, vs = [.int (n : Int)] ∧ n < 2 ^ 62 ∧ Q (.int (W n)) H
theorem ok_l_worth (T : Txt K mg) : FnOk P w K mg base CX0 1 T.f_l_worth T.d_l_worth ["_law_step"] sp_worth := by
  refine T.F_l_worth.ok sc_l_worth (fun vs H Q E h => ?_) (fun cdv A outer s H vs Q E hr h => ?_)
  · obtain ⟨n, rfl, _⟩ := h
    rfl
  · obtain ⟨n, rfl, hn, q⟩ := h
    refine ⟨_, (pss_cons (ps_set (i := 1) sc_l_worth.nd rfl (Or.inl rfl) pe_int)
      (pss_cons (ps_set (i := 2) sc_l_worth.nd rfl (Or.inl rfl) pe_int)
      (pss_cons (ps_for PassesOwn.never rfl (pi_range1 (by rfl) T.m_range (pa_cons (pv 0) pa_nil)) (pg_name (i := 3) sc_l_worth.nd rfl (Or.inl rfl)) (pss_one (ps_par (i := 1) (j := 2) (by rfl) sc_l_worth.nd rfl rfl (by decide) rfl rfl (pa_cons (pv 2) (pa_cons (pe_op op_add (pv 1) (pv 2)) pa_nil)) (by rfl))))
      (pss_one (ps_ret (pv 1)))))), ?_⟩
    refine xq_set val_c ?_
    refine xq_set val_c ?_
    refine xq_forR (n := n) (xg_cons (val_var rfl) xg_nil) hn (fun i σ H' => ∃ y, σ = [some (.int (n : Int)), some (.int (W i)), some (.int (W (i + 1))), y] ∧ H' = H) ⟨_, rfl, rfl⟩ ?_ ?_
    · rintro i σ H' hi ⟨y, rfl, rfl⟩
      exact xs_par (xg_cons (val_var rfl) (xg_cons (xv_I0 (val_var rfl) (val_var rfl)) xg_nil)) ⟨_, rfl, rfl⟩
    · rintro σ H' ⟨y, rfl, rfl⟩
      exact st_ret (val_var rfl) q
theorem xv_worth {σ : L2.St} {H : Hp} {ta : TE} {n : Nat} (h : Val ta σ H (.int (n : Int))) (hn : n < 2 ^ 62) : Val (tCall sp_worth [] E0 (tCons ta tNil)) σ H (.int (W n)) :=
  xv_call (xg_cons h xg_nil) fun Q q => ⟨n, rfl, hn, q⟩
local macro_rules | `(tactic| walk_at "val+") => `(tactic| ((with_reducible apply xv_worth) <;> first | walk_at "val" | walk_at "side"))
/-! ### lists of ints alike -/
def sp_alike (K : PySem.W.Frag) : Sp := fun vs H Q _ => ∃ (a b : Addr) (ns : List Int), vs = [.ref a, .ref b] ∧ SqL K H a (ns.map V.int) ∧ SqL K H b (ns.map V.int) ∧ ns.length ≤ 100000 ∧ Q (.bl true) H
theorem ok_l_alike (T : Txt K mg) : FnOk P w K mg base CX0 2 T.f_l_alike T.d_l_alike ["_law_found", "_law_due"] (sp_alike K) := by
  refine T.F_l_alike.ok sc_l_alike (fun vs H Q E h => ?_) (fun cdv A outer s H vs Q E hr h => ?_)
  · obtain ⟨a, b, ns, rfl, _⟩ := h
    rfl
  · obtain ⟨a, b, ns, rfl, hS, hB, hz, q⟩ := h
    refine ⟨_, (pss_cons (ps_if (PW.pt (pw_or (pt_not (pt_val (pe_callB call_isi (by rfl) T.m_isinstance (by decide +kernel) (pa_cons (pv 0) (pa_cons (pe_bltn (v := .ty "list") (by rfl) T.m_list (by decide +kernel) rfl) pa_nil))))) (pw_or1 (pt_cmpR op_ne (pe_callB call_len_seq (by rfl) T.m_len PySem.boot_len (pa_cons (pv 0) pa_nil)) (pe_callB call_len_seq (by rfl) T.m_len PySem.boot_len (pa_cons (pv 1) pa_nil)) (nomark _))))) (pss_one (ps_ret pe_bl)) pss_nil)
      (pss_cons (ps_for PassesOwn.never rfl (pi_range1 (by rfl) T.m_range (pa_cons (pe_callB call_len_seq (by rfl) T.m_len PySem.boot_len (pa_cons (pv 1) pa_nil)) pa_nil)) (pg_name (i := 2) sc_l_alike.nd rfl (Or.inl rfl)) (pss_one (ps_if (PW.pt (pw_or (pt_not (pt_val (pe_call (ok_l_whole T) (hr.mono (by decide)) (by rfl) T.g_l_whole T.F_l_whole.kp T.b_l_whole .nil pass0 (pa_cons (pe_ix ix_list (pv 0) (pv 2) (fun _ _ => rfl)) pa_nil)))) (pw_or1 (pt_cmpR op_ne (pe_ix ix_list (pv 0) (pv 2) (fun _ _ => rfl)) (pe_ix ix_list (pv 1) (pv 2) (fun _ _ => rfl)) (nomark _))))) (pss_one (ps_ret pe_bl)) pss_nil)))
      (pss_one (ps_ret pe_bl)))), ?_⟩
    refine xs_when (b := false) (xa_or (a := false) (xa_not (a := true) (xa_B (xv_isi (val_var rfl) (tyx_L hS) (by decide +kernel)))) fun _ => xa_T (xv_to (xv_ne (xv_lenI (val_var rfl) hS) (xv_lenI (val_var rfl) hB) rfl) (by rw [decide_eq_true rfl]; rfl))) (fun z => (nomatch z)) (fun _ => ?_)
    refine xq_forR (n := ns.length) (by walk_at "arg") (by omega) (fun i σ H' => ∃ y, σ = [some (.ref a), some (.ref b), y] ∧ H' = H) ⟨none, rfl, rfl⟩ ?_ ?_
    · rintro i σ H' hi ⟨y, rfl, rfl⟩
      refine xs_if (b := false) (xa_or (a := false) (xa_not (a := true) (xa_B (xv_whole (xv_ix (i := (i : Int)) (val_var rfl) (val_var rfl) hS (by omega) (by omega))))) fun _ => xa_T (xv_to (xv_ne (xv_ix (i := (i : Int)) (val_var rfl) (val_var rfl) hS (by omega) (by omega)) (xv_ix (i := (i : Int)) (val_var rfl) (val_var rfl) hB (by omega) (by omega)) rfl) (by rw [decide_eq_true rfl]; rfl))) (fun z => (nomatch z)) (fun _ => ?_)
      exact ⟨_, rfl, rfl⟩
    · rintro σ H' ⟨y, rfl, rfl⟩
      exact st_ret val_c q
/-! ### is_number -/
def sp_is_number (K : PySem.W.Frag) : Sp := fun vs H Q _ => ∃ x : V, vs = [x] ∧ Kd K H x ∧ Q (.bl (numB x)) H
/-! ### still_heap: the row of a number -/
def sp_still_heap : Sp := fun vs H Q _ => ∃ n : Int, vs = [.int n] ∧ 0 ≤ n ∧ n < W 1000 ∧ ∀ H' p (xs : List Int), Same H H' → H p = none → H' p = some (.lst (xs.map V.int)) → Rw xs → S W 0 xs = n → xs.length ≤ 1000 → Q (.ref p) H'
theorem ok_still_heap (T : Txt K mg) : FnOk P w K mg base CX0 1 T.f_still_heap T.d_still_heap ["number"] sp_still_heap := by
  refine T.F_still_heap.ok sc_still_heap (fun vs H Q E h => ?_) (fun cdv A outer s H vs Q E hr h => ?_)
  · obtain ⟨n, rfl, _⟩ := h
    rfl
  · obtain ⟨n, rfl, hn0, hn1, q⟩ := h
    refine ⟨_, (pss_cons (ps_set (i := 1) sc_still_heap.nd rfl (Or.inl rfl) (pe_lst pa_nil))
      (pss_cons (ps_set (i := 2) sc_still_heap.nd rfl (Or.inl rfl) pe_int)
      (pss_cons (ps_set (i := 3) sc_still_heap.nd rfl (Or.inl rfl) pe_int)
      (pss_cons (ps_while PassesOwn.never (pt_cmpR op_le (pv 2) (pv 0) (nomark _)) (pss_cons (ps_expr (pe_bm PySem.F.plainAttrs_list PySem.F.slot_list_append PySem.F.type_list_append mt_append (pv 1) (pa_cons (pv 2) pa_nil)))
      (pss_one (ps_par (i := 2) (j := 3) (by rfl) sc_still_heap.nd rfl rfl (by decide) rfl rfl (pa_cons (pv 3) (pa_cons (pe_op op_add (pv 2) (pv 3)) pa_nil)) (by rfl)))))
      (pss_cons (ps_set (i := 4) sc_still_heap.nd rfl (Or.inl rfl) (pe_lst pa_nil))
      (pss_cons (ps_set (i := 5) sc_still_heap.nd rfl (Or.inl rfl) (pv 0))
      (pss_cons (ps_for PassesOwn.never rfl (pi_reversed (by rfl) T.m_reversed (pa_cons (pv 1) pa_nil)) (pg_name (i := 6) sc_still_heap.nd rfl (Or.inl rfl)) (pss_one (ps_if (pt_cmpR op_le (pv 6) (pv 5) (nomark _)) (pss_cons (ps_expr (pe_bm PySem.F.plainAttrs_list PySem.F.slot_list_append PySem.F.type_list_append mt_append (pv 4) (pa_cons pe_int pa_nil)))
      (pss_one (ps_set (i := 5) sc_still_heap.nd rfl (Or.inl rfl) (pe_op op_sub (pv 5) (pv 6))))) (pss_one (ps_expr (pe_bm PySem.F.plainAttrs_list PySem.F.slot_list_append PySem.F.type_list_append mt_append (pv 4) (pa_cons pe_int pa_nil)))))))
      (pss_one (ps_ret (pe_revL (pv 4))))))))))), ?_⟩
    refine Evl.q_asgL (Evl.el_lst Evl.ea_nil (by decide)) fun l H1 nl e1 h1 => ?_
    refine xq_set val_c ?_
    refine xq_set val_c ?_
    refine xq_while (fun m σ H' => ∃ k : Nat, σ = [some (.int n), some (.ref l), some (.int (W k)), some (.int (W (k + 1))), none, none, none] ∧ Same H H' ∧ H' l = some (.lst (((List.range k).map W).map V.int)) ∧ (0 < k → W (k - 1) ≤ n) ∧ k ≤ 1000 ∧ m = 1000 - k) 1000 ⟨0, rfl, e1, h1, fun z => (nomatch z), by omega, rfl⟩ ?_
    rintro m σ H2 ⟨k, rfl, e2, h2, hk, hk2, rfl⟩
    refine ⟨_, by walk_at "ans", fun hc => ?_, fun hc => ?_⟩
    · have hc : W k ≤ n := of_decide_eq_true hc
      have hlt : k < 1000 := by
        by_cases h : k < 1000
        · exact h
        · have := W_mono (i := 1000) (j := k) (by omega)
          omega
      refine Evl.q_app (l := l) h2 (Evl.ev_var rfl) (Evl.ev_var rfl) (by rw [List.length_map, List.length_map, List.length_range]; omega) fun H3 e3 => ?_
      refine xs_par (xg_cons (val_var rfl) (xg_cons (xv_I0 (val_var rfl) (val_var rfl)) xg_nil)) ⟨1000 - (k + 1), by omega, k + 1, rfl, same_mut (e2.trans e3) nl, ?_, fun _ => hc, by omega, rfl⟩
      rw [upd_same, List.range_succ, List.map_append, List.map_append]
      rfl
    · have hc : n < W k := by
        have := of_decide_eq_false hc
        omega
      refine Evl.q_asgL (Evl.el_lst Evl.ea_nil (by decide)) fun b H3 nb e3 h3 => ?_
      refine xq_set (val_var rfl) ?_
      have hbl : l ≠ b := ne_of_none h2 nb
      have nb0 : H b = none := Same.free e2 nb
      have hlen : (((List.range k).map W).map V.int).length = k := by rw [List.length_map, List.length_map, List.length_range]
      refine xq_forRev (xs := ((List.range k).map W).map V.int) (xg_cons (val_var rfl) xg_nil) (SqL.of (e3 l _ h2)) (fun i σ H' => ∃ (hs : List Int) (left : Int) (y : Option V), σ = [some (.int n), some (.ref l), some (.int (W k)), some (.int (W (k + 1))), some (.ref b), some (.int left), y] ∧ Same H H' ∧ H' l = some (.lst (((List.range k).map W).map V.int)) ∧ H' b = some (.lst (hs.map V.int)) ∧ hs ++ gr (k - i) left = gr k n ∧ hs.length = i)
        ⟨[], n, none, rfl, Same.trans e2 e3, e3 l _ h2, h3, rfl, rfl⟩ (fun i σ H h => by
          obtain ⟨hs, left, y, _, _, h, _⟩ := h
          exact SqL.of h) ?_ ?_
      · rintro i x σ H4 hi hx ⟨hs, left, y, rfl, e4, hl4, hb4, hg, hlen2⟩
        rw [hlen] at hi hx
        obtain ⟨j, hj⟩ : ∃ j, k - i = j + 1 := ⟨k - i - 1, by omega⟩
        have hj2 : k - 1 - i = j := by omega
        have hj3 : k - (i + 1) = j := by omega
        rw [hj2, List.getElem?_map, List.getElem?_map, List.getElem?_range (by omega)] at hx
        obtain rfl : V.int (W j) = x := Option.some.inj hx
        rw [hj] at hg
        refine xs_if (by walk_at "ans") (fun hc => ?_) (fun hc => ?_)
        · have hc := of_decide_eq_true hc
          refine Evl.q_app (l := b) hb4 (Evl.ev_var rfl) Evl.ev_c (by rw [List.length_map]; omega) fun H5 e5 => ?_
          refine st_set (xv_I0 (val_var rfl) (val_var rfl)) ⟨hs ++ [1], left - W j, _, rfl, same_mut (e4.trans e5) nb0, ?_, ?_, ?_, by rw [List.length_append, List.length_singleton, hlen2]⟩
          · rw [upd_ne hbl]
            exact e5 l _ hl4
          · rw [upd_same, List.map_append]
            rfl
          · rw [hj3, ← hg, List.append_assoc]
            congr 1
            show _ = gr (j + 1) left
            conv => rhs; unfold gr
            rw [if_pos hc]
            rfl
        · have hc := of_decide_eq_false hc
          refine Evl.s_app (l := b) hb4 (Evl.ev_var rfl) Evl.ev_c (by rw [List.length_map]; omega) fun H5 e5 => ?_
          refine ⟨hs ++ [0], left, _, rfl, same_mut (e4.trans e5) nb0, ?_, ?_, ?_, by rw [List.length_append, List.length_singleton, hlen2]⟩
          · rw [upd_ne hbl]
            exact e5 l _ hl4
          · rw [upd_same, List.map_append]
            rfl
          · rw [hj3, ← hg, List.append_assoc]
            congr 1
            show _ = gr (j + 1) left
            conv => rhs; unfold gr
            rw [if_neg hc]
            rfl
      · rintro σ H4 ⟨hs, left, y, rfl, e4, hl4, hb4, hg, hlen2⟩
        rw [hlen, Nat.sub_self] at hg
        have hg : hs = gr k n := by
          rw [← hg]
          show hs = hs ++ []
          rw [List.append_nil]
        obtain ⟨r1, r2⟩ := gr_rw hn0 hc hk
        refine Evl.s_retL (xl_revL (Evl.ev_var rfl) (SqL.of hb4)) fun p H5 np e5 h5 => ?_
        rw [← List.map_reverse, hg] at h5
        exact q H5 p _ (e4.trans e5) (Same.free e4 np) h5 r1 r2 (by rw [List.length_reverse, gr_len]; exact hk2)
/-! ### row_of -/
def sp_row_of (K : PySem.W.Frag) (C : Addr) : Sp := fun vs H Q E => ∃ x : V, vs = [x] ∧ Kd K H x ∧
  (∀ n : Int, x = .int n → 0 ≤ n → n < T60 → ∀ H' p (xs : List Int), Same H H' → H p = none → H' p = some (.lst (xs.map V.int)) → Rw xs → S W 0 xs = n → xs.length ≤ 1000 → Q (.ref p) H') ∧ (numB x = false → E (.ref C) none H)
/-! ### the law's own row of a number -/
def sp_lheap : Sp := fun vs H Q _ => ∃ n : Int, vs = [.int n] ∧ 0 ≤ n ∧ n < W 1000 ∧ ∀ H' p, Same H H' → H p = none → H' p = some (.lst ((rowOf n).map V.int)) → Q (.ref p) H'
theorem ok_l_heap (T : Txt K mg) : FnOk P w K mg base CX0 1 T.f_l_heap T.d_l_heap ["_law_number"] sp_lheap := by
  refine T.F_l_heap.ok sc_l_heap (fun vs H Q E h => ?_) (fun cdv A outer s H vs Q E hr h => ?_)
  · obtain ⟨n, rfl, _⟩ := h
    rfl
  · obtain ⟨n, rfl, hn0, hn1, q⟩ := h
    refine ⟨_, (pss_cons (ps_set (i := 1) sc_l_heap.nd rfl (Or.inl rfl) (pe_lst pa_nil))
      (pss_cons (ps_set (i := 2) sc_l_heap.nd rfl (Or.inl rfl) pe_int)
      (pss_cons (ps_set (i := 3) sc_l_heap.nd rfl (Or.inl rfl) pe_int)
      (pss_cons (ps_while PassesOwn.never (pt_cmpR op_le (pv 2) (pv 0) (nomark _)) (pss_cons (ps_expr (pe_bm PySem.F.plainAttrs_list PySem.F.slot_list_append PySem.F.type_list_append mt_append (pv 1) (pa_cons (pv 2) pa_nil)))
      (pss_one (ps_par (i := 2) (j := 3) (by rfl) sc_l_heap.nd rfl rfl (by decide) rfl rfl (pa_cons (pv 3) (pa_cons (pe_op op_add (pv 2) (pv 3)) pa_nil)) (by rfl)))))
      (pss_cons (ps_set (i := 4) sc_l_heap.nd rfl (Or.inl rfl) (pe_lst pa_nil))
      (pss_cons (ps_for PassesOwn.never rfl (pi_reversed (by rfl) T.m_reversed (pa_cons (pv 1) pa_nil)) (pg_name (i := 5) sc_l_heap.nd rfl (Or.inl rfl)) (pss_cons (ps_set (i := 6) sc_l_heap.nd rfl (Or.inl rfl) (pe_callTy call_int1 (by rfl) T.m_int (by decide +kernel) (pa_cons (pe_cmpR op_le (pv 5) (pv 0) (nomark _)) pa_nil)))
      (pss_cons (ps_set (i := 0) sc_l_heap.nd rfl (Or.inl rfl) (pe_op op_sub (pv 0) (pe_op op_mulW (pv 6) (pv 5))))
      (pss_one (ps_expr (pe_bm PySem.F.plainAttrs_list PySem.F.slot_list_append PySem.F.type_list_append mt_append (pv 4) (pa_cons (pv 6) pa_nil)))))))
      (pss_one (ps_ret (pe_revL (pv 4)))))))))), ?_⟩
    refine Evl.q_asgL (Evl.el_lst Evl.ea_nil (by decide)) fun l H1 nl e1 h1 => ?_
    refine xq_set val_c ?_
    refine xq_set val_c ?_
    refine xq_while (fun m σ H' => ∃ k : Nat, σ = [some (.int n), some (.ref l), some (.int (W k)), some (.int (W (k + 1))), none, none, none] ∧ Same H H' ∧ H' l = some (.lst (((List.range k).map W).map V.int)) ∧ (0 < k → W (k - 1) ≤ n) ∧ k ≤ 1000 ∧ m = 1000 - k) 1000 ⟨0, rfl, e1, h1, fun z => (nomatch z), by omega, rfl⟩ ?_
    rintro m σ H2 ⟨k, rfl, e2, h2, hk, hk2, rfl⟩
    refine ⟨_, by walk_at "ans", fun hc => ?_, fun hc => ?_⟩
    · have hc : W k ≤ n := of_decide_eq_true hc
      have hlt : k < 1000 := by
        by_cases h : k < 1000
        · exact h
        · have := W_mono (i := 1000) (j := k) (by omega)
          omega
      refine Evl.q_app (l := l) h2 (Evl.ev_var rfl) (Evl.ev_var rfl) (by rw [List.length_map, List.length_map, List.length_range]; omega) fun H3 e3 => ?_
      refine xs_par (xg_cons (val_var rfl) (xg_cons (xv_I0 (val_var rfl) (val_var rfl)) xg_nil)) ⟨1000 - (k + 1), by omega, k + 1, rfl, same_mut (e2.trans e3) nl, ?_, fun _ => hc, by omega, rfl⟩
      rw [upd_same, List.range_succ, List.map_append, List.map_append]
      rfl
    · have hc : n < W k := by
        have := of_decide_eq_false hc
        omega
      refine Evl.q_asgL (Evl.el_lst Evl.ea_nil (by decide)) fun b H3 nb e3 h3 => ?_
      have hbl : l ≠ b := ne_of_none h2 nb
      have nb0 : H b = none := Same.free e2 nb
      have hlen : (((List.range k).map W).map V.int).length = k := by rw [List.length_map, List.length_map, List.length_range]
      refine xq_forRev (xs := ((List.range k).map W).map V.int) (xg_cons (val_var rfl) xg_nil) (SqL.of (e3 l _ h2)) (fun i σ H' => ∃ (hs : List Int) (left : Int) (y z : Option V), σ = [some (.int left), some (.ref l), some (.int (W k)), some (.int (W (k + 1))), some (.ref b), y, z] ∧ Same H H' ∧ H' l = some (.lst (((List.range k).map W).map V.int)) ∧ H' b = some (.lst (hs.map V.int)) ∧ hs ++ gr (k - i) left = gr k n ∧ hs.length = i)
        ⟨[], n, none, none, rfl, Same.trans e2 e3, e3 l _ h2, h3, rfl, rfl⟩ (fun i σ H h => by
          obtain ⟨hs, left, y, z, _, _, h, _⟩ := h
          exact SqL.of h) ?_ ?_
      · rintro i x σ H4 hi hx ⟨hs, left, y, z, rfl, e4, hl4, hb4, hg, hlen2⟩
        rw [hlen] at hi hx
        obtain ⟨j, hj⟩ : ∃ j, k - i = j + 1 := ⟨k - i - 1, by omega⟩
        have hj2 : k - 1 - i = j := by omega
        have hj3 : k - (i + 1) = j := by omega
        rw [hj2, List.getElem?_map, List.getElem?_map, List.getElem?_range (by omega)] at hx
        obtain rfl : V.int (W j) = x := Option.some.inj hx
        rw [hj] at hg
        have hjb := W_bitsN j
        refine xq_set (xv_cb (v := .int (if decide (W j ≤ left) = true then 1 else 0)) (xg_cons (xv_I0 (val_var rfl) (val_var rfl)) xg_nil) fun Q q => .inr ⟨_, rfl, q⟩) ?_
        have hcm : CMulW (if decide (W j ≤ left) = true then 1 else 0) (W j) := wide_mul (a := 2) (by split <;> decide) hjb (by decide) (by omega) (by omega)
        refine xq_set (xv_I0 (val_var rfl) (xv_I (val_var rfl) (val_var rfl) hcm)) ?_
        refine Evl.s_app (l := b) hb4 (Evl.ev_var rfl) (Evl.ev_var rfl) (by rw [List.length_map]; omega) fun H5 e5 => ?_
        by_cases hc : W j ≤ left
        · rw [if_pos (decide_eq_true hc), Int.one_mul]
          refine ⟨hs ++ [1], left - W j, _, _, rfl, same_mut (e4.trans e5) nb0, ?_, ?_, ?_, by rw [List.length_append, List.length_singleton, hlen2]⟩
          · rw [upd_ne hbl]
            exact e5 l _ hl4
          · rw [upd_same, List.map_append]
            rfl
          · rw [hj3, ← hg, List.append_assoc]
            congr 1
            show _ = gr (j + 1) left
            conv => rhs; unfold gr
            rw [if_pos hc]
            rfl
        · rw [if_neg (by rw [decide_eq_true_eq]; exact hc), Int.zero_mul, Int.sub_zero]
          refine ⟨hs ++ [0], left, _, _, rfl, same_mut (e4.trans e5) nb0, ?_, ?_, ?_, by rw [List.length_append, List.length_singleton, hlen2]⟩
          · rw [upd_ne hbl]
            exact e5 l _ hl4
          · rw [upd_same, List.map_append]
            rfl
          · rw [hj3, ← hg, List.append_assoc]
            congr 1
            show _ = gr (j + 1) left
            conv => rhs; unfold gr
            rw [if_neg hc]
            rfl
      · rintro σ H4 ⟨hs, left, y, z, rfl, e4, hl4, hb4, hg, hlen2⟩
        rw [hlen, Nat.sub_self] at hg
        have hg : hs = gr k n := by
          rw [← hg]
          show hs = hs ++ []
          rw [List.append_nil]
        obtain ⟨r1, r2⟩ := gr_rw hn0 hc hk
        refine Evl.s_retL (xl_revL (Evl.ev_var rfl) (SqL.of hb4)) fun p H5 np e5 h5 => ?_
        rw [← List.map_reverse, hg, rowOf_is hn0 hn1 r1 r2] at h5
        exact q H5 p (e4.trans e5) (Same.free e4 np) h5
/-! ### the steps of a heap -/
def sp_steps (K : PySem.W.Frag) : Sp := fun vs H Q _ => ∃ (a : Addr) (xs : List Int), vs = [.ref a] ∧ SqL K H a (xs.map V.int) ∧ xs.length ≤ 40000 ∧ ∀ H' p, Same H H' → H p = none → H' p = some (.lst ((LS xs).map fun i : Nat => V.int (i : Int))) → Q (.ref p) H'
theorem ok_steps_of (T : Txt K mg) : FnOk P w K mg base CX0 1 T.f_steps_of T.d_steps_of ["heap"] (sp_steps K) := by
  refine T.F_steps_of.ok sc_steps_of (fun vs H Q E h => ?_) (fun cdv A outer s H vs Q E hr h => ?_)
  · obtain ⟨a, xs, rfl, _⟩ := h
    rfl
  · obtain ⟨a, xs, rfl, hS, hz, q⟩ := h
    refine ⟨_, (pss_one (ps_ret (pe_lc (own := [("step", 1)]) (g := gName 1) rfl sc_steps_of.nd (pi_range1 (by rfl) T.m_range (pa_cons (pe_callB call_len_seq (by rfl) T.m_len PySem.boot_len (pa_cons (pv 0) pa_nil)) pa_nil)) (blkOk_by (N := ["heap", "step"]) (sc := defScope st_steps_of) (by decide +kernel)) (fun _ _ _ _ _ => pg_name (i := 1) sc_steps_of.nd rfl (Or.inl rfl)) (fun _ _ _ _ _ => (pts_one (pt_cmpR op_gt (pe_ix (show IxR _ (rIxL K) from ix_list) (pv 0) (pv 1) (fun _ _ => rfl)) pe_int (nomark _)))) (fun _ _ _ _ _ => (pv 1))))), ?_⟩
    refine Evl.s_retL (Evl.el_lcR1 (n := (xs.length : Int)) (fun i => decide (0 < xs.getD i 0)) (fun i => V.int (i : Int)) (Evl.ea_cons (Evl.ev_is (xe_len (Evl.ev_var rfl) hS) (by rw [List.length_map])) Evl.ea_nil) (by omega) (fun _ => rfl)
      (fun i H1 e1 hi => Evl.et_test (xe_I0 (xe_ix (i := (i : Int)) (Evl.ev_var (i := 0) rfl) (Evl.ev_var (i := 1) rfl) (Same.seq e1 hS) (by omega) (by omega)) Evl.ev_c)) (fun i H1 e1 hi _ => Evl.ev_var (i := 1) rfl)) fun p H1 np e1 h1 => q H1 p e1 np h1
theorem el_steps {σ : L2.St} {H : Hp} {ta : TE} {a : Addr} {xs : List Int} (h : Evl.Ev ta σ H (.ref a)) (hS : SqL K H a (xs.map V.int)) (hz : xs.length ≤ 40000) : Evl.EvL (tCall (sp_steps K) [] E0 (tCons ta tNil)) σ H ((LS xs).map fun i : Nat => V.int (i : Int)) := fun H1 e Q q =>
  h H1 e _ fun H2 e2 => ⟨a, xs, rfl, Same.seq e2 (Same.seq e hS), hz, fun H3 p e3 np hp => q p H3 (Same.free e2 np) (Same.trans e2 e3) hp⟩
/-! ### woven -/
def sp_woven (K : PySem.W.Frag) : Sp := fun vs H Q _ => ∃ (a b : Addr) (m n : Int), vs = [.ref a, .ref b] ∧ SqL K H a ((rowOf m).map V.int) ∧ SqL K H b ((rowOf n).map V.int) ∧ (0 ≤ m ∧ m < W 1000) ∧ (0 ≤ n ∧ n < W 1000) ∧ 3 * (m * n) < W 1000 ∧ ∀ H' p, Same H H' → H p = none → H' p = some (.lst ((rowOf (wvN m n)).map V.int)) → Q (.ref p) H'
theorem ok_woven (T : Txt K mg) : FnOk P w K mg base CX0 2 T.f_woven T.d_woven ["one", "other"] (sp_woven K) := by
  refine T.F_woven.ok sc_woven (fun vs H Q E h => ?_) (fun cdv A outer s H vs Q E hr h => ?_)
  · obtain ⟨a, b, m, n, rfl, _⟩ := h
    rfl
  · obtain ⟨a, b, m, n, rfl, hA, hB, hm, hn, hb, q⟩ := h
    refine ⟨_, (pss_cons (ps_set (i := 2) sc_woven.nd rfl (Or.inl rfl) (pe_op op_rep (pe_lst (pa_cons pe_int pa_nil)) (pe_op op_add (pe_op op_add (pe_callB call_len_seq (by rfl) T.m_len PySem.boot_len (pa_cons (pv 0) pa_nil)) (pe_callB call_len_seq (by rfl) T.m_len PySem.boot_len (pa_cons (pv 1) pa_nil))) pe_int)))
      (pss_cons (ps_set (i := 3) sc_woven.nd rfl (Or.inl rfl) (pe_call (ok_steps_of T) (hr.mono (by decide)) (by rfl) T.g_steps_of T.F_steps_of.kp T.b_steps_of .nil pass0 (pa_cons (pv 1) pa_nil)))
      (pss_cons (ps_for PassesOwn.never rfl (pi_list (pe_call (ok_steps_of T) (hr.mono (by decide)) (by rfl) T.g_steps_of T.F_steps_of.kp T.b_steps_of .nil pass0 (pa_cons (pv 0) pa_nil))) (pg_name (i := 4) sc_woven.nd rfl (Or.inl rfl)) (pss_one (ps_for PassesOwn.never rfl (pi_list (pv 3)) (pg_name (i := 5) sc_woven.nd rfl (Or.inl rfl)) (pss_one (ps_asg (pe_op op_add (pe_ix ix_list (pv 2) (pe_op op_add (pe_op op_add (pv 4) (pv 5)) pe_int) (fun _ _ => rfl)) pe_int) (pg_sub (pv 2) (pe_op op_add (pe_op op_add (pv 4) (pv 5)) pe_int) set_list))))))
      (pss_one (ps_ret (pe_call (ok_still_heap T) (hr.mono (by decide)) (by rfl) T.g_still_heap T.F_still_heap.kp T.b_still_heap .nil pass0 (pa_cons (pe_call (ok_weight T) (hr.mono (by decide)) (by rfl) T.g_weight T.F_weight.kp T.b_weight .nil pass0 (pa_cons (pv 2) pa_nil)) pa_nil))))))), ?_⟩
    obtain ⟨w0, w1⟩ := wvN_in hm hn
    have hxz := (rowOf_rw hm.1 hm.2).zo
    have hyz := (rowOf_rw hn.1 hn.2).zo
    have hxl := rowOf_len hm.2
    have hyl := rowOf_len hn.2
    have hwv : wvN m n = wv (rowOf m) (rowOf n) := rfl
    generalize rowOf m = xs at hA hxz hxl hwv
    generalize rowOf n = ys at hB hyz hyl hwv
    have hsum : sumL (fun i => S (fun j => W (i + j + 2)) 0 ys) (LS xs) = wvN m n := by
      rw [hwv]
      exact LS_sum _ _ xs rfl hxz
    have hll := LS_len xs
    have hkl := LS_len ys
    refine Evl.q_asgL (xl_rep (k := (xs.length : Int) + (ys.length : Int) + 1) (Evl.el_lst (Evl.ea_cons Evl.ev_c Evl.ea_nil) (by decide)) (xe_I0 (xe_I0 (Evl.ev_is (xe_len (Evl.ev_var (i := 0) rfl) hA) (by rw [List.length_map])) (Evl.ev_is (xe_len (Evl.ev_var (i := 1) rfl) hB) (by rw [List.length_map]))) Evl.ev_c) (by omega) (by
      show 1 * _ ≤ 100000
      omega)) fun c H1 nc e1 h1 => ?_
    rw [flat_rep] at h1
    have hcl : (List.replicate ((xs.length : Int) + (ys.length : Int) + 1).toNat (0 : Int)).length = xs.length + ys.length + 1 := by
      rw [List.length_replicate]
      omega
    have hcN : NN (List.replicate ((xs.length : Int) + (ys.length : Int) + 1).toNat (0 : Int)) := fun x hx => by
      rw [(List.mem_replicate.mp hx).2]
      exact Int.le_refl _
    have hc1 : S one 0 (List.replicate ((xs.length : Int) + (ys.length : Int) + 1).toNat (0 : Int)) = 0 := S_zeros one _ _
    have hcw : S W 0 (List.replicate ((xs.length : Int) + (ys.length : Int) + 1).toNat (0 : Int)) = 0 := S_zeros W _ _
    generalize List.replicate ((xs.length : Int) + (ys.length : Int) + 1).toNat (0 : Int) = cs0 at h1 hcl hcN hc1 hcw
    refine Evl.q_asgL (el_steps (Evl.ev_var (i := 1) rfl) (Same.seq e1 hB) (by omega)) fun o H2 no e2 h2 => ?_
    have e02 : Same H H2 := Same.trans e1 e2
    have hco : c ≠ o := ne_of_none h1 no
    refine Evl.q_forNLn (el_steps (Evl.ev_var (i := 0) rfl) (e02.seq hA) (by omega)) (fun p k σ H' => ∃ (y z : Option V) (cs : List Int), σ = [some (.ref a), some (.ref b), some (.ref c), some (.ref o), y, z] ∧ Same H H' ∧ c ≠ p ∧ H' p = some (.lst ((LS xs).map fun i : Nat => V.int (i : Int))) ∧ H' o = some (.lst ((LS ys).map fun i : Nat => V.int (i : Int))) ∧ H' c = some (.lst (cs.map V.int)) ∧ cs.length = xs.length + ys.length + 1 ∧ NN cs ∧ S one 0 cs ≤ (k : Int) * 1000 ∧
      S W 0 cs = sumL (fun i => S (fun j => W (i + j + 2)) 0 ys) ((LS xs).take k))
      (fun p H3 np e3 h3 => ⟨none, none, cs0, rfl, e02.trans e3, (ne_of_none (e2 c _ h1) np), h3, e3 o _ h2, e3 c _ (e2 c _ h1), hcl, hcN, by omega, by rw [hcw]; rfl⟩) (fun p k σ' H' _ h => by
        obtain ⟨_, _, _, _, _, _, h, _⟩ := h
        exact SqL.of h) ?_ ?_
    · rintro p k x σ H3 hi ⟨y, z, cs, rfl, e3, hcp, hp, ho, hc, hl, hN, hone, hw⟩
      rw [List.getElem?_map] at hi
      obtain ⟨low, hlow, rfl⟩ := Option.map_eq_some_iff.mp hi
      have hlt := LS_lt (List.mem_of_getElem? hlow)
      refine Evl.s_forLn (a := o) (Evl.ev_var (i := 3) rfl) (SqL.of ho) (fun t σ H' => ∃ (z : Option V) (cs : List Int), σ = [some (.ref a), some (.ref b), some (.ref c), some (.ref o), some (.int (low : Int)), z] ∧ Same H H' ∧ H' p = some (.lst ((LS xs).map fun i : Nat => V.int (i : Int))) ∧ H' o = some (.lst ((LS ys).map fun i : Nat => V.int (i : Int))) ∧ H' c = some (.lst (cs.map V.int)) ∧ cs.length = xs.length + ys.length + 1 ∧ NN cs ∧ S one 0 cs ≤ (k : Int) * 1000 + (t : Int) ∧
        S W 0 cs = sumL (fun i => S (fun j => W (i + j + 2)) 0 ys) ((LS xs).take k) + sumL (fun j => W (low + j + 2)) ((LS ys).take t))
        (fun H4 e4 => ⟨z, cs, rfl, e3.trans e4, e4 p _ hp, e4 o _ ho, e4 c _ hc, hl, hN, by omega, by rw [hw]; show _ = _ + 0; omega⟩) (fun t σ' H' _ h => by
          obtain ⟨_, _, _, _, _, h, _⟩ := h
          exact SqL.of h) ?_ ?_
      · rintro t x σ H4 hi ⟨z, cs, rfl, e4, hp, ho, hc, hl, hN, hone, hw⟩
        rw [List.getElem?_map] at hi
        obtain ⟨high, hhigh, rfl⟩ := Option.map_eq_some_iff.mp hi
        have hht := LS_lt (List.mem_of_getElem? hhigh)
        refine xs_bump (d := 1) (i := low + high + 2) (fun x => rfl) (val_var (i := 2) rfl) (xv_I0 (xv_I0 (val_var (i := 4) rfl) (val_var (i := 5) rfl)) val_c) (by omega) hc (by omega) ?_
        refine ⟨_, _, rfl, same_mut e4 nc, ?_, ?_, upd_same, by rw [bump_len]; exact hl, hN.bump (by omega) ?_, ?_, ?_⟩
        · rw [upd_ne (Ne.symm hcp)]
          exact hp
        · rw [upd_ne (Ne.symm hco)]
          exact ho
        · have := hN.get (low + high + 2)
          omega
        · rw [S_bump one _ _ _ _ (by omega)]
          show _ + 1 * 1 ≤ _
          omega
        · rw [S_bump W _ _ _ _ (by omega), hw, sumL_take hhigh, Nat.zero_add]
          omega
      · rintro σ H4 ⟨z, cs, rfl, e4, hp, ho, hc, hl, hN, hone, hw⟩
        rw [List.length_map] at hone hw
        rw [List.take_length, LS_sum _ _ ys rfl hyz] at hw
        refine ⟨_, _, cs, rfl, e4, hcp, hp, ho, hc, hl, hN, by omega, ?_⟩
        rw [hw, sumL_take hlow]
    · rintro p σ H3 ⟨y, z, cs, rfl, e3, hcp, hp, ho, hc, hl, hN, hone, hw⟩
      rw [List.length_map] at hone hw
      rw [List.take_length, hsum] at hw
      have hone0 := S_nonneg (f := one) (fun _ => by unfold one; decide) cs 0 hN
      have hsm : Sm cs := sm_of hN (by omega) (Int.le_refl _) (by omega)
      refine xr_ret (xr_call (xg_go (xg_cons (xv_weight (val_var (i := 2) rfl) (SqL.of hc) hsm) xg_nil) ?_))
      have hwt : wt cs = wvN m n := hw
      refine ⟨wt cs, rfl, by omega, by omega, fun H' r zs e nr hr hR hz _ => q H' r (e3.trans e) (e3.free nr) ?_⟩
      rw [hr, rowOf_is w0 (by omega) hR (by rw [hz, hwt])]
/-! ### the pair of numbers -/
def sp_pair (K : PySem.W.Frag) : Sp := fun vs H Q _ => ∃ (a : Addr) (ns : List Int), vs = [.ref a] ∧ SqL K H a (ns.map V.int) ∧ ∀ H' p m n, Same H H' → (0 ≤ m ∧ m < W 1000) → (0 ≤ n ∧ n < W 1000) → 3 * (m * n) < W 1000 → H' p = some (.tup [.int m, .int n]) → Q (.ref p) H'
theorem ok_l_pair (T : Txt K mg) : FnOk P w K mg base CX0 2 T.f_l_pair T.d_l_pair ["_law_script"] (sp_pair K) := by
  refine T.F_l_pair.ok sc_l_pair (fun vs H Q E h => ?_) (fun cdv A outer s H vs Q E hr h => ?_)
  · obtain ⟨a, ns, rfl, _⟩ := h
    rfl
  · obtain ⟨a, ns, rfl, hS, q⟩ := h
    refine ⟨_, (pss_cons (ps_set (i := 1) sc_l_pair.nd rfl (Or.inl rfl) (pe_ix ix_list (pe_lst (pa_cons pe_int (pa_cons pe_int (pa_cons pe_int (pa_cons pe_int (pa_cons pe_int pa_nil)))))) (pe_op op_mod (pe_call (ok_l_cell T) (hr.mono (by decide)) (by rfl) T.g_l_cell T.F_l_cell.kp T.b_l_cell .nil pass0 (pa_cons (pv 0) (pa_cons pe_int pa_nil))) pe_int) (fun _ _ => rfl)))
      (pss_cons (ps_set (i := 2) sc_l_pair.nd rfl (Or.inl rfl) (pe_op op_mod (pe_call (ok_l_cell T) (hr.mono (by decide)) (by rfl) T.g_l_cell T.F_l_cell.kp T.b_l_cell .nil pass0 (pa_cons (pv 0) (pa_cons pe_int pa_nil))) (pe_op op_add (pv 1) pe_int)))
      (pss_cons (ps_set (i := 3) sc_l_pair.nd rfl (Or.inl rfl) (pe_op op_mod (pe_call (ok_l_cell T) (hr.mono (by decide)) (by rfl) T.g_l_cell T.F_l_cell.kp T.b_l_cell .nil pass0 (pa_cons (pv 0) (pa_cons pe_int pa_nil))) (pe_call (ok_l_worth T) (hr.mono (by decide)) (by rfl) T.g_l_worth T.F_l_worth.kp T.b_l_worth .nil pass0 (pa_cons (pe_op op_add (pv 2) pe_int) pa_nil))))
      (pss_cons (ps_set (i := 4) sc_l_pair.nd rfl (Or.inl rfl) (pe_op op_mod (pe_call (ok_l_cell T) (hr.mono (by decide)) (by rfl) T.g_l_cell T.F_l_cell.kp T.b_l_cell .nil pass0 (pa_cons (pv 0) (pa_cons pe_int pa_nil))) (pe_call (ok_l_worth T) (hr.mono (by decide)) (by rfl) T.g_l_worth T.F_l_worth.kp T.b_l_worth .nil pass0 (pa_cons (pe_op op_add (pe_op op_sub (pv 1) (pv 2)) pe_int) pa_nil))))
      (pss_cons (ps_set (i := 5) sc_l_pair.nd rfl (Or.inl rfl) (pe_op op_mod (pe_call (ok_l_cell T) (hr.mono (by decide)) (by rfl) T.g_l_cell T.F_l_cell.kp T.b_l_cell .nil pass0 (pa_cons (pv 0) (pa_cons pe_int pa_nil))) pe_int))
      (Evl.pss_cut (ps_if (PW.pt (pw_or (pt_cmpR op_eq (pv 5) pe_int (nomark _)) (pw_or1 (pt_cmpR op_eq (pv 5) pe_int (nomark _))))) (pss_one (ps_set (i := 3) sc_l_pair.nd rfl (Or.inl rfl) (pe_op op_sub (pe_call (ok_l_worth T) (hr.mono (by decide)) (by rfl) T.g_l_worth T.F_l_worth.kp T.b_l_worth .nil pass0 (pa_cons (pe_op op_add (pv 2) pe_int) pa_nil)) pe_int))) pss_nil)
      (Evl.pss_cut (ps_if (PW.pt (pw_or (pt_cmpR op_eq (pv 5) pe_int (nomark _)) (pw_or1 (pt_cmpR op_eq (pv 5) pe_int (nomark _))))) (pss_one (ps_set (i := 4) sc_l_pair.nd rfl (Or.inl rfl) (pe_op op_sub (pe_call (ok_l_worth T) (hr.mono (by decide)) (by rfl) T.g_l_worth T.F_l_worth.kp T.b_l_worth .nil pass0 (pa_cons (pe_op op_add (pe_op op_sub (pv 1) (pv 2)) pe_int) pa_nil)) pe_int))) pss_nil)
      (Evl.pss_cut (ps_if (PW.pt (pw_or (pt_cmpR op_eq (pv 5) pe_int (nomark _)) (pw_or1 (pt_cmpR op_eq (pv 5) pe_int (nomark _))))) (pss_one (ps_set (i := 3) sc_l_pair.nd rfl (Or.inl rfl) (pe_call (ok_l_worth T) (hr.mono (by decide)) (by rfl) T.g_l_worth T.F_l_worth.kp T.b_l_worth .nil pass0 (pa_cons (pv 2) pa_nil)))) pss_nil)
      (Evl.pss_cut (ps_if (PW.pt (pw_or (pt_cmpR op_eq (pv 5) pe_int (nomark _)) (pw_or1 (pt_cmpR op_eq (pv 5) pe_int (nomark _))))) (pss_one (ps_set (i := 4) sc_l_pair.nd rfl (Or.inl rfl) (pe_call (ok_l_worth T) (hr.mono (by decide)) (by rfl) T.g_l_worth T.F_l_worth.kp T.b_l_worth .nil pass0 (pa_cons (pe_op op_sub (pv 1) (pv 2)) pa_nil)))) pss_nil)
      (pss_one (ps_ret (pe_tup (pa_cons (pv 3) (pa_cons (pv 4) pa_nil)))))))))))))), ?_⟩
    have hmo : ∃ mo : Nat, atI [V.int 20, V.int 100, V.int 20, V.int 100, V.int 296] (ns.getD 3 0 % 5) = some (.int (mo : Int)) ∧ mo ≤ 296 := by
      rcases (show ns.getD 3 0 % 5 = 0 ∨ ns.getD 3 0 % 5 = 1 ∨ ns.getD 3 0 % 5 = 2 ∨ ns.getD 3 0 % 5 = 3 ∨ ns.getD 3 0 % 5 = 4 by omega) with h | h | h | h | h <;> rw [h]
      · exact ⟨20, rfl, by decide⟩
      · exact ⟨100, rfl, by decide⟩
      · exact ⟨20, rfl, by decide⟩
      · exact ⟨100, rfl, by decide⟩
      · exact ⟨296, rfl, by decide⟩
    obtain ⟨mo, hat, hmo⟩ := hmo
    refine xq_run (xr_opR ?_)
    refine (Evl.el_lst (Evl.ea_cons Evl.ev_c (Evl.ea_cons Evl.ev_c (Evl.ea_cons Evl.ev_c (Evl.ea_cons Evl.ev_c (Evl.ea_cons Evl.ev_c Evl.ea_nil))))) (by show 5 ≤ 100000; omega)) H (Evl.Ex.refl H) _ fun lw H1 nw e1 h1 => ?_
    have hS1 := Same.seq e1 hS
    refine xv_go (xv_I (C := fun _ j => 0 < j) (xv_cell (j := 3) (val_var (i := 0) rfl) val_c hS1) val_c (by decide)) ?_
    refine ⟨lw, _, _, .int (mo : Int), rfl, rfl, SqL.of h1, hat, ?_⟩
    have hm1 : 0 < (mo : Int) + 1 := by omega
    have ht : 0 ≤ ns.getD 2 0 % ((mo : Int) + 1) ∧ ns.getD 2 0 % ((mo : Int) + 1) < (mo : Int) + 1 := ⟨Int.emod_nonneg _ (by omega), Int.emod_lt_of_pos _ hm1⟩
    obtain ⟨tp, htp⟩ : ∃ t : Nat, ns.getD 2 0 % ((mo : Int) + 1) = (t : Int) := ⟨_, (Int.toNat_of_nonneg ht.1).symm⟩
    have htl : tp ≤ mo := by omega
    obtain ⟨up, hup⟩ : ∃ u : Nat, mo = tp + u := ⟨mo - tp, by omega⟩
    subst hup
    refine xq_set (xv_to (xv_I (C := fun _ j => 0 < j) (g := fun i j => .int (i % j)) (xv_cell (j := 2) (val_var (i := 0) rfl) val_c hS1) (xv_I0 (val_var (i := 1) rfl) val_c) hm1) (congrArg V.int htp)) ?_
    have wt1 : ∀ {σ : L2.St} {ta : TE}, Val ta σ H1 (.int (tp : Int)) → Val (tCall sp_worth [] E0 (tCons (tOp (rI0 fun i j => .int (i + j)) ta (tC (.int 1))) tNil)) σ H1 (.int (W (tp + 1))) := fun h => xv_worth (n := tp + 1) (xv_I0 (g := fun i j => .int (i + j)) h val_c) (by omega)
    have wt0 : ∀ {σ : L2.St} {ta : TE}, Val ta σ H1 (.int (tp : Int)) → Val (tCall sp_worth [] E0 (tCons ta tNil)) σ H1 (.int (W tp)) := fun h => xv_worth (n := tp) h (by omega)
    have wu1 : ∀ {σ : L2.St} {ta tb : TE}, Val ta σ H1 (.int ((tp + up : Nat) : Int)) → Val tb σ H1 (.int (tp : Int)) → Val (tCall sp_worth [] E0 (tCons (tOp (rI0 fun i j => .int (i + j)) (tOp (rI0 fun i j => .int (i - j)) ta tb) (tC (.int 1))) tNil)) σ H1 (.int (W (up + 1))) := fun h h2 =>
      xv_worth (n := up + 1) (xv_to (xv_I0 (g := fun i j => .int (i + j)) (xv_I0 (g := fun i j => .int (i - j)) h h2) val_c) (congrArg V.int (by omega))) (by omega)
    have wu0 : ∀ {σ : L2.St} {ta tb : TE}, Val ta σ H1 (.int ((tp + up : Nat) : Int)) → Val tb σ H1 (.int (tp : Int)) → Val (tCall sp_worth [] E0 (tCons (tOp (rI0 fun i j => .int (i - j)) ta tb) tNil)) σ H1 (.int (W up)) := fun h h2 =>
      xv_worth (n := up) (xv_to (xv_I0 (g := fun i j => .int (i - j)) h h2) (congrArg V.int (by omega))) (by omega)
    have p1 := W_pos (tp + 1)
    have p2 := W_pos (up + 1)
    have l1 := W_lt tp
    have l2 := W_lt up
    have q1 := W_pos tp
    have q2 := W_pos up
    refine xq_set (xv_I (C := fun _ j => 0 < j) (xv_cell (j := 0) (val_var (i := 0) rfl) val_c hS1) (wt1 (val_var (i := 2) rfl)) p1) ?_
    refine xq_set (xv_I (C := fun _ j => 0 < j) (xv_cell (j := 1) (val_var (i := 0) rfl) val_c hS1) (wu1 (val_var (i := 1) rfl) (val_var (i := 2) rfl)) p2) ?_
    refine xq_set (xv_I (C := fun _ j => 0 < j) (xv_cell (j := 4) (val_var (i := 0) rfl) val_c hS1) val_c (by decide)) ?_
    have o0 : 0 ≤ ns.getD 0 0 % W (tp + 1) ∧ ns.getD 0 0 % W (tp + 1) < W (tp + 1) := ⟨Int.emod_nonneg _ (by omega), Int.emod_lt_of_pos _ p1⟩
    have o1 : 0 ≤ ns.getD 1 0 % W (up + 1) ∧ ns.getD 1 0 % W (up + 1) < W (up + 1) := ⟨Int.emod_nonneg _ (by omega), Int.emod_lt_of_pos _ p2⟩
    generalize ns.getD 0 0 % W (tp + 1) = one at o0
    generalize ns.getD 1 0 % W (up + 1) = other at o1
    generalize ns.getD 4 0 % 8 = way
    let Mid : L2.St → Hp → Prop := fun σ H' => ∃ m n : Int, σ = [some (.ref a), some (.int ((tp + up : Nat) : Int)), some (.int (tp : Int)), some (.int m), some (.int n), some (.int way)] ∧ H' = H1 ∧ (0 ≤ m ∧ m < W (tp + 1)) ∧ (0 ≤ n ∧ n < W (up + 1))
    have M0 : ∀ {σ : L2.St} {t : TE} {v : Int} {D : Ends} {m n : Int}, σ = [some (.ref a), some (.int ((tp + up : Nat) : Int)), some (.int (tp : Int)), some (.int m), some (.int n), some (.int way)] → (0 ≤ n ∧ n < W (up + 1)) → Val t σ H1 (.int v) → (0 ≤ v ∧ v < W (tp + 1)) → D.nx = Mid → tAsg t (gName 3) D σ H1 := by
      intro σ t v D m n e hn hv hb hD
      subst e
      refine hv _ ?_
      show D.nx _ _
      rw [hD]
      exact ⟨v, n, rfl, rfl, hb, hn⟩
    have M1 : ∀ {σ : L2.St} {t : TE} {v : Int} {D : Ends} {m n : Int}, σ = [some (.ref a), some (.int ((tp + up : Nat) : Int)), some (.int (tp : Int)), some (.int m), some (.int n), some (.int way)] → (0 ≤ m ∧ m < W (tp + 1)) → Val t σ H1 (.int v) → (0 ≤ v ∧ v < W (up + 1)) → D.nx = Mid → tAsg t (gName 4) D σ H1 := by
      intro σ t v D m n e hm hv hb hD
      subst e
      refine hv _ ?_
      show D.nx _ _
      rw [hD]
      exact ⟨m, v, rfl, rfl, hm, hb⟩
    refine xs_cut (Mid := Mid) ?_ ?_
    · exact xs_if (by walk_at "ans") (fun _ => M0 rfl o1 (xv_I0 (wt1 (val_var (i := 2) rfl)) val_c) ⟨by omega, by omega⟩ rfl) (fun _ => ⟨one, other, rfl, rfl, o0, o1⟩)
    rintro σ H' ⟨m, n, rfl, rfl, hm, hn⟩
    refine xs_cut (Mid := Mid) ?_ ?_
    · exact xs_if (by walk_at "ans") (fun _ => M1 rfl hm (xv_I0 (wu1 (val_var (i := 1) rfl) (val_var (i := 2) rfl)) val_c) ⟨by omega, by omega⟩ rfl) (fun _ => ⟨m, n, rfl, rfl, hm, hn⟩)
    rintro σ H' ⟨m, n, rfl, rfl, hm, hn⟩
    refine xs_cut (Mid := Mid) ?_ ?_
    · exact xs_if (by walk_at "ans") (fun _ => M0 rfl hn (wt0 (val_var (i := 2) rfl)) ⟨by omega, by omega⟩ rfl) (fun _ => ⟨m, n, rfl, rfl, hm, hn⟩)
    rintro σ H' ⟨m, n, rfl, rfl, hm, hn⟩
    refine xs_cut (Mid := Mid) ?_ ?_
    · exact xs_if (by walk_at "ans") (fun _ => M1 rfl hm (wu0 (val_var (i := 1) rfl) (val_var (i := 2) rfl)) ⟨by omega, by omega⟩ rfl) (fun _ => ⟨m, n, rfl, rfl, hm, hn⟩)
    rintro σ H' ⟨m, n, rfl, rfl, hm, hn⟩
    have hw1 : W (tp + 1) ≤ W 1000 := W_mono (by omega)
    have hw2 : W (up + 1) ≤ W 1000 := W_mono (by omega)
    refine Evl.s_retU (Evl.eu_tup (Evl.ea_cons (Evl.ev_var (i := 3) rfl) (Evl.ea_cons (Evl.ev_var (i := 4) rfl) Evl.ea_nil)) (by show 2 ≤ 100000; omega)) fun p H2 np e2 h2 => ?_
    exact q H2 p m n (Same.trans e1 e2) ⟨hm.1, by omega⟩ ⟨hn.1, by omega⟩ (pair_in hm.1 hm.2 hn.1 hn.2 (by omega)) h2
/-! ### laid -/
def sp_laid (K : PySem.W.Frag) : Sp := fun vs H Q _ => ∃ (a b : Addr) (m n : Int), vs = [.ref a, .ref b] ∧ SqL K H a ((rowOf m).map V.int) ∧ SqL K H b ((rowOf n).map V.int) ∧ (0 ≤ m ∧ m < W 1000) ∧ (0 ≤ n ∧ n < W 1000) ∧ ∀ H' p (cs : List Int), Same H H' → H p = none → H' p = some (.lst (cs.map V.int)) → Sm cs → wt cs = wvN m n → Q (.ref p) H'
theorem ok_l_laid (T : Txt K mg) : FnOk P w K mg base CX0 1 T.f_l_laid T.d_l_laid ["_law_left", "_law_right"] (sp_laid K) := by
  refine T.F_l_laid.ok sc_l_laid (fun vs H Q E h => ?_) (fun cdv A outer s H vs Q E hr h => ?_)
  · obtain ⟨a, b, m, n, rfl, _⟩ := h
    rfl
  · obtain ⟨a, b, m, n, rfl, hA, hB, hm, hn, q⟩ := h
    refine ⟨_, (pss_cons (ps_set (i := 2) sc_l_laid.nd rfl (Or.inl rfl) (pe_op op_rep (pe_lst (pa_cons pe_int pa_nil)) (pe_op op_add (pe_op op_add (pe_callB call_len_seq (by rfl) T.m_len PySem.boot_len (pa_cons (pv 0) pa_nil)) (pe_callB call_len_seq (by rfl) T.m_len PySem.boot_len (pa_cons (pv 1) pa_nil))) pe_int)))
      (pss_cons (ps_for PassesOwn.never rfl (pi_range1 (by rfl) T.m_range (pa_cons (pe_callB call_len_seq (by rfl) T.m_len PySem.boot_len (pa_cons (pv 0) pa_nil)) pa_nil)) (pg_name (i := 3) sc_l_laid.nd rfl (Or.inl rfl)) (pss_one (ps_if (pt_cmpR op_eq (pe_ix ix_list (pv 0) (pv 3) (fun _ _ => rfl)) pe_int (nomark _)) (pss_one (ps_for PassesOwn.never rfl (pi_range1 (by rfl) T.m_range (pa_cons (pe_callB call_len_seq (by rfl) T.m_len PySem.boot_len (pa_cons (pv 1) pa_nil)) pa_nil)) (pg_name (i := 4) sc_l_laid.nd rfl (Or.inl rfl)) (pss_cons (ps_set (i := 5) sc_l_laid.nd rfl (Or.inl rfl) (pe_op op_add (pe_op op_add (pv 3) (pv 4)) pe_int))
      (pss_one (ps_asg (pe_op op_add (pe_ix ix_list (pv 2) (pv 5) (fun _ _ => rfl)) (pe_ix ix_list (pv 1) (pv 4) (fun _ _ => rfl))) (pg_sub (pv 2) (pv 5) set_list)))))) pss_nil)))
      (pss_one (ps_ret (pv 2))))), ?_⟩
    have hxz := (rowOf_rw hm.1 hm.2).zo
    have hyz := (rowOf_rw hn.1 hn.2).zo
    have hxl := rowOf_len hm.2
    have hyl := rowOf_len hn.2
    have hwv : wvN m n = wv (rowOf m) (rowOf n) := rfl
    generalize rowOf m = xs at hA hxz hxl hwv
    generalize rowOf n = ys at hB hyz hyl hwv
    refine Evl.q_asgL (xl_rep (k := (xs.length : Int) + (ys.length : Int) + 1) (Evl.el_lst (Evl.ea_cons Evl.ev_c Evl.ea_nil) (by decide)) (xe_I0 (xe_I0 (Evl.ev_is (xe_len (Evl.ev_var (i := 0) rfl) hA) (by rw [List.length_map])) (Evl.ev_is (xe_len (Evl.ev_var (i := 1) rfl) hB) (by rw [List.length_map]))) Evl.ev_c) (by omega) (by
      show 1 * _ ≤ 100000
      omega)) fun c H1 nc e1 h1 => ?_
    rw [flat_rep] at h1
    have hcl : (List.replicate ((xs.length : Int) + (ys.length : Int) + 1).toNat (0 : Int)).length = xs.length + ys.length + 1 := by
      rw [List.length_replicate]
      omega
    have hcN : NN (List.replicate ((xs.length : Int) + (ys.length : Int) + 1).toNat (0 : Int)) := fun x hx => by
      rw [(List.mem_replicate.mp hx).2]
      exact Int.le_refl _
    have hc1 : S one 0 (List.replicate ((xs.length : Int) + (ys.length : Int) + 1).toNat (0 : Int)) = 0 := S_zeros one _ _
    have hcw : S W 0 (List.replicate ((xs.length : Int) + (ys.length : Int) + 1).toNat (0 : Int)) = 0 := S_zeros W _ _
    generalize List.replicate ((xs.length : Int) + (ys.length : Int) + 1).toNat (0 : Int) = cs0 at h1 hcl hcN hc1 hcw
    have hA1 := Same.seq e1 hA
    refine xq_forR (n := xs.length) (by walk_at "arg") (by omega) (fun i σ H' => ∃ (y z w : Option V) (cs : List Int), σ = [some (.ref a), some (.ref b), some (.ref c), y, z, w] ∧ Same H H' ∧ H' c = some (.lst (cs.map V.int)) ∧ cs.length = xs.length + ys.length + 1 ∧ NN cs ∧ S one 0 cs ≤ (i : Int) * 1000 ∧ S W 0 cs = S (fun i => S (fun j => W (i + j + 2)) 0 ys) 0 (xs.take i))
      ⟨none, none, none, cs0, rfl, e1, h1, hcl, hcN, by omega, by rw [hcw]; rfl⟩ ?_ ?_
    · rintro i σ H2 hi ⟨y, z, w', cs, rfl, e2, hc, hl, hN, hone, hw⟩
      have hA2 := e2.seq hA
      have hB2 := e2.seq hB
      have hxi := get_of hi
      have hx01 := hxz _ (List.mem_of_getElem? hxi)
      refine xs_if (xa_T (xv_eq (xv_ix (i := (i : Int)) (val_var (i := 0) rfl) (val_var (i := 3) rfl) hA2 (by omega) (by omega)) val_c rfl)) (fun hb => ?_) (fun hb => ?_)
      · have hx1 : xs.getD i 0 = 1 := V.int.inj (of_decide_eq_true hb)
        refine xs_forR (n := ys.length) (by walk_at "arg") (by omega) (fun t σ H' => ∃ (z w : Option V) (cs : List Int), σ = [some (.ref a), some (.ref b), some (.ref c), some (.int (i : Int)), z, w] ∧ Same H H' ∧ H' c = some (.lst (cs.map V.int)) ∧ cs.length = xs.length + ys.length + 1 ∧ NN cs ∧ S one 0 cs ≤ (i : Int) * 1000 + (t : Int) ∧ S W 0 cs = S (fun i => S (fun j => W (i + j + 2)) 0 ys) 0 (xs.take i) + S (fun j => W (i + j + 2)) 0 (ys.take t))
          ⟨z, w', cs, rfl, e2, hc, hl, hN, by omega, by rw [hw]; show _ = _ + 0; omega⟩ ?_ ?_
        · rintro t σ H3 ht ⟨z, w', cs, rfl, e3, hc, hl, hN, hone, hw⟩
          have hB3 := e3.seq hB
          have hyt := get_of ht
          have hy01 := hyz _ (List.mem_of_getElem? hyt)
          refine xq_set (xv_to (xv_I0 (xv_I0 (val_var (i := 3) rfl) (val_var (i := 4) rfl)) val_c) (show V.int ((i : Int) + (t : Int) + 2) = V.int ((i + t + 2 : Nat) : Int) from congrArg V.int (by omega))) ?_
          refine xs_setI (i := ((i + t + 2 : Nat) : Int)) (xv_I0 (xv_ix (i := ((i + t + 2 : Nat) : Int)) (val_var (i := 2) rfl) (val_var (i := 5) rfl) (SqL.of hc) (by omega) (by omega)) (xv_ix (i := (t : Int)) (val_var (i := 1) rfl) (val_var (i := 4) rfl) hB3 (by omega) (by omega))) (val_var (i := 2) rfl) (val_var (i := 5) rfl) hc (by omega) (by omega) ?_
          show ∃ _, _
          refine ⟨_, _, Sh.bump cs (i + t + 2) (ys.getD t 0), rfl, same_mut e3 nc, upd_same, by rw [bump_len]; exact hl, hN.bump (by omega) ?_, ?_, ?_⟩
          · have := hN.get (i + t + 2)
            omega
          · rw [S_bump one _ _ _ _ (by omega)]
            show _ + ys.getD t 0 * 1 ≤ _
            omega
          · rw [S_bump W _ _ _ _ (by omega), hw, S_take hyt, Nat.zero_add, Nat.zero_add]
            omega
        · rintro σ H3 ⟨z, w', cs, rfl, e3, hc, hl, hN, hone, hw⟩
          rw [List.take_length] at hw
          refine ⟨_, _, _, cs, rfl, e3, hc, hl, hN, by omega, ?_⟩
          rw [hw, S_take hxi, hx1, Nat.zero_add, Int.one_mul]
      · have hx0 : xs.getD i 0 = 0 := by
          rcases hx01 with h | h
          · exact h
          · exact absurd (by rw [show ((i : Int)).toNat = i from rfl, h]) (of_decide_eq_false hb)
        refine ⟨_, _, _, cs, rfl, e2, hc, hl, hN, by omega, ?_⟩
        rw [hw, S_take hxi, hx0, Int.zero_mul, Int.add_zero]
    · rintro σ H2 ⟨y, z, w', cs, rfl, e2, hc, hl, hN, hone, hw⟩
      rw [List.take_length] at hw
      have hone0 := S_nonneg (f := one) (fun _ => by unfold one; decide) cs 0 hN
      exact st_ret (val_var (i := 2) rfl) (q H2 c cs e2 nc hc (sm_of hN (by omega) (Int.le_refl _) (by omega)) (by rw [hwv]; exact hw))
/-! ### the law -/
def sp_law (K : PySem.W.Frag) : Sp := fun vs H Q _ => ∃ (a : Addr) (ns : List Int), vs = [.ref a] ∧ SqL K H a (ns.map V.int) ∧ ns.length ≤ 63 ∧ ∀ H', Q (.bl true) H'
theorem xv_alike {σ : L2.St} {H : Hp} {ta tb : TE} {a b : Addr} {ns : List Int} (h : Val ta σ H (.ref a)) (h2 : Val tb σ H (.ref b)) (hA : SqL K H a (ns.map V.int)) (hB : SqL K H b (ns.map V.int)) (hz : ns.length ≤ 100000) : Val (tCall (sp_alike K) [] E0 (tCons ta (tCons tb tNil))) σ H (.bl true) :=
  xv_call (xg_cons h (xg_cons h2 xg_nil)) fun Q q => ⟨a, b, ns, rfl, hA, hB, hz, q⟩
theorem ok_law (T : Txt K mg) : FnOk P w K mg base CX0 3 T.f_law T.d_law ["_law_script"] (sp_law K) := by
  refine T.F_law.ok sc_law (fun vs H Q E h => ?_) (fun cdv A outer s H vs Q E hr h => ?_)
  · obtain ⟨a, ns, rfl, _⟩ := h
    rfl
  · obtain ⟨a, ns, rfl, hS, hl, q⟩ := h
    refine ⟨_, (pss_cons (ps_asg (pe_call (ok_l_pair T) (hr.mono (by decide)) (by rfl) T.g_l_pair T.F_l_pair.kp T.b_l_pair .nil pass0 (pa_cons (pv 0) pa_nil)) (pg_tup rfl (pgs_cons (pg_name (i := 1) sc_law.nd rfl (Or.inl rfl)) (pgs_cons (pg_name (i := 2) sc_law.nd rfl (Or.inl rfl)) pgs_nil))))
      (pss_cons (ps_set (i := 3) sc_law.nd rfl (Or.inl rfl) (pe_call (ok_l_heap T) (hr.mono (by decide)) (by rfl) T.g_l_heap T.F_l_heap.kp T.b_l_heap .nil pass0 (pa_cons (pv 1) pa_nil)))
      (pss_cons (ps_set (i := 4) sc_law.nd rfl (Or.inl rfl) (pe_call (ok_l_heap T) (hr.mono (by decide)) (by rfl) T.g_l_heap T.F_l_heap.kp T.b_l_heap .nil pass0 (pa_cons (pv 2) pa_nil)))
      (pss_cons (ps_set (i := 5) sc_law.nd rfl (Or.inl rfl) (pe_call (ok_l_heap T) (hr.mono (by decide)) (by rfl) T.g_l_heap T.F_l_heap.kp T.b_l_heap .nil pass0 (pa_cons (pe_call (ok_l_weighed T) (hr.mono (by decide)) (by rfl) T.g_l_weighed T.F_l_weighed.kp T.b_l_weighed .nil pass0 (pa_cons (pe_call (ok_l_laid T) (hr.mono (by decide)) (by rfl) T.g_l_laid T.F_l_laid.kp T.b_l_laid .nil pass0 (pa_cons (pv 3) (pa_cons (pv 4) pa_nil))) pa_nil)) pa_nil)))
      (pss_cons (ps_set (i := 6) sc_law.nd rfl (Or.inl rfl) (pe_lst (pa_cons (pe_callTy call_list_of (by rfl) T.m_list (by decide +kernel) (pa_cons (pv 3) pa_nil)) (pa_cons (pe_callTy call_list_of (by rfl) T.m_list (by decide +kernel) (pa_cons (pv 4) pa_nil)) pa_nil))))
      (pss_cons (ps_set (i := 7) sc_law.nd rfl (Or.inl rfl) (pe_call (ok_woven T) (hr.mono (by decide)) (by rfl) T.g_woven T.F_woven.kp T.b_woven .nil pass0 (pa_cons (pe_ix ix_list (pv 6) pe_int (fun _ _ => rfl)) (pa_cons (pe_ix ix_list (pv 6) pe_int (fun _ _ => rfl)) pa_nil))))
      (pss_cons (ps_if (PW.pt (pw_or (pt_not (pt_val (pe_call (ok_l_alike T) (hr.mono (by decide)) (by rfl) T.g_l_alike T.F_l_alike.kp T.b_l_alike .nil pass0 (pa_cons (pv 7) (pa_cons (pv 5) pa_nil))))) (pw_or1 (pt_cmpR (op_neD hr.units) (pv 6) (pe_lst (pa_cons (pv 3) (pa_cons (pv 4) pa_nil))) (nomark _))))) (pss_one (ps_ret pe_bl)) pss_nil)
      (pss_cons (ps_set (i := 8) sc_law.nd rfl (Or.inl rfl) (pe_callTy call_list_of (by rfl) T.m_list (by decide +kernel) (pa_cons (pv 7) pa_nil)))
      (pss_cons (ps_if (PW.pt (pw_or (pt_not (pt_val (pe_call (ok_l_alike T) (hr.mono (by decide)) (by rfl) T.g_l_alike T.F_l_alike.kp T.b_l_alike .nil pass0 (pa_cons (pe_call (ok_woven T) (hr.mono (by decide)) (by rfl) T.g_woven T.F_woven.kp T.b_woven .nil pass0 (pa_cons (pv 3) (pa_cons (pe_lst pa_nil) pa_nil))) (pa_cons (pe_lst pa_nil) pa_nil))))) (pw_or1 (pt_not (pt_val (pe_call (ok_l_alike T) (hr.mono (by decide)) (by rfl) T.g_l_alike T.F_l_alike.kp T.b_l_alike .nil pass0 (pa_cons (pe_call (ok_woven T) (hr.mono (by decide)) (by rfl) T.g_woven T.F_woven.kp T.b_woven .nil pass0 (pa_cons (pe_lst pa_nil) (pa_cons (pv 4) pa_nil))) (pa_cons (pe_lst pa_nil) pa_nil)))))))) (pss_one (ps_ret pe_bl)) pss_nil)
      (pss_cons (ps_set (i := 9) sc_law.nd rfl (Or.inl rfl) (pe_call (ok_woven T) (hr.mono (by decide)) (by rfl) T.g_woven T.F_woven.kp T.b_woven .nil pass0 (pa_cons (pe_ix ix_list (pv 6) pe_int (fun _ _ => rfl)) (pa_cons (pe_ix ix_list (pv 6) pe_int (fun _ _ => rfl)) pa_nil))))
      (pss_cons (ps_expr (pe_bm0 PySem.F.plainAttrs_list PySem.F.slot_list_clear PySem.F.type_list_clear mt_clear (pe_ix ix_list (pv 6) pe_int (fun _ _ => rfl))))
      (pss_cons (ps_expr (pe_bm0 PySem.F.plainAttrs_list PySem.F.slot_list_clear PySem.F.type_list_clear mt_clear (pe_ix ix_list (pv 6) pe_int (fun _ _ => rfl))))
      (pss_cons (ps_if (PW.pt (pw_or (pt_cmpR (op_neD hr.units) (pv 7) (pv 8) (nomark _)) (pw_or1 (pt_not (pt_val (pe_call (ok_l_alike T) (hr.mono (by decide)) (by rfl) T.g_l_alike T.F_l_alike.kp T.b_l_alike .nil pass0 (pa_cons (pv 9) (pa_cons (pv 5) pa_nil)))))))) (pss_one (ps_ret pe_bl)) pss_nil)
      (pss_cons (ps_expr (pe_bm PySem.F.plainAttrs_list PySem.F.slot_list_append PySem.F.type_list_append mt_append (pv 9) (pa_cons pe_int pa_nil)))
      (pss_one (ps_ret (pe_and (pe_call (ok_l_alike T) (hr.mono (by decide)) (by rfl) T.g_l_alike T.F_l_alike.kp T.b_l_alike .nil pass0 (pa_cons (pe_call (ok_woven T) (hr.mono (by decide)) (by rfl) T.g_woven T.F_woven.kp T.b_woven .nil pass0 (pa_cons (pv 4) (pa_cons (pv 3) pa_nil))) (pa_cons (pv 5) pa_nil))) (pe_one (pe_cmpR (op_eqD hr.units) (pv 7) (pv 8) (nomark _)))))))))))))))))))), ?_⟩
    refine xq_tup (xr_call (xg_go (xg_cons (val_var (i := 0) rfl) xg_nil) ?_))
    refine ⟨a, ns, rfl, hS, fun H1 pp m n e1 hm hn hb h1 => ?_⟩
    have hb' : 3 * (n * m) < W 1000 := by rw [Int.mul_comm n m]; exact hb
    obtain ⟨w0, w1⟩ := wvN_in hm hn
    have hw : 0 ≤ wvN m n ∧ wvN m n < W 1000 := ⟨w0, by omega⟩
    have hz0 : (0 : Int) ≤ 0 ∧ (0 : Int) < W 1000 := ⟨by omega, W_pos 1000⟩
    refine ⟨pp, _, rfl, SqT.of h1, rfl, _, _, rfl, _, _, rfl, rfl, ?_⟩
    refine xq_run (xr_call (xg_go (xg_cons (val_var (i := 1) rfl) xg_nil) ⟨m, rfl, hm.1, hm.2, fun H2 lf e2 nlf h2 => ?_⟩))
    refine xq_run (xr_call (xg_go (xg_cons (val_var (i := 2) rfl) xg_nil) ⟨n, rfl, hn.1, hn.2, fun H3 rg e3 nrg h3 => ?_⟩))
    have hl3 := e3 lf _ h2
    -- what is due
    refine xq_run (xr_call (xr_cons (xr_call (xr_cons (xr_call (xg_go (xg_cons (val_var (i := 3) rfl) (xg_cons (val_var (i := 4) rfl) xg_nil)) ?_))))))
    refine ⟨lf, rg, m, n, rfl, SqL.of hl3, SqL.of h3, hm, hn, fun H4 ld cs e4 nld h4 hsm hwt => ?_⟩
    refine xr_nil ⟨ld, cs, rfl, SqL.of h4, hsm, xr_nil ⟨_, rfl, by rw [hwt]; exact hw.1, by rw [hwt]; exact hw.2, fun H5 du e5 ndu h5 => ?_⟩⟩
    rw [hwt] at h5
    have lf5 := e5 lf _ (e4 lf _ hl3)
    have rg5 := e5 rg _ (e4 rg _ h3)
    -- the lists handed
    refine xq_run (xr_lst (xr_cons ?_))
    refine xl_listQ (Evl.ev_var (i := 3) rfl) (SqL.of lf5) H5 (Evl.Ex.refl H5) _ fun x H6 nx e6 h6 => ?_
    refine xr_cons ?_
    refine xl_listQ (Evl.ev_var (i := 4) rfl) (SqL.of (e6 rg _ rg5)) H6 (Evl.Ex.refl H6) _ fun y H7 ny e7 h7 => ?_
    refine xr_nil ⟨Evl.sz_of (by show 2 ≤ 100000; omega), fun z nz => ?_⟩
    have e8 : Same H7 (upd H7 z (.lst [.ref x, .ref y])) := Evl.Ex.new nz
    have h8 : (upd H7 z (.lst [.ref x, .ref y])) z = some (.lst [.ref x, .ref y]) := upd_same
    generalize upd H7 z (.lst [.ref x, .ref y]) = H8 at e8 h8
    have e58 : Same H5 H8 := Same.trans e6 (Same.trans e7 e8)
    have lf8 := e58 lf _ lf5
    have rg8 := e58 rg _ rg5
    have du8 := e58 du _ h5
    have x8 := e8 x _ (e7 x _ h6)
    have y8 := e8 y _ h7
    have v0 : ∀ {σ : L2.St} {te : TE} {H' : Hp}, Same H8 H' → Val te σ H' (.ref z) → Val (tOp (rIxL K) te (tC (.int 0))) σ H' (.ref x) := fun e h => xv_ixV (i := 0) h val_c (SqL.of (e z _ h8)) rfl
    have v1 : ∀ {σ : L2.St} {te : TE} {H' : Hp}, Same H8 H' → Val te σ H' (.ref z) → Val (tOp (rIxL K) te (tC (.int 1))) σ H' (.ref y) := fun e h => xv_ixV (i := 1) h val_c (SqL.of (e z _ h8)) rfl
    refine xq_run (xr_call (xg_go (xg_cons (v0 (Same.refl H8) (val_var (i := 6) rfl)) (xg_cons (v1 (Same.refl H8) (val_var (i := 6) rfl)) xg_nil)) ⟨x, y, m, n, rfl, SqL.of x8, SqL.of y8, hm, hn, hb, fun H9 fo e9 nfo h9 => ?_⟩))
    have lw : (rowOf (wvN m n)).length ≤ 100000 := Nat.le_trans (rowOf_len hw.2) (by decide)
    refine Evl.q_when (b := false) (Evl.et_or (a := false) (Evl.et_not (a := true) (Evl.et_B fun H10 e10 Q q => xv_alike (val_var (i := 7) rfl) (val_var (i := 5) rfl) (SqL.of (e10 fo _ h9)) (SqL.of (e10 du _ (e9 du _ du8))) lw _ (q H10 (Evl.Ex.refl H10)))) fun _ =>
      Evl.et_test (Evl.ev_is (Evl.ev_opL (Evl.ev_var (i := 6) rfl) (Evl.el_lst (Evl.ea_cons (Evl.ev_var (i := 3) rfl) (Evl.ea_cons (Evl.ev_var (i := 4) rfl) Evl.ea_nil)) (by show 2 ≤ 100000; omega)) (fun p H1 h1 e1 => fun H2 e2 Q q => ⟨_, _, .lst (SqL.of (e2 z _ (e1 z _ (e9 z _ h8)))) (.cons (.lst (SqL.of (e2 x _ (e1 x _ (e9 x _ x8)))) (dpAll_int _)) (.cons (.lst (SqL.of (e2 y _ (e1 y _ (e9 y _ y8)))) (dpAll_int _)) .nil)),
      .lst (SqL.of (e2 p _ h1)) (.cons (.lst (SqL.of (e2 lf _ (e1 lf _ (e9 lf _ lf8)))) (dpAll_int _)) (.cons (.lst (SqL.of (e2 rg _ (e1 rg _ (e9 rg _ rg8)))) (dpAll_int _)) .nil)), shaped_two _ _, shaped_two _ _, by rw [eqv_two]; exact q H2 (Evl.Ex.refl H2)⟩)) rfl)) (fun z => (nomatch z)) (fun _ H10 e10 => ?_)
    have fo10 := e10 fo _ h9
    refine Evl.q_asgL (xl_listQ (Evl.ev_var (i := 7) rfl) (SqL.of fo10)) fun ke H11 nke e11 h11 => ?_
    have e811 : Same H8 H11 := Same.trans e9 (Same.trans e10 e11)
    have fo11 := e11 fo _ fo10
    have lf11 := e811 lf _ lf8
    have rg11 := e811 rg _ rg8
    -- woven with nothing
    have nilEv : ∀ {σ : L2.St} {H : Hp}, Evl.EvL (tLst tNil) σ H ((rowOf 0).map V.int) := by
      intro σ H
      rw [rowOf_0]
      exact Evl.el_lst Evl.ea_nil (by decide)
    have r0 : (rowOf 0).length ≤ 100000 := by
      rw [rowOf_0]
      decide
    refine Evl.q_when (b := false) (Evl.et_or (a := false) (Evl.et_not (a := true) (Evl.et_B fun H12 e12 Q q => ?_)) fun _ => Evl.et_not (a := true) (Evl.et_B fun H12 e12 Q q => ?_)) (fun z => (nomatch z)) (fun _ H12 e12 => ?_)
    · refine xr_call (xr_cons (xr_call (xr_cons (xv_go (val_var (i := 3) rfl) (xr_cons ?_)))))
      refine nilEv H12 (Evl.Ex.refl H12) _ fun n1 H13 nn1 e13 h13 => ?_
      refine xr_nil ⟨lf, n1, m, 0, rfl, SqL.of (e13 lf _ (e12 lf _ lf11)), SqL.of h13, hm, hz0, by rw [Int.mul_zero]; exact W_pos 1000, fun H14 r e14 nr h14 => ?_⟩
      rw [wvN_0] at h14
      refine xr_cons ?_
      refine nilEv H14 (Evl.Ex.refl H14) _ fun n2 H15 nn2 e15 h15 => ?_
      exact xr_nil ⟨r, n2, _, rfl, SqL.of (e15 r _ h14), SqL.of h15, r0, q H15 (Evl.Ex.trans e13 (Evl.Ex.trans e14 e15))⟩
    · refine xr_call (xr_cons (xr_call (xr_cons ?_)))
      refine nilEv H12 (Evl.Ex.refl H12) _ fun n1 H13 nn1 e13 h13 => ?_
      refine xg_go (xg_cons (val_var (i := 4) rfl) xg_nil) ⟨n1, rg, 0, n, rfl, SqL.of h13, SqL.of (e13 rg _ (e12 rg _ rg11)), hz0, hn, by rw [Int.zero_mul]; exact W_pos 1000, fun H14 r e14 nr h14 => ?_⟩
      rw [wvN_comm, wvN_0] at h14
      refine xr_cons ?_
      refine nilEv H14 (Evl.Ex.refl H14) _ fun n2 H15 nn2 e15 h15 => ?_
      exact xr_nil ⟨r, n2, _, rfl, SqL.of (e15 r _ h14), SqL.of h15, r0, q H15 (Evl.Ex.trans e13 (Evl.Ex.trans e14 e15))⟩
    have e812 : Same H8 H12 := Same.trans e811 e12
    have x12 := e812 x _ x8
    have y12 := e812 y _ y8
    refine xq_run (xr_call (xg_go (xg_cons (v1 e812 (val_var (i := 6) rfl)) (xg_cons (v0 e812 (val_var (i := 6) rfl)) xg_nil)) ⟨y, x, n, m, rfl, SqL.of y12, SqL.of x12, hn, hm, hb', fun H13 tu e13 ntu h13 => ?_⟩))
    rw [wvN_comm] at h13
    have e813 : Same H8 H13 := Same.trans e812 e13
    have x13 := e13 x _ x12
    have y13 := e13 y _ y12
    have z13 := e813 z _ h8
    have lf13 := e813 lf _ lf8
    have rg13 := e813 rg _ rg8
    have du13 := e813 du _ du8
    have fo13 := e13 fo _ (e12 fo _ fo11)
    have ke13 := e13 ke _ (e12 ke _ h11)
    -- who is who
    have lx : lf ≠ x := ne_of_none lf5 nx
    have gx : rg ≠ x := ne_of_none rg5 nx
    have dx : du ≠ x := ne_of_none h5 nx
    have ly : lf ≠ y := ne_of_none (e6 lf _ lf5) ny
    have gy : rg ≠ y := ne_of_none (e6 rg _ rg5) ny
    have dy : du ≠ y := ne_of_none (e6 du _ h5) ny
    have xy : x ≠ y := ne_of_none h6 ny
    have zx : z ≠ x := (ne_of_none (e7 x _ h6) nz).symm
    have fx : fo ≠ x := (ne_of_none x8 nfo).symm
    have fy : fo ≠ y := (ne_of_none y8 nfo).symm
    have kx : ke ≠ x := (ne_of_none (e10 x _ (e9 x _ x8)) nke).symm
    have ky : ke ≠ y := (ne_of_none (e10 y _ (e9 y _ y8)) nke).symm
    have tx : tu ≠ x := (ne_of_none x12 ntu).symm
    have ty : tu ≠ y := (ne_of_none y12 ntu).symm
    have lt : lf ≠ tu := ne_of_none (e812 lf _ lf8) ntu
    have gt : rg ≠ tu := ne_of_none (e812 rg _ rg8) ntu
    have dt : du ≠ tu := ne_of_none (e812 du _ du8) ntu
    have ft : fo ≠ tu := ne_of_none (e12 fo _ fo11) ntu
    have kt : ke ≠ tu := ne_of_none (e12 ke _ h11) ntu
    refine xq_clear (xv_ixV (i := 0) (val_var (i := 6) rfl) val_c (SqL.of z13) rfl) x13 ?_
    refine xq_clear (xs := (rowOf n).map V.int) (xv_ixV (i := 1) (v := .ref y) (val_var (i := 6) rfl) val_c (SqL.of (show upd H13 x (.lst []) z = some (.lst [.ref x, .ref y]) by rw [upd_ne zx]; exact z13)) rfl) (by rw [upd_ne (Ne.symm xy)]; exact y13) ?_
    have k : ∀ b o, b ≠ x → b ≠ y → H13 b = some o → (upd (upd H13 x (.lst [])) y (.lst [])) b = some o := fun b o h1 h2 h => by
      rw [upd_ne h2, upd_ne h1]
      exact h
    have tu14 := k tu _ tx ty h13
    have du14 := k du _ dx dy du13
    have lf14 := k lf _ lx ly lf13
    have rg14 := k rg _ gx gy rg13
    have fo14 := k fo _ fx fy fo13
    have ke14 := k ke _ kx ky ke13
    generalize upd (upd H13 x (.lst [])) y (.lst []) = H14 at tu14 du14 lf14 rg14 fo14 ke14
    refine xs_when (b := false) (xa_or (a := false) (xa_T (xv_to (xv_neL (val_var (i := 7) rfl) (val_var (i := 8) rfl) (SqL.of fo14) (SqL.of ke14)) (by rw [decide_eq_true rfl]; rfl))) fun _ => xa_not (a := true) (xa_B (xv_alike (val_var (i := 9) rfl) (val_var (i := 5) rfl) (SqL.of tu14) (SqL.of du14) lw))) (fun z => (nomatch z)) (fun _ => ?_)
    refine Evl.q_app (l := tu) tu14 (Evl.ev_var (i := 9) rfl) Evl.ev_c (by rw [List.length_map]; have := rowOf_len hw.2; omega) fun H15 e15 => ?_
    have du16 : (upd H15 tu (.lst ((rowOf (wvN m n)).map V.int ++ [.int 1]))) du = _ := (upd_ne dt).trans (e15 du _ du14)
    have lf16 : (upd H15 tu (.lst ((rowOf (wvN m n)).map V.int ++ [.int 1]))) lf = _ := (upd_ne lt).trans (e15 lf _ lf14)
    have rg16 : (upd H15 tu (.lst ((rowOf (wvN m n)).map V.int ++ [.int 1]))) rg = _ := (upd_ne gt).trans (e15 rg _ rg14)
    have fo16 : (upd H15 tu (.lst ((rowOf (wvN m n)).map V.int ++ [.int 1]))) fo = _ := (upd_ne ft).trans (e15 fo _ fo14)
    have ke16 : (upd H15 tu (.lst ((rowOf (wvN m n)).map V.int ++ [.int 1]))) ke = _ := (upd_ne kt).trans (e15 ke _ ke14)
    generalize upd H15 tu (.lst ((rowOf (wvN m n)).map V.int ++ [.int 1])) = H16 at du16 lf16 rg16 fo16 ke16
    refine xr_ret (xr_and (xr_call (xr_cons (xr_call (xg_go (xg_cons (val_var (i := 4) rfl) (xg_cons (val_var (i := 3) rfl) xg_nil)) ?_)))))
    refine ⟨rg, lf, n, m, rfl, SqL.of rg16, SqL.of lf16, hn, hm, hb', fun H17 r e17 nr h17 => ?_⟩
    rw [wvN_comm] at h17
    refine xg_go (xg_cons (val_var (i := 5) rfl) xg_nil) ?_
    refine ⟨r, du, _, rfl, SqL.of h17, SqL.of (e17 du _ du16), lw, true, rfl, ?_⟩
    refine iteT (xv_go (xv_eqL (K := K) (val_var (i := 7) rfl) (val_var (i := 8) rfl) (SqL.of (e17 fo _ fo16)) (SqL.of (e17 ke _ ke16))) ?_)
    rw [decide_eq_true rfl]
    exact q H17
end
theorem all_mk {l : PySem.W.OpenLaw} {w : World} {K : PySem.W.Frag} {h : Heap} {mg : Str → Option Value} {fa : Addr} (X : K.In h) (G : h.Ns mainGlobals mg) (hfa : mg "law" = some (.ref fa))
    {f_weight : Addr} (a_weight : PySem.W.nsIn K mainGlobals "weight" = some (some (.ref f_weight)))
    {od_weight an_weight : Option Addr} {sl_weight : Array (Option Value)} {oc_weight kV_weight dc_weight pm_weight cd_weight ct_weight : Value} (l_weight : K.lookup f_weight = some ⟨oc_weight, od_weight, .func (PySem.W.fnOf "weight" "weight" (defArgs st_weight) (defBody st_weight) (defScope st_weight) .none kV_weight dc_weight pm_weight an_weight cd_weight ct_weight), sl_weight⟩) (c_weight : PySem.W.codeIn K cd_weight "weight" = true) (k_weight : PySem.W.keepIn K (.ref f_weight) = true)
    {f_still_heap : Addr} (a_still_heap : PySem.W.nsIn K mainGlobals "still_heap" = some (some (.ref f_still_heap)))
    {od_still_heap an_still_heap : Option Addr} {sl_still_heap : Array (Option Value)} {oc_still_heap kV_still_heap dc_still_heap pm_still_heap cd_still_heap ct_still_heap : Value} (l_still_heap : K.lookup f_still_heap = some ⟨oc_still_heap, od_still_heap, .func (PySem.W.fnOf "still_heap" "still_heap" (defArgs st_still_heap) (defBody st_still_heap) (defScope st_still_heap) .none kV_still_heap dc_still_heap pm_still_heap an_still_heap cd_still_heap ct_still_heap), sl_still_heap⟩) (c_still_heap : PySem.W.codeIn K cd_still_heap "still_heap" = true) (k_still_heap : PySem.W.keepIn K (.ref f_still_heap) = true)
    {f_steps_of : Addr} (a_steps_of : PySem.W.nsIn K mainGlobals "steps_of" = some (some (.ref f_steps_of)))
    {od_steps_of an_steps_of : Option Addr} {sl_steps_of : Array (Option Value)} {oc_steps_of kV_steps_of dc_steps_of pm_steps_of cd_steps_of ct_steps_of : Value} (l_steps_of : K.lookup f_steps_of = some ⟨oc_steps_of, od_steps_of, .func (PySem.W.fnOf "steps_of" "steps_of" (defArgs st_steps_of) (defBody st_steps_of) (defScope st_steps_of) .none kV_steps_of dc_steps_of pm_steps_of an_steps_of cd_steps_of ct_steps_of), sl_steps_of⟩) (c_steps_of : PySem.W.codeIn K cd_steps_of "steps_of" = true) (k_steps_of : PySem.W.keepIn K (.ref f_steps_of) = true)
    {f_woven : Addr} (a_woven : PySem.W.nsIn K mainGlobals "woven" = some (some (.ref f_woven)))
    {od_woven an_woven : Option Addr} {sl_woven : Array (Option Value)} {oc_woven kV_woven dc_woven pm_woven cd_woven ct_woven : Value} (l_woven : K.lookup f_woven = some ⟨oc_woven, od_woven, .func (PySem.W.fnOf "woven" "woven" (defArgs st_woven) (defBody st_woven) (defScope st_woven) .none kV_woven dc_woven pm_woven an_woven cd_woven ct_woven), sl_woven⟩) (c_woven : PySem.W.codeIn K cd_woven "woven" = true) (k_woven : PySem.W.keepIn K (.ref f_woven) = true)
    {f_l_cell : Addr} (a_l_cell : PySem.W.nsIn K mainGlobals "_law_cell" = some (some (.ref f_l_cell)))
    {od_l_cell an_l_cell : Option Addr} {sl_l_cell : Array (Option Value)} {oc_l_cell kV_l_cell dc_l_cell pm_l_cell cd_l_cell ct_l_cell : Value} (l_l_cell : K.lookup f_l_cell = some ⟨oc_l_cell, od_l_cell, .func (PySem.W.fnOf "_law_cell" "_law_cell" (defArgs st_l_cell) (defBody st_l_cell) (defScope st_l_cell) .none kV_l_cell dc_l_cell pm_l_cell an_l_cell cd_l_cell ct_l_cell), sl_l_cell⟩) (c_l_cell : PySem.W.codeIn K cd_l_cell "_law_cell" = true) (k_l_cell : PySem.W.keepIn K (.ref f_l_cell) = true)
    {f_l_whole : Addr} (a_l_whole : PySem.W.nsIn K mainGlobals "_law_whole" = some (some (.ref f_l_whole)))
    {od_l_whole an_l_whole : Option Addr} {sl_l_whole : Array (Option Value)} {oc_l_whole kV_l_whole dc_l_whole pm_l_whole cd_l_whole ct_l_whole : Value} (l_l_whole : K.lookup f_l_whole = some ⟨oc_l_whole, od_l_whole, .func (PySem.W.fnOf "_law_whole" "_law_whole" (defArgs st_l_whole) (defBody st_l_whole) (defScope st_l_whole) .none kV_l_whole dc_l_whole pm_l_whole an_l_whole cd_l_whole ct_l_whole), sl_l_whole⟩) (c_l_whole : PySem.W.codeIn K cd_l_whole "_law_whole" = true) (k_l_whole : PySem.W.keepIn K (.ref f_l_whole) = true)
    {f_l_heap : Addr} (a_l_heap : PySem.W.nsIn K mainGlobals "_law_heap" = some (some (.ref f_l_heap)))
    {od_l_heap an_l_heap : Option Addr} {sl_l_heap : Array (Option Value)} {oc_l_heap kV_l_heap dc_l_heap pm_l_heap cd_l_heap ct_l_heap : Value} (l_l_heap : K.lookup f_l_heap = some ⟨oc_l_heap, od_l_heap, .func (PySem.W.fnOf "_law_heap" "_law_heap" (defArgs st_l_heap) (defBody st_l_heap) (defScope st_l_heap) .none kV_l_heap dc_l_heap pm_l_heap an_l_heap cd_l_heap ct_l_heap), sl_l_heap⟩) (c_l_heap : PySem.W.codeIn K cd_l_heap "_law_heap" = true) (k_l_heap : PySem.W.keepIn K (.ref f_l_heap) = true)
    {f_l_alike : Addr} (a_l_alike : PySem.W.nsIn K mainGlobals "_law_alike" = some (some (.ref f_l_alike)))
    {od_l_alike an_l_alike : Option Addr} {sl_l_alike : Array (Option Value)} {oc_l_alike kV_l_alike dc_l_alike pm_l_alike cd_l_alike ct_l_alike : Value} (l_l_alike : K.lookup f_l_alike = some ⟨oc_l_alike, od_l_alike, .func (PySem.W.fnOf "_law_alike" "_law_alike" (defArgs st_l_alike) (defBody st_l_alike) (defScope st_l_alike) .none kV_l_alike dc_l_alike pm_l_alike an_l_alike cd_l_alike ct_l_alike), sl_l_alike⟩) (c_l_alike : PySem.W.codeIn K cd_l_alike "_law_alike" = true) (k_l_alike : PySem.W.keepIn K (.ref f_l_alike) = true)
    {f_l_worth : Addr} (a_l_worth : PySem.W.nsIn K mainGlobals "_law_worth" = some (some (.ref f_l_worth)))
    {od_l_worth an_l_worth : Option Addr} {sl_l_worth : Array (Option Value)} {oc_l_worth kV_l_worth dc_l_worth pm_l_worth cd_l_worth ct_l_worth : Value} (l_l_worth : K.lookup f_l_worth = some ⟨oc_l_worth, od_l_worth, .func (PySem.W.fnOf "_law_worth" "_law_worth" (defArgs st_l_worth) (defBody st_l_worth) (defScope st_l_worth) .none kV_l_worth dc_l_worth pm_l_worth an_l_worth cd_l_worth ct_l_worth), sl_l_worth⟩) (c_l_worth : PySem.W.codeIn K cd_l_worth "_law_worth" = true) (k_l_worth : PySem.W.keepIn K (.ref f_l_worth) = true)
    {f_l_pair : Addr} (a_l_pair : PySem.W.nsIn K mainGlobals "_law_pair" = some (some (.ref f_l_pair)))
    {od_l_pair an_l_pair : Option Addr} {sl_l_pair : Array (Option Value)} {oc_l_pair kV_l_pair dc_l_pair pm_l_pair cd_l_pair ct_l_pair : Value} (l_l_pair : K.lookup f_l_pair = some ⟨oc_l_pair, od_l_pair, .func (PySem.W.fnOf "_law_pair" "_law_pair" (defArgs st_l_pair) (defBody st_l_pair) (defScope st_l_pair) .none kV_l_pair dc_l_pair pm_l_pair an_l_pair cd_l_pair ct_l_pair), sl_l_pair⟩) (c_l_pair : PySem.W.codeIn K cd_l_pair "_law_pair" = true) (k_l_pair : PySem.W.keepIn K (.ref f_l_pair) = true)
    {f_l_laid : Addr} (a_l_laid : PySem.W.nsIn K mainGlobals "_law_laid" = some (some (.ref f_l_laid)))
    {od_l_laid an_l_laid : Option Addr} {sl_l_laid : Array (Option Value)} {oc_l_laid kV_l_laid dc_l_laid pm_l_laid cd_l_laid ct_l_laid : Value} (l_l_laid : K.lookup f_l_laid = some ⟨oc_l_laid, od_l_laid, .func (PySem.W.fnOf "_law_laid" "_law_laid" (defArgs st_l_laid) (defBody st_l_laid) (defScope st_l_laid) .none kV_l_laid dc_l_laid pm_l_laid an_l_laid cd_l_laid ct_l_laid), sl_l_laid⟩) (c_l_laid : PySem.W.codeIn K cd_l_laid "_law_laid" = true) (k_l_laid : PySem.W.keepIn K (.ref f_l_laid) = true)
    {f_l_weighed : Addr} (a_l_weighed : PySem.W.nsIn K mainGlobals "_law_weighed" = some (some (.ref f_l_weighed)))
    {od_l_weighed an_l_weighed : Option Addr} {sl_l_weighed : Array (Option Value)} {oc_l_weighed kV_l_weighed dc_l_weighed pm_l_weighed cd_l_weighed ct_l_weighed : Value} (l_l_weighed : K.lookup f_l_weighed = some ⟨oc_l_weighed, od_l_weighed, .func (PySem.W.fnOf "_law_weighed" "_law_weighed" (defArgs st_l_weighed) (defBody st_l_weighed) (defScope st_l_weighed) .none kV_l_weighed dc_l_weighed pm_l_weighed an_l_weighed cd_l_weighed ct_l_weighed), sl_l_weighed⟩) (c_l_weighed : PySem.W.codeIn K cd_l_weighed "_law_weighed" = true) (k_l_weighed : PySem.W.keepIn K (.ref f_l_weighed) = true)
    {f_law : Addr} (a_law : PySem.W.nsIn K mainGlobals "law" = some (some (.ref f_law)))
    {od_law an_law : Option Addr} {sl_law : Array (Option Value)} {oc_law kV_law dc_law pm_law cd_law ct_law : Value} (l_law : K.lookup f_law = some ⟨oc_law, od_law, .func (PySem.W.fnOf "law" "law" (defArgs st_law) (defBody st_law) (defScope st_law) .none kV_law dc_law pm_law an_law cd_law ct_law), sl_law⟩) (c_law : PySem.W.codeIn K cd_law "law" = true) (k_law : PySem.W.keepIn K (.ref f_law) = true)
    (z_reversed : PySem.W.nsIn K mainGlobals "reversed" = some none)
    (z_range : PySem.W.nsIn K mainGlobals "range" = some none)
    (z_len : PySem.W.nsIn K mainGlobals "len" = some none)
    (z_isinstance : PySem.W.nsIn K mainGlobals "isinstance" = some none)
    (z_int : PySem.W.nsIn K mainGlobals "int" = some none)
    (z_bool : PySem.W.nsIn K mainGlobals "bool" = some none)
    (z_list : PySem.W.nsIn K mainGlobals "list" = some none) :
    ∃ fd : FuncData, (∀ (s : Shared) (v : Value), BindsTo s fd ⟨[v], []⟩ [("_law_script", v)]) ∧ ∀ base : Heap, K.In base → base.Ns mainGlobals mg → FnOk l.prog w K mg base CX0 3 fa fd ["_law_script"] (sp_law K) := by
  have e := hfa.symm.trans (PySem.W.mg_of X G a_law)
  cases e
  let T : Txt K mg := { f_weight := f_weight, d_weight := _, F_weight := fun_mk (st := st_weight) l_weight c_weight k_weight, g_weight := PySem.W.mg_of X G a_weight, b_weight := (fun_mk (st := st_weight) l_weight c_weight k_weight).binds (ps := ["heap"]) (fun _ _ _ _ _ _ us hl => match us, hl with | [_], _ => rfl), f_still_heap := f_still_heap, d_still_heap := _, F_still_heap := fun_mk (st := st_still_heap) l_still_heap c_still_heap k_still_heap, g_still_heap := PySem.W.mg_of X G a_still_heap, b_still_heap := (fun_mk (st := st_still_heap) l_still_heap c_still_heap k_still_heap).binds (ps := ["number"]) (fun _ _ _ _ _ _ us hl => match us, hl with | [_], _ => rfl), f_steps_of := f_steps_of, d_steps_of := _, F_steps_of := fun_mk (st := st_steps_of) l_steps_of c_steps_of k_steps_of, g_steps_of := PySem.W.mg_of X G a_steps_of, b_steps_of := (fun_mk (st := st_steps_of) l_steps_of c_steps_of k_steps_of).binds (ps := ["heap"]) (fun _ _ _ _ _ _ us hl => match us, hl with | [_], _ => rfl), f_woven := f_woven, d_woven := _, F_woven := fun_mk (st := st_woven) l_woven c_woven k_woven, g_woven := PySem.W.mg_of X G a_woven, b_woven := (fun_mk (st := st_woven) l_woven c_woven k_woven).binds (ps := ["one", "other"]) (fun _ _ _ _ _ _ us hl => match us, hl with | [_, _], _ => rfl), f_l_cell := f_l_cell, d_l_cell := _, F_l_cell := fun_mk (st := st_l_cell) l_l_cell c_l_cell k_l_cell, g_l_cell := PySem.W.mg_of X G a_l_cell, b_l_cell := (fun_mk (st := st_l_cell) l_l_cell c_l_cell k_l_cell).binds (ps := ["_law_script", "_law_k"]) (fun _ _ _ _ _ _ us hl => match us, hl with | [_, _], _ => rfl), f_l_whole := f_l_whole, d_l_whole := _, F_l_whole := fun_mk (st := st_l_whole) l_l_whole c_l_whole k_l_whole, g_l_whole := PySem.W.mg_of X G a_l_whole, b_l_whole := (fun_mk (st := st_l_whole) l_l_whole c_l_whole k_l_whole).binds (ps := ["_law_found"]) (fun _ _ _ _ _ _ us hl => match us, hl with | [_], _ => rfl), f_l_heap := f_l_heap, d_l_heap := _, F_l_heap := fun_mk (st := st_l_heap) l_l_heap c_l_heap k_l_heap, g_l_heap := PySem.W.mg_of X G a_l_heap, b_l_heap := (fun_mk (st := st_l_heap) l_l_heap c_l_heap k_l_heap).binds (ps := ["_law_number"]) (fun _ _ _ _ _ _ us hl => match us, hl with | [_], _ => rfl), f_l_alike := f_l_alike, d_l_alike := _, F_l_alike := fun_mk (st := st_l_alike) l_l_alike c_l_alike k_l_alike, g_l_alike := PySem.W.mg_of X G a_l_alike, b_l_alike := (fun_mk (st := st_l_alike) l_l_alike c_l_alike k_l_alike).binds (ps := ["_law_found", "_law_due"]) (fun _ _ _ _ _ _ us hl => match us, hl with | [_, _], _ => rfl), f_l_worth := f_l_worth, d_l_worth := _, F_l_worth := fun_mk (st := st_l_worth) l_l_worth c_l_worth k_l_worth, g_l_worth := PySem.W.mg_of X G a_l_worth, b_l_worth := (fun_mk (st := st_l_worth) l_l_worth c_l_worth k_l_worth).binds (ps := ["_law_step"]) (fun _ _ _ _ _ _ us hl => match us, hl with | [_], _ => rfl), f_l_pair := f_l_pair, d_l_pair := _, F_l_pair := fun_mk (st := st_l_pair) l_l_pair c_l_pair k_l_pair, g_l_pair := PySem.W.mg_of X G a_l_pair, b_l_pair := (fun_mk (st := st_l_pair) l_l_pair c_l_pair k_l_pair).binds (ps := ["_law_script"]) (fun _ _ _ _ _ _ us hl => match us, hl with | [_], _ => rfl), f_l_laid := f_l_laid, d_l_laid := _, F_l_laid := fun_mk (st := st_l_laid) l_l_laid c_l_laid k_l_laid, g_l_laid := PySem.W.mg_of X G a_l_laid, b_l_laid := (fun_mk (st := st_l_laid) l_l_laid c_l_laid k_l_laid).binds (ps := ["_law_left", "_law_right"]) (fun _ _ _ _ _ _ us hl => match us, hl with | [_, _], _ => rfl), f_l_weighed := f_l_weighed, d_l_weighed := _, F_l_weighed := fun_mk (st := st_l_weighed) l_l_weighed c_l_weighed k_l_weighed, g_l_weighed := PySem.W.mg_of X G a_l_weighed, b_l_weighed := (fun_mk (st := st_l_weighed) l_l_weighed c_l_weighed k_l_weighed).binds (ps := ["_law_laid_here"]) (fun _ _ _ _ _ _ us hl => match us, hl with | [_], _ => rfl), f_law := _, d_law := _, F_law := fun_mk (st := st_law) l_law c_law k_law, g_law := PySem.W.mg_of X G a_law, b_law := (fun_mk (st := st_law) l_law c_law k_law).binds (ps := ["_law_script"]) (fun _ _ _ _ _ _ us hl => match us, hl with | [_], _ => rfl), m_reversed := PySem.W.mg_none_of X G z_reversed, m_range := PySem.W.mg_none_of X G z_range, m_len := PySem.W.mg_none_of X G z_len, m_isinstance := PySem.W.mg_none_of X G z_isinstance, m_int := PySem.W.mg_none_of X G z_int, m_bool := PySem.W.mg_none_of X G z_bool, m_list := PySem.W.mg_none_of X G z_list }
  exact ⟨PySem.W.fnOf "law" "law" (defArgs st_law) (defBody st_law) (defScope st_law) .none kV_law dc_law pm_law an_law cd_law ct_law, fun s v => .of_eq rfl, fun base _ _ => ok_law T⟩
end K08
open PySem PySem.W PyProof.Rows
set_option maxHeartbeats 0 in
theorem PySem.Challenge.cw_shellstair_k08_woven_holds : PySem.Challenge.rw_shellstair_k08_woven.Holds := by
  w_on; o_law; k_head; (case hw => w_witness2)
  k_fill
  refine L2.walk_of (l := PySem.Challenge.rw_shellstair_k08_woven) (n := 63) (k := 3) (x := "_law_script") (CX := fun _ => L2.CX0) (sp := fun w => K08.sp_law _) rfl (by decide) rfl ⟨rfl, by decide, by decide⟩ (fun w h Y => PySem.W.kIn_of Y) ?F (fun _ _ a ns hl _ hS => ⟨a, ns, rfl, hS, hl, fun _ => rfl⟩) (fun _ _ _ _ _ h => h)
  case F =>
    intro w mg fa h KX G hmg
    refine' K08.all_mk KX G hmg ?a_weight ?l_weight ?c_weight ?k_weight ?a_still_heap ?l_still_heap ?c_still_heap ?k_still_heap ?a_steps_of ?l_steps_of ?c_steps_of ?k_steps_of ?a_woven ?l_woven ?c_woven ?k_woven ?a_l_cell ?l_l_cell ?c_l_cell ?k_l_cell ?a_l_whole ?l_l_whole ?c_l_whole ?k_l_whole ?a_l_heap ?l_l_heap ?c_l_heap ?k_l_heap ?a_l_alike ?l_l_alike ?c_l_alike ?k_l_alike ?a_l_worth ?l_l_worth ?c_l_worth ?k_l_worth ?a_l_pair ?l_l_pair ?c_l_pair ?k_l_pair ?a_l_laid ?l_l_laid ?c_l_laid ?k_l_laid ?a_l_weighed ?l_l_weighed ?c_l_weighed ?k_l_weighed ?a_law ?l_law ?c_law ?k_law ?z_reversed ?z_range ?z_len ?z_isinstance ?z_int ?z_bool ?z_list
    (case a_weight => k_is); (case l_weight => k_is); (case c_weight => k_is); (case k_weight => k_is); (case a_still_heap => k_is); (case l_still_heap => k_is)
    (case c_still_heap => k_is); (case k_still_heap => k_is); (case a_steps_of => k_is); (case l_steps_of => k_is); (case c_steps_of => k_is); (case k_steps_of => k_is)
    (case a_woven => k_is); (case l_woven => k_is); (case c_woven => k_is); (case k_woven => k_is); (case a_l_cell => k_is); (case l_l_cell => k_is)
    (case c_l_cell => k_is); (case k_l_cell => k_is); (case a_l_whole => k_is); (case l_l_whole => k_is); (case c_l_whole => k_is); (case k_l_whole => k_is)
    (case a_l_heap => k_is); (case l_l_heap => k_is); (case c_l_heap => k_is); (case k_l_heap => k_is); (case a_l_alike => k_is); (case l_l_alike => k_is)
    (case c_l_alike => k_is); (case k_l_alike => k_is); (case a_l_worth => k_is); (case l_l_worth => k_is); (case c_l_worth => k_is); (case k_l_worth => k_is)
    (case a_l_pair => k_is); (case l_l_pair => k_is); (case c_l_pair => k_is); (case k_l_pair => k_is); (case a_l_laid => k_is); (case l_l_laid => k_is)
    (case c_l_laid => k_is); (case k_l_laid => k_is); (case a_l_weighed => k_is); (case l_l_weighed => k_is); (case c_l_weighed => k_is); (case k_l_weighed => k_is)
    (case a_law => k_is); (case l_law => k_is); (case c_law => k_is); (case k_law => k_is); (case z_reversed => k_is); (case z_range => k_is)
    (case z_len => k_is); (case z_isinstance => k_is); (case z_int => k_is); (case z_bool => k_is); (case z_list => k_is)
