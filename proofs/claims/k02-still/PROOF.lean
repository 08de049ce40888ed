import PyProof.Rows.All
import Wide.All
import OpenK.AllK
import Wide.FinOn
import HandS.ForMost
import HandS.ForExc
import HandS.Steps
import HandS.Evl
import HandS.Wide
import HandS.IsInst
import HandS.Style
import PySem.Challenge.RW_shellstair_k02_still
set_option Elab.async false
set_option linter.all false
set_option maxRecDepth 100000
set_option maxHeartbeats 1000000
namespace Sh
/-! the worth of a step, and weighted sums over a list of counts -/
def W : Nat → Int
  | 0 => 1
  | 1 => 2
  | n + 2 => W n + W (n + 1)
/-- f-weighted sum of the counts, the first one on step k -/
def S (f : Nat → Int) : Nat → List Int → Int
  | _, [] => 0
  | k, c :: r => c * f k + S f (k + 1) r
abbrev wt (xs : List Int) : Int := S W 0 xs
theorem W_pos : ∀ n, 0 < W n
  | 0 => by decide
  | 1 => by decide
  | n + 2 => by
    have h1 := W_pos n
    have h2 := W_pos (n + 1)
    show 0 < W n + W (n + 1)
    omega
theorem W_lt : ∀ n, W n < W (n + 1)
  | 0 => by decide
  | n + 1 => by
    have h1 := W_pos n
    show W (n + 1) < W n + W (n + 1)
    omega
theorem W_mono {i j : Nat} (h : i ≤ j) : W i ≤ W j := by
  induction j with
  | zero =>
    have : i = 0 := by omega
    subst this
    exact Int.le_refl _
  | succ j ih =>
    by_cases e : i = j + 1
    · subst e
      exact Int.le_refl _
    · have := ih (by omega)
      have := W_lt j
      omega
theorem W_ge : ∀ n : Nat, (n : Int) < W n
  | 0 => by decide
  | n + 1 => by
    have := W_ge n
    have := W_lt n
    omega
theorem W_bits : ∀ n, W n < 2 ^ (n + 1)
  | 0 => by decide
  | 1 => by decide
  | n + 2 => by
    have h1 := W_bits n
    have h2 := W_bits (n + 1)
    have e1 : (2 : Int) ^ (n + 2 + 1) = 4 * 2 ^ (n + 1) := by
      rw [Int.pow_succ, Int.pow_succ]
      omega
    have e2 : (2 : Int) ^ (n + 1 + 1) = 2 * 2 ^ (n + 1) := by rw [Int.pow_succ]; omega
    have h3 : (0 : Int) < 2 ^ (n + 1) := Int.pow_pos (by decide)
    show W n + W (n + 1) < 2 ^ (n + 2 + 1)
    rw [e2] at h2
    rw [e1]
    generalize (2 : Int) ^ (n + 1) = z at *
    omega
theorem W_bitsN (n : Nat) : (W n).natAbs < 2 ^ (n + 1) := by
  have h1 := W_bits n
  have h2 := W_pos n
  have e : ((2 ^ (n + 1) : Nat) : Int) = 2 ^ (n + 1) := by norm_cast
  omega
/-! sums -/
theorem S_nil (f : Nat → Int) (k : Nat) : S f k [] = 0 := rfl
theorem S_cons (f : Nat → Int) (k : Nat) (c : Int) (r : List Int) : S f k (c :: r) = c * f k + S f (k + 1) r := rfl
theorem S_append (f : Nat → Int) : ∀ (xs ys : List Int) (k : Nat), S f k (xs ++ ys) = S f k xs + S f (k + xs.length) ys
  | [], ys, k => by simp [S]
  | c :: r, ys, k => by
    have ih := S_append f r ys (k + 1)
    show c * f k + S f (k + 1) (r ++ ys) = c * f k + S f (k + 1) r + S f (k + (r.length + 1)) ys
    rw [ih, show k + 1 + r.length = k + (r.length + 1) by omega]
    omega
theorem S_one (f : Nat → Int) (k : Nat) (c : Int) : S f k [c] = c * f k := by simp [S]
theorem take_more {α : Type} {l : List α} {i : Nat} {x : α} (h : l[i]? = some x) : l.take (i + 1) = l.take i ++ [x] := by
  rw [List.take_succ, h]
  rfl
theorem S_take {f : Nat → Int} {xs : List Int} {i : Nat} {c : Int} (h : xs[i]? = some c) (k : Nat) : S f k (xs.take (i + 1)) = S f k (xs.take i) + c * f (k + i) := by
  have hl : i < xs.length := (List.getElem?_eq_some_iff.mp h).1
  rw [take_more h, S_append, S_one, List.length_take, Nat.min_eq_left (Nat.le_of_lt hl)]
theorem S_zeros (f : Nat → Int) : ∀ (n k : Nat), S f k (List.replicate n 0) = 0
  | 0, k => rfl
  | n + 1, k => by
    show 0 * f k + S f (k + 1) (List.replicate n 0) = 0
    rw [S_zeros f n, Int.zero_mul, Int.add_zero]
theorem S_nonneg {f : Nat → Int} (hf : ∀ k, 0 ≤ f k) : ∀ (xs : List Int) (k : Nat), (∀ x ∈ xs, 0 ≤ x) → 0 ≤ S f k xs
  | [], _, _ => Int.le_refl _
  | c :: r, k, h => by
    have h1 := S_nonneg hf r (k + 1) fun x hx => h x (List.mem_cons_of_mem _ hx)
    have h2 := Int.mul_nonneg (h c List.mem_cons_self) (hf k)
    show 0 ≤ c * f k + S f (k + 1) r
    omega
/-! 10 ** 60 -/
def T60 : Int := 10 ^ 60
theorem T60_eq : (10 : Int) ^ (60 : Int).toNat = T60 := by decide +kernel
theorem T60_pos : 0 < T60 := by decide +kernel
theorem T60_pos1 : 0 < T60 + 1 := by decide +kernel
theorem T60_bits : T60.natAbs < 2 ^ 200 := by decide +kernel
/-- a list that is no longer, no greater than a machine could not bear -/
structure Sm (ns : List Int) : Prop where
  len : ns.length ≤ 100000
  mag : ∀ x ∈ ns, x.natAbs < 2 ^ 1000
theorem small60 {x : Int} (h0 : 0 ≤ x) (h : x ≤ T60) : x.natAbs < 2 ^ 1000 := by
  have h1 := T60_bits
  have h2 : (2 : Nat) ^ 200 ≤ 2 ^ 1000 := by decide +kernel
  omega
/-! noughts at the end left out -/
def bare (xs : List Int) : List Int := (xs.reverse.dropWhile (· == 0)).reverse
theorem bare_zero (xs : List Int) : bare (xs ++ [0]) = bare xs := by
  unfold bare
  rw [List.reverse_append]
  rfl
theorem bare_snoc (xs : List Int) {c : Int} (h : c ≠ 0) : bare (xs ++ [c]) = xs ++ [c] := by
  unfold bare
  rw [List.reverse_append]
  show (List.dropWhile (· == 0) (c :: xs.reverse)).reverse = _
  rw [List.dropWhile_cons, if_neg (by simpa using h), List.reverse_cons, List.reverse_reverse]
theorem bare_nil : bare [] = [] := rfl
theorem snoc_of {α : Type} {xs : List α} (h : xs ≠ []) : ∃ ys c, xs = ys ++ [c] := ⟨xs.dropLast, xs.getLast h, (List.dropLast_concat_getLast h).symm⟩
/-- a list is its bare one and noughts -/
theorem bare_rest : ∀ (n : Nat) (xs : List Int), xs.length = n → ∃ k, xs = bare xs ++ List.replicate k 0
  | 0, xs, h => ⟨0, by rw [List.eq_nil_of_length_eq_zero h]; rfl⟩
  | n + 1, xs, h => by
    obtain ⟨ys, c, rfl⟩ := snoc_of (xs := xs) (by intro e; rw [e] at h; cases h)
    rw [List.length_append, List.length_singleton] at h
    by_cases hc : c = 0
    · subst hc
      obtain ⟨k, e⟩ := bare_rest n ys (by omega)
      refine ⟨k + 1, ?_⟩
      rw [bare_zero, List.replicate_succ', ← List.append_assoc, ← e]
    · refine ⟨0, ?_⟩
      rw [bare_snoc ys hc]
      simp
theorem bare_S (f : Nat → Int) (k : Nat) (xs : List Int) : S f k (bare xs) = S f k xs := by
  obtain ⟨n, e⟩ := bare_rest _ xs rfl
  have h := congrArg (S f k) e
  rw [S_append, S_zeros, Int.add_zero] at h
  exact h.symm
theorem bare_mem {xs : List Int} {x : Int} (h : x ∈ bare xs) : x ∈ xs := by
  obtain ⟨n, e⟩ := bare_rest _ xs rfl
  rw [e]
  exact List.mem_append_left _ h
theorem bare_len (xs : List Int) : (bare xs).length ≤ xs.length := by
  obtain ⟨n, e⟩ := bare_rest _ xs rfl
  have h := congrArg List.length e
  rw [List.length_append] at h
  omega
theorem bare_idem (xs : List Int) : bare (bare xs) = bare xs := by
  by_cases h : bare xs = []
  · rw [h]
    rfl
  · obtain ⟨ys, c, e⟩ := snoc_of h
    rw [e]
    refine bare_snoc ys ?_
    intro hc
    unfold bare at e
    have h2 := congrArg List.reverse e
    rw [List.reverse_reverse, List.reverse_append, List.reverse_singleton, List.singleton_append] at h2
    have h3 := List.head?_dropWhile_not (· == 0) xs.reverse
    rw [h2] at h3
    simp [hc] at h3
theorem getD_last (ys : List Int) (c : Int) : (ys ++ [c]).getD ((ys ++ [c]).length - 1) 0 = c := by
  rw [List.getD_eq_getElem?_getD, List.length_append, List.length_singleton, Nat.add_sub_cancel, List.getElem?_append_right (Nat.le_refl _), Nat.sub_self]
  rfl
theorem Sm.bare {xs : List Int} (h : Sm xs) : Sm (bare xs) := ⟨Nat.le_trans (bare_len xs) h.len, fun x hx => h.mag x (bare_mem hx)⟩
/-! still heaps: no step with two, no two neighbours (b: what lies beneath) -/
def stillB : Int → List Int → Bool
  | _, [] => true
  | b, m :: r => !(decide (1 < m) || (decide (0 < m) && decide (0 < b))) && stillB m r
theorem stillB_append : ∀ (xs ys : List Int) (b : Int), stillB b (xs ++ ys) = (stillB b xs && stillB (xs.getLastD b) ys)
  | [], ys, b => by simp [stillB]
  | m :: r, ys, b => by
    show (!(decide (1 < m) || (decide (0 < m) && decide (0 < b))) && stillB m (r ++ ys)) = (!(decide (1 < m) || (decide (0 < m) && decide (0 < b))) && stillB m r && stillB ((m :: r).getLastD b) ys)
    rw [stillB_append r ys m, Bool.and_assoc, List.getLastD_cons]
/-- what lies beneath step i -/
def prev (ns : List Int) (i : Nat) : Int := (ns.take i).getLastD 0
theorem prev_zero (ns : List Int) : prev ns 0 = 0 := by simp [prev]
theorem prev_succ {ns : List Int} {i : Nat} {m : Int} (h : ns[i]? = some m) : prev ns (i + 1) = m := by
  unfold prev
  rw [take_more h]
  simp
theorem stillB_take {ns : List Int} {i : Nat} {m : Int} (h : ns[i]? = some m) : stillB 0 (ns.take (i + 1)) = (stillB 0 (ns.take i) && !(decide (1 < m) || (decide (0 < m) && decide (0 < prev ns i)))) := by
  rw [take_more h, stillB_append]
  show (stillB 0 (ns.take i) && (!(decide (1 < m) || (decide (0 < m) && decide (0 < prev ns i))) && true)) = _
  rw [Bool.and_true]
theorem stillB_stop {ns : List Int} (i : Nat) (h : stillB 0 (ns.take i) = false) : stillB 0 ns = false := by
  have e : ns = ns.take i ++ ns.drop i := (List.take_append_drop i ns).symm
  rw [e, stillB_append, h, Bool.false_and]
theorem getD_of {ns : List Int} {i : Nat} {m : Int} (h : ns[i]? = some m) : ns.getD i 0 = m := by
  rw [List.getD_eq_getElem?_getD, h]
  rfl
theorem get_of {ns : List Int} {i : Nat} (h : i < ns.length) : ns[i]? = some (ns.getD i 0) := by
  rw [List.getD_eq_getElem?_getD, List.getElem?_eq_getElem h]
  rfl
end Sh

/-! Own words over the hand layer: what is evaluated without a change of the tracked heap (Val, Ans), loops with a word that stands over the entry's heap. -/
namespace Sh
open PySem PySem.Spec PyProof.Rows L2
section
variable {σ : L2.St} {H H0 H1 : Hp} {K : PySem.W.Frag} {ta tb tc te tl : TE} {tr : TA} {t u : TT} {x y z v : V} {vs : List V} {D : Ends} {ts tz tu : TS}
def Arg (ta : TA) (σ : L2.St) (H : Hp) (vs : List V) : Prop := ∀ Q : List V → Hp → Prop, Q vs H → ta σ H Q
theorem xg_nil : Arg tNil σ H [] := fun _ q => q
theorem xg_cons (h : Val te σ H v) (hr : Arg tr σ H vs) : Arg (tCons te tr) σ H (v :: vs) := fun _ q => h _ (hr _ q)
theorem xv_go {Q : VK} (h : Val te σ H v) (q : Q v H) : te σ H Q := h Q q
theorem xg_go {ta : TA} {Q : List V → Hp → Prop} (h : Arg ta σ H vs) (q : Q vs H) : ta σ H Q := h Q q
theorem xv_c {w : V} (e : v = w) : Val (tC v) σ H w := fun _ q => by
  subst e
  exact q
theorem xv_I0 {g : Int → Int → V} {i j : Int} (ha : Val ta σ H (.int i)) (hb : Val tb σ H (.int j)) : Val (tOp (rI0 g) ta tb) σ H (g i j) := val_op ha hb fun Q q => ⟨i, j, rfl, rfl, q⟩
theorem xv_I {C : Int → Int → Prop} {g : Int → Int → V} {i j : Int} (ha : Val ta σ H (.int i)) (hb : Val tb σ H (.int j)) (hc : C i j) : Val (tOp (rI C g) ta tb) σ H (g i j) := val_op ha hb fun Q q => ⟨i, j, rfl, rfl, hc, q⟩
theorem xv_U {g : Int → V} {i : Int} (ha : Val ta σ H (.int i)) : Val (tUn (rU g) ta) σ H (g i) := fun Q q => ha _ ⟨i, rfl, q⟩
theorem xv_eq (ha : Val ta σ H x) (hb : Val tb σ H y) (hs : scal x y = true) : Val (tOp rEq ta tb) σ H (.bl (decide (x = y))) := val_op ha hb fun Q q => ⟨hs, q⟩
theorem xv_ne (ha : Val ta σ H x) (hb : Val tb σ H y) (hs : scal x y = true) : Val (tOp rNe ta tb) σ H (.bl (!decide (x = y))) := val_op ha hb fun Q q => ⟨hs, q⟩
theorem xv_to {w : V} (h : Val te σ H v) (e : v = w) : Val te σ H w := e ▸ h
/-- len of a list -/
abbrev rLenQ (K : PySem.W.Frag) : List V → Hp → VK → Prop := fun xs H Q => ∃ p ys, xs = [.ref p] ∧ (SqL K H p ys ∨ SqT K H p ys) ∧ Q (.int ys.length) H
theorem xv_len {p : Addr} {xs : List V} (ha : Val ta σ H (.ref p)) (h : SqL K H p xs) : Val (tCB (rLenQ K) (tCons ta tNil)) σ H (.int (xs.length : Int)) := fun Q q => ha _ ⟨p, xs, rfl, .inl h, q⟩
theorem xv_lenI {p : Addr} {ns : List Int} (ha : Val ta σ H (.ref p)) (h : SqL K H p (ns.map V.int)) : Val (tCB (rLenQ K) (tCons ta tNil)) σ H (.int (ns.length : Int)) := fun Q q => ha _ ⟨p, _, rfl, .inl h, by rw [List.length_map]; exact q⟩
theorem xv_cb {r : List V → Hp → VK → Prop} {ta : TA} (h : Arg ta σ H vs) (hr : ∀ Q : VK, Q v H → r vs H Q) : Val (tCB r ta) σ H v := fun Q q => h _ (hr Q q)
/-- an int of a list at a place -/
theorem atI_int {ns : List Int} {i : Int} (h0 : 0 ≤ i) (h1 : i < ns.length) : atI (ns.map V.int) i = some (.int (ns.getD i.toNat 0)) := by
  obtain ⟨n, rfl⟩ := Int.eq_ofNat_of_zero_le h0
  have hn : n < ns.length := by omega
  refine atI_nat ?_
  rw [List.getElem?_map, List.getD_eq_getElem?_getD]
  show Option.map V.int ns[n]? = some (V.int (ns[n]?.getD 0))
  rw [List.getElem?_eq_getElem hn]
  rfl
theorem xv_ix {p : Addr} {ns : List Int} {i : Int} (ha : Val ta σ H (.ref p)) (hb : Val tb σ H (.int i)) (h : SqL K H p (ns.map V.int)) (h0 : 0 ≤ i) (h1 : i < ns.length) : Val (tOp (rIxL K) ta tb) σ H (.int (ns.getD i.toNat 0)) :=
  val_op ha hb fun Q q => ⟨p, _, i, _, rfl, rfl, h, atI_int h0 h1, q⟩
theorem xv_ixV {p : Addr} {xs : List V} {i : Int} (ha : Val ta σ H (.ref p)) (hb : Val tb σ H (.int i)) (h : SqL K H p xs) (hv : atI xs i = some v) : Val (tOp (rIxL K) ta tb) σ H v :=
  val_op ha hb fun Q q => ⟨p, _, i, _, rfl, rfl, h, hv, q⟩
theorem xv_ixT {p : Addr} {xs : List V} {i : Int} (ha : Val ta σ H (.ref p)) (hb : Val tb σ H (.int i)) (h : SqT K H p xs) (hv : atI xs i = some v) : Val (tOp (rIxT K) ta tb) σ H v :=
  val_op ha hb fun Q q => ⟨p, _, i, _, rfl, rfl, h, hv, q⟩
/-- a def whose promise gives a value and leaves the heap -/
theorem xv_call {sp : Sp} {E : XK} (h : Arg tr σ H vs) (hs : ∀ Q : VK, Q v H → sp (vs ++ []) H Q E) : Val (tCall sp [] E tr) σ H v := fun Q q => h _ (hs Q q)
theorem xv_and {a b : Bool} (h1 : Val ta σ H (.bl a)) (h2 : a = true → Val tb σ H (.bl b)) : Val (tAndV ta tb) σ H (.bl (a && b)) := fun Q q => h1 _ ⟨a, rfl, by
  cases a with
  | true => exact h2 rfl _ q
  | false => exact q⟩
theorem xv_or {a b : Bool} (h1 : Val ta σ H (.bl a)) (h2 : a = false → Val tb σ H (.bl b)) : Val (tOrV ta tb) σ H (.bl (a || b)) := fun Q q => h1 _ ⟨a, rfl, by
  cases a with
  | true => exact q
  | false => exact h2 rfl _ q⟩
theorem xv_not {a : Bool} (h1 : Val ta σ H (.bl a)) : Val (tNotV ta) σ H (.bl (!a)) := fun Q q => h1 _ ⟨a, rfl, q⟩
theorem xv_p60 : Val (tOp (rI CPow fun i j => .int (i ^ j.toNat)) (tC (.int 10)) (tC (.int 60))) σ H (.int T60) := fun Q q => ⟨10, 60, rfl, rfl, ⟨by decide, by decide, by decide⟩, by
  show Q (.int ((10 : Int) ^ (60 : Int).toNat)) H
  rw [T60_eq]
  exact q⟩
/-! tests -/
theorem xa_T {b : Bool} (h : Val te σ H (.bl b)) : Ans (tTest te) σ H b := fun Q q => h _ ⟨b, rfl, q⟩
theorem xa_B {b : Bool} (h : Val te σ H (.bl b)) : Ans (tB te) σ H b := fun Q q => h _ ⟨b, rfl, q⟩
theorem xa_not {a : Bool} (h : Ans t σ H a) : Ans (tNot t) σ H (!a) := fun Q q => h _ q
theorem xa_and {a b : Bool} (h1 : Ans t σ H a) (h2 : a = true → Ans u σ H b) : Ans (tAnd t u) σ H (a && b) := fun Q q => h1 _ (by
  cases a with
  | true => exact h2 rfl _ q
  | false => exact q)
theorem xa_or {a b : Bool} (h1 : Ans t σ H a) (h2 : a = false → Ans u σ H b) : Ans (tOr t u) σ H (a || b) := fun Q q => h1 _ (by
  cases a with
  | true => exact q
  | false => exact h2 rfl _ q)
/-! statements -/
theorem xs_par {i j : Nat} {w : V} {ta : TA} (h : Arg ta σ H [v, w]) (q : D.nx ((σ.set i (some v)).set j (some w)) H) : tPar i j ta D σ H := h _ ⟨v, w, rfl, q⟩
theorem xs_if {b : Bool} (h : Ans t σ H b) (h1 : b = true → ts D σ H) (h2 : b = false → tu D σ H) : tIfS t ts tu D σ H := h _ (by
  cases b with
  | true => exact h1 rfl
  | false => exact h2 rfl)
/-- an if without else, something behind it -/
theorem xs_when {b : Bool} (h : Ans t σ H b) (h1 : b = true → ts { D with nx := tz D } σ H) (h2 : b = false → tz D σ H) : tSeq (tIfS t ts tNext) tz D σ H := xs_if (D := { D with nx := tz D }) h h1 h2
/-- if c: x = e, told by what holds of x behind it -/
theorem xs_ifSet {Pv : V → Prop} {b : Bool} {i : Nat} {v0 : V} (h : Ans t σ H b) (hv : b = true → Val te σ H v) (p1 : b = true → Pv v) (p0 : b = false → Pv v0) (hs : σ.set i (some v0) = σ) (k : ∀ v, Pv v → tz D (σ.set i (some v)) H) :
    tSeq (tIfS t (tAsg te (gName i)) tNext) tz D σ H := xs_when h (fun hb => st_set (D := { D with nx := tz D }) (hv hb) (k v (p1 hb))) fun hb => by
  have q := k v0 (p0 hb)
  rw [hs] at q
  exact q
theorem xs_cut {Mid : L2.St → Hp → Prop} (h : ts { D with nx := Mid } σ H) (k : ∀ σ' H', Mid σ' H' → tz D σ' H') : Evl.tCut ts tz D σ H := ⟨Mid, h, k⟩
theorem xs_seq {D : Ends} (h : ts { D with nx := tz D } σ H) : tSeq ts tz D σ H := h
/-- a for over a list of ints, which stands at H0: what was tracked at H0 stays -/
theorem xs_forI {a : Addr} {ns : List Int} {j : Nat} (hv : Val tl σ H (.ref a)) (e0 : Same H0 H) (hx : SqL K H0 a (ns.map V.int)) (P : Nat → L2.St → Hp → Prop) (h0 : P 0 σ H)
    (hs : ∀ i n σ' H', Same H0 H' → ns[i]? = some n → P i σ' H' → ts { D with nx := fun s h => Same H0 h ∧ P (i + 1) s h, ct := fun s h => Same H0 h ∧ P (i + 1) s h, bk := D.nx } (σ'.set j (some (.int n))) H')
    (hd : ∀ σ' H', Same H0 H' → P ns.length σ' H' → D.nx σ' H') : tFor (iList K tl) (gName j) ts D σ H :=
  hv _ ⟨a, rfl, ⟨_, e0.seq hx⟩, for_list (xs := ns.map V.int) (fun i s h => Same H0 h ∧ P i s h) ⟨e0, h0⟩ (fun _ _ _ _ p => p.1.seq hx)
    (fun i x σ' H' hi p => by
      rw [List.getElem?_map] at hi
      cases e : ns[i]? with
      | none =>
        rw [e] at hi
        cases hi
      | some n =>
        rw [e] at hi
        cases hi
        exact hs i n σ' H' p.1 e p.2)
    (fun σ' H' p => by
      rw [List.length_map] at p
      exact hd σ' H' p.1 p.2)⟩
theorem xs_forV {a : Addr} {xs : List V} {g : TG} (hv : Val tl σ H (.ref a)) (e0 : Same H0 H) (hx : SqL K H0 a xs) (P : Nat → L2.St → Hp → Prop) (h0 : P 0 σ H)
    (hs : ∀ i x σ' H', Same H0 H' → xs[i]? = some x → P i σ' H' → g x σ' H' fun σ2 H2 => ts { D with nx := fun s h => Same H0 h ∧ P (i + 1) s h, ct := fun s h => Same H0 h ∧ P (i + 1) s h, bk := D.nx } σ2 H2)
    (hd : ∀ σ' H', Same H0 H' → P xs.length σ' H' → D.nx σ' H') : tFor (iList K tl) g ts D σ H :=
  hv _ ⟨a, rfl, ⟨_, e0.seq hx⟩, for_list (xs := xs) (fun i s h => Same H0 h ∧ P i s h) ⟨e0, h0⟩ (fun _ _ _ _ p => p.1.seq hx)
    (fun i x σ' H' hi p => hs i x σ' H' p.1 hi p.2) (fun σ' H' p => hd σ' H' p.1 p.2)⟩
/-- a for over range(n) -/
theorem xs_forR {ta : TA} {j : Nat} {n : Nat} (h : Arg ta σ H [.int (n : Int)]) (hn : n < 2 ^ 62) (P : Nat → L2.St → Hp → Prop) (h0 : P 0 σ H)
    (hs : ∀ (i : Nat) σ' H', i < n → P i σ' H' → ts { D with nx := P (i + 1), ct := P (i + 1), bk := D.nx } (σ'.set j (some (.int (i : Int)))) H')
    (hd : ∀ σ' H', P n σ' H' → D.nx σ' H') : tFor (iRng1 ta) (gName j) ts D σ H :=
  h _ ⟨(n : Int), rfl, by omega, by omega, for_range (lo := 0) (n := n) P h0 (fun i σ' H' hi p => by
    show ts { D with nx := P (i + 1), ct := P (i + 1), bk := D.nx } (σ'.set j (some (.int ((0 : Int) + (i : Int))))) H'
    rw [Int.zero_add]
    exact hs i σ' H' hi p) hd⟩
/-- a while whose test leaves the heap: a word and a measure -/
theorem xs_while (P : Nat → L2.St → Hp → Prop) (m0 : Nat) (h0 : P m0 σ H)
    (hs : ∀ m σ' H', P m σ' H' → ∃ b, Ans t σ' H' b ∧ (b = true → ts { D with nx := fun s h => ∃ m', m' < m ∧ P m' s h, ct := fun s h => ∃ m', m' < m ∧ P m' s h, bk := D.nx } σ' H') ∧ (b = false → D.nx σ' H')) : tWhile t ts D σ H :=
  ⟨P, ⟨m0, h0⟩, fun m σ' H' p => by
    obtain ⟨b, hb, h1, h2⟩ := hs m σ' H' p
    refine hb _ ?_
    cases b with
    | true => exact ⟨fun s h => ∃ m', m' < m ∧ P m' s h, fun _ _ z => z, h1 rfl⟩
    | false => exact h2 rfl⟩
/-! the same, something behind -/
theorem xq_set {i : Nat} (h : Val te σ H v) (q : tz D (σ.set i (some v)) H) : tSeq (tAsg te (gName i)) tz D σ H := st_set (D := { D with nx := tz D }) h q
/-- read by hand, step by step -/
theorem xr_ret (h : te σ H fun v H1 => D.rt v H1) : tRet te D σ H := h
theorem xr_and {Q : VK} (h : ta σ H fun x H1 => ∃ c, x = .bl c ∧ if c = true then tb σ H1 Q else Q (.bl false) H1) : tAndV ta tb σ H Q := h
theorem xr_call {sp : Sp} {E : XK} {Q : VK} (h : tr σ H fun vs H1 => sp (vs ++ []) H1 Q E) : tCall sp [] E tr σ H Q := h
theorem xr_cons {Q : List V → Hp → Prop} (h : te σ H fun x H1 => tr σ H1 fun xs H2 => Q (x :: xs) H2) : tCons te tr σ H Q := h
/-- x = e, e read by hand -/
theorem xq_run {i : Nat} (h : te σ H fun v H1 => tz D (σ.set i (some v)) H1) : tSeq (tAsg te (gName i)) tz D σ H := h
theorem xq_par {i j : Nat} {w : V} {ta : TA} (h : Arg ta σ H [v, w]) (q : tz D ((σ.set i (some v)).set j (some w)) H) : tSeq (tPar i j ta) tz D σ H := xs_par (D := { D with nx := tz D }) h q
theorem xq_if {b : Bool} (h : Ans t σ H b) (h1 : b = true → ts { D with nx := tz D } σ H) (h2 : b = false → tu { D with nx := tz D } σ H) : tSeq (tIfS t ts tu) tz D σ H := xs_if (D := { D with nx := tz D }) h h1 h2
theorem xq_forI {a : Addr} {ns : List Int} {j : Nat} (hv : Val tl σ H (.ref a)) (e0 : Same H0 H) (hx : SqL K H0 a (ns.map V.int)) (P : Nat → L2.St → Hp → Prop) (h0 : P 0 σ H)
    (hs : ∀ i n σ' H', Same H0 H' → ns[i]? = some n → P i σ' H' → ts { D with nx := fun s h => Same H0 h ∧ P (i + 1) s h, ct := fun s h => Same H0 h ∧ P (i + 1) s h, bk := tz D } (σ'.set j (some (.int n))) H')
    (hd : ∀ σ' H', Same H0 H' → P ns.length σ' H' → tz D σ' H') : tSeq (tFor (iList K tl) (gName j) ts) tz D σ H := xs_forI (D := { D with nx := tz D }) hv e0 hx P h0 hs hd
theorem xq_forV {a : Addr} {xs : List V} {g : TG} (hv : Val tl σ H (.ref a)) (e0 : Same H0 H) (hx : SqL K H0 a xs) (P : Nat → L2.St → Hp → Prop) (h0 : P 0 σ H)
    (hs : ∀ i x σ' H', Same H0 H' → xs[i]? = some x → P i σ' H' → g x σ' H' fun σ2 H2 => ts { D with nx := fun s h => Same H0 h ∧ P (i + 1) s h, ct := fun s h => Same H0 h ∧ P (i + 1) s h, bk := tz D } σ2 H2)
    (hd : ∀ σ' H', Same H0 H' → P xs.length σ' H' → tz D σ' H') : tSeq (tFor (iList K tl) g ts) tz D σ H := xs_forV (D := { D with nx := tz D }) hv e0 hx P h0 hs hd
theorem xq_forR {ta : TA} {j : Nat} {n : Nat} (h : Arg ta σ H [.int (n : Int)]) (hn : n < 2 ^ 62) (P : Nat → L2.St → Hp → Prop) (h0 : P 0 σ H)
    (hs : ∀ (i : Nat) σ' H', i < n → P i σ' H' → ts { D with nx := P (i + 1), ct := P (i + 1), bk := tz D } (σ'.set j (some (.int (i : Int)))) H')
    (hd : ∀ σ' H', P n σ' H' → tz D σ' H') : tSeq (tFor (iRng1 ta) (gName j) ts) tz D σ H := xs_forR (D := { D with nx := tz D }) h hn P h0 hs hd
theorem xq_while (P : Nat → L2.St → Hp → Prop) (m0 : Nat) (h0 : P m0 σ H)
    (hs : ∀ m σ' H', P m σ' H' → ∃ b, Ans t σ' H' b ∧ (b = true → ts { D with nx := fun s h => ∃ m', m' < m ∧ P m' s h, ct := fun s h => ∃ m', m' < m ∧ P m' s h, bk := tz D } σ' H') ∧ (b = false → tz D σ' H')) : tSeq (tWhile t ts) tz D σ H := xs_while (D := { D with nx := tz D }) P m0 h0 hs
end
/-! ### isinstance -/
section
variable {σ : L2.St} {H : Hp} {K : PySem.W.Frag} {ta : TE}
theorem tyx_L {a : Addr} {xs : List V} (h : SqL K H a xs) : TyX K H (.ref a) (.type "list") := by
  rcases h with (h | ⟨o, h⟩) | ⟨o, its, n, h, hc, _⟩
  · exact .base (.lst h)
  · exact .base (.frz h)
  · exact .kList h hc
theorem xv_isi {x : V} {T a : String} {b : Bool} (ha : Val ta σ H x) (ht : TyX K H x (.type a)) (hk : kitB a T = some b) : Val (tCB (rIsi K) (tCons ta (tCons (tC (.ty T)) tNil))) σ H (.bl b) :=
  fun Q q => ha _ ⟨x, .ty T, .type a, .type T, b, rfl, .ty T, ht, kit_ty hk, q⟩
end
/-! ### what makes new lists (over Evl) -/
section
open Evl
variable {σ : L2.St} {H H' H0 : Hp} {K : PySem.W.Frag} {ta tb tc te tl : TE} {tr : TA} {t u : TT} {x y z v : V} {xs ys vs : List V} {D : Ends} {ts tz tu : TS}
theorem xe_I0 {g : Int → Int → V} {i j : Int} (ha : Ev ta σ H (.int i)) (hb : Ev tb σ H (.int j)) : Ev (tOp (rI0 g) ta tb) σ H (g i j) := ev_op ha hb rv_I0
theorem xe_I {C : Int → Int → Prop} {g : Int → Int → V} {i j : Int} (ha : Ev ta σ H (.int i)) (hb : Ev tb σ H (.int j)) (hc : C i j) : Ev (tOp (rI C g) ta tb) σ H (g i j) := ev_op ha hb (rv_I hc)
theorem xe_p60 : Ev (tOp (rI CPow fun i j => .int (i ^ j.toNat)) (tC (.int 10)) (tC (.int 60))) σ H (.int T60) := fun H1 e Q q => xv_p60 _ (q H1 (Ex.refl H1))
theorem xe_len {p : Addr} (ha : Ev ta σ H (.ref p)) (h : SqL K H p xs) : Ev (tCB (rLenQ K) (tCons ta tNil)) σ H (.int (xs.length : Int)) := fun H1 e Q q => ha H1 e _ fun H2 e2 => ⟨p, xs, rfl, .inl (ex_l (e.trans e2) h), q H2 e2⟩
theorem xe_ix {p : Addr} {ns : List Int} {i : Int} (ha : Ev ta σ H (.ref p)) (hb : Ev tb σ H (.int i)) (h : SqL K H p (ns.map V.int)) (h0 : 0 ≤ i) (h1 : i < ns.length) : Ev (tOp (rIxL K) ta tb) σ H (.int (ns.getD i.toNat 0)) := ev_op ha hb (rv_ixL h (atI_int h0 h1))
theorem xl_rep {k : Int} (ha : EvL ta σ H xs) (hb : Ev tb σ H (.int k)) (hk : -(2 ^ 63) ≤ k ∧ k < 2 ^ 63) (hz : xs.length * k.toNat ≤ 100000) : EvL (tOp rRep ta tb) σ H (List.replicate k.toNat xs).flatten := fun H1 e Q q =>
  ha H1 e _ fun p H2 hp e2 h2 => hb H2 (e.trans e2) _ fun H3 e3 => ⟨p, k, xs, rfl, rfl, e3 p _ h2, hk.1, hk.2, sz_of hz, fun p3 h3 => q p3 _ (fresh_back (e2.trans e3) h3) ((e2.trans e3).trans (Ex.new h3)) upd_same⟩
theorem xl_cat {l : Addr} (ha : Ev ta σ H (.ref l)) (hl : H l = some (.lst xs)) (hb : EvL tb σ H ys) (hz : xs.length + ys.length ≤ 100000) : EvL (tOp rCat ta tb) σ H (xs ++ ys) := fun H1 e Q q =>
  ha H1 e _ fun H2 e2 => hb H2 (e.trans e2) _ fun p H3 hp e3 h3 => ⟨l, p, xs, ys, rfl, rfl, ((e.trans e2).trans e3) l _ hl, h3, sz_of hz, fun p4 h4 => q p4 _ (fresh_back (e2.trans e3) h4) ((e2.trans e3).trans (Ex.new h4)) upd_same⟩
theorem xl_catR {l : Addr} (ha : EvL ta σ H xs) (hb : Ev tb σ H (.ref l)) (hl : H l = some (.lst ys)) (hz : xs.length + ys.length ≤ 100000) : EvL (tOp rCat ta tb) σ H (xs ++ ys) := fun H1 e Q q =>
  ha H1 e _ fun p H2 hp e2 h2 => hb H2 (e.trans e2) _ fun H3 e3 => ⟨p, l, xs, ys, rfl, rfl, e3 p _ h2, ((e.trans e2).trans e3) l _ hl, sz_of hz, fun p4 h4 => q p4 _ (fresh_back (e2.trans e3) h4) ((e2.trans e3).trans (Ex.new h4)) upd_same⟩
theorem xl_catN (ha : EvL ta σ H xs) (hb : EvL tb σ H ys) (hz : xs.length + ys.length ≤ 100000) : EvL (tOp rCat ta tb) σ H (xs ++ ys) := fun H1 e Q q =>
  ha H1 e _ fun p H2 hp e2 h2 => hb H2 (e.trans e2) _ fun p3 H3 hp3 e3 h3 => ⟨p, p3, xs, ys, rfl, rfl, e3 p _ h2, h3, sz_of hz, fun p4 h4 => q p4 _ (fresh_back (e2.trans e3) h4) ((e2.trans e3).trans (Ex.new h4)) upd_same⟩
theorem xl_catV {l m : Addr} (ha : Ev ta σ H (.ref l)) (hl : H l = some (.lst xs)) (hb : Ev tb σ H (.ref m)) (hm : H m = some (.lst ys)) (hz : xs.length + ys.length ≤ 100000) : EvL (tOp rCat ta tb) σ H (xs ++ ys) := fun H1 e Q q =>
  ha H1 e _ fun H2 e2 => hb H2 (e.trans e2) _ fun H3 e3 => ⟨l, m, xs, ys, rfl, rfl, ((e.trans e2).trans e3) l _ hl, ((e.trans e2).trans e3) m _ hm, sz_of hz, fun p4 h4 => q p4 _ (fresh_back (e2.trans e3) h4) ((e2.trans e3).trans (Ex.new h4)) upd_same⟩
/-- list(xs) -/
abbrev rListQ (K : PySem.W.Frag) : List V → Hp → VK → Prop := fun xs H Q => ∃ p ys, xs = [.ref p] ∧ (SqL K H p ys ∨ SqT K H p ys) ∧ ∀ l, H l = none → Q (.ref l) (upd H l (.lst ys))
theorem xl_listQ {p : Addr} (ha : Ev ta σ H (.ref p)) (h : SqL K H p xs) : EvL (tCB (rListQ K) (tCons ta tNil)) σ H xs := fun H1 e Q q =>
  ha H1 e _ fun H2 e2 => ⟨p, xs, rfl, .inl (ex_l (e.trans e2) h), fun l hl => q l _ (fresh_back e2 hl) (e2.trans (Ex.new hl)) upd_same⟩
theorem xl_revL {p : Addr} (ha : Ev ta σ H (.ref p)) (h : SqL K H p xs) : EvL (tRevL K ta) σ H xs.reverse := fun H1 e Q q =>
  ha H1 e _ fun H2 e2 => ⟨p, xs, rfl, ex_l (e.trans e2) h, fun l hl => q l _ (fresh_back e2 hl) (e2.trans (Ex.new hl)) upd_same⟩
/-- [0] * n, of ints -/
theorem flat_rep (k : Nat) (c : Int) : (List.replicate k [V.int c]).flatten = (List.replicate k c).map V.int := by
  induction k with
  | zero => rfl
  | succ k ih => rw [List.replicate_succ, List.flatten_cons, ih] <;> rfl
theorem cut_all (xs : List V) (a b : Nat) : cutV xs (some (a : Int)) (some (b : Int)) = (xs.take b).drop a := by
  unfold cutV
  rw [show HT.sIx xs.length 0 (some (a : Int)) = min a xs.length from HT.sIx_nat xs.length 0 a, show HT.sIx xs.length xs.length (some (b : Int)) = min b xs.length from HT.sIx_nat xs.length xs.length b]
  rw [List.drop_take]
  by_cases ha : a ≤ xs.length
  · have e1 : min a xs.length = a := Nat.min_eq_left ha
    rw [e1]
    by_cases hb : b ≤ xs.length
    · rw [Nat.min_eq_left hb]
    · have e2 : min b xs.length = xs.length := Nat.min_eq_right (by omega)
      rw [e2, List.take_of_length_le (by rw [List.length_drop]; omega), List.take_of_length_le (by rw [List.length_drop]; omega)]
  · have e1 : min a xs.length = xs.length := Nat.min_eq_right (by omega)
    rw [e1, List.drop_length, List.drop_of_length_le (by omega)]
    simp
theorem cut_lo (xs : List V) (a : Nat) : cutV xs (some (a : Int)) none = xs.drop a := by
  unfold cutV
  rw [show HT.sIx xs.length 0 (some (a : Int)) = min a xs.length from HT.sIx_nat xs.length 0 a, HT.sIx_none]
  by_cases ha : a ≤ xs.length
  · rw [Nat.min_eq_left ha, List.take_of_length_le (by rw [List.length_drop]; omega)]
  · rw [Nat.min_eq_right (by omega), List.drop_length, List.drop_of_length_le (by omega)]
    simp
theorem cut_hi (xs : List V) (b : Nat) : cutV xs none (some (b : Int)) = xs.take b := by
  have h := cut_all xs 0 b
  rw [List.drop_zero] at h
  rw [← h]
  unfold cutV
  rw [HT.sIx_none, show HT.sIx xs.length 0 (some ((0 : Nat) : Int)) = min 0 xs.length from HT.sIx_nat xs.length 0 0, Nat.zero_min]
theorem cut_int {ns : List Int} {a b : Int} (ha : 0 ≤ a) (hb : 0 ≤ b) : cutV (ns.map V.int) (some a) (some b) = ((ns.take b.toNat).drop a.toNat).map V.int := by
  obtain ⟨x, rfl⟩ := Int.eq_ofNat_of_zero_le ha
  obtain ⟨y, rfl⟩ := Int.eq_ofNat_of_zero_le hb
  rw [List.map_drop, List.map_take]
  exact cut_all _ x y
/-- [e for x in xs], xs a new list of ints, e's value F x -/
theorem xl_mapI {cs : List Int} {F : Int → V} {j : Nat} {ws : List Nat} (h : EvL tl σ H (cs.map V.int)) (hz : cs.length ≤ 40000) (hw : ∀ x, wipe ((wipe σ ws).set j (some x)) ws = wipe σ ws)
    (he : ∀ x H1, Ex H H1 → x ∈ cs → Ev te ((wipe σ ws).set j (some (.int x))) H1 (F x)) : EvL (tLc (iList K tl) (gName j) tYes te ws) σ H (cs.map F) := by
  have r := el_lcNL (K := K) (vs := ws) (j := j) (t := tYes) (fun _ => true) (fun i => F (cs.getD i 0)) h (by rw [List.length_map]; exact hz) hw (fun i x H1 e hi => fun H2 e2 Q q => q H2 (Ex.refl H2)) (te := te) (fun i x H1 e hi _ => by
    rw [List.getElem?_map] at hi
    cases hc : cs[i]? with
    | none =>
      rw [hc] at hi
      cases hi
    | some c =>
      rw [hc] at hi
      cases hi
      rw [getD_of hc]
      exact he c H1 e (List.mem_of_getElem? hc))
  have e : given (cs.map V.int).length (fun _ => true) (fun i => F (cs.getD i 0)) = cs.map F := by
    unfold given
    rw [List.filter_eq_self.mpr (fun _ _ => rfl), List.length_map]
    refine List.ext_getElem? fun i => ?_
    rw [List.getElem?_map, List.getElem?_map]
    by_cases hi : i < cs.length
    · rw [List.getElem?_range hi, get_of hi]
      rfl
    · rw [List.getElem?_eq_none (by rw [List.length_range]; omega), List.getElem?_eq_none (by omega)]
      rfl
  rw [e] at r
  exact r
/-- what was tracked ahead of a list's making stays when that list is changed -/
theorem same_mut {p : Addr} {o : HO} (e : Same H H') (h : H p = none) : Same H (upd H' p o) := Ex.mut e h
end
/-! ### while len(xs) > 0 and xs[len(xs) - 1] == 0: xs.pop() -/
section
variable {σ : L2.St} {H : Hp} {K : PySem.W.Frag} {D : Ends}
theorem xs_pops {i : Nat} {l : Addr} {xs : List Int} (hσ : σ[i]? = some (some (.ref l))) (hl : H l = some (.lst (xs.map V.int)))
    (q : ∀ H', (∀ b, b ≠ l → H' b = H b) → H' l = some (.lst ((bare xs).map V.int)) → D.nx σ H') :
    tWhile (tAnd (tTest (tOp (rI0 fun i j => .bl (decide (j < i))) (tCB (rLenQ K) (tCons (tVar i) tNil)) (tC (.int 0))))
      (tTest (tOp rEq (tOp (rIxL K) (tVar i) (tOp (rI0 fun i j => .int (i - j)) (tCB (rLenQ K) (tCons (tVar i) tNil)) (tC (.int 1)))) (tC (.int 0)))))
      (tDrop (tBM0 K "list" rPop (tVar i))) D σ H := by
  refine xs_while (fun m s H' => ∃ ys : List Int, s = σ ∧ (∀ b, b ≠ l → H' b = H b) ∧ H' l = some (.lst (ys.map V.int)) ∧ bare ys = bare xs ∧ ys.length = m) _ ⟨xs, rfl, fun _ _ => rfl, hl, rfl, rfl⟩ ?_
  rintro m s H' ⟨ys, rfl, e3, h3, hb, rfl⟩
  refine ⟨_, xa_and (xa_T (xv_I0 (xv_lenI (val_var hσ) (SqL.of h3)) val_c)) fun hc => xa_T (xv_eq (xv_ix (val_var hσ) (xv_I0 (xv_lenI (val_var hσ) (SqL.of h3)) val_c) (SqL.of h3) (by
    have := of_decide_eq_true hc
    omega) (by omega)) val_c rfl), fun hc => ?_, fun hc => ?_⟩
  · rw [Bool.and_eq_true] at hc
    obtain ⟨c1, c2⟩ := hc
    have c1 := of_decide_eq_true c1
    have c2 := V.int.inj (of_decide_eq_true c2)
    obtain ⟨zs, c, rfl⟩ := snoc_of (xs := ys) (by
      rintro rfl
      simp at c1)
    rw [show (((zs ++ [c]).length : Int) - 1).toNat = (zs ++ [c]).length - 1 by omega, getD_last] at c2
    subst c2
    refine ⟨.ref l, hσ, .inl ⟨rfl, _, SqL.of h3⟩, l, _, .int 0, rfl, rfl, h3, ?_, ?_⟩
    · rw [List.length_map, List.getElem?_map, List.length_append, List.length_singleton, Nat.add_sub_cancel, List.getElem?_append_right (Nat.le_refl _), Nat.sub_self]
      rfl
    · refine ⟨zs.length, by rw [List.length_append, List.length_singleton]; omega, zs, rfl, fun b hb => by rw [upd_ne hb]; exact e3 b hb, ?_, ?_, rfl⟩
      · rw [upd_same, List.map_append, List.map_singleton, List.dropLast_concat]
      · rw [← hb, bare_zero]
  · have hy : bare ys = ys := by
      by_cases h0 : ys = []
      · rw [h0]
        rfl
      · obtain ⟨zs, c, rfl⟩ := snoc_of h0
        refine bare_snoc zs fun e => ?_
        subst e
        have c1 := of_decide_eq_false (Bool.and_eq_false_imp.mp hc (decide_eq_true (by rw [List.length_append, List.length_singleton]; omega)))
        refine c1 ?_
        have e9 : (((zs ++ [(0 : Int)]).length : Int) - 1).toNat = (zs ++ [(0 : Int)]).length - 1 := by omega
        rw [e9, getD_last]
    refine q H' e3 ?_
    rw [h3, ← hb, hy]
theorem xq_pops {tz : TS} {i : Nat} {l : Addr} {xs : List Int} (hσ : σ[i]? = some (some (.ref l))) (hl : H l = some (.lst (xs.map V.int)))
    (q : ∀ H', (∀ b, b ≠ l → H' b = H b) → H' l = some (.lst ((bare xs).map V.int)) → tz D σ H') :
    tSeq (tWhile (tAnd (tTest (tOp (rI0 fun i j => .bl (decide (j < i))) (tCB (rLenQ K) (tCons (tVar i) tNil)) (tC (.int 0))))
      (tTest (tOp rEq (tOp (rIxL K) (tVar i) (tOp (rI0 fun i j => .int (i - j)) (tCB (rLenQ K) (tCons (tVar i) tNil)) (tC (.int 1)))) (tC (.int 0)))))
      (tDrop (tBM0 K "list" rPop (tVar i)))) tz D σ H := xs_pops (D := { D with nx := tz D }) hσ hl q
end
/-! ### lists of ints compared -/
section
variable {σ : L2.St} {H : Hp} {K : PySem.W.Frag} {ta tb : TE}
theorem dpAll_int (ns : List Int) : DpAll K H (ns.map V.int) (ns.map PyData.int) := by
  induction ns with
  | nil => exact .nil
  | cons n r ih => exact .cons (.int n) ih
theorem eqvAll_int : ∀ ns ms : List Int, PyData.eqvAll (ns.map PyData.int) (ms.map PyData.int) = decide (ns = ms)
  | [], [] => by simp [PyData.eqvAll]
  | [], m :: ms => by simp [PyData.eqvAll]
  | n :: ns, [] => by simp [PyData.eqvAll]
  | n :: ns, m :: ms => by
    show (n == m && PyData.eqvAll (ns.map PyData.int) (ms.map PyData.int)) = decide (n :: ns = m :: ms)
    rw [eqvAll_int ns ms]
    by_cases h : n = m
    · subst h
      by_cases h2 : ns = ms
      · subst h2
        simp
      · simp [h2]
    · simp [h]
theorem eqv_int (ns ms : List Int) : PyData.eqv (.list (ns.map PyData.int)) (.list (ms.map PyData.int)) = decide (ns = ms) := by
  rw [← eqvAll_int]
  simp [PyData.eqv]
theorem canLayAll_int : ∀ ns : List Int, PyData.canLayAll0 (ns.map PyData.int) = true
  | [] => rfl
  | n :: ns => by
    show (true && PyData.canLayAll0 (ns.map PyData.int)) = true
    rw [canLayAll_int ns]
    rfl
theorem depthAll_int : ∀ ns : List Int, PyData.depthAll (ns.map PyData.int) ≤ 1
  | [] => by simp [PyData.depthAll]
  | n :: ns => by
    have := depthAll_int ns
    simp only [List.map_cons, PyData.depthAll, PyData.depth]
    omega
theorem shaped_int (ns : List Int) : SeqAt.shaped (.list (ns.map PyData.int)) = true := by
  unfold SeqAt.shaped
  rw [Bool.and_eq_true]
  refine ⟨canLayAll_int ns, decide_eq_true ?_⟩
  have := depthAll_int ns
  simp only [PyData.depth]
  omega
/-- xs == ys, xs != ys of lists of ints -/
theorem xv_eqL {a b : Addr} {ns ms : List Int} (ha : Val ta σ H (.ref a)) (hb : Val tb σ H (.ref b)) (h1 : SqL K H a (ns.map V.int)) (h2 : SqL K H b (ms.map V.int)) : Val (tOp (rEqD K) ta tb) σ H (.bl (decide (ns = ms))) :=
  val_op ha hb fun Q q => ⟨_, _, .lst h1 (dpAll_int ns), .lst h2 (dpAll_int ms), shaped_int ns, shaped_int ms, by rw [eqv_int]; exact q⟩
theorem xv_neL {a b : Addr} {ns ms : List Int} (ha : Val ta σ H (.ref a)) (hb : Val tb σ H (.ref b)) (h1 : SqL K H a (ns.map V.int)) (h2 : SqL K H b (ms.map V.int)) : Val (tOp (rNeD K) ta tb) σ H (.bl (!decide (ns = ms))) :=
  val_op ha hb fun Q q => ⟨_, _, .lst h1 (dpAll_int ns), .lst h2 (dpAll_int ms), shaped_int ns, shaped_int ms, by rw [eqv_int]; exact q⟩
end
end Sh

namespace K02
open PySem PySem.Spec PyProof.Rows L2 Sh
def topS (i : Nat) : Stmt := PySem.Challenge.pw_shellstair_k02_still.main.body.getD i (.Pass ⟨0, 0, 0, 0⟩)
abbrev st_is_still : Stmt := topS 1
theorem sc_is_still : FnScope ["heap", "below", "many"] ["heap"] (defScope st_is_still) := ⟨rfl, rfl, rfl, by decide +kernel, rfl, by decide +kernel, by decide +kernel⟩
abbrev st_l_cell_at : Stmt := topS 3
theorem sc_l_cell_at : FnScope ["_law_script", "_law_k"] ["_law_script", "_law_k"] (defScope st_l_cell_at) := ⟨rfl, rfl, rfl, by decide +kernel, rfl, by decide +kernel, by decide +kernel⟩
abbrev st_l_heap : Stmt := topS 4
theorem sc_l_heap : FnScope ["_law_cells", "_law_heap_here", "_law_cell"] ["_law_cells"] (defScope st_l_heap) := ⟨rfl, rfl, rfl, by decide +kernel, rfl, by decide +kernel, by decide +kernel⟩
abbrev st_l_bare : Stmt := topS 5
theorem sc_l_bare : FnScope ["_law_heap_here"] ["_law_heap_here"] (defScope st_l_bare) := ⟨rfl, rfl, rfl, by decide +kernel, rfl, by decide +kernel, by decide +kernel⟩
abbrev st_l_still : Stmt := topS 6
theorem sc_l_still : FnScope ["_law_heap_here", "_law_k"] ["_law_heap_here"] (defScope st_l_still) := ⟨rfl, rfl, rfl, by decide +kernel, rfl, by decide +kernel, by decide +kernel⟩
abbrev st_law : Stmt := topS 7
theorem sc_law : FnScope ["_law_script", "_law_heap_here", "_law_way", "_law_at", "_law_handed", "_law_found"] ["_law_script"] (defScope st_law) := ⟨rfl, rfl, rfl, by decide +kernel, rfl, by decide +kernel, by decide +kernel⟩
/-- what the top has written -/
structure Txt (K : PySem.W.Frag) (mg : Str → Option Value) where
  f_is_still : Addr
  d_is_still : FuncData
  F_is_still : Fun K "is_still" "is_still" st_is_still f_is_still d_is_still
  g_is_still : mg "is_still" = some (.ref f_is_still)
  b_is_still : Binds K d_is_still ["heap"] []
  f_l_cell_at : Addr
  d_l_cell_at : FuncData
  F_l_cell_at : Fun K "_law_cell_at" "_law_cell_at" st_l_cell_at f_l_cell_at d_l_cell_at
  g_l_cell_at : mg "_law_cell_at" = some (.ref f_l_cell_at)
  b_l_cell_at : Binds K d_l_cell_at ["_law_script", "_law_k"] []
  f_l_heap : Addr
  d_l_heap : FuncData
  F_l_heap : Fun K "_law_heap" "_law_heap" st_l_heap f_l_heap d_l_heap
  g_l_heap : mg "_law_heap" = some (.ref f_l_heap)
  b_l_heap : Binds K d_l_heap ["_law_cells"] []
  f_l_bare : Addr
  d_l_bare : FuncData
  F_l_bare : Fun K "_law_bare" "_law_bare" st_l_bare f_l_bare d_l_bare
  g_l_bare : mg "_law_bare" = some (.ref f_l_bare)
  b_l_bare : Binds K d_l_bare ["_law_heap_here"] []
  f_l_still : Addr
  d_l_still : FuncData
  F_l_still : Fun K "_law_still" "_law_still" st_l_still f_l_still d_l_still
  g_l_still : mg "_law_still" = some (.ref f_l_still)
  b_l_still : Binds K d_l_still ["_law_heap_here"] []
  f_law : Addr
  d_law : FuncData
  F_law : Fun K "law" "law" st_law f_law d_law
  g_law : mg "law" = some (.ref f_law)
  b_law : Binds K d_law ["_law_script"] []
  m_len : mg "len" = none
  m_range : mg "range" = none
  m_list : mg "list" = none
  m_isinstance : mg "isinstance" = none
  m_bool : mg "bool" = none
local macro_rules | `(tactic| walk_at "side") => `(tactic| first | assumption | omega | exact ⟨by decide, by decide⟩ | exact ⟨by decide, by decide, by decide⟩ | (show (0 : Int) < _; first | omega | decide | exact T60_pos | exact T60_pos1 | decide +kernel))
local macro_rules | `(tactic| walk_at "sq") => `(tactic| first | assumption | exact SqL.of (by assumption))
local macro_rules | `(tactic| walk_at "val") => `(tactic| first
  | with_reducible exact val_c
  | ((with_reducible apply xv_c) <;> exact rfl)
  | ((with_reducible apply val_var) <;> rfl)
  | with_reducible exact xv_p60
  | ((with_reducible apply xv_I0) <;> walk_at "val")
  | ((with_reducible apply xv_I) <;> first | walk_at "val" | walk_at "side")
  | ((with_reducible apply xv_eq) <;> first | walk_at "val" | rfl)
  | ((with_reducible apply xv_ne) <;> first | walk_at "val" | rfl)
  | ((with_reducible apply xv_U) <;> walk_at "val")
  | ((with_reducible apply xv_lenI) <;> first | walk_at "val" | walk_at "sq")
  | ((with_reducible apply xv_ix) <;> first | walk_at "val" | walk_at "sq" | walk_at "side")
  | ((with_reducible apply xv_and) <;> first | walk_at "val" | (intro hc; (try replace hc := of_decide_eq_true hc); walk_at "val"))
  | ((with_reducible apply xv_or) <;> first | walk_at "val" | (intro hc; (try replace hc := of_decide_eq_false hc); walk_at "val"))
  | ((with_reducible apply xv_not) <;> walk_at "val")
  | walk_at "val+")
local macro_rules | `(tactic| walk_at "val+") => `(tactic| fail "val")
local macro_rules | `(tactic| walk_at "arg") => `(tactic| first | with_reducible exact xg_nil | ((with_reducible apply xg_cons) <;> first | walk_at "val" | walk_at "arg"))
local macro_rules | `(tactic| walk_at "ans") => `(tactic| first
  | ((with_reducible apply xa_T) <;> walk_at "val")
  | ((with_reducible apply xa_B) <;> walk_at "val")
  | ((with_reducible apply xa_not) <;> walk_at "ans")
  | ((with_reducible apply xa_and) <;> first | walk_at "ans" | (intro hc; (try replace hc := of_decide_eq_true hc); walk_at "ans"))
  | ((with_reducible apply xa_or) <;> first | walk_at "ans" | (intro hc; (try replace hc := of_decide_eq_false hc); walk_at "ans")))

section
variable {P : Program} {w : World} {K : PySem.W.Frag} {mg : Str → Option Value} {base : Heap}
/-! ### a cell of the script -/
def sp_cell (K : PySem.W.Frag) : Sp := fun vs H Q _ => ∃ (a : Addr) (ns : List Int) (j : Nat), vs = [.ref a, .int (j : Int)] ∧ SqL K H a (ns.map V.int) ∧ Q (.int (ns.getD j 0)) H
theorem ok_l_cell_at (T : Txt K mg) : FnOk P w K mg base CX0 1 T.f_l_cell_at T.d_l_cell_at ["_law_script", "_law_k"] (sp_cell K) := by
  refine T.F_l_cell_at.ok sc_l_cell_at (fun vs H Q E h => ?_) (fun cdv A outer s H vs Q E hr h => ?_)
  · obtain ⟨a, ns, j, rfl, _⟩ := h
    rfl
  · obtain ⟨a, ns, j, rfl, hS, q⟩ := h
    refine ⟨_, (pss_cons (ps_if (pt_cmpR op_lt (pv 1) (pe_callB call_len_seq (by rfl) T.m_len PySem.boot_len (pa_cons (pv 0) pa_nil)) (nomark _)) (pss_one (ps_ret (pe_ix ix_list (pv 0) (pv 1) (fun _ _ => rfl)))) pss_nil)
      (pss_one (ps_ret pe_int))), ?_⟩
    refine xs_when (xa_T (xv_I0 (val_var rfl) (xv_lenI (val_var rfl) hS))) (fun hc => ?_) (fun hc => ?_)
    · have hj : (j : Int) < ns.length := of_decide_eq_true hc
      exact st_ret (xv_ix (val_var rfl) (val_var rfl) hS (by omega) hj) q
    · have hj : ¬ (j : Int) < ns.length := of_decide_eq_false hc
      refine st_ret val_c ?_
      rw [List.getD_eq_getElem?_getD, List.getElem?_eq_none (by omega)] at q
      exact q
theorem xv_cell {σ : L2.St} {H : Hp} {ta tb : TE} {a : Addr} {ns : List Int} {j : Nat} (h : Val ta σ H (.ref a)) (h2 : Val tb σ H (.int (j : Int))) (hS : SqL K H a (ns.map V.int)) : Val (tCall (sp_cell K) [] E0 (tCons ta (tCons tb tNil))) σ H (.int (ns.getD j 0)) :=
  xv_call (xg_cons h (xg_cons h2 xg_nil)) fun Q q => ⟨a, ns, j, rfl, hS, q⟩
local macro_rules | `(tactic| walk_at "val+") => `(tactic| ((with_reducible apply xv_cell) <;> first | walk_at "val" | walk_at "sq"))
/-! ### is_still -/
def sp_is_still (K : PySem.W.Frag) : Sp := fun vs H Q _ => ∃ (a : Addr) (ns : List Int), vs = [.ref a] ∧ SqL K H a (ns.map V.int) ∧ ns.length ≤ 100000 ∧ Q (.bl (stillB 0 ns)) H
theorem ok_is_still (T : Txt K mg) : FnOk P w K mg base CX0 1 T.f_is_still T.d_is_still ["heap"] (sp_is_still K) := by
  refine T.F_is_still.ok sc_is_still (fun vs H Q E h => ?_) (fun cdv A outer s H vs Q E hr h => ?_)
  · obtain ⟨a, ns, rfl, _⟩ := h
    rfl
  · obtain ⟨a, ns, rfl, hS, hl, q⟩ := h
    refine ⟨_, (pss_cons (ps_set (i := 1) sc_is_still.nd rfl (Or.inl rfl) pe_int)
      (pss_cons (ps_for PassesOwn.never rfl (pi_list (pv 0)) (pg_name (i := 2) sc_is_still.nd rfl (Or.inl rfl)) (pss_cons (ps_if (PW.pt (pw_or (pt_cmpR op_gt (pv 2) pe_int (nomark _)) (pw_or1 (PW.pt (pw_and (pt_cmpR op_gt (pv 2) pe_int (nomark _)) (pw_and1 (pt_cmpR op_gt (pv 1) pe_int (nomark _)))))))) (pss_one (ps_ret pe_bl)) pss_nil)
      (pss_one (ps_set (i := 1) sc_is_still.nd rfl (Or.inl rfl) (pv 2)))))
      (pss_one (ps_ret pe_bl)))), ?_⟩
    refine xq_set val_c ?_
    refine xq_forI (ns := ns) (val_var rfl) (Same.refl H) hS (fun i σ H' => ∃ y, σ = [some (.ref a), some (.int (prev ns i)), y] ∧ H' = H ∧ stillB 0 (ns.take i) = true) ⟨none, by rw [prev_zero]; rfl, rfl, by simp [stillB]⟩ ?_ ?_
    · rintro i n σ H' e hn ⟨y, rfl, rfl, hb⟩
      have ht := stillB_take hn
      rw [hb, Bool.true_and] at ht
      refine xs_when (by walk_at "ans") (fun hc => ?_) (fun hc => ?_)
      · rw [hc] at ht
        rw [stillB_stop (i + 1) ht] at q
        exact st_ret val_c q
      · rw [hc] at ht
        refine st_set (val_var rfl) ⟨e, some (.int n), ?_, rfl, ht⟩
        rw [prev_succ hn]
        rfl
    · rintro σ H' e ⟨y, rfl, rfl, hb⟩
      rw [List.take_length] at hb
      rw [hb] at q
      exact st_ret val_c q
theorem xv_is_still {σ : L2.St} {H : Hp} {ta : TE} {a : Addr} {ns : List Int} (h : Val ta σ H (.ref a)) (hS : SqL K H a (ns.map V.int)) (hl : ns.length ≤ 100000) : Val (tCall (sp_is_still K) [] E0 (tCons ta tNil)) σ H (.bl (stillB 0 ns)) :=
  xv_call (xg_cons h xg_nil) fun Q q => ⟨a, ns, rfl, hS, hl, q⟩
local macro_rules | `(tactic| walk_at "val+") => `(tactic| ((with_reducible apply xv_is_still) <;> first | walk_at "val" | walk_at "sq" | walk_at "side"))
/-! ### noughts at the end taken off, in place -/
def sp_bare : Sp := fun vs H Q _ => ∃ (l : Addr) (xs : List Int), vs = [.ref l] ∧ H l = some (.lst (xs.map V.int)) ∧ ∀ H', (∀ b, b ≠ l → H' b = H b) → H' l = some (.lst ((bare xs).map V.int)) → Q (.ref l) H'
theorem ok_l_bare (T : Txt K mg) : FnOk P w K mg base CX0 1 T.f_l_bare T.d_l_bare ["_law_heap_here"] sp_bare := by
  refine T.F_l_bare.ok sc_l_bare (fun vs H Q E h => ?_) (fun cdv A outer s H vs Q E hr h => ?_)
  · obtain ⟨l, xs, rfl, _⟩ := h
    rfl
  · obtain ⟨l, xs, rfl, hl, q⟩ := h
    refine ⟨_, (pss_cons (ps_while PassesOwn.never (PW.pt (pw_and (pt_cmpR op_gt (pe_callB call_len_seq (by rfl) T.m_len PySem.boot_len (pa_cons (pv 0) pa_nil)) pe_int (nomark _)) (pw_and1 (pt_cmpR op_eq (pe_ix ix_list (pv 0) (pe_op op_sub (pe_callB call_len_seq (by rfl) T.m_len PySem.boot_len (pa_cons (pv 0) pa_nil)) pe_int) (fun _ _ => rfl)) pe_int (nomark _))))) (pss_one (ps_expr (pe_bm0 PySem.F.plainAttrs_list PySem.F.slot_list_pop PySem.F.type_list_pop mt_pop (pv 0)))))
      (pss_one (ps_ret (pv 0)))), ?_⟩
    exact xq_pops (l := l) rfl hl fun H3 e3 h3 => st_ret (val_var rfl) (q H3 e3 h3)
/-! ### _law_still -/
theorem ok_l_still (T : Txt K mg) : FnOk P w K mg base CX0 1 T.f_l_still T.d_l_still ["_law_heap_here"] (sp_is_still K) := by
  refine T.F_l_still.ok sc_l_still (fun vs H Q E h => ?_) (fun cdv A outer s H vs Q E hr h => ?_)
  · obtain ⟨a, ns, rfl, _⟩ := h
    rfl
  · obtain ⟨a, ns, rfl, hS, hl, q⟩ := h
    refine ⟨_, (pss_cons (ps_for PassesOwn.never rfl (pi_range1 (by rfl) T.m_range (pa_cons (pe_callB call_len_seq (by rfl) T.m_len PySem.boot_len (pa_cons (pv 0) pa_nil)) pa_nil)) (pg_name (i := 1) sc_l_still.nd rfl (Or.inl rfl)) (pss_cons (ps_if (pt_cmpR op_gt (pe_ix ix_list (pv 0) (pv 1) (fun _ _ => rfl)) pe_int (nomark _)) (pss_one (ps_ret pe_bl)) pss_nil)
      (pss_one (ps_if (PW.pt (pw_and (pt_cmpR op_gt (pv 1) pe_int (nomark _)) (pw_and (pt_cmpR op_gt (pe_ix ix_list (pv 0) (pv 1) (fun _ _ => rfl)) pe_int (nomark _)) (pw_and1 (pt_cmpR op_gt (pe_ix ix_list (pv 0) (pe_op op_sub (pv 1) pe_int) (fun _ _ => rfl)) pe_int (nomark _)))))) (pss_one (ps_ret pe_bl)) pss_nil))))
      (pss_one (ps_ret pe_bl))), ?_⟩
    refine xq_forR (n := ns.length) (by walk_at "arg") (by omega) (fun i σ H' => ∃ y, σ = [some (.ref a), y] ∧ H' = H ∧ stillB 0 (ns.take i) = true) ⟨none, rfl, rfl, by simp [stillB]⟩ ?_ ?_
    · rintro i σ H' hi ⟨y, rfl, rfl, hb⟩
      have hn := get_of hi
      have ht := stillB_take hn
      rw [hb, Bool.true_and] at ht
      have hi2 : (i : Int) < ns.length := by omega
      refine xs_when (by walk_at "ans") (fun hc => ?_) (fun hc => ?_)
      · refine st_ret val_c ?_
        have hc : 1 < ns.getD i 0 := of_decide_eq_true hc
        rw [stillB_stop (i + 1) (by rw [ht, decide_eq_true hc]; rfl)] at q
        exact q
      · have hc := of_decide_eq_false hc
        refine xs_if (by walk_at "ans") (fun hd => ?_) (fun hd => ?_)
        · refine st_ret val_c ?_
          simp only [Bool.and_eq_true, decide_eq_true_eq] at hd
          obtain ⟨d1, d2, d3⟩ := hd
          have hp : prev ns i = ns.getD ((i : Int) - 1).toNat 0 := by
            obtain ⟨j, rfl⟩ : ∃ j, i = j + 1 := ⟨i - 1, by omega⟩
            rw [prev_succ (get_of (show j < ns.length by omega))]
            congr 1
            omega
          have d2 : 0 < ns.getD i 0 := d2
          rw [stillB_stop (i + 1) (by rw [ht, hp, decide_eq_true d2, decide_eq_true d3, Bool.and_true, Bool.or_true]; rfl)] at q
          exact q
        · refine ⟨_, rfl, rfl, ?_⟩
          rw [ht]
          have hc : ¬ 1 < ns.getD i 0 := hc
          rw [decide_eq_false hc, Bool.false_or, Bool.not_eq_true', Bool.and_eq_false_imp]
          intro e1
          have e1 := of_decide_eq_true e1
          by_cases h0 : i = 0
          · subst h0
            rw [prev_zero]
            rfl
          · have hp : prev ns i = ns.getD ((i : Int) - 1).toNat 0 := by
              obtain ⟨j, rfl⟩ : ∃ j, i = j + 1 := ⟨i - 1, by omega⟩
              rw [prev_succ (get_of (show j < ns.length by omega))]
              congr 1
              omega
            rw [hp]
            refine decide_eq_false fun e2 => ?_
            have h1 : (0 : Int) < i := by omega
            simp only [h1, e2, decide_true, Bool.true_and, Bool.and_true, decide_eq_false_iff_not] at hd
            exact hd e1
    · rintro σ H' ⟨y, rfl, rfl, hb⟩
      rw [List.take_length] at hb
      rw [hb] at q
      exact st_ret val_c q
/-! ### the heap: some list -/
def sp_heap (K : PySem.W.Frag) : Sp := fun vs H Q _ => ∃ (a : Addr) (cs : List Int), vs = [.ref a] ∧ SqL K H a (cs.map V.int) ∧ cs.length ≤ 100 ∧
  ∀ H' p (xs : List Int), Same H H' → H p = none → H' p = some (.lst (xs.map V.int)) → xs.length ≤ 1000 → Q (.ref p) H'
theorem ok_l_heap (T : Txt K mg) : FnOk P w K mg base CX0 1 T.f_l_heap T.d_l_heap ["_law_cells"] (sp_heap K) := by
  refine T.F_l_heap.ok sc_l_heap (fun vs H Q E h => ?_) (fun cdv A outer s H vs Q E hr h => ?_)
  · obtain ⟨a, cs, rfl, _⟩ := h
    rfl
  · obtain ⟨a, cs, rfl, hS, hl, q⟩ := h
    refine ⟨_, (pss_cons (ps_set (i := 1) sc_l_heap.nd rfl (Or.inl rfl) (pe_lst pa_nil))
      (pss_cons (ps_for PassesOwn.never rfl (pi_list (pv 0)) (pg_name (i := 2) sc_l_heap.nd rfl (Or.inl rfl)) (Evl.pss_cut (ps_if (PW.pt (pw_and (pt_cmpR op_gt (pe_callB call_len_seq (by rfl) T.m_len PySem.boot_len (pa_cons (pv 1) pa_nil)) pe_int (nomark _)) (pw_and1 (pt_cmpR op_gt (pe_ix ix_list (pv 1) (pe_op op_sub (pe_callB call_len_seq (by rfl) T.m_len PySem.boot_len (pa_cons (pv 1) pa_nil)) pe_int) (fun _ _ => rfl)) pe_int (nomark _))))) (pss_one (ps_expr (pe_bm PySem.F.plainAttrs_list PySem.F.slot_list_append PySem.F.type_list_append mt_append (pv 1) (pa_cons pe_int pa_nil)))) pss_nil)
      (pss_one (ps_set (i := 1) sc_l_heap.nd rfl (Or.inl rfl) (pe_op op_cat (pe_op op_cat (pv 1) (pe_op op_rep (pe_lst (pa_cons pe_int pa_nil)) (pe_op op_mod (pe_op op_fdiv (pv 2) pe_int) pe_int))) (pe_lst (pa_cons (pe_op op_mod (pv 2) pe_int) pa_nil)))))))
      (pss_one (ps_ret (pv 1))))), ?_⟩
    refine Evl.q_asgL (Evl.el_lst Evl.ea_nil (by decide)) fun l H1 nl e1 h1 => ?_
    refine xq_forI (H0 := H) (ns := cs) (val_var rfl) e1 hS (fun i σ H' => ∃ (l : Addr) (y : Option V) (xs : List Int), σ = [some (.ref a), some (.ref l), y] ∧ H l = none ∧ H' l = some (.lst (xs.map V.int)) ∧ xs.length ≤ 5 * i) ⟨l, none, [], rfl, nl, h1, Nat.le_refl _⟩ ?_ ?_
    · rintro i n σ H' e2 hn ⟨l, y, xs, rfl, nl, h2, hx⟩
      have hi : i < cs.length := (List.getElem?_eq_some_iff.mp hn).1
      refine xs_cut (Mid := fun σ H' => ∃ xs : List Int, σ = [some (.ref a), some (.ref l), some (.int n)] ∧ Same H H' ∧ H' l = some (.lst (xs.map V.int)) ∧ xs.length ≤ 5 * i + 1) ?_ ?_
      · refine xs_if (by walk_at "ans") (fun hc => ?_) (fun hc => ?_)
        · refine Evl.s_app (l := l) h2 (Evl.ev_var rfl) Evl.ev_c (by rw [List.length_map]; omega) fun H3 e3 => ?_
          refine ⟨xs ++ [0], rfl, same_mut (e2.trans e3) nl, ?_, by rw [List.length_append, List.length_singleton]; omega⟩
          rw [upd_same, List.map_append]
          rfl
        · exact ⟨xs, rfl, e2, h2, by omega⟩
      · rintro σ H' ⟨xs, rfl, e3, h3, hx⟩
        have hm : 0 ≤ n / 2 % 4 ∧ n / 2 % 4 < 4 := ⟨Int.emod_nonneg _ (by decide), Int.emod_lt_of_pos _ (by decide)⟩
        refine Evl.s_asgL (xl_catN (xl_cat (Evl.ev_var rfl) h3 (xl_rep (k := n / 2 % 4) (Evl.el_lst (Evl.ea_cons Evl.ev_c Evl.ea_nil) (by decide)) (xe_I (xe_I (Evl.ev_var rfl) Evl.ev_c (by exact ⟨by decide, by decide⟩)) Evl.ev_c (by decide)) (by omega) (by
          show 1 * (n / 2 % 4).toNat ≤ 100000
          omega)) (by
            rw [flat_rep, List.length_map, List.length_map, List.length_replicate]
            omega)) (Evl.el_lst (Evl.ea_cons (xe_I (Evl.ev_var rfl) Evl.ev_c (by decide)) Evl.ea_nil) (by show 1 ≤ 100000; omega)) (by
              rw [flat_rep, List.length_append, List.length_map, List.length_map, List.length_replicate]
              show _ + 1 ≤ _
              omega)) fun m H4 nm e4 h4 => ?_
        refine ⟨e3.trans e4, m, _, xs ++ List.replicate (n / 2 % 4).toNat 0 ++ [n % 2], rfl, Same.free e3 nm, ?_, ?_⟩
        · rw [h4, flat_rep, List.map_append, List.map_append]
          rfl
        · rw [List.length_append, List.length_append, List.length_replicate, List.length_singleton]
          omega
    · rintro σ H' e2 ⟨l, y, xs, rfl, nl, h2, hx⟩
      exact st_ret (val_var rfl) (q H' l xs e2 nl h2 (by omega))
/-! ### the law -/
def sp_law (K : PySem.W.Frag) : Sp := fun vs H Q _ => ∃ (a : Addr) (ns : List Int), vs = [.ref a] ∧ SqL K H a (ns.map V.int) ∧ ns.length ≤ 63 ∧ ∀ H', Q (.bl true) H'
theorem ok_law (T : Txt K mg) : FnOk P w K mg base CX0 2 T.f_law T.d_law ["_law_script"] (sp_law K) := by
  refine T.F_law.ok sc_law (fun vs H Q E h => ?_) (fun cdv A outer s H vs Q E hr h => ?_)
  · obtain ⟨a, ns, rfl, _⟩ := h
    rfl
  · obtain ⟨a, ns, rfl, hS, hl, q⟩ := h
    refine ⟨_, (pss_cons (ps_set (i := 1) sc_law.nd rfl (Or.inl rfl) (pe_call (ok_l_heap T) (hr.mono (by decide)) (by rfl) T.g_l_heap T.F_l_heap.kp T.b_l_heap .nil pass0 (pa_cons (pe_slice sl_list (pv 0) (po_some pe_int) (po_some pe_int)) pa_nil)))
      (pss_cons (ps_set (i := 2) sc_law.nd rfl (Or.inl rfl) (pe_op op_mod (pe_call (ok_l_cell_at T) (hr.mono (by decide)) (by rfl) T.g_l_cell_at T.F_l_cell_at.kp T.b_l_cell_at .nil pass0 (pa_cons (pv 0) (pa_cons pe_int pa_nil))) pe_int))
      (pss_cons (ps_set (i := 3) sc_law.nd rfl (Or.inl rfl) (pe_op op_mod (pe_call (ok_l_cell_at T) (hr.mono (by decide)) (by rfl) T.g_l_cell_at T.F_l_cell_at.kp T.b_l_cell_at .nil pass0 (pa_cons (pv 0) (pa_cons pe_int pa_nil))) (pe_op op_add (pe_callB call_len_seq (by rfl) T.m_len PySem.boot_len (pa_cons (pv 1) pa_nil)) pe_int)))
      (Evl.pss_cut (ps_if (PW.pt (pw_and (pt_cmpR op_gt (pv 2) pe_int (nomark _)) (pw_and1 (pt_cmpR op_eq (pv 3) (pe_callB call_len_seq (by rfl) T.m_len PySem.boot_len (pa_cons (pv 1) pa_nil)) (nomark _))))) (pss_one (ps_expr (pe_bm PySem.F.plainAttrs_list PySem.F.slot_list_append PySem.F.type_list_append mt_append (pv 1) (pa_cons pe_int pa_nil)))) pss_nil)
      (Evl.pss_cut (ps_if (pt_cmpR op_eq (pv 2) pe_int (nomark _)) (pss_one (ps_asg (pe_op op_add (pe_op op_add (pe_ix ix_list (pv 1) (pv 3) (fun _ _ => rfl)) pe_int) (pe_op op_mod (pe_call (ok_l_cell_at T) (hr.mono (by decide)) (by rfl) T.g_l_cell_at T.F_l_cell_at.kp T.b_l_cell_at .nil pass0 (pa_cons (pv 0) (pa_cons pe_int pa_nil))) (pe_op op_sub (pe_op op_pow pe_int pe_int) pe_int))) (pg_sub (pv 1) (pv 3) set_list))) pss_nil)
      (Evl.pss_cut (ps_if (pt_cmpR op_eq (pv 2) pe_int (nomark _)) (pss_one (ps_asg pe_int (pg_sub (pv 1) (pv 3) set_list))) pss_nil)
      (Evl.pss_cut (ps_if (pt_cmpR op_eq (pv 2) pe_int (nomark _)) (pss_one (ps_asg (pe_op op_add (pe_ix ix_list (pv 1) (pv 3) (fun _ _ => rfl)) pe_int) (pg_sub (pv 1) (pv 3) set_list))) pss_nil)
      (pss_cons (ps_set (i := 1) sc_law.nd rfl (Or.inl rfl) (pe_call (ok_l_bare T) (hr.mono (by decide)) (by rfl) T.g_l_bare T.F_l_bare.kp T.b_l_bare .nil pass0 (pa_cons (pv 1) pa_nil)))
      (pss_cons (ps_set (i := 4) sc_law.nd rfl (Or.inl rfl) (pe_callTy call_list_of (by rfl) T.m_list (by decide +kernel) (pa_cons (pv 1) pa_nil)))
      (pss_cons (ps_set (i := 5) sc_law.nd rfl (Or.inl rfl) (pe_call (ok_is_still T) (hr.mono (by decide)) (by rfl) T.g_is_still T.F_is_still.kp T.b_is_still .nil pass0 (pa_cons (pv 4) pa_nil)))
      (pss_one (ps_ret (pe_and (pe_callB call_isi (by rfl) T.m_isinstance (by decide +kernel) (pa_cons (pv 5) (pa_cons (pe_bltn (v := .ty "bool") (by rfl) T.m_bool (by decide +kernel) rfl) pa_nil))) (pe_and (pe_cmpR op_eq (pv 5) (pe_call (ok_l_still T) (hr.mono (by decide)) (by rfl) T.g_l_still T.F_l_still.kp T.b_l_still .nil pass0 (pa_cons (pv 1) pa_nil)) (nomark _)) (pe_one (pe_cmpR (op_eqD hr.units) (pv 4) (pv 1) (nomark _))))))))))))))))), ?_⟩
    -- the heap
    refine xq_run ?_
    refine Evl.el_sl (Evl.ev_var rfl) (Evl.eo_some Evl.ev_c) (Evl.eo_some Evl.ev_c) hS H (Evl.Ex.refl H) _ fun p H1 np e1 h1 => ?_
    rw [cut_int (by decide) (by decide)] at h1
    have hS1 := Same.seq e1 hS
    refine ⟨p, _, rfl, SqL.of h1, by rw [List.length_drop, List.length_take]; omega, fun H2 l xs e2 nl h2 hx => ?_⟩
    have hS2 := Same.seq e2 hS1
    have nl0 : H l = none := Same.free e1 nl
    have e02 : Same H H2 := Same.trans e1 e2
    have hS2' := SqL.of (K := K) h2
    have hpos : 0 < (xs.length : Int) + 1 := by omega
    refine xq_set (by walk_at "val") ?_
    refine xq_set (by walk_at "val") ?_
    generalize hway : ns.getD 0 0 % 6 = way
    generalize hat : ns.getD 1 0 % ((xs.length : Int) + 1) = at_
    have hb1 : 0 ≤ at_ := by rw [← hat]; exact Int.emod_nonneg _ (by omega)
    have hb2 : at_ < (xs.length : Int) + 1 := by rw [← hat]; exact Int.emod_lt_of_pos _ hpos
    -- one step more
    refine xs_cut (Mid := fun σ H' => ∃ ys : List Int, σ = [some (.ref a), some (.ref l), some (.int way), some (.int at_), none, none] ∧ Same H H' ∧ H' l = some (.lst (ys.map V.int)) ∧ ys.length ≤ 1001 ∧ (2 < way → at_ < ys.length)) ?_ ?_
    · refine xs_if (by walk_at "ans") (fun hc => ?_) (fun hc => ?_)
      · refine Evl.s_app (l := l) h2 (Evl.ev_var rfl) Evl.ev_c (by rw [List.length_map]; omega) fun H3 e3 => ?_
        refine ⟨xs ++ [0], rfl, same_mut (e02.trans e3) nl0, ?_, by rw [List.length_append, List.length_singleton]; omega, fun _ => by rw [List.length_append, List.length_singleton]; omega⟩
        rw [upd_same, List.map_append]
        rfl
      · refine ⟨xs, rfl, e02, h2, by omega, fun hw => ?_⟩
        have hd := Bool.and_eq_false_imp.mp hc (decide_eq_true hw)
        have hd := of_decide_eq_false hd
        have : at_ ≠ (xs.length : Int) := fun e => hd (by rw [e])
        omega
    rintro σ H3 ⟨ys, rfl, e3, h3, hy, hat3⟩
    have hS3 := Same.seq e3 hS
    -- a shell more, or just one
    have put : ∀ {ta tb tc : TE} {σ : L2.St} {H3 : Hp} {ys : List Int} {v : Int} {D : Ends}, Val tc σ H3 (.int v) → Val ta σ H3 (.ref l) → Val tb σ H3 (.int at_) → Same H H3 → H3 l = some (.lst (ys.map V.int)) → ys.length ≤ 1001 → at_ < ys.length →
        (∀ (H4 : Hp) (zs : List Int), Same H H4 → H4 l = some (.lst (zs.map V.int)) → zs.length ≤ 1001 → (2 < way → at_ < zs.length) → D.nx σ H4) → tAsg tc (gSub ta tb rSetL) D σ H3 := by
      intro ta tb tc σ H3 ys v D h1 h2 h3 e3 hl3 hy hlt k
      refine h1 _ (h2 _ (h3 _ ⟨l, _, at_, at_.toNat, rfl, rfl, hl3, ?_, ?_⟩))
      · rw [List.length_map]
        unfold ixN
        rw [if_pos hb1, if_pos (by omega)]
      · refine k _ (ys.set at_.toNat v) (same_mut e3 nl0) ?_ (by rw [List.length_set]; exact hy) (fun _ => by rw [List.length_set]; exact hlt)
        rw [upd_same, List.map_set]
    refine xs_cut (Mid := fun σ H' => ∃ ys : List Int, σ = [some (.ref a), some (.ref l), some (.int way), some (.int at_), none, none] ∧ Same H H' ∧ H' l = some (.lst (ys.map V.int)) ∧ ys.length ≤ 1001 ∧ (2 < way → at_ < ys.length)) ?_ ?_
    · refine xs_if (by walk_at "ans") (fun hc => ?_) (fun hc => ?_)
      · have hw : way = 3 := V.int.inj (of_decide_eq_true hc)
        have hlt := hat3 (by omega)
        have hq := SqL.of (K := K) h3
        have h60 : (0 : Int) < T60 - 1 := by decide +kernel
        refine put (by walk_at "val") (by walk_at "val") (by walk_at "val") e3 h3 hy hlt fun H4 zs e4 h4 hz hat4 => ⟨zs, rfl, e4, h4, hz, hat4⟩
      · exact ⟨ys, rfl, e3, h3, hy, hat3⟩
    rintro σ H4 ⟨zs, rfl, e4, h4, hz, hat4⟩
    refine xs_cut (Mid := fun σ H' => ∃ ys : List Int, σ = [some (.ref a), some (.ref l), some (.int way), some (.int at_), none, none] ∧ Same H H' ∧ H' l = some (.lst (ys.map V.int)) ∧ ys.length ≤ 1001 ∧ (2 < way → at_ < ys.length)) ?_ ?_
    · refine xs_if (by walk_at "ans") (fun hc => ?_) (fun hc => ?_)
      · have hw : way = 4 := V.int.inj (of_decide_eq_true hc)
        have hlt := hat4 (by omega)
        refine put (by walk_at "val") (by walk_at "val") (by walk_at "val") e4 h4 hz hlt fun H4 zs e4 h4 hz hat4 => ⟨zs, rfl, e4, h4, hz, hat4⟩
      · exact ⟨zs, rfl, e4, h4, hz, hat4⟩
    rintro σ H5 ⟨us, rfl, e5, h5, hu, hat5⟩
    refine xs_cut (Mid := fun σ H' => ∃ ys : List Int, σ = [some (.ref a), some (.ref l), some (.int way), some (.int at_), none, none] ∧ Same H H' ∧ H' l = some (.lst (ys.map V.int)) ∧ ys.length ≤ 1001 ∧ (2 < way → at_ < ys.length)) ?_ ?_
    · refine xs_if (by walk_at "ans") (fun hc => ?_) (fun hc => ?_)
      · have hw : way = 5 := V.int.inj (of_decide_eq_true hc)
        have hlt := hat5 (by omega)
        have hq := SqL.of (K := K) h5
        refine put (by walk_at "val") (by walk_at "val") (by walk_at "val") e5 h5 hu hlt fun H4 zs e4 h4 hz hat4 => ⟨zs, rfl, e4, h4, hz, hat4⟩
      · exact ⟨us, rfl, e5, h5, hu, hat5⟩
    rintro σ H6 ⟨ws, rfl, e6, h6, hw, _⟩
    -- bare, in place
    refine xq_run ?_
    refine xg_go (by walk_at "arg") ⟨l, ws, rfl, h6, fun H7 e7 h7 => ?_⟩
    have hb7 : (bare ws).length ≤ 100000 := Nat.le_trans (bare_len ws) (by omega)
    generalize bare ws = hp at h7 hb7
    refine Evl.q_asgL (xl_listQ (Evl.ev_var rfl) (SqL.of h7)) fun m H8 nm e8 h8 => ?_
    have h9 := e8 l _ h7
    refine xq_set (xv_is_still (val_var rfl) (SqL.of h8) hb7) ?_
    refine st_ret (xv_and (xv_isi (val_var rfl) (.base (.bl _)) (b := true) (by decide +kernel)) fun _ => xv_and (xv_eq (val_var rfl) (xv_is_still (val_var rfl) (SqL.of h9) hb7) rfl) fun _ => xv_eqL (val_var rfl) (val_var rfl) (SqL.of h8) (SqL.of h9)) ?_
    rw [decide_eq_true rfl, decide_eq_true rfl]
    exact q _
end
theorem all_mk {l : PySem.W.OpenLaw} {w : World} {K : PySem.W.Frag} {h : Heap} {mg : Str → Option Value} {fa : Addr} (X : K.In h) (G : h.Ns mainGlobals mg) (hfa : mg "law" = some (.ref fa))
    {f_is_still : Addr} (a_is_still : PySem.W.nsIn K mainGlobals "is_still" = some (some (.ref f_is_still)))
    {od_is_still an_is_still : Option Addr} {sl_is_still : Array (Option Value)} {oc_is_still kV_is_still dc_is_still pm_is_still cd_is_still ct_is_still : Value} (l_is_still : K.lookup f_is_still = some ⟨oc_is_still, od_is_still, .func (PySem.W.fnOf "is_still" "is_still" (defArgs st_is_still) (defBody st_is_still) (defScope st_is_still) .none kV_is_still dc_is_still pm_is_still an_is_still cd_is_still ct_is_still), sl_is_still⟩) (c_is_still : PySem.W.codeIn K cd_is_still "is_still" = true) (k_is_still : PySem.W.keepIn K (.ref f_is_still) = true)
    {f_l_cell_at : Addr} (a_l_cell_at : PySem.W.nsIn K mainGlobals "_law_cell_at" = some (some (.ref f_l_cell_at)))
    {od_l_cell_at an_l_cell_at : Option Addr} {sl_l_cell_at : Array (Option Value)} {oc_l_cell_at kV_l_cell_at dc_l_cell_at pm_l_cell_at cd_l_cell_at ct_l_cell_at : Value} (l_l_cell_at : K.lookup f_l_cell_at = some ⟨oc_l_cell_at, od_l_cell_at, .func (PySem.W.fnOf "_law_cell_at" "_law_cell_at" (defArgs st_l_cell_at) (defBody st_l_cell_at) (defScope st_l_cell_at) .none kV_l_cell_at dc_l_cell_at pm_l_cell_at an_l_cell_at cd_l_cell_at ct_l_cell_at), sl_l_cell_at⟩) (c_l_cell_at : PySem.W.codeIn K cd_l_cell_at "_law_cell_at" = true) (k_l_cell_at : PySem.W.keepIn K (.ref f_l_cell_at) = true)
    {f_l_heap : Addr} (a_l_heap : PySem.W.nsIn K mainGlobals "_law_heap" = some (some (.ref f_l_heap)))
    {od_l_heap an_l_heap : Option Addr} {sl_l_heap : Array (Option Value)} {oc_l_heap kV_l_heap dc_l_heap pm_l_heap cd_l_heap ct_l_heap : Value} (l_l_heap : K.lookup f_l_heap = some ⟨oc_l_heap, od_l_heap, .func (PySem.W.fnOf "_law_heap" "_law_heap" (defArgs st_l_heap) (defBody st_l_heap) (defScope st_l_heap) .none kV_l_heap dc_l_heap pm_l_heap an_l_heap cd_l_heap ct_l_heap), sl_l_heap⟩) (c_l_heap : PySem.W.codeIn K cd_l_heap "_law_heap" = true) (k_l_heap : PySem.W.keepIn K (.ref f_l_heap) = true)
    {f_l_bare : Addr} (a_l_bare : PySem.W.nsIn K mainGlobals "_law_bare" = some (some (.ref f_l_bare)))
    {od_l_bare an_l_bare : Option Addr} {sl_l_bare : Array (Option Value)} {oc_l_bare kV_l_bare dc_l_bare pm_l_bare cd_l_bare ct_l_bare : Value} (l_l_bare : K.lookup f_l_bare = some ⟨oc_l_bare, od_l_bare, .func (PySem.W.fnOf "_law_bare" "_law_bare" (defArgs st_l_bare) (defBody st_l_bare) (defScope st_l_bare) .none kV_l_bare dc_l_bare pm_l_bare an_l_bare cd_l_bare ct_l_bare), sl_l_bare⟩) (c_l_bare : PySem.W.codeIn K cd_l_bare "_law_bare" = true) (k_l_bare : PySem.W.keepIn K (.ref f_l_bare) = true)
    {f_l_still : Addr} (a_l_still : PySem.W.nsIn K mainGlobals "_law_still" = some (some (.ref f_l_still)))
    {od_l_still an_l_still : Option Addr} {sl_l_still : Array (Option Value)} {oc_l_still kV_l_still dc_l_still pm_l_still cd_l_still ct_l_still : Value} (l_l_still : K.lookup f_l_still = some ⟨oc_l_still, od_l_still, .func (PySem.W.fnOf "_law_still" "_law_still" (defArgs st_l_still) (defBody st_l_still) (defScope st_l_still) .none kV_l_still dc_l_still pm_l_still an_l_still cd_l_still ct_l_still), sl_l_still⟩) (c_l_still : PySem.W.codeIn K cd_l_still "_law_still" = true) (k_l_still : PySem.W.keepIn K (.ref f_l_still) = true)
    {f_law : Addr} (a_law : PySem.W.nsIn K mainGlobals "law" = some (some (.ref f_law)))
    {od_law an_law : Option Addr} {sl_law : Array (Option Value)} {oc_law kV_law dc_law pm_law cd_law ct_law : Value} (l_law : K.lookup f_law = some ⟨oc_law, od_law, .func (PySem.W.fnOf "law" "law" (defArgs st_law) (defBody st_law) (defScope st_law) .none kV_law dc_law pm_law an_law cd_law ct_law), sl_law⟩) (c_law : PySem.W.codeIn K cd_law "law" = true) (k_law : PySem.W.keepIn K (.ref f_law) = true)
    (z_len : PySem.W.nsIn K mainGlobals "len" = some none)
    (z_range : PySem.W.nsIn K mainGlobals "range" = some none)
    (z_list : PySem.W.nsIn K mainGlobals "list" = some none)
    (z_isinstance : PySem.W.nsIn K mainGlobals "isinstance" = some none)
    (z_bool : PySem.W.nsIn K mainGlobals "bool" = some none) :
    ∃ fd : FuncData, (∀ (s : Shared) (v : Value), BindsTo s fd ⟨[v], []⟩ [("_law_script", v)]) ∧ ∀ base : Heap, K.In base → base.Ns mainGlobals mg → FnOk l.prog w K mg base CX0 2 fa fd ["_law_script"] (sp_law K) := by
  have e := hfa.symm.trans (PySem.W.mg_of X G a_law)
  cases e
  let T : Txt K mg := { f_is_still := f_is_still, d_is_still := _, F_is_still := fun_mk (st := st_is_still) l_is_still c_is_still k_is_still, g_is_still := PySem.W.mg_of X G a_is_still, b_is_still := (fun_mk (st := st_is_still) l_is_still c_is_still k_is_still).binds (ps := ["heap"]) (fun _ _ _ _ _ _ us hl => match us, hl with | [_], _ => rfl), f_l_cell_at := f_l_cell_at, d_l_cell_at := _, F_l_cell_at := fun_mk (st := st_l_cell_at) l_l_cell_at c_l_cell_at k_l_cell_at, g_l_cell_at := PySem.W.mg_of X G a_l_cell_at, b_l_cell_at := (fun_mk (st := st_l_cell_at) l_l_cell_at c_l_cell_at k_l_cell_at).binds (ps := ["_law_script", "_law_k"]) (fun _ _ _ _ _ _ us hl => match us, hl with | [_, _], _ => rfl), f_l_heap := f_l_heap, d_l_heap := _, F_l_heap := fun_mk (st := st_l_heap) l_l_heap c_l_heap k_l_heap, g_l_heap := PySem.W.mg_of X G a_l_heap, b_l_heap := (fun_mk (st := st_l_heap) l_l_heap c_l_heap k_l_heap).binds (ps := ["_law_cells"]) (fun _ _ _ _ _ _ us hl => match us, hl with | [_], _ => rfl), f_l_bare := f_l_bare, d_l_bare := _, F_l_bare := fun_mk (st := st_l_bare) l_l_bare c_l_bare k_l_bare, g_l_bare := PySem.W.mg_of X G a_l_bare, b_l_bare := (fun_mk (st := st_l_bare) l_l_bare c_l_bare k_l_bare).binds (ps := ["_law_heap_here"]) (fun _ _ _ _ _ _ us hl => match us, hl with | [_], _ => rfl), f_l_still := f_l_still, d_l_still := _, F_l_still := fun_mk (st := st_l_still) l_l_still c_l_still k_l_still, g_l_still := PySem.W.mg_of X G a_l_still, b_l_still := (fun_mk (st := st_l_still) l_l_still c_l_still k_l_still).binds (ps := ["_law_heap_here"]) (fun _ _ _ _ _ _ us hl => match us, hl with | [_], _ => rfl), f_law := _, d_law := _, F_law := fun_mk (st := st_law) l_law c_law k_law, g_law := PySem.W.mg_of X G a_law, b_law := (fun_mk (st := st_law) l_law c_law k_law).binds (ps := ["_law_script"]) (fun _ _ _ _ _ _ us hl => match us, hl with | [_], _ => rfl), m_len := PySem.W.mg_none_of X G z_len, m_range := PySem.W.mg_none_of X G z_range, m_list := PySem.W.mg_none_of X G z_list, m_isinstance := PySem.W.mg_none_of X G z_isinstance, m_bool := PySem.W.mg_none_of X G z_bool }
  exact ⟨PySem.W.fnOf "law" "law" (defArgs st_law) (defBody st_law) (defScope st_law) .none kV_law dc_law pm_law an_law cd_law ct_law, fun s v => .of_eq rfl, fun base _ _ => ok_law T⟩
end K02
open PySem PySem.W PyProof.Rows
set_option maxHeartbeats 0 in
theorem PySem.Challenge.cw_shellstair_k02_still_holds : PySem.Challenge.rw_shellstair_k02_still.Holds := by
  w_on; o_law; k_head; (case hw => w_witness2)
  k_fill
  refine L2.walk_of (l := PySem.Challenge.rw_shellstair_k02_still) (n := 63) (k := 2) (x := "_law_script") (CX := fun _ => L2.CX0) (sp := fun w => K02.sp_law _) rfl (by decide) rfl ⟨rfl, by decide, by decide⟩ (fun w h Y => PySem.W.kIn_of Y) ?F (fun _ _ a ns hl _ hS => ⟨a, ns, rfl, hS, hl, fun _ => rfl⟩) (fun _ _ _ _ _ h => h)
  case F =>
    intro w mg fa h KX G hmg
    refine' K02.all_mk KX G hmg ?a_is_still ?l_is_still ?c_is_still ?k_is_still ?a_l_cell_at ?l_l_cell_at ?c_l_cell_at ?k_l_cell_at ?a_l_heap ?l_l_heap ?c_l_heap ?k_l_heap ?a_l_bare ?l_l_bare ?c_l_bare ?k_l_bare ?a_l_still ?l_l_still ?c_l_still ?k_l_still ?a_law ?l_law ?c_law ?k_law ?z_len ?z_range ?z_list ?z_isinstance ?z_bool
    (case a_is_still => k_is); (case l_is_still => k_is); (case c_is_still => k_is); (case k_is_still => k_is); (case a_l_cell_at => k_is); (case l_l_cell_at => k_is)
    (case c_l_cell_at => k_is); (case k_l_cell_at => k_is); (case a_l_heap => k_is); (case l_l_heap => k_is); (case c_l_heap => k_is); (case k_l_heap => k_is)
    (case a_l_bare => k_is); (case l_l_bare => k_is); (case c_l_bare => k_is); (case k_l_bare => k_is); (case a_l_still => k_is); (case l_l_still => k_is)
    (case c_l_still => k_is); (case k_l_still => k_is); (case a_law => k_is); (case l_law => k_is); (case c_law => k_is); (case k_law => k_is)
    (case z_len => k_is); (case z_range => k_is); (case z_list => k_is); (case z_isinstance => k_is); (case z_bool => k_is)
