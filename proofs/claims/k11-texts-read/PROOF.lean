import PyProof.Rows.All
import Wide.All
import OpenK.AllK
import Wide.FinOn
import HandS.ForMost
import HandS.ForExc
import HandS.Steps
import HandS.Evl
import HandS.Wide
import HandS.IsInst
import HandS.Style
import HandS.ExcIs
import HandS.Deep
import KE.KTryMore
import HandS.Exc
import HandS.ExcOwn
import PyProof.StrOps2
import HandS.Text
import HandS.Walk
import PySem.Challenge.RW_shellstair_k11_texts_read
set_option Elab.async false
set_option linter.all false
set_option maxRecDepth 100000
set_option maxHeartbeats 1000000
namespace Sh
/-! the worth of a step, and weighted sums over a list of counts -/
def W : Nat → Int
  | 0 => 1
  | 1 => 2
  | n + 2 => W n + W (n + 1)
/-- f-weighted sum of the counts, the first one on step k -/
def S (f : Nat → Int) : Nat → List Int → Int
  | _, [] => 0
  | k, c :: r => c * f k + S f (k + 1) r
abbrev wt (xs : List Int) : Int := S W 0 xs
theorem W_pos : ∀ n, 0 < W n
  | 0 => by decide
  | 1 => by decide
  | n + 2 => by
    have h1 := W_pos n
    have h2 := W_pos (n + 1)
    show 0 < W n + W (n + 1)
    omega
theorem W_lt : ∀ n, W n < W (n + 1)
  | 0 => by decide
  | n + 1 => by
    have h1 := W_pos n
    show W (n + 1) < W n + W (n + 1)
    omega
theorem W_mono {i j : Nat} (h : i ≤ j) : W i ≤ W j := by
  induction j with
  | zero =>
    have : i = 0 := by omega
    subst this
    exact Int.le_refl _
  | succ j ih =>
    by_cases e : i = j + 1
    · subst e
      exact Int.le_refl _
    · have := ih (by omega)
      have := W_lt j
      omega
theorem W_ge : ∀ n : Nat, (n : Int) < W n
  | 0 => by decide
  | n + 1 => by
    have := W_ge n
    have := W_lt n
    omega
theorem W_bits : ∀ n, W n < 2 ^ (n + 1)
  | 0 => by decide
  | 1 => by decide
  | n + 2 => by
    have h1 := W_bits n
    have h2 := W_bits (n + 1)
    have e1 : (2 : Int) ^ (n + 2 + 1) = 4 * 2 ^ (n + 1) := by
      rw [Int.pow_succ, Int.pow_succ]
      omega
    have e2 : (2 : Int) ^ (n + 1 + 1) = 2 * 2 ^ (n + 1) := by rw [Int.pow_succ]; omega
    have h3 : (0 : Int) < 2 ^ (n + 1) := Int.pow_pos (by decide)
    show W n + W (n + 1) < 2 ^ (n + 2 + 1)
    rw [e2] at h2
    rw [e1]
    generalize (2 : Int) ^ (n + 1) = z at *
    omega
theorem W_bitsN (n : Nat) : (W n).natAbs < 2 ^ (n + 1) := by
  have h1 := W_bits n
  have h2 := W_pos n
  have e : ((2 ^ (n + 1) : Nat) : Int) = 2 ^ (n + 1) := by norm_cast
  omega
/-! sums -/
theorem S_nil (f : Nat → Int) (k : Nat) : S f k [] = 0 := rfl
theorem S_cons (f : Nat → Int) (k : Nat) (c : Int) (r : List Int) : S f k (c :: r) = c * f k + S f (k + 1) r := rfl
theorem S_append (f : Nat → Int) : ∀ (xs ys : List Int) (k : Nat), S f k (xs ++ ys) = S f k xs + S f (k + xs.length) ys
  | [], ys, k => by simp [S]
  | c :: r, ys, k => by
    have ih := S_append f r ys (k + 1)
    show c * f k + S f (k + 1) (r ++ ys) = c * f k + S f (k + 1) r + S f (k + (r.length + 1)) ys
    rw [ih, show k + 1 + r.length = k + (r.length + 1) by omega]
    omega
theorem S_one (f : Nat → Int) (k : Nat) (c : Int) : S f k [c] = c * f k := by simp [S]
theorem take_more {α : Type} {l : List α} {i : Nat} {x : α} (h : l[i]? = some x) : l.take (i + 1) = l.take i ++ [x] := by
  rw [List.take_succ, h]
  rfl
theorem S_take {f : Nat → Int} {xs : List Int} {i : Nat} {c : Int} (h : xs[i]? = some c) (k : Nat) : S f k (xs.take (i + 1)) = S f k (xs.take i) + c * f (k + i) := by
  have hl : i < xs.length := (List.getElem?_eq_some_iff.mp h).1
  rw [take_more h, S_append, S_one, List.length_take, Nat.min_eq_left (Nat.le_of_lt hl)]
theorem S_zeros (f : Nat → Int) : ∀ (n k : Nat), S f k (List.replicate n 0) = 0
  | 0, k => rfl
  | n + 1, k => by
    show 0 * f k + S f (k + 1) (List.replicate n 0) = 0
    rw [S_zeros f n, Int.zero_mul, Int.add_zero]
theorem S_nonneg {f : Nat → Int} (hf : ∀ k, 0 ≤ f k) : ∀ (xs : List Int) (k : Nat), (∀ x ∈ xs, 0 ≤ x) → 0 ≤ S f k xs
  | [], _, _ => Int.le_refl _
  | c :: r, k, h => by
    have h1 := S_nonneg hf r (k + 1) fun x hx => h x (List.mem_cons_of_mem _ hx)
    have h2 := Int.mul_nonneg (h c List.mem_cons_self) (hf k)
    show 0 ≤ c * f k + S f (k + 1) r
    omega
/-! 10 ** 60 -/
def T60 : Int := 10 ^ 60
theorem T60_eq : (10 : Int) ^ (60 : Int).toNat = T60 := by decide +kernel
theorem T60_pos : 0 < T60 := by decide +kernel
theorem T60_pos1 : 0 < T60 + 1 := by decide +kernel
theorem T60_bits : T60.natAbs < 2 ^ 200 := by decide +kernel
/-- a list that is no longer, no greater than a machine could not bear -/
structure Sm (ns : List Int) : Prop where
  len : ns.length ≤ 100000
  mag : ∀ x ∈ ns, x.natAbs < 2 ^ 1000
theorem small60 {x : Int} (h0 : 0 ≤ x) (h : x ≤ T60) : x.natAbs < 2 ^ 1000 := by
  have h1 := T60_bits
  have h2 : (2 : Nat) ^ 200 ≤ 2 ^ 1000 := by decide +kernel
  omega
/-! noughts at the end left out -/
def bare (xs : List Int) : List Int := (xs.reverse.dropWhile (· == 0)).reverse
theorem bare_zero (xs : List Int) : bare (xs ++ [0]) = bare xs := by
  unfold bare
  rw [List.reverse_append]
  rfl
theorem bare_snoc (xs : List Int) {c : Int} (h : c ≠ 0) : bare (xs ++ [c]) = xs ++ [c] := by
  unfold bare
  rw [List.reverse_append]
  show (List.dropWhile (· == 0) (c :: xs.reverse)).reverse = _
  rw [List.dropWhile_cons, if_neg (by simpa using h), List.reverse_cons, List.reverse_reverse]
theorem bare_nil : bare [] = [] := rfl
theorem snoc_of {α : Type} {xs : List α} (h : xs ≠ []) : ∃ ys c, xs = ys ++ [c] := ⟨xs.dropLast, xs.getLast h, (List.dropLast_concat_getLast h).symm⟩
/-- a list is its bare one and noughts -/
theorem bare_rest : ∀ (n : Nat) (xs : List Int), xs.length = n → ∃ k, xs = bare xs ++ List.replicate k 0
  | 0, xs, h => ⟨0, by rw [List.eq_nil_of_length_eq_zero h]; rfl⟩
  | n + 1, xs, h => by
    obtain ⟨ys, c, rfl⟩ := snoc_of (xs := xs) (by intro e; rw [e] at h; cases h)
    rw [List.length_append, List.length_singleton] at h
    by_cases hc : c = 0
    · subst hc
      obtain ⟨k, e⟩ := bare_rest n ys (by omega)
      refine ⟨k + 1, ?_⟩
      rw [bare_zero, List.replicate_succ', ← List.append_assoc, ← e]
    · refine ⟨0, ?_⟩
      rw [bare_snoc ys hc]
      simp
theorem bare_S (f : Nat → Int) (k : Nat) (xs : List Int) : S f k (bare xs) = S f k xs := by
  obtain ⟨n, e⟩ := bare_rest _ xs rfl
  have h := congrArg (S f k) e
  rw [S_append, S_zeros, Int.add_zero] at h
  exact h.symm
theorem bare_mem {xs : List Int} {x : Int} (h : x ∈ bare xs) : x ∈ xs := by
  obtain ⟨n, e⟩ := bare_rest _ xs rfl
  rw [e]
  exact List.mem_append_left _ h
theorem bare_len (xs : List Int) : (bare xs).length ≤ xs.length := by
  obtain ⟨n, e⟩ := bare_rest _ xs rfl
  have h := congrArg List.length e
  rw [List.length_append] at h
  omega
theorem bare_idem (xs : List Int) : bare (bare xs) = bare xs := by
  by_cases h : bare xs = []
  · rw [h]
    rfl
  · obtain ⟨ys, c, e⟩ := snoc_of h
    rw [e]
    refine bare_snoc ys ?_
    intro hc
    unfold bare at e
    have h2 := congrArg List.reverse e
    rw [List.reverse_reverse, List.reverse_append, List.reverse_singleton, List.singleton_append] at h2
    have h3 := List.head?_dropWhile_not (· == 0) xs.reverse
    rw [h2] at h3
    simp [hc] at h3
theorem getD_last (ys : List Int) (c : Int) : (ys ++ [c]).getD ((ys ++ [c]).length - 1) 0 = c := by
  rw [List.getD_eq_getElem?_getD, List.length_append, List.length_singleton, Nat.add_sub_cancel, List.getElem?_append_right (Nat.le_refl _), Nat.sub_self]
  rfl
theorem Sm.bare {xs : List Int} (h : Sm xs) : Sm (bare xs) := ⟨Nat.le_trans (bare_len xs) h.len, fun x hx => h.mag x (bare_mem hx)⟩
/-! still heaps: no step with two, no two neighbours (b: what lies beneath) -/
def stillB : Int → List Int → Bool
  | _, [] => true
  | b, m :: r => !(decide (1 < m) || (decide (0 < m) && decide (0 < b))) && stillB m r
theorem stillB_append : ∀ (xs ys : List Int) (b : Int), stillB b (xs ++ ys) = (stillB b xs && stillB (xs.getLastD b) ys)
  | [], ys, b => by simp [stillB]
  | m :: r, ys, b => by
    show (!(decide (1 < m) || (decide (0 < m) && decide (0 < b))) && stillB m (r ++ ys)) = (!(decide (1 < m) || (decide (0 < m) && decide (0 < b))) && stillB m r && stillB ((m :: r).getLastD b) ys)
    rw [stillB_append r ys m, Bool.and_assoc, List.getLastD_cons]
/-- what lies beneath step i -/
def prev (ns : List Int) (i : Nat) : Int := (ns.take i).getLastD 0
theorem prev_zero (ns : List Int) : prev ns 0 = 0 := by simp [prev]
theorem prev_succ {ns : List Int} {i : Nat} {m : Int} (h : ns[i]? = some m) : prev ns (i + 1) = m := by
  unfold prev
  rw [take_more h]
  simp
theorem stillB_take {ns : List Int} {i : Nat} {m : Int} (h : ns[i]? = some m) : stillB 0 (ns.take (i + 1)) = (stillB 0 (ns.take i) && !(decide (1 < m) || (decide (0 < m) && decide (0 < prev ns i)))) := by
  rw [take_more h, stillB_append]
  show (stillB 0 (ns.take i) && (!(decide (1 < m) || (decide (0 < m) && decide (0 < prev ns i))) && true)) = _
  rw [Bool.and_true]
theorem stillB_stop {ns : List Int} (i : Nat) (h : stillB 0 (ns.take i) = false) : stillB 0 ns = false := by
  have e : ns = ns.take i ++ ns.drop i := (List.take_append_drop i ns).symm
  rw [e, stillB_append, h, Bool.false_and]
theorem getD_of {ns : List Int} {i : Nat} {m : Int} (h : ns[i]? = some m) : ns.getD i 0 = m := by
  rw [List.getD_eq_getElem?_getD, h]
  rfl
theorem get_of {ns : List Int} {i : Nat} (h : i < ns.length) : ns[i]? = some (ns.getD i 0) := by
  rw [List.getD_eq_getElem?_getD, List.getElem?_eq_getElem h]
  rfl
end Sh

/-! Own words over the hand layer: what is evaluated without a change of the tracked heap (Val, Ans), loops with a word that stands over the entry's heap. -/
namespace Sh
open PySem PySem.Spec PyProof.Rows L2
section
variable {σ : L2.St} {H H0 H1 : Hp} {K : PySem.W.Frag} {ta tb tc te tl : TE} {tr : TA} {t u : TT} {x y z v : V} {vs : List V} {D : Ends} {ts tz tu : TS}
def Arg (ta : TA) (σ : L2.St) (H : Hp) (vs : List V) : Prop := ∀ Q : List V → Hp → Prop, Q vs H → ta σ H Q
theorem xg_nil : Arg tNil σ H [] := fun _ q => q
theorem xg_cons (h : Val te σ H v) (hr : Arg tr σ H vs) : Arg (tCons te tr) σ H (v :: vs) := fun _ q => h _ (hr _ q)
theorem xv_go {Q : VK} (h : Val te σ H v) (q : Q v H) : te σ H Q := h Q q
theorem xg_go {ta : TA} {Q : List V → Hp → Prop} (h : Arg ta σ H vs) (q : Q vs H) : ta σ H Q := h Q q
theorem xv_c {w : V} (e : v = w) : Val (tC v) σ H w := fun _ q => by
  subst e
  exact q
theorem xv_I0 {g : Int → Int → V} {i j : Int} (ha : Val ta σ H (.int i)) (hb : Val tb σ H (.int j)) : Val (tOp (rI0 g) ta tb) σ H (g i j) := val_op ha hb fun Q q => ⟨i, j, rfl, rfl, q⟩
theorem xv_I {C : Int → Int → Prop} {g : Int → Int → V} {i j : Int} (ha : Val ta σ H (.int i)) (hb : Val tb σ H (.int j)) (hc : C i j) : Val (tOp (rI C g) ta tb) σ H (g i j) := val_op ha hb fun Q q => ⟨i, j, rfl, rfl, hc, q⟩
theorem xv_U {g : Int → V} {i : Int} (ha : Val ta σ H (.int i)) : Val (tUn (rU g) ta) σ H (g i) := fun Q q => ha _ ⟨i, rfl, q⟩
theorem xv_eq (ha : Val ta σ H x) (hb : Val tb σ H y) (hs : scal x y = true) : Val (tOp rEq ta tb) σ H (.bl (decide (x = y))) := val_op ha hb fun Q q => ⟨hs, q⟩
theorem xv_ne (ha : Val ta σ H x) (hb : Val tb σ H y) (hs : scal x y = true) : Val (tOp rNe ta tb) σ H (.bl (!decide (x = y))) := val_op ha hb fun Q q => ⟨hs, q⟩
theorem xv_to {w : V} (h : Val te σ H v) (e : v = w) : Val te σ H w := e ▸ h
/-- len of a list -/
abbrev rLenQ (K : PySem.W.Frag) : List V → Hp → VK → Prop := fun xs H Q => ∃ p ys, xs = [.ref p] ∧ (SqL K H p ys ∨ SqT K H p ys) ∧ Q (.int ys.length) H
theorem xv_len {p : Addr} {xs : List V} (ha : Val ta σ H (.ref p)) (h : SqL K H p xs) : Val (tCB (rLenQ K) (tCons ta tNil)) σ H (.int (xs.length : Int)) := fun Q q => ha _ ⟨p, xs, rfl, .inl h, q⟩
theorem xv_lenI {p : Addr} {ns : List Int} (ha : Val ta σ H (.ref p)) (h : SqL K H p (ns.map V.int)) : Val (tCB (rLenQ K) (tCons ta tNil)) σ H (.int (ns.length : Int)) := fun Q q => ha _ ⟨p, _, rfl, .inl h, by rw [List.length_map]; exact q⟩
theorem xv_cb {r : List V → Hp → VK → Prop} {ta : TA} (h : Arg ta σ H vs) (hr : ∀ Q : VK, Q v H → r vs H Q) : Val (tCB r ta) σ H v := fun Q q => h _ (hr Q q)
/-- an int of a list at a place -/
theorem atI_int {ns : List Int} {i : Int} (h0 : 0 ≤ i) (h1 : i < ns.length) : atI (ns.map V.int) i = some (.int (ns.getD i.toNat 0)) := by
  obtain ⟨n, rfl⟩ := Int.eq_ofNat_of_zero_le h0
  have hn : n < ns.length := by omega
  refine atI_nat ?_
  rw [List.getElem?_map, List.getD_eq_getElem?_getD]
  show Option.map V.int ns[n]? = some (V.int (ns[n]?.getD 0))
  rw [List.getElem?_eq_getElem hn]
  rfl
theorem xv_ix {p : Addr} {ns : List Int} {i : Int} (ha : Val ta σ H (.ref p)) (hb : Val tb σ H (.int i)) (h : SqL K H p (ns.map V.int)) (h0 : 0 ≤ i) (h1 : i < ns.length) : Val (tOp (rIxL K) ta tb) σ H (.int (ns.getD i.toNat 0)) :=
  val_op ha hb fun Q q => ⟨p, _, i, _, rfl, rfl, h, atI_int h0 h1, q⟩
theorem xv_ixV {p : Addr} {xs : List V} {i : Int} (ha : Val ta σ H (.ref p)) (hb : Val tb σ H (.int i)) (h : SqL K H p xs) (hv : atI xs i = some v) : Val (tOp (rIxL K) ta tb) σ H v :=
  val_op ha hb fun Q q => ⟨p, _, i, _, rfl, rfl, h, hv, q⟩
theorem xv_ixT {p : Addr} {xs : List V} {i : Int} (ha : Val ta σ H (.ref p)) (hb : Val tb σ H (.int i)) (h : SqT K H p xs) (hv : atI xs i = some v) : Val (tOp (rIxT K) ta tb) σ H v :=
  val_op ha hb fun Q q => ⟨p, _, i, _, rfl, rfl, h, hv, q⟩
/-- a def whose promise gives a value and leaves the heap -/
theorem xv_call {sp : Sp} {E : XK} (h : Arg tr σ H vs) (hs : ∀ Q : VK, Q v H → sp (vs ++ []) H Q E) : Val (tCall sp [] E tr) σ H v := fun Q q => h _ (hs Q q)
theorem xv_and {a b : Bool} (h1 : Val ta σ H (.bl a)) (h2 : a = true → Val tb σ H (.bl b)) : Val (tAndV ta tb) σ H (.bl (a && b)) := fun Q q => h1 _ ⟨a, rfl, by
  cases a with
  | true => exact h2 rfl _ q
  | false => exact q⟩
theorem xv_or {a b : Bool} (h1 : Val ta σ H (.bl a)) (h2 : a = false → Val tb σ H (.bl b)) : Val (tOrV ta tb) σ H (.bl (a || b)) := fun Q q => h1 _ ⟨a, rfl, by
  cases a with
  | true => exact q
  | false => exact h2 rfl _ q⟩
theorem xv_not {a : Bool} (h1 : Val ta σ H (.bl a)) : Val (tNotV ta) σ H (.bl (!a)) := fun Q q => h1 _ ⟨a, rfl, q⟩
theorem xv_p60 : Val (tOp (rI CPow fun i j => .int (i ^ j.toNat)) (tC (.int 10)) (tC (.int 60))) σ H (.int T60) := fun Q q => ⟨10, 60, rfl, rfl, ⟨by decide, by decide, by decide⟩, by
  show Q (.int ((10 : Int) ^ (60 : Int).toNat)) H
  rw [T60_eq]
  exact q⟩
/-! tests -/
theorem xa_T {b : Bool} (h : Val te σ H (.bl b)) : Ans (tTest te) σ H b := fun Q q => h _ ⟨b, rfl, q⟩
theorem xa_B {b : Bool} (h : Val te σ H (.bl b)) : Ans (tB te) σ H b := fun Q q => h _ ⟨b, rfl, q⟩
theorem xa_not {a : Bool} (h : Ans t σ H a) : Ans (tNot t) σ H (!a) := fun Q q => h _ q
theorem xa_and {a b : Bool} (h1 : Ans t σ H a) (h2 : a = true → Ans u σ H b) : Ans (tAnd t u) σ H (a && b) := fun Q q => h1 _ (by
  cases a with
  | true => exact h2 rfl _ q
  | false => exact q)
theorem xa_or {a b : Bool} (h1 : Ans t σ H a) (h2 : a = false → Ans u σ H b) : Ans (tOr t u) σ H (a || b) := fun Q q => h1 _ (by
  cases a with
  | true => exact q
  | false => exact h2 rfl _ q)
/-! statements -/
theorem xs_par {i j : Nat} {w : V} {ta : TA} (h : Arg ta σ H [v, w]) (q : D.nx ((σ.set i (some v)).set j (some w)) H) : tPar i j ta D σ H := h _ ⟨v, w, rfl, q⟩
theorem xs_if {b : Bool} (h : Ans t σ H b) (h1 : b = true → ts D σ H) (h2 : b = false → tu D σ H) : tIfS t ts tu D σ H := h _ (by
  cases b with
  | true => exact h1 rfl
  | false => exact h2 rfl)
/-- an if without else, something behind it -/
theorem xs_when {b : Bool} (h : Ans t σ H b) (h1 : b = true → ts { D with nx := tz D } σ H) (h2 : b = false → tz D σ H) : tSeq (tIfS t ts tNext) tz D σ H := xs_if (D := { D with nx := tz D }) h h1 h2
/-- if c: x = e, told by what holds of x behind it -/
theorem xs_ifSet {Pv : V → Prop} {b : Bool} {i : Nat} {v0 : V} (h : Ans t σ H b) (hv : b = true → Val te σ H v) (p1 : b = true → Pv v) (p0 : b = false → Pv v0) (hs : σ.set i (some v0) = σ) (k : ∀ v, Pv v → tz D (σ.set i (some v)) H) :
    tSeq (tIfS t (tAsg te (gName i)) tNext) tz D σ H := xs_when h (fun hb => st_set (D := { D with nx := tz D }) (hv hb) (k v (p1 hb))) fun hb => by
  have q := k v0 (p0 hb)
  rw [hs] at q
  exact q
theorem xs_cut {Mid : L2.St → Hp → Prop} (h : ts { D with nx := Mid } σ H) (k : ∀ σ' H', Mid σ' H' → tz D σ' H') : Evl.tCut ts tz D σ H := ⟨Mid, h, k⟩
theorem xs_seq {D : Ends} (h : ts { D with nx := tz D } σ H) : tSeq ts tz D σ H := h
/-- a for over a list of ints, which stands at H0: what was tracked at H0 stays -/
theorem xs_forI {a : Addr} {ns : List Int} {j : Nat} (hv : Val tl σ H (.ref a)) (e0 : Same H0 H) (hx : SqL K H0 a (ns.map V.int)) (P : Nat → L2.St → Hp → Prop) (h0 : P 0 σ H)
    (hs : ∀ i n σ' H', Same H0 H' → ns[i]? = some n → P i σ' H' → ts { D with nx := fun s h => Same H0 h ∧ P (i + 1) s h, ct := fun s h => Same H0 h ∧ P (i + 1) s h, bk := D.nx } (σ'.set j (some (.int n))) H')
    (hd : ∀ σ' H', Same H0 H' → P ns.length σ' H' → D.nx σ' H') : tFor (iList K tl) (gName j) ts D σ H :=
  hv _ ⟨a, rfl, ⟨_, e0.seq hx⟩, for_list (xs := ns.map V.int) (fun i s h => Same H0 h ∧ P i s h) ⟨e0, h0⟩ (fun _ _ _ _ p => p.1.seq hx)
    (fun i x σ' H' hi p => by
      rw [List.getElem?_map] at hi
      cases e : ns[i]? with
      | none =>
        rw [e] at hi
        cases hi
      | some n =>
        rw [e] at hi
        cases hi
        exact hs i n σ' H' p.1 e p.2)
    (fun σ' H' p => by
      rw [List.length_map] at p
      exact hd σ' H' p.1 p.2)⟩
theorem xs_forV {a : Addr} {xs : List V} {g : TG} (hv : Val tl σ H (.ref a)) (e0 : Same H0 H) (hx : SqL K H0 a xs) (P : Nat → L2.St → Hp → Prop) (h0 : P 0 σ H)
    (hs : ∀ i x σ' H', Same H0 H' → xs[i]? = some x → P i σ' H' → g x σ' H' fun σ2 H2 => ts { D with nx := fun s h => Same H0 h ∧ P (i + 1) s h, ct := fun s h => Same H0 h ∧ P (i + 1) s h, bk := D.nx } σ2 H2)
    (hd : ∀ σ' H', Same H0 H' → P xs.length σ' H' → D.nx σ' H') : tFor (iList K tl) g ts D σ H :=
  hv _ ⟨a, rfl, ⟨_, e0.seq hx⟩, for_list (xs := xs) (fun i s h => Same H0 h ∧ P i s h) ⟨e0, h0⟩ (fun _ _ _ _ p => p.1.seq hx)
    (fun i x σ' H' hi p => hs i x σ' H' p.1 hi p.2) (fun σ' H' p => hd σ' H' p.1 p.2)⟩
/-- a for over range(n) -/
theorem xs_forR {ta : TA} {j : Nat} {n : Nat} (h : Arg ta σ H [.int (n : Int)]) (hn : n < 2 ^ 62) (P : Nat → L2.St → Hp → Prop) (h0 : P 0 σ H)
    (hs : ∀ (i : Nat) σ' H', i < n → P i σ' H' → ts { D with nx := P (i + 1), ct := P (i + 1), bk := D.nx } (σ'.set j (some (.int (i : Int)))) H')
    (hd : ∀ σ' H', P n σ' H' → D.nx σ' H') : tFor (iRng1 ta) (gName j) ts D σ H :=
  h _ ⟨(n : Int), rfl, by omega, by omega, for_range (lo := 0) (n := n) P h0 (fun i σ' H' hi p => by
    show ts { D with nx := P (i + 1), ct := P (i + 1), bk := D.nx } (σ'.set j (some (.int ((0 : Int) + (i : Int))))) H'
    rw [Int.zero_add]
    exact hs i σ' H' hi p) hd⟩
/-- a while whose test leaves the heap: a word and a measure -/
theorem xs_while (P : Nat → L2.St → Hp → Prop) (m0 : Nat) (h0 : P m0 σ H)
    (hs : ∀ m σ' H', P m σ' H' → ∃ b, Ans t σ' H' b ∧ (b = true → ts { D with nx := fun s h => ∃ m', m' < m ∧ P m' s h, ct := fun s h => ∃ m', m' < m ∧ P m' s h, bk := D.nx } σ' H') ∧ (b = false → D.nx σ' H')) : tWhile t ts D σ H :=
  ⟨P, ⟨m0, h0⟩, fun m σ' H' p => by
    obtain ⟨b, hb, h1, h2⟩ := hs m σ' H' p
    refine hb _ ?_
    cases b with
    | true => exact ⟨fun s h => ∃ m', m' < m ∧ P m' s h, fun _ _ z => z, h1 rfl⟩
    | false => exact h2 rfl⟩
/-! the same, something behind -/
theorem xq_set {i : Nat} (h : Val te σ H v) (q : tz D (σ.set i (some v)) H) : tSeq (tAsg te (gName i)) tz D σ H := st_set (D := { D with nx := tz D }) h q
/-- read by hand, step by step -/
theorem xr_ret (h : te σ H fun v H1 => D.rt v H1) : tRet te D σ H := h
theorem xr_and {Q : VK} (h : ta σ H fun x H1 => ∃ c, x = .bl c ∧ if c = true then tb σ H1 Q else Q (.bl false) H1) : tAndV ta tb σ H Q := h
theorem xr_call {sp : Sp} {E : XK} {Q : VK} (h : tr σ H fun vs H1 => sp (vs ++ []) H1 Q E) : tCall sp [] E tr σ H Q := h
theorem xr_cons {Q : List V → Hp → Prop} (h : te σ H fun x H1 => tr σ H1 fun xs H2 => Q (x :: xs) H2) : tCons te tr σ H Q := h
/-- x = e, e read by hand -/
theorem xq_run {i : Nat} (h : te σ H fun v H1 => tz D (σ.set i (some v)) H1) : tSeq (tAsg te (gName i)) tz D σ H := h
theorem xq_par {i j : Nat} {w : V} {ta : TA} (h : Arg ta σ H [v, w]) (q : tz D ((σ.set i (some v)).set j (some w)) H) : tSeq (tPar i j ta) tz D σ H := xs_par (D := { D with nx := tz D }) h q
theorem xq_if {b : Bool} (h : Ans t σ H b) (h1 : b = true → ts { D with nx := tz D } σ H) (h2 : b = false → tu { D with nx := tz D } σ H) : tSeq (tIfS t ts tu) tz D σ H := xs_if (D := { D with nx := tz D }) h h1 h2
theorem xq_forI {a : Addr} {ns : List Int} {j : Nat} (hv : Val tl σ H (.ref a)) (e0 : Same H0 H) (hx : SqL K H0 a (ns.map V.int)) (P : Nat → L2.St → Hp → Prop) (h0 : P 0 σ H)
    (hs : ∀ i n σ' H', Same H0 H' → ns[i]? = some n → P i σ' H' → ts { D with nx := fun s h => Same H0 h ∧ P (i + 1) s h, ct := fun s h => Same H0 h ∧ P (i + 1) s h, bk := tz D } (σ'.set j (some (.int n))) H')
    (hd : ∀ σ' H', Same H0 H' → P ns.length σ' H' → tz D σ' H') : tSeq (tFor (iList K tl) (gName j) ts) tz D σ H := xs_forI (D := { D with nx := tz D }) hv e0 hx P h0 hs hd
theorem xq_forV {a : Addr} {xs : List V} {g : TG} (hv : Val tl σ H (.ref a)) (e0 : Same H0 H) (hx : SqL K H0 a xs) (P : Nat → L2.St → Hp → Prop) (h0 : P 0 σ H)
    (hs : ∀ i x σ' H', Same H0 H' → xs[i]? = some x → P i σ' H' → g x σ' H' fun σ2 H2 => ts { D with nx := fun s h => Same H0 h ∧ P (i + 1) s h, ct := fun s h => Same H0 h ∧ P (i + 1) s h, bk := tz D } σ2 H2)
    (hd : ∀ σ' H', Same H0 H' → P xs.length σ' H' → tz D σ' H') : tSeq (tFor (iList K tl) g ts) tz D σ H := xs_forV (D := { D with nx := tz D }) hv e0 hx P h0 hs hd
theorem xq_forR {ta : TA} {j : Nat} {n : Nat} (h : Arg ta σ H [.int (n : Int)]) (hn : n < 2 ^ 62) (P : Nat → L2.St → Hp → Prop) (h0 : P 0 σ H)
    (hs : ∀ (i : Nat) σ' H', i < n → P i σ' H' → ts { D with nx := P (i + 1), ct := P (i + 1), bk := tz D } (σ'.set j (some (.int (i : Int)))) H')
    (hd : ∀ σ' H', P n σ' H' → tz D σ' H') : tSeq (tFor (iRng1 ta) (gName j) ts) tz D σ H := xs_forR (D := { D with nx := tz D }) h hn P h0 hs hd
theorem xq_while (P : Nat → L2.St → Hp → Prop) (m0 : Nat) (h0 : P m0 σ H)
    (hs : ∀ m σ' H', P m σ' H' → ∃ b, Ans t σ' H' b ∧ (b = true → ts { D with nx := fun s h => ∃ m', m' < m ∧ P m' s h, ct := fun s h => ∃ m', m' < m ∧ P m' s h, bk := tz D } σ' H') ∧ (b = false → tz D σ' H')) : tSeq (tWhile t ts) tz D σ H := xs_while (D := { D with nx := tz D }) P m0 h0 hs
end
/-! ### isinstance -/
section
variable {σ : L2.St} {H : Hp} {K : PySem.W.Frag} {ta : TE}
theorem tyx_L {a : Addr} {xs : List V} (h : SqL K H a xs) : TyX K H (.ref a) (.type "list") := by
  rcases h with (h | ⟨o, h⟩) | ⟨o, its, n, h, hc, _⟩
  · exact .base (.lst h)
  · exact .base (.frz h)
  · exact .kList h hc
theorem xv_isi {x : V} {T a : String} {b : Bool} (ha : Val ta σ H x) (ht : TyX K H x (.type a)) (hk : kitB a T = some b) : Val (tCB (rIsi K) (tCons ta (tCons (tC (.ty T)) tNil))) σ H (.bl b) :=
  fun Q q => ha _ ⟨x, .ty T, .type a, .type T, b, rfl, .ty T, ht, kit_ty hk, q⟩
end
/-! ### what makes new lists (over Evl) -/
section
open Evl
variable {σ : L2.St} {H H' H0 : Hp} {K : PySem.W.Frag} {ta tb tc te tl : TE} {tr : TA} {t u : TT} {x y z v : V} {xs ys vs : List V} {D : Ends} {ts tz tu : TS}
theorem xe_I0 {g : Int → Int → V} {i j : Int} (ha : Ev ta σ H (.int i)) (hb : Ev tb σ H (.int j)) : Ev (tOp (rI0 g) ta tb) σ H (g i j) := ev_op ha hb rv_I0
theorem xe_I {C : Int → Int → Prop} {g : Int → Int → V} {i j : Int} (ha : Ev ta σ H (.int i)) (hb : Ev tb σ H (.int j)) (hc : C i j) : Ev (tOp (rI C g) ta tb) σ H (g i j) := ev_op ha hb (rv_I hc)
theorem xe_p60 : Ev (tOp (rI CPow fun i j => .int (i ^ j.toNat)) (tC (.int 10)) (tC (.int 60))) σ H (.int T60) := fun H1 e Q q => xv_p60 _ (q H1 (Ex.refl H1))
theorem xe_len {p : Addr} (ha : Ev ta σ H (.ref p)) (h : SqL K H p xs) : Ev (tCB (rLenQ K) (tCons ta tNil)) σ H (.int (xs.length : Int)) := fun H1 e Q q => ha H1 e _ fun H2 e2 => ⟨p, xs, rfl, .inl (ex_l (e.trans e2) h), q H2 e2⟩
theorem xe_ix {p : Addr} {ns : List Int} {i : Int} (ha : Ev ta σ H (.ref p)) (hb : Ev tb σ H (.int i)) (h : SqL K H p (ns.map V.int)) (h0 : 0 ≤ i) (h1 : i < ns.length) : Ev (tOp (rIxL K) ta tb) σ H (.int (ns.getD i.toNat 0)) := ev_op ha hb (rv_ixL h (atI_int h0 h1))
theorem xl_rep {k : Int} (ha : EvL ta σ H xs) (hb : Ev tb σ H (.int k)) (hk : -(2 ^ 63) ≤ k ∧ k < 2 ^ 63) (hz : xs.length * k.toNat ≤ 100000) : EvL (tOp rRep ta tb) σ H (List.replicate k.toNat xs).flatten := fun H1 e Q q =>
  ha H1 e _ fun p H2 hp e2 h2 => hb H2 (e.trans e2) _ fun H3 e3 => ⟨p, k, xs, rfl, rfl, e3 p _ h2, hk.1, hk.2, sz_of hz, fun p3 h3 => q p3 _ (fresh_back (e2.trans e3) h3) ((e2.trans e3).trans (Ex.new h3)) upd_same⟩
theorem xl_cat {l : Addr} (ha : Ev ta σ H (.ref l)) (hl : H l = some (.lst xs)) (hb : EvL tb σ H ys) (hz : xs.length + ys.length ≤ 100000) : EvL (tOp rCat ta tb) σ H (xs ++ ys) := fun H1 e Q q =>
  ha H1 e _ fun H2 e2 => hb H2 (e.trans e2) _ fun p H3 hp e3 h3 => ⟨l, p, xs, ys, rfl, rfl, ((e.trans e2).trans e3) l _ hl, h3, sz_of hz, fun p4 h4 => q p4 _ (fresh_back (e2.trans e3) h4) ((e2.trans e3).trans (Ex.new h4)) upd_same⟩
theorem xl_catR {l : Addr} (ha : EvL ta σ H xs) (hb : Ev tb σ H (.ref l)) (hl : H l = some (.lst ys)) (hz : xs.length + ys.length ≤ 100000) : EvL (tOp rCat ta tb) σ H (xs ++ ys) := fun H1 e Q q =>
  ha H1 e _ fun p H2 hp e2 h2 => hb H2 (e.trans e2) _ fun H3 e3 => ⟨p, l, xs, ys, rfl, rfl, e3 p _ h2, ((e.trans e2).trans e3) l _ hl, sz_of hz, fun p4 h4 => q p4 _ (fresh_back (e2.trans e3) h4) ((e2.trans e3).trans (Ex.new h4)) upd_same⟩
theorem xl_catN (ha : EvL ta σ H xs) (hb : EvL tb σ H ys) (hz : xs.length + ys.length ≤ 100000) : EvL (tOp rCat ta tb) σ H (xs ++ ys) := fun H1 e Q q =>
  ha H1 e _ fun p H2 hp e2 h2 => hb H2 (e.trans e2) _ fun p3 H3 hp3 e3 h3 => ⟨p, p3, xs, ys, rfl, rfl, e3 p _ h2, h3, sz_of hz, fun p4 h4 => q p4 _ (fresh_back (e2.trans e3) h4) ((e2.trans e3).trans (Ex.new h4)) upd_same⟩
theorem xl_catV {l m : Addr} (ha : Ev ta σ H (.ref l)) (hl : H l = some (.lst xs)) (hb : Ev tb σ H (.ref m)) (hm : H m = some (.lst ys)) (hz : xs.length + ys.length ≤ 100000) : EvL (tOp rCat ta tb) σ H (xs ++ ys) := fun H1 e Q q =>
  ha H1 e _ fun H2 e2 => hb H2 (e.trans e2) _ fun H3 e3 => ⟨l, m, xs, ys, rfl, rfl, ((e.trans e2).trans e3) l _ hl, ((e.trans e2).trans e3) m _ hm, sz_of hz, fun p4 h4 => q p4 _ (fresh_back (e2.trans e3) h4) ((e2.trans e3).trans (Ex.new h4)) upd_same⟩
/-- list(xs) -/
abbrev rListQ (K : PySem.W.Frag) : List V → Hp → VK → Prop := fun xs H Q => ∃ p ys, xs = [.ref p] ∧ (SqL K H p ys ∨ SqT K H p ys) ∧ ∀ l, H l = none → Q (.ref l) (upd H l (.lst ys))
theorem xl_listQ {p : Addr} (ha : Ev ta σ H (.ref p)) (h : SqL K H p xs) : EvL (tCB (rListQ K) (tCons ta tNil)) σ H xs := fun H1 e Q q =>
  ha H1 e _ fun H2 e2 => ⟨p, xs, rfl, .inl (ex_l (e.trans e2) h), fun l hl => q l _ (fresh_back e2 hl) (e2.trans (Ex.new hl)) upd_same⟩
theorem xl_revL {p : Addr} (ha : Ev ta σ H (.ref p)) (h : SqL K H p xs) : EvL (tRevL K ta) σ H xs.reverse := fun H1 e Q q =>
  ha H1 e _ fun H2 e2 => ⟨p, xs, rfl, ex_l (e.trans e2) h, fun l hl => q l _ (fresh_back e2 hl) (e2.trans (Ex.new hl)) upd_same⟩
/-- [0] * n, of ints -/
theorem flat_rep (k : Nat) (c : Int) : (List.replicate k [V.int c]).flatten = (List.replicate k c).map V.int := by
  induction k with
  | zero => rfl
  | succ k ih => rw [List.replicate_succ, List.flatten_cons, ih] <;> rfl
theorem cut_all (xs : List V) (a b : Nat) : cutV xs (some (a : Int)) (some (b : Int)) = (xs.take b).drop a := by
  unfold cutV
  rw [show HT.sIx xs.length 0 (some (a : Int)) = min a xs.length from HT.sIx_nat xs.length 0 a, show HT.sIx xs.length xs.length (some (b : Int)) = min b xs.length from HT.sIx_nat xs.length xs.length b]
  rw [List.drop_take]
  by_cases ha : a ≤ xs.length
  · have e1 : min a xs.length = a := Nat.min_eq_left ha
    rw [e1]
    by_cases hb : b ≤ xs.length
    · rw [Nat.min_eq_left hb]
    · have e2 : min b xs.length = xs.length := Nat.min_eq_right (by omega)
      rw [e2, List.take_of_length_le (by rw [List.length_drop]; omega), List.take_of_length_le (by rw [List.length_drop]; omega)]
  · have e1 : min a xs.length = xs.length := Nat.min_eq_right (by omega)
    rw [e1, List.drop_length, List.drop_of_length_le (by omega)]
    simp
theorem cut_lo (xs : List V) (a : Nat) : cutV xs (some (a : Int)) none = xs.drop a := by
  unfold cutV
  rw [show HT.sIx xs.length 0 (some (a : Int)) = min a xs.length from HT.sIx_nat xs.length 0 a, HT.sIx_none]
  by_cases ha : a ≤ xs.length
  · rw [Nat.min_eq_left ha, List.take_of_length_le (by rw [List.length_drop]; omega)]
  · rw [Nat.min_eq_right (by omega), List.drop_length, List.drop_of_length_le (by omega)]
    simp
theorem cut_hi (xs : List V) (b : Nat) : cutV xs none (some (b : Int)) = xs.take b := by
  have h := cut_all xs 0 b
  rw [List.drop_zero] at h
  rw [← h]
  unfold cutV
  rw [HT.sIx_none, show HT.sIx xs.length 0 (some ((0 : Nat) : Int)) = min 0 xs.length from HT.sIx_nat xs.length 0 0, Nat.zero_min]
theorem cut_int {ns : List Int} {a b : Int} (ha : 0 ≤ a) (hb : 0 ≤ b) : cutV (ns.map V.int) (some a) (some b) = ((ns.take b.toNat).drop a.toNat).map V.int := by
  obtain ⟨x, rfl⟩ := Int.eq_ofNat_of_zero_le ha
  obtain ⟨y, rfl⟩ := Int.eq_ofNat_of_zero_le hb
  rw [List.map_drop, List.map_take]
  exact cut_all _ x y
/-- [e for x in xs], xs a new list of ints, e's value F x -/
theorem xl_mapI {cs : List Int} {F : Int → V} {j : Nat} {ws : List Nat} (h : EvL tl σ H (cs.map V.int)) (hz : cs.length ≤ 40000) (hw : ∀ x, wipe ((wipe σ ws).set j (some x)) ws = wipe σ ws)
    (he : ∀ x H1, Ex H H1 → x ∈ cs → Ev te ((wipe σ ws).set j (some (.int x))) H1 (F x)) : EvL (tLc (iList K tl) (gName j) tYes te ws) σ H (cs.map F) := by
  have r := el_lcNL (K := K) (vs := ws) (j := j) (t := tYes) (fun _ => true) (fun i => F (cs.getD i 0)) h (by rw [List.length_map]; exact hz) hw (fun i x H1 e hi => fun H2 e2 Q q => q H2 (Ex.refl H2)) (te := te) (fun i x H1 e hi _ => by
    rw [List.getElem?_map] at hi
    cases hc : cs[i]? with
    | none =>
      rw [hc] at hi
      cases hi
    | some c =>
      rw [hc] at hi
      cases hi
      rw [getD_of hc]
      exact he c H1 e (List.mem_of_getElem? hc))
  have e : given (cs.map V.int).length (fun _ => true) (fun i => F (cs.getD i 0)) = cs.map F := by
    unfold given
    rw [List.filter_eq_self.mpr (fun _ _ => rfl), List.length_map]
    refine List.ext_getElem? fun i => ?_
    rw [List.getElem?_map, List.getElem?_map]
    by_cases hi : i < cs.length
    · rw [List.getElem?_range hi, get_of hi]
      rfl
    · rw [List.getElem?_eq_none (by rw [List.length_range]; omega), List.getElem?_eq_none (by omega)]
      rfl
  rw [e] at r
  exact r
/-- what was tracked ahead of a list's making stays when that list is changed -/
theorem same_mut {p : Addr} {o : HO} (e : Same H H') (h : H p = none) : Same H (upd H' p o) := Ex.mut e h
end
/-! ### while len(xs) > 0 and xs[len(xs) - 1] == 0: xs.pop() -/
section
variable {σ : L2.St} {H : Hp} {K : PySem.W.Frag} {D : Ends}
theorem xs_pops {i : Nat} {l : Addr} {xs : List Int} (hσ : σ[i]? = some (some (.ref l))) (hl : H l = some (.lst (xs.map V.int)))
    (q : ∀ H', (∀ b, b ≠ l → H' b = H b) → H' l = some (.lst ((bare xs).map V.int)) → D.nx σ H') :
    tWhile (tAnd (tTest (tOp (rI0 fun i j => .bl (decide (j < i))) (tCB (rLenQ K) (tCons (tVar i) tNil)) (tC (.int 0))))
      (tTest (tOp rEq (tOp (rIxL K) (tVar i) (tOp (rI0 fun i j => .int (i - j)) (tCB (rLenQ K) (tCons (tVar i) tNil)) (tC (.int 1)))) (tC (.int 0)))))
      (tDrop (tBM0 K "list" rPop (tVar i))) D σ H := by
  refine xs_while (fun m s H' => ∃ ys : List Int, s = σ ∧ (∀ b, b ≠ l → H' b = H b) ∧ H' l = some (.lst (ys.map V.int)) ∧ bare ys = bare xs ∧ ys.length = m) _ ⟨xs, rfl, fun _ _ => rfl, hl, rfl, rfl⟩ ?_
  rintro m s H' ⟨ys, rfl, e3, h3, hb, rfl⟩
  refine ⟨_, xa_and (xa_T (xv_I0 (xv_lenI (val_var hσ) (SqL.of h3)) val_c)) fun hc => xa_T (xv_eq (xv_ix (val_var hσ) (xv_I0 (xv_lenI (val_var hσ) (SqL.of h3)) val_c) (SqL.of h3) (by
    have := of_decide_eq_true hc
    omega) (by omega)) val_c rfl), fun hc => ?_, fun hc => ?_⟩
  · rw [Bool.and_eq_true] at hc
    obtain ⟨c1, c2⟩ := hc
    have c1 := of_decide_eq_true c1
    have c2 := V.int.inj (of_decide_eq_true c2)
    obtain ⟨zs, c, rfl⟩ := snoc_of (xs := ys) (by
      rintro rfl
      simp at c1)
    rw [show (((zs ++ [c]).length : Int) - 1).toNat = (zs ++ [c]).length - 1 by omega, getD_last] at c2
    subst c2
    refine ⟨.ref l, hσ, .inl ⟨rfl, _, SqL.of h3⟩, l, _, .int 0, rfl, rfl, h3, ?_, ?_⟩
    · rw [List.length_map, List.getElem?_map, List.length_append, List.length_singleton, Nat.add_sub_cancel, List.getElem?_append_right (Nat.le_refl _), Nat.sub_self]
      rfl
    · refine ⟨zs.length, by rw [List.length_append, List.length_singleton]; omega, zs, rfl, fun b hb => by rw [upd_ne hb]; exact e3 b hb, ?_, ?_, rfl⟩
      · rw [upd_same, List.map_append, List.map_singleton, List.dropLast_concat]
      · rw [← hb, bare_zero]
  · have hy : bare ys = ys := by
      by_cases h0 : ys = []
      · rw [h0]
        rfl
      · obtain ⟨zs, c, rfl⟩ := snoc_of h0
        refine bare_snoc zs fun e => ?_
        subst e
        have c1 := of_decide_eq_false (Bool.and_eq_false_imp.mp hc (decide_eq_true (by rw [List.length_append, List.length_singleton]; omega)))
        refine c1 ?_
        have e9 : (((zs ++ [(0 : Int)]).length : Int) - 1).toNat = (zs ++ [(0 : Int)]).length - 1 := by omega
        rw [e9, getD_last]
    refine q H' e3 ?_
    rw [h3, ← hb, hy]
theorem xq_pops {tz : TS} {i : Nat} {l : Addr} {xs : List Int} (hσ : σ[i]? = some (some (.ref l))) (hl : H l = some (.lst (xs.map V.int)))
    (q : ∀ H', (∀ b, b ≠ l → H' b = H b) → H' l = some (.lst ((bare xs).map V.int)) → tz D σ H') :
    tSeq (tWhile (tAnd (tTest (tOp (rI0 fun i j => .bl (decide (j < i))) (tCB (rLenQ K) (tCons (tVar i) tNil)) (tC (.int 0))))
      (tTest (tOp rEq (tOp (rIxL K) (tVar i) (tOp (rI0 fun i j => .int (i - j)) (tCB (rLenQ K) (tCons (tVar i) tNil)) (tC (.int 1)))) (tC (.int 0)))))
      (tDrop (tBM0 K "list" rPop (tVar i)))) tz D σ H := xs_pops (D := { D with nx := tz D }) hσ hl q
end
/-! ### lists of ints compared -/
section
variable {σ : L2.St} {H : Hp} {K : PySem.W.Frag} {ta tb : TE}
theorem dpAll_int (ns : List Int) : DpAll K H (ns.map V.int) (ns.map PyData.int) := by
  induction ns with
  | nil => exact .nil
  | cons n r ih => exact .cons (.int n) ih
theorem eqvAll_int : ∀ ns ms : List Int, PyData.eqvAll (ns.map PyData.int) (ms.map PyData.int) = decide (ns = ms)
  | [], [] => by simp [PyData.eqvAll]
  | [], m :: ms => by simp [PyData.eqvAll]
  | n :: ns, [] => by simp [PyData.eqvAll]
  | n :: ns, m :: ms => by
    show (n == m && PyData.eqvAll (ns.map PyData.int) (ms.map PyData.int)) = decide (n :: ns = m :: ms)
    rw [eqvAll_int ns ms]
    by_cases h : n = m
    · subst h
      by_cases h2 : ns = ms
      · subst h2
        simp
      · simp [h2]
    · simp [h]
theorem eqv_int (ns ms : List Int) : PyData.eqv (.list (ns.map PyData.int)) (.list (ms.map PyData.int)) = decide (ns = ms) := by
  rw [← eqvAll_int]
  simp [PyData.eqv]
theorem canLayAll_int : ∀ ns : List Int, PyData.canLayAll0 (ns.map PyData.int) = true
  | [] => rfl
  | n :: ns => by
    show (true && PyData.canLayAll0 (ns.map PyData.int)) = true
    rw [canLayAll_int ns]
    rfl
theorem depthAll_int : ∀ ns : List Int, PyData.depthAll (ns.map PyData.int) ≤ 1
  | [] => by simp [PyData.depthAll]
  | n :: ns => by
    have := depthAll_int ns
    simp only [List.map_cons, PyData.depthAll, PyData.depth]
    omega
theorem shaped_int (ns : List Int) : SeqAt.shaped (.list (ns.map PyData.int)) = true := by
  unfold SeqAt.shaped
  rw [Bool.and_eq_true]
  refine ⟨canLayAll_int ns, decide_eq_true ?_⟩
  have := depthAll_int ns
  simp only [PyData.depth]
  omega
/-- xs == ys, xs != ys of lists of ints -/
theorem xv_eqL {a b : Addr} {ns ms : List Int} (ha : Val ta σ H (.ref a)) (hb : Val tb σ H (.ref b)) (h1 : SqL K H a (ns.map V.int)) (h2 : SqL K H b (ms.map V.int)) : Val (tOp (rEqD K) ta tb) σ H (.bl (decide (ns = ms))) :=
  val_op ha hb fun Q q => ⟨_, _, .lst h1 (dpAll_int ns), .lst h2 (dpAll_int ms), shaped_int ns, shaped_int ms, by rw [eqv_int]; exact q⟩
theorem xv_neL {a b : Addr} {ns ms : List Int} (ha : Val ta σ H (.ref a)) (hb : Val tb σ H (.ref b)) (h1 : SqL K H a (ns.map V.int)) (h2 : SqL K H b (ms.map V.int)) : Val (tOp (rNeD K) ta tb) σ H (.bl (!decide (ns = ms))) :=
  val_op ha hb fun Q q => ⟨_, _, .lst h1 (dpAll_int ns), .lst h2 (dpAll_int ms), shaped_int ns, shaped_int ms, by rw [eqv_int]; exact q⟩
end
end Sh

/-! Own words for exceptions: isinstance of what an except suite holds, with the class told by the reading. -/
namespace Sh
open PySem PySem.Spec PyProof.Rows L2
theorem units65 {k : Nat} {A : Around} (hr : Room k A) : A.units + 65 < cLine := by have := hr.un; omega
section
variable {K : PySem.W.Frag} {D Y : Addr}
theorem kit_yes (hc : PySem.W.isClsIn K Y = true) (ht : PySem.W.typeIn K (.ref Y) = some (.type "type")) (hs : PySem.W.subIn K (.ref D) (.ref Y) = some true) : PySem.W.kitOne K (.ref D) (.ref Y) = some true := by
  have e2 : ((PySem.W.clsIn K Y).isSome && PySem.W.typeIn K (.ref Y) == some (.type "type")) = true := by
    have h2 : (PySem.W.clsIn K Y).isSome = true := hc
    rw [h2, ht]
    rfl
  unfold PySem.W.kitOne
  split
  · rfl
  · show (if ((PySem.W.clsIn K Y).isSome && PySem.W.typeIn K (.ref Y) == some (.type "type")) = true then PySem.W.subIn K (.ref D) (.ref Y) else none) = some true
    rw [if_pos e2, hs]
theorem kit_no (hc : PySem.W.isClsIn K Y = true) (ht : PySem.W.typeIn K (.ref Y) = some (.type "type")) (h0 : PySem.W.subIn K (.ref D) (.ref D) = some true) (hs : PySem.W.subIn K (.ref D) (.ref Y) = some false) : PySem.W.kitOne K (.ref D) (.ref Y) = some false := by
  have e2 : ((PySem.W.clsIn K Y).isSome && PySem.W.typeIn K (.ref Y) == some (.type "type")) = true := by
    have h2 : (PySem.W.clsIn K Y).isSome = true := hc
    rw [h2, ht]
    rfl
  unfold PySem.W.kitOne
  split
  · rename_i e
    have e3 : Value.ref D = Value.ref Y := beq_iff_eq.mp e
    cases e3
    rw [h0] at hs
    cases hs
  · show (if ((PySem.W.clsIn K Y).isSome && PySem.W.typeIn K (.ref Y) == some (.type "type")) = true then PySem.W.subIn K (.ref D) (.ref Y) else none) = some false
    rw [if_pos e2, hs]
theorem kit_ve (hs : PySem.W.subIn K (.ref D) (.type "ValueError") = some true) : PySem.W.kitOne K (.ref D) (.type "ValueError") = some true := by
  unfold PySem.W.kitOne
  rw [if_neg (by intro e; cases (beq_iff_eq.mp e))]
  show (if PySem.W.kitMeta "ValueError" = true then PySem.W.subIn K (.ref D) (.type "ValueError") else none) = some true
  rw [if_pos (by decide +kernel), hs]
end
/-- isinstance of what an except suite holds: its class as the reading tells it -/
def rIsX (K : PySem.W.Frag) (a : Addr) (cls : Value) (d : Option Addr) : List V → Hp → VK → Prop := fun xs H Q => ∃ (D : Addr), cls = .ref D ∧ d = none ∧ ExcC K D ∧ rIsE K D a xs H Q
theorem call_isX {X : Cx} {K : PySem.W.Frag} {a : Addr} {oe : Obj} {pn : List (Addr × Obj)} {cls : Value} {d : Option Addr} (hK : X.K = K) (hz : Zc cls d oe) (hf : ∃ vs, oe.data = .fields vs) : CallR (X.suite a ((a, oe) :: pn)) (.builtin "isinstance") (rIsX K a cls d) := by
  subst hK
  rintro pins s σ H xs us Q I r ⟨D, rfl, rfl, C, h⟩
  exact call_isE C hz hf pins s σ H xs us Q I r h
section
variable {σ : L2.St} {H : Hp} {K : PySem.W.Frag} {ta tb : TE} {a D : Addr}
theorem xv_isX {b : Bool} {c : V} {cv : Value} (ha : Val ta σ H (.ref a)) (hb : Val tb σ H c) (hE : ExcC K D) (hc : ∀ u, RelV c u → u = cv) (hk : PySem.W.kitOne K (.ref D) cv = some b) : Val (tCB (rIsX K a (.ref D) none) (tCons ta (tCons tb tNil))) σ H (.bl b) :=
  fun Q q => ha _ (hb _ ⟨D, rfl, rfl, hE, c, cv, b, rfl, hc, hk, q⟩)
theorem xv_isC {b : Bool} {C : Addr} (ha : Val ta σ H (.ref a)) (hE : ExcC K D) (hk : PySem.W.kitOne K (.ref D) (.ref C) = some b) : Val (tCB (rIsX K a (.ref D) none) (tCons ta (tCons (tC (.ref C)) tNil))) σ H (.bl b) :=
  xv_isX ha val_c hE (fun u r => r) hk
theorem xv_isT {b : Bool} {n : String} (ha : Val ta σ H (.ref a)) (hE : ExcC K D) (hk : PySem.W.kitOne K (.ref D) (.type n) = some b) : Val (tCB (rIsX K a (.ref D) none) (tCons ta (tCons (tC (.ty n)) tNil))) σ H (.bl b) :=
  xv_isX ha val_c hE (fun u r => r) hk
end
/-- try: f(..) except C as n: suite -/
theorem xq_try {σ : L2.St} {H : Hp} {K : PySem.W.Frag} {D : Ends} {tz : TS} {sp : Sp} {c : Value} {i : Nat} {ts : Addr → Value → Option Addr → TS} {Wout : WX} {ta : TA} {vs : List V} (h : Arg ta σ H vs)
    (q : sp vs H (fun _ H1 => tz D σ H1) (fun cls d H' => wAs K c i ts Wout { D with nx := tz D } cls d σ H')) : tSeq (fun D σ H => tDrop (tCallS sp (WE (wAs K c i ts Wout D)) ta) D σ H) tz D σ H := h _ q
end Sh

/-! An own rule of the layer: try: body / except (A, B, ..): a suite that is never reached / except C as n: suite. -/
namespace Sh
open PySem PySem.Spec PyProof.Rows L2
/-- the names in the tuple of a clause, and the classes that they stand for -/
inductive TNames (X : Cx) : List Expr → List Value → Prop
  | nil : TNames X [] []
  | cons {x : Str} {p : Pos} {c : Value} {es : List Expr} {cs : List Value} (hc : Names X x c) (r : TNames X es cs) : TNames X (.Name x p :: es) (c :: cs)
/-- a tuple of such many classes is told of -/
def TupTold (cs : List Value) : Prop := ∀ {M : Model} {K : PySem.W.Frag} {cls : Value} {tp e : Addr} {b : Bool} {h : Heap}, K.In h → PySem.W.Looks M h (typeOf (.ref e)) cls → h.get? tp = some { cls := .type "tuple", data := .seq cs.toArray } → PySem.W.exmAny K cls cs = some b →
  PySem.W.Looks M h (excMatches (.ref e) (.ref tp)) b
theorem told2 {c1 c2 : Value} : TupTold [c1, c2] := fun X L hp hx => PySem.W.exm_tup2 X L hp hx
theorem told4 {c1 c2 c3 c4 : Value} : TupTold [c1, c2, c3, c4] := fun X L hp hx => PySem.W.exm_tup4 X L hp hx
theorem any_no {K : PySem.W.Frag} {cls c : Value} {r : List Value} (h : PySem.W.exmOne K cls c = some false) (hr : PySem.W.exmAny K cls r = some false) : PySem.W.exmAny K cls (c :: r) = some false := by
  unfold PySem.W.exmAny
  rw [h, hr]
  rfl
theorem fly_push {B : Heap} {l : List Env} {a : Addr} {Z : Obj → Prop} {h : Heap} (o : Obj) (f : HandSPX.FlyingZ B l a Z h) : HandSPX.FlyingZ B l a Z (h.push o) := by
  obtain ⟨k1, k2, k3, oe, vs, T, oT, ts, he, hz, hd, h1, hnT, hTe, hT, hdT, h3⟩ := f
  exact ⟨fun b o' e => Heap.get?_push_of_some _ (k1 b o' e), k2, k3.of_keeps fun b o' e _ => ⟨o', Heap.get?_push_of_some _ e, rfl⟩, oe, vs, T, oT, ts, Heap.get?_push_of_some _ he, hz, hd, h1, hnT, hTe, Heap.get?_push_of_some _ hT, hdT, h3⟩
/-- what the two clauses wish of an exception: the tuple does not take it, the second one as ever -/
def wTwo (K : PySem.W.Frag) (cs : List Value) (c : Value) (i : Nat) (ts : Addr → Value → Option Addr → TS) (Wout : WX) (D : Ends) : WX := fun cls d σ H => PySem.W.exmAny K cls cs = some false ∧ wAs K c i ts Wout D cls d σ H
section
variable {X : Cx} {x n : Str} {c : Value} {cs : List Value} {es : List Expr} {i : Nat} {body suite s₀ : List Stmt} {b₀ b₁ : Stmt} {np pos pos' p0 p1 : Pos} {kk : Nat} {tb : WX → TS} {ts : Addr → Value → Option Addr → TS} {Wout : WX}
/-- one name of a class, read while a is handled: nothing changes -/
theorem name_run {a : Addr} {pn : List (Addr × Obj)} {σ : L2.St} {H : Hp} {s : Shared} {E : Value → Shared → Prop} {Q : Value → Shared → Prop} {p : Pos} (S : Inv (X.suite a pn) [] σ H s) (hc : Names X x c) (q : Q c s) : wpAny (model X.prog X.w) (X.A.mark (some (.ref a))) (eval (.Name x p) X.env) Q E s := by
  rcases hc with ⟨gl, nd, own | ⟨no, bt, nn⟩⟩
  · exact ld_glob (X := X.suite a pn) S gl own q nd
  · exact ld_blt (X := X.suite a pn) S gl no bt q nn nd
/-- the names of the tuple, one after the other -/
theorem names_run {a : Addr} {pn : List (Addr × Obj)} {σ : L2.St} {H : Hp} {s : Shared} {E : Value → Shared → Prop} {ps : Pos} (S : Inv (X.suite a pn) [] σ H s) : ∀ {es : List Expr} {cs : List Value}, TNames X es cs → ∀ {Q : List Value → Shared → Prop}, Q cs s →
    wpAny (model X.prog X.w) (X.A.mark (some (.ref a))) (spliced (backTo ps (starEach es X.env))) Q E s
  | [], [], _, _, q => spliced_none q
  | _ :: _, _ :: _, .cons hc r, _, q => spliced_more (name_run S hc (names_run S r q))
/-- an exception that lies before the clauses: a lies at h, nothing else has changed since sI -/
structure Lies (X : Cx) (pins : List (Addr × Obj)) (σ : L2.St) (H : Hp) (B : Heap) (a : Addr) (cls : Value) (d : Option Addr) (sI s : Shared) : Prop where
  inv : Inv X pins σ H sI
  nb : ∀ b o, sI.heap.get? b = some o → b ∉ frs X.stack → B.get? b = some o
  up : sI.heap.UpToSlots s.heap
  fly : HandSPX.FlyingZ B (X.env :: X.outer) a (Zc cls d) s.heap
  na : H a = none
  os : s.os = sI.os
  ag : AllBare s.gens
section
variable {pins : List (Addr × Obj)} {σ : L2.St} {H : Hp} {B : Heap} {a : Addr} {cls : Value} {d : Option Addr} {sI s : Shared}
theorem Lies.here (L : Lies X pins σ H B a cls d sI s) : Inv X pins σ H s := L.inv.landed L.nb L.fly.1 L.up L.os L.ag
theorem Lies.heap (L : Lies X pins σ H B a cls d sI s) {h : Heap} (f : HandSPX.FlyingZ B (X.env :: X.outer) a (Zc cls d) h) (u : s.heap.UpToSlots h) : Lies X pins σ H B a cls d sI { s with heap := h } := ⟨L.inv, L.nb, L.up.trans u, f, L.na, L.os, L.ag⟩
theorem Lies.push (L : Lies X pins σ H B a cls d sI s) (o : Obj) : Lies X pins σ H B a cls d sI { s with heap := s.heap.push o } := L.heap (fly_push o L.fly) (Heap.UpToSlots.of_keeps fun _ _ e => Heap.get?_push_of_some _ e)
theorem Lies.suiteOf (L : Lies X pins σ H B a cls d sI s) (hf : X.env.frame = some X.env.locals) : ∃ oe vs, s.heap.get? a = some oe ∧ Zc cls d oe ∧ oe.data = .fields vs ∧ Inv (X.suite a ((a, oe) :: (X.pn ++ pins))) [] σ H s := by
  obtain ⟨oe, vs, he, hz, hd⟩ := L.fly.there
  have nfr : a ∉ frs (X.env :: X.outer) := fun hm => by
    obtain ⟨_, o', e', hnf⟩ := L.fly.2.2.1.mem hm
    rw [he] at e'
    cases e'
    exact hnf _ hd
  refine ⟨oe, vs, he, hz, hd, L.here.suite he hd L.na (fun z => nfr (List.mem_filterMap.mpr ⟨X.env, List.mem_cons_self, by rw [hf, z]⟩)) fun hm => ?_⟩
  obtain ⟨e, he2, q⟩ := List.mem_filterMap.mp hm
  exact nfr (List.mem_filterMap.mpr ⟨e, List.mem_cons_of_mem _ he2, q⟩)
/-- no clause is left: it flies on -/
theorem Lies.on {D : Ends} (L : Lies X pins σ H B a cls d sI s) (hs : X.stack = X.env :: X.outer) (hf : X.env.frame = some X.env.locals) (tk : Takes X Wout) (w : Wout cls d σ H) : wpAny (model X.prog X.w) X.A (handleBy (.ref a) X.env []) (SP X pins D) X.xe s := by
  have away : wpAny (model X.prog X.w) X.A (setFlight (.ref a) X.env.frame) (fun _ s2 => wpAny (model X.prog X.w) X.A (throw (.ref a) : Sem Flow) (SP X pins D) X.xe s2) X.xe s := by
    rw [hf]
    refine HandSPX.setFlight_upZ L.fly fun h2 hh up => wpAny_throw (tk _ _ ⟨a, B, sI, pins, σ, H, cls, d, rfl, L.inv, L.nb, L.up.trans up, .inr (.inr ?_), L.na, L.os, L.ag, w⟩)
    rw [hs]
    exact hh
  obtain ⟨_, _, _, oe, vs, T, _, _, he, _, hd, tb, _⟩ := id L.fly
  have some_tb : (Value.ref T == Value.none) = false := by simp
  apply wpAny_handleBy_nil
  unfold PySem.passOn
  refine wpAny_bind (wpAny_field he hd tb (by
    rw [some_tb, if_neg Bool.false_ne_true]
    first | exact wpAny_bind away | exact wpAny_bind (wpAny_pure (wpAny_bind away))))
/-- the clause with a name -/
theorem Lies.as {D : Ends} (L : Lies X pins σ H B a cls d sI s) (hs : X.stack = X.env :: X.outer) (hf : X.env.frame = some X.env.locals) (hN : X.N.Nodup) (hi : X.N[i]? = some n) (hln : X.env.kindOf n = some .local) (hc : Names X x c) (tk : Takes X Wout)
    (hsu : ∀ (b : Addr) (ob : Obj) (cl : Value) (e : Option Addr) (ps : List (Addr × Obj)), Zc cl e ob → (∃ fs, ob.data = .fields fs) → PSs (X.suite b ((b, ob) :: ps)) (b₀ :: suite) (ts b cl e))
    (w : wAs X.K c i ts Wout D cls d σ H) : wpAny (model X.prog X.w) X.A (handleBy (.ref a) X.env [.ExceptHandler (some (.Name x np)) (some n) (b₀ :: suite) pos']) (SP X pins D) X.xe s := by
  obtain ⟨takes, told, yes, no⟩ := w
  obtain ⟨oe, vs, he, hz, hd, S⟩ := L.suiteOf hf
  have type_of : PySem.W.Looks (model X.prog X.w) s.heap (typeOf (.ref a)) cls := fun A Q E s2 keeps q => wpAny_typeOf_ref (keeps _ _ he) (hz.1 ▸ q)
  have matches_ := PySem.W.exm_one (M := model X.prog X.w) L.here.kIn type_of told
  apply wpAny_handleBy_cons _ (by intro z; cases z)
  apply codeAny_handlers_test
  refine name_run S hc (matches_.here ?_)
  cases takes
  · exact L.on hs hf tk (no rfl)
  · refine codeAny_handlers_suite_as (HandSPX.lands_againZ L.fly fun h4 fl up => ?_)
    obtain ⟨o4, v4, he4, hz4, hd4, S4⟩ := (L.heap fl up).suiteOf hf
    -- behind the suite the name is gone
    have leave : ∀ {τ : L2.St} {G : Hp} {R : Shared → Prop} {s6 : Shared}, Inv (X.suite a ((a, o4) :: (X.pn ++ pins))) [] τ G s6 → (∀ s7, Inv X pins (τ.set i none) G s7 → R s7) → wpAny (model X.prog X.w) X.A (bindName X.env n .none >>= fun _ => unbindBehindTheSuite X.env n pos') (fun _ s7 => R s7) X.xe s6 :=
      fun S6 r => gone_ok (S6.unsuite L.inv.ok) hN hi hln r
    refine store_ok (X := X.suite a ((a, o4) :: (X.pn ++ pins))) (v := .ref a) S4 hN hi (.inl hln) rfl (fun s5 S5 => ?_) (.inr hln)
    refine wpAny_mono ((hsu a o4 cls d (X.pn ++ pins) hz4 ⟨v4, hd4⟩).run [] s5 _ H _ S5 (yes rfl a L.na)) ?_ fun _ _ z => z.elim
    intro f s6 z
    cases f
    case ret u =>
      obtain ⟨v, τ, G, S6, rel, fin⟩ := z
      exact leave S6 fun s7 J => ⟨v, τ.set i none, G, J, rel, fin⟩
    all_goals
      obtain ⟨τ, G, S6, fin⟩ := z
      exact leave S6 fun s7 J => ⟨τ.set i none, G, J, fin⟩
/-- the clause with a tuple, which does not take it -/
theorem Lies.tup {D : Ends} {rest : List ExceptHandler} (L : Lies X pins σ H B a cls d sI s) (hf : X.env.frame = some X.env.locals) (hc : TNames X es cs) (ht : TupTold cs) (hl : cs.length ≤ 1000) (hx : PySem.W.exmAny X.K cls cs = some false)
    (k : ∀ s', Lies X pins σ H B a cls d sI s' → wpAny (model X.prog X.w) X.A (handleBy (.ref a) X.env rest) (SP X pins D) X.xe s') :
    wpAny (model X.prog X.w) X.A (handleBy (.ref a) X.env (.ExceptHandler (some (.Tuple es kk p0)) none (b₁ :: s₀) p1 :: rest)) (SP X pins D) X.xe s := by
  obtain ⟨oe, vs, he, hz, hd, S⟩ := L.suiteOf hf
  apply wpAny_handleBy_cons _ (by intro z; cases z)
  apply codeAny_handlers_test
  refine Tuple_ (names_run (Q := fun vs s1 => wpAny _ _ (newTuple vs) _ _ s1) S hc ?_)
  refine wpAny_newObj_type ?_ (by show cs.toArray.size ≤ sizeLine; rw [List.size_toArray]; exact Nat.le_trans hl (by decide))
  have L' := L.push { cls := .type "tuple", dict := none, data := .seq cs.toArray }
  have LT : PySem.W.Looks (model X.prog X.w) (s.heap.push { cls := .type "tuple", dict := none, data := .seq cs.toArray }) (typeOf (.ref a)) cls := fun A Q E s' k q => wpAny_typeOf_ref (k _ _ (Heap.get?_push_of_some _ he)) (by rw [hz.1]; exact q)
  have LM := ht (M := model X.prog X.w) L'.here.kIn LT (Heap.get?_push_size _ rfl) hx
  refine LM.here ?_
  exact k _ L'
end
theorem ps_try_two (hs : X.stack = X.env :: X.outer) (hf : X.env.frame = some X.env.locals) (hN : X.N.Nodup) (hi : X.N[i]? = some n) (hln : X.env.kindOf n = some .local) (hcs : TNames X es cs) (ht : TupTold cs) (hl : cs.length ≤ 1000) (hc : Names X x c) (tk : Takes X Wout)
    (hb : ∀ (V : WX) (ps : List (Addr × Obj)) (xe : Value → Shared → Prop), Takes (X.tr ps xe) V → PassesOwn (model X.prog X.w) X.A X.env xe → PSs (X.tr ps xe) body (tb V))
    (hsu : ∀ (b : Addr) (ob : Obj) (cl : Value) (e : Option Addr) (ps : List (Addr × Obj)), Zc cl e ob → (∃ fs, ob.data = .fields fs) → PSs (X.suite b ((b, ob) :: ps)) (b₀ :: suite) (ts b cl e)) :
    PS X (.Try body [.ExceptHandler (some (.Tuple es kk p0)) none (b₁ :: s₀) p1, .ExceptHandler (some (.Name x np)) (some n) (b₀ :: suite) pos'] [] [] pos) (fun D σ H => tb (wTwo X.K cs c i ts Wout D) D σ H) := by
  constructor
  intro pins s σ H D I h
  have ok := I.ok
  have frames := ok.frames
  rw [hs] at frames
  apply wpAny_Try_except
  -- what the two clauses do with an exception that comes to them
  have caught : Takes (X.tr (X.pn ++ pins) fun e s1 => wpAny (model X.prog X.w) X.A (noteFrame e X.env) (fun _ s2 => wpAny (model X.prog X.w) X.A (setFlight e none) (fun _ s3 =>
      wpAny (model X.prog X.w) X.A (handleBy e X.env [.ExceptHandler (some (.Tuple es kk p0)) none (b₁ :: s₀) p1, .ExceptHandler (some (.Name x np)) (some n) (b₀ :: suite) pos']) (SP X pins D) X.xe s3) X.xe s2) X.xe s1) (wTwo X.K cs c i ts Wout D) := by
    rintro u s1 ⟨a, B, sI, pins2, τ, G, cls, d, rfl, J, nb, up, sky, na, os, ag, none_of, second⟩
    have above : Sky B (X.env :: X.outer) a (Zc cls d) X.env.locals s1.heap := hs ▸ sky
    refine Sky.land Zc.steady frames hf above ?_
    intro h3 fl up3
    have L : Lies X pins τ G B a cls d sI { s1 with heap := h3 } := ⟨J.ofTry ok, nb, up.trans up3, fl, na, os, ag⟩
    exact L.tup hf hcs ht hl none_of fun s5 L5 => L5.as hs hf hN hi hln hc tk hsu second
  refine wpAny_mono ((hb _ _ _ caught PassesOwn.looking).run [] s σ H D (I.toTry _) h) ?_ fun _ _ z => z
  intro f s1 z
  cases f
  case next =>
    obtain ⟨τ, G, J, fin⟩ := z
    exact wpAny_execs_nil ⟨τ, G, J.ofTry ok, fin⟩
  case ret u =>
    obtain ⟨v, τ, G, J, rel, fin⟩ := z
    exact ⟨v, τ, G, J.ofTry ok, rel, fin⟩
  all_goals
    obtain ⟨τ, G, J, fin⟩ := z
    exact ⟨τ, G, J.ofTry ok, fin⟩
end
/-- try: f(..) with two such clauses -/
theorem xq_two {σ : L2.St} {H : Hp} {K : PySem.W.Frag} {D : Ends} {tz : TS} {sp : Sp} {cs : List Value} {c : Value} {i : Nat} {ts : Addr → Value → Option Addr → TS} {Wout : WX} {ta : TA} {vs : List V} (h : Arg ta σ H vs)
    (q : sp vs H (fun _ H1 => tz D σ H1) (fun cls d H' => wTwo K cs c i ts Wout { D with nx := tz D } cls d σ H')) : tSeq (fun D σ H => tDrop (tCallS sp (WE (wTwo K cs c i ts Wout D)) ta) D σ H) tz D σ H := h _ q
end Sh

namespace Sh
/-! rows: noughts and ones, no two ones side by side, the last a one; there is one of each weight -/
structure Rw (xs : List Int) : Prop where
  zo : ∀ x ∈ xs, x = 0 ∨ x = 1
  st : stillB 0 xs = true
  ba : xs = [] ∨ xs.getLastD 0 = 1
theorem still_snoc (ys : List Int) (c : Int) : stillB 0 (ys ++ [c]) = (stillB 0 ys && !(decide (1 < c) || (decide (0 < c) && decide (0 < ys.getLastD 0)))) := by
  rw [stillB_append]
  show (stillB 0 ys && (!(decide (1 < c) || (decide (0 < c) && decide (0 < ys.getLastD 0))) && true)) = _
  rw [Bool.and_true]
theorem zo_init {ys : List Int} {c : Int} (h : ∀ x ∈ ys ++ [c], x = 0 ∨ x = 1) : (∀ x ∈ ys, x = 0 ∨ x = 1) ∧ (c = 0 ∨ c = 1) := ⟨fun x hx => h x (List.mem_append_left _ hx), h c (List.mem_append_right _ List.mem_cons_self)⟩
theorem S_snoc (f : Nat → Int) (ys : List Int) (c : Int) : S f 0 (ys ++ [c]) = S f 0 ys + c * f ys.length := by
  rw [S_append, S_one, Nat.zero_add]
theorem Z_lt : ∀ (n : Nat) (xs : List Int), xs.length = n → (∀ x ∈ xs, x = 0 ∨ x = 1) → stillB 0 xs = true → S W 0 xs < W n
  | 0, xs, h, _, _ => by
    rw [List.eq_nil_of_length_eq_zero h]
    decide
  | n + 1, xs, h, hz, hs => by
    obtain ⟨ys, c, rfl⟩ := snoc_of (xs := xs) (by intro e; rw [e] at h; cases h)
    have hl : ys.length = n := by
      rw [List.length_append, List.length_singleton] at h
      omega
    obtain ⟨z1, z2⟩ := zo_init hz
    rw [still_snoc, Bool.and_eq_true] at hs
    obtain ⟨s1, s2⟩ := hs
    have ih := Z_lt n ys hl z1 s1
    rw [S_snoc, hl]
    rcases z2 with rfl | rfl
    · have := W_lt n
      omega
    · match n, ys, hl, z1, s1, s2, ih with
      | 0, ys, hl, _, _, _, _ =>
        rw [List.eq_nil_of_length_eq_zero hl]
        decide
      | m + 1, ys, hl, z1, s1, s2, ih =>
        obtain ⟨zs, d, rfl⟩ := snoc_of (xs := ys) (by intro e; rw [e] at hl; cases hl)
        have hl2 : zs.length = m := by
          rw [List.length_append, List.length_singleton] at hl
          omega
        obtain ⟨y1, y2⟩ := zo_init z1
        rw [still_snoc, Bool.and_eq_true] at s1
        have ih2 := Z_lt m zs hl2 y1 s1.1
        have hd : d = 0 := by
          rcases y2 with e | e
          · exact e
          · subst e
            simp at s2
        subst hd
        rw [S_snoc]
        show _ < W m + W (m + 1)
        omega
/-- greedy, from the top -/
def gr : Nat → Int → List Int
  | 0, _ => []
  | k + 1, n => if W k ≤ n then 1 :: gr k (n - W k) else 0 :: gr k n
theorem gr_len : ∀ (k : Nat) (n : Int), (gr k n).length = k
  | 0, _ => rfl
  | k + 1, n => by
    unfold gr
    split <;> rw [List.length_cons, gr_len k]
theorem zo_nonneg {xs : List Int} (h : ∀ x ∈ xs, x = 0 ∨ x = 1) : ∀ x ∈ xs, 0 ≤ x := fun x hx => by
  rcases h x hx with e | e <;> omega
theorem Z_gr : ∀ (n : Nat) (xs : List Int), xs.length = n → (∀ x ∈ xs, x = 0 ∨ x = 1) → stillB 0 xs = true → gr n (S W 0 xs) = xs.reverse
  | 0, xs, h, _, _ => by
    rw [List.eq_nil_of_length_eq_zero h]
    rfl
  | n + 1, xs, h, hz, hs => by
    obtain ⟨ys, c, rfl⟩ := snoc_of (xs := xs) (by intro e; rw [e] at h; cases h)
    have hl : ys.length = n := by
      rw [List.length_append, List.length_singleton] at h
      omega
    obtain ⟨z1, z2⟩ := zo_init hz
    rw [still_snoc, Bool.and_eq_true] at hs
    have ih := Z_gr n ys hl z1 hs.1
    have hlt := Z_lt n ys hl z1 hs.1
    have h0 := S_nonneg (f := W) (fun k => Int.le_of_lt (W_pos k)) ys 0 (zo_nonneg z1)
    rw [S_snoc, hl, List.reverse_append]
    unfold gr
    rcases z2 with rfl | rfl
    · rw [Int.zero_mul, Int.add_zero, if_neg (by omega), ih]
      rfl
    · rw [Int.one_mul, if_pos (by omega), Int.add_sub_cancel, ih]
      rfl
theorem Rw.nonneg {xs : List Int} (h : Rw xs) : ∀ x ∈ xs, 0 ≤ x := zo_nonneg h.zo
theorem Rw.top {xs : List Int} (h : Rw xs) (hne : xs ≠ []) : W (xs.length - 1) ≤ S W 0 xs := by
  obtain ⟨ys, c, rfl⟩ := snoc_of hne
  have hc : c = 1 := by
    rcases h.ba with e | e
    · simp at e
    · simpa using e
  subst hc
  have h0 := S_nonneg (f := W) (fun k => Int.le_of_lt (W_pos k)) ys 0 (zo_nonneg (zo_init h.zo).1)
  rw [S_snoc, List.length_append, List.length_singleton, Nat.add_sub_cancel]
  omega
theorem Rw.lt {xs : List Int} (h : Rw xs) : S W 0 xs < W xs.length := Z_lt _ xs rfl h.zo h.st
theorem Rw.len_le {xs ys : List Int} (hx : Rw xs) (hy : Rw ys) (e : S W 0 xs = S W 0 ys) : xs.length ≤ ys.length := by
  by_cases h0 : xs = []
  · rw [h0]
    exact Nat.zero_le _
  · have h1 := hx.top h0
    have h2 := hy.lt
    by_cases hl : xs.length ≤ ys.length
    · exact hl
    · have h3 := W_mono (i := ys.length) (j := xs.length - 1) (by omega)
      omega
/-- ONE ROW OF EACH WEIGHT -/
theorem Rw.uniq {xs ys : List Int} (hx : Rw xs) (hy : Rw ys) (e : S W 0 xs = S W 0 ys) : xs = ys := by
  have hl : xs.length = ys.length := Nat.le_antisymm (hx.len_le hy e) (hy.len_le hx e.symm)
  have h1 := Z_gr _ xs rfl hx.zo hx.st
  have h2 := Z_gr _ ys rfl hy.zo hy.st
  rw [hl, e, h2] at h1
  have h3 := congrArg List.reverse h1
  rw [List.reverse_reverse, List.reverse_reverse] at h3
  exact h3.symm
theorem gr_ok : ∀ (k : Nat) (n : Int), 0 ≤ n → n < W k → (∀ x ∈ (gr k n).reverse, x = 0 ∨ x = 1) ∧ stillB 0 (gr k n).reverse = true ∧ S W 0 (gr k n).reverse = n ∧ (0 < k → (W (k - 1) ≤ n ↔ (gr k n).reverse.getLastD 0 = 1))
  | 0, n, h0, h1 => by
    have h1 : n < 1 := h1
    have : n = 0 := by omega
    subst this
    exact ⟨fun x h => (nomatch h), rfl, rfl, fun z => (nomatch z)⟩
  | k + 1, n, h0, h1 => by
    unfold gr
    by_cases hc : W k ≤ n
    · rw [if_pos hc, List.reverse_cons]
      have hlt : n - W k < W k := by
        match k, h1, hc with
        | 0, h1, hc =>
          have h1 : n < 2 := h1
          show n - 1 < 1
          omega
        | j + 1, h1, hc =>
          have h1 : n < W j + W (j + 1) := h1
          have := W_lt j
          omega
      obtain ⟨a1, a2, a3, a4⟩ := gr_ok k (n - W k) (by omega) hlt
      have hlen : (gr k (n - W k)).reverse.length = k := by rw [List.length_reverse, gr_len]
      have hlast : (gr k (n - W k)).reverse.getLastD 0 ≤ 0 := by
        match k, h1, hc, a1, a4, hlen with
        | 0, _, _, _, _, hlen =>
          rw [List.eq_nil_of_length_eq_zero hlen]
          decide
        | j + 1, h1, hc, a1, a4, hlen =>
          obtain ⟨ys, c, e⟩ := snoc_of (xs := (gr (j + 1) (n - W (j + 1))).reverse) (by intro e; rw [e] at hlen; cases hlen)
          rw [e] at a1 a4
          rw [e]
          have h1 : n < W j + W (j + 1) := h1
          have h5 := a4 (Nat.succ_pos j)
          have h6 : ¬ W (j + 1 - 1) ≤ n - W (j + 1) := by
            show ¬ W j ≤ _
            omega
          have hc1 : c ≠ 1 := fun e => h6 (h5.mpr (by rw [e]; simp))
          rcases (zo_init a1).2 with e | e
          · rw [e]
            simp
          · exact absurd e hc1
      refine ⟨fun x hx => ?_, ?_, ?_, fun _ => ⟨fun _ => by simp, fun _ => hc⟩⟩
      · rcases List.mem_append.mp hx with h | h
        · exact a1 x h
        · exact .inr (List.mem_singleton.mp h)
      · rw [still_snoc, a2, decide_eq_false (show ¬ 0 < (gr k (n - W k)).reverse.getLastD 0 by omega)]
        rfl
      · rw [S_snoc, a3, hlen]
        omega
    · rw [if_neg hc, List.reverse_cons]
      obtain ⟨a1, a2, a3, a4⟩ := gr_ok k n h0 (by omega)
      have hlen : (gr k n).reverse.length = k := by rw [List.length_reverse, gr_len]
      refine ⟨fun x hx => ?_, ?_, ?_, fun _ => ⟨fun z => absurd z hc, fun z => ?_⟩⟩
      · rcases List.mem_append.mp hx with h | h
        · exact a1 x h
        · exact .inl (List.mem_singleton.mp h)
      · rw [still_snoc, a2]
        rfl
      · rw [S_snoc, a3]
        omega
      · simp at z
/-- the row of a number, as greed finds it -/
theorem gr_rw {k : Nat} {n : Int} (h0 : 0 ≤ n) (h1 : n < W k) (ht : 0 < k → W (k - 1) ≤ n) : Rw (gr k n).reverse ∧ S W 0 (gr k n).reverse = n := by
  obtain ⟨a1, a2, a3, a4⟩ := gr_ok k n h0 h1
  refine ⟨⟨a1, a2, ?_⟩, a3⟩
  by_cases hk : 0 < k
  · exact .inr ((a4 hk).mp (ht hk))
  · have : k = 0 := by omega
    subst this
    exact .inl rfl
theorem W_two : ∀ j : Nat, (2 : Int) ^ j ≤ W (2 * j)
  | 0 => by decide
  | j + 1 => by
    have ih := W_two j
    have h1 := W_lt (2 * j)
    show (2 : Int) ^ j * 2 ≤ W (2 * j) + W (2 * j + 1)
    omega
theorem T60_W : T60 < W 1000 := by
  have h1 := W_two 500
  have h2 : T60 < (2 : Int) ^ 500 := by decide +kernel
  exact Int.lt_of_lt_of_le h2 h1
/-- as the law asks it of a row: what stands at i, what beneath -/
theorem Rw.at {xs : List Int} (h : Rw xs) {i : Nat} {c : Int} (hi : xs[i]? = some c) : (c = 0 ∨ c = 1) ∧ c + prev xs i ≤ 1 ∧ (prev xs i = 0 ∨ prev xs i = 1) := by
  have h1 := h.zo c (List.mem_of_getElem? hi)
  have hp : prev xs i = 0 ∨ prev xs i = 1 := by
    match i with
    | 0 => exact .inl (prev_zero xs)
    | j + 1 =>
      have hj : j < xs.length := by
        have := (List.getElem?_eq_some_iff.mp hi).1
        omega
      rw [prev_succ (get_of hj)]
      exact h.zo _ (List.mem_of_getElem? (get_of hj))
  refine ⟨h1, ?_, hp⟩
  have h2 := stillB_take hi
  have h3 : stillB 0 (xs.take (i + 1)) = true := by
    cases e : stillB 0 (xs.take (i + 1)) with
    | true => rfl
    | false => exact absurd (stillB_stop _ e) (by rw [h.st]; decide)
  rw [h3] at h2
  have h4 := (Bool.and_eq_true_iff.mp h2.symm).2
  rcases h1 with e | e
  · omega
  · subst e
    rcases hp with e | e
    · omega
    · rw [e] at h4
      simp at h4
theorem Rw.end {xs : List Int} (h : Rw xs) : xs = [] ∨ prev xs xs.length = 1 := by
  unfold prev
  rw [List.take_length]
  exact h.ba
theorem Rw.nil : Rw [] := ⟨fun _ h => (nomatch h), rfl, .inl rfl⟩
theorem Rw.sm {xs : List Int} (h : Rw xs) (hl : xs.length ≤ 100000) : Sm xs := ⟨hl, fun x hx => by
  have h3 : (2 : Nat) ^ 20 ≤ 2 ^ 1000 := by decide +kernel
  have h4 : (2 : Nat) ^ 20 = 1048576 := by decide
  rcases h.zo x hx with e | e <;> omega⟩
end Sh

namespace Sh
/-! reading a text: signs by their numbers, 111 the shell, 46 the empty step -/
def bitF (c : Nat) : Int := if decide ([c] = [111]) = true then 1 else 0
def bits (kept : List Nat) : List Int := kept.map bitF
def full (kept : List Nat) : Bool := decide (kept.drop (kept.length - 1) = [111])
def rstep (s : List Int × List Nat) (c : Nat) : List Int × List Nat := if (decide ([c] = [111]) && full s.2) = true then (s.1 ++ [wt (bits s.2)], []) else (s.1, s.2 ++ [c])
def rd (kept piece : List Nat) : List Int × List Nat := piece.foldl rstep ([], kept)
def oddC (c : Nat) : Bool := !decide ([c] = [111]) && !decide ([c] = [46])
def oddB (l : List Nat) : Bool := l.any oddC
theorem full_snoc (ys : List Nat) (c : Nat) : full (ys ++ [c]) = decide ([c] = [111]) := by
  unfold full
  rw [List.length_append, List.length_singleton, Nat.add_sub_cancel, List.drop_left]
theorem full_nil : full [] = false := rfl
theorem fold_take {l : List Nat} {i c : Nat} (h : l[i]? = some c) (s : List Int × List Nat) : (l.take (i + 1)).foldl rstep s = rstep ((l.take i).foldl rstep s) c := by
  rw [take_more h, List.foldl_append]
  rfl
theorem bits_snoc (ys : List Nat) (c : Nat) : wt (bits (ys ++ [c])) = wt (bits ys) + bitF c * W ys.length := by
  unfold bits
  rw [List.map_append]
  show S W 0 (ys.map bitF ++ [bitF c]) = _
  rw [S_snoc, List.length_map]
theorem bitF_01 (c : Nat) : bitF c = 0 ∨ bitF c = 1 := by
  unfold bitF
  split
  · exact .inr rfl
  · exact .inl rfl
theorem bits_sm {kept : List Nat} (h : kept.length ≤ 100000) : Sm (bits kept) := ⟨by rw [bits, List.length_map]; exact h, fun x hx => by
  obtain ⟨c, _, rfl⟩ := List.mem_map.mp hx
  have h3 : (2 : Nat) ^ 20 ≤ 2 ^ 1000 := by decide +kernel
  have h4 : (2 : Nat) ^ 20 = 1048576 := by decide
  rcases bitF_01 c with e | e <;> omega⟩
theorem rstep_len (s : List Int × List Nat) (c : Nat) : (rstep s c).1.length ≤ s.1.length + 1 ∧ (rstep s c).2.length ≤ s.2.length + 1 := by
  unfold rstep
  split
  · rw [List.length_append]
    exact ⟨Nat.le_refl _, Nat.zero_le _⟩
  · rw [List.length_append]
    exact ⟨Nat.le_succ _, Nat.le_refl _⟩
theorem fold_len : ∀ (l : List Nat) (s : List Int × List Nat), (l.foldl rstep s).1.length ≤ s.1.length + l.length ∧ (l.foldl rstep s).2.length ≤ s.2.length + l.length
  | [], s => ⟨Nat.le_refl _, Nat.le_refl _⟩
  | c :: r, s => by
    have h1 := rstep_len s c
    have h2 := fold_len r (rstep s c)
    rw [List.foldl_cons, List.length_cons]
    omega
theorem rd_app (a b : List Nat) : rd [] (a ++ b) = b.foldl rstep (rd [] a) := List.foldl_append
/-- behind a text that is read to its end, .oo is two more -/
theorem rd_oo {l : List Nat} {ns : List Int} (h : rd [] l = (ns, [])) : rd [] (l ++ [46, 111, 111]) = (ns ++ [2], []) := by
  rw [rd_app, h]
  rfl
theorem rd_4 : rd [] [111, 46, 111, 111] = ([4], []) := by decide
theorem odd_take {l : List Nat} {i c : Nat} (h : l[i]? = some c) : oddB (l.take (i + 1)) = (oddB (l.take i) || oddC c) := by
  rw [take_more h]
  unfold oddB
  rw [List.any_append]
  simp
theorem odd_stop {l : List Nat} (i : Nat) (h : oddB (l.take i) = true) : oddB l = true := by
  unfold oddB at *
  rw [List.any_eq_true] at *
  obtain ⟨x, hx, hy⟩ := h
  exact ⟨x, List.mem_of_mem_take hx, hy⟩
theorem odd_app (a b : List Nat) : oddB (a ++ b) = (oddB a || oddB b) := List.any_append
end Sh

/-! Own words over the layer for texts: a text is told by the list of its signs' numbers. An own rule: text * int. -/
namespace Sh
open PySem PySem.Spec PyProof.Rows L2
def tx (l : List Nat) : Str := ⟨l.toArray⟩
theorem tx_cps (z : Str) : tx z.cps.toList = z := rfl
theorem tx_len (l : List Nat) : (tx l).length = l.length := List.size_toArray
theorem tx_inj {l m : List Nat} (h : tx l = tx m) : l = m := by
  have h := congrArg (fun z : Str => z.cps.toList) h
  exact h
theorem tx_app (l m : List Nat) : tx l ++ tx m = tx (l ++ m) := by
  show Str.append (tx l) (tx m) = tx (l ++ m)
  unfold Str.append tx
  congr 1
  simp
theorem tx_eq (l m : List Nat) : decide (V.str (tx l) = V.str (tx m)) = decide (l = m) := by
  by_cases h : l = m
  · subst h
    rw [decide_eq_true rfl, decide_eq_true rfl]
  · rw [decide_eq_false h, decide_eq_false (fun e => h (tx_inj (V.str.inj e)))]
/-- text * int: some text of that length -/
def rRepS : R2 := fun x y H Q => ∃ (z : Str) (i : Int), x = .str z ∧ y = .int i ∧ 0 ≤ i ∧ i ≤ 100000 ∧ z.length * i.toNat ≤ 1000000 ∧ Q (.str (tx (List.replicate i.toNat z.cps.toList).flatten)) H
theorem fold_cps (c : Array Nat) : ∀ (n : Nat) (b : Array Nat), (List.replicate n c).foldl (· ++ ·) b = (b.toList ++ (List.replicate n c.toList).flatten).toArray
  | 0, b => by simp
  | n + 1, b => by
    rw [List.replicate_succ, List.foldl_cons, fold_cps c n, List.replicate_succ, List.flatten_cons]
    simp
theorem op_repS {X : Cx} : OpR X (binaryOp .Mult) rRepS := by
  intro pins s σ H x y v u Q I left right
  rintro ⟨z, i, rfl, rfl, h0, h1, hz, q⟩
  obtain ⟨t, rfl⟩ := left
  obtain ⟨t', rfl⟩ := right
  have hl := sizeLine_eq
  have hlen : (List.replicate i.toNat z.cps.toList).flatten.length = z.length * i.toNat := by
    rw [List.length_flatten, List.map_replicate, List.sum_replicate_nat, Nat.mul_comm]
    rfl
  refine PySem.P.mul_str (by rw [decide_eq_false (by omega), decide_eq_false (by omega)]; rfl) (fun h2 _ => ?_) (fun _ _ => ?_) ?_
  · have hd : (1000000 : Int) ≤ (2 ^ 63 - 1) / i := by
      rw [Int.le_ediv_iff_mul_le (by omega)]
      have := Int.mul_le_mul_of_nonneg_left h1 (show (0 : Int) ≤ 1000000 by decide)
      omega
    have hi : 1 ≤ i.toNat := by omega
    have : z.length * 1 ≤ z.length * i.toNat := Nat.mul_le_mul_left _ hi
    omega
  · unfold Builtin.Str.tooLong
    exact decide_eq_false (by omega)
  · split
    · rename_i h2
      have : i = 0 := by omega
      subst this
      exact ⟨by decide, ⟨.str _, H, I.tok _, ⟨_, rfl⟩, q⟩⟩
    · split
      · rename_i h2 h3
        refine ⟨.str z, H, I, ⟨t, rfl⟩, ?_⟩
        have e : tx (List.replicate i.toNat z.cps.toList).flatten = z := by
          rw [Bool.or_eq_true, beq_iff_eq, beq_iff_eq] at h3
          rcases h3 with h3 | h3
          · subst h3
            show tx (List.replicate 1 z.cps.toList).flatten = z
            simp [tx]
          · have hc : z.cps.toList = [] := List.eq_nil_of_length_eq_zero h3
            have hf : (List.replicate i.toNat z.cps.toList).flatten = z.cps.toList := by
              rw [hc]
              simp
            rw [hf]
            exact tx_cps z
        rw [e] at q
        exact q
      · refine ⟨?_, ⟨.str _, H, I.tok _, ⟨_, rfl⟩, ?_⟩⟩
        · show (Array.size _) ≤ sizeLine
          rw [fold_cps, List.size_toArray, List.length_append]
          show 0 + _ ≤ _
          omega
        · rw [fold_cps]
          exact q
section
variable {σ : L2.St} {H H0 : Hp} {K : PySem.W.Frag} {ta tb tc te tl : TE} {D : Ends} {ts tz tu : TS} {to th : TO} {x y v : V}
theorem xv_addS {l m : List Nat} (ha : Val ta σ H (.str (tx l))) (hb : Val tb σ H (.str (tx m))) (hz : l.length + m.length ≤ 1000000) :
    Val (tOp (fun x y H Q => ∃ i j, x = .str i ∧ y = .str j ∧ i.length + j.length ≤ sizeLine ∧ Q (.str (i ++ j)) H) ta tb) σ H (.str (tx (l ++ m))) :=
  val_op ha hb fun Q q => ⟨_, _, rfl, rfl, by rw [tx_len, tx_len]; exact Nat.le_trans hz (by decide), by rw [tx_app]; exact q⟩
theorem xv_eqS {l m : List Nat} (ha : Val ta σ H (.str (tx l))) (hb : Val tb σ H (.str (tx m))) : Val (tOp rEq ta tb) σ H (.bl (decide (l = m))) := xv_to (xv_eq ha hb rfl) (congrArg V.bl (tx_eq l m))
theorem xv_neS {l m : List Nat} (ha : Val ta σ H (.str (tx l))) (hb : Val tb σ H (.str (tx m))) : Val (tOp rNe ta tb) σ H (.bl (!decide (l = m))) := xv_to (xv_ne ha hb rfl) (by rw [tx_eq])
theorem xv_cS {s : Str} {l : List Nat} (h : s = tx l) : Val (tC (.str s)) σ H (.str (tx l)) := xv_c (congrArg V.str h)
theorem xv_repS {l : List Nat} {i : Int} (ha : Val ta σ H (.str (tx l))) (hb : Val tb σ H (.int i)) (h0 : 0 ≤ i) (h1 : i ≤ 100000) (hz : l.length * i.toNat ≤ 1000000) : Val (tOp rRepS ta tb) σ H (.str (tx (List.replicate i.toNat l).flatten)) :=
  val_op ha hb fun Q q => ⟨_, _, rfl, rfl, h0, h1, by rw [tx_len]; exact hz, q⟩
/-- a bound of a slice -/
def Bnd (to : TO) (σ : L2.St) (H : Hp) (o : Option Int) : Prop := ∀ Q : Option Int → Hp → Prop, Q o H → to σ H Q
theorem xv_slS {l : List Nat} {lo hi : Option Int} (ha : Val ta σ H (.str (tx l))) (h1 : Bnd to σ H lo) (h2 : Bnd th σ H hi) (hz : l.length ≤ 1000000) : Val (tSl rSlS ta to th) σ H (.str (cutS (tx l) lo hi)) := fun Q q =>
  ha _ (h1 _ (h2 _ ⟨_, rfl, by rw [tx_len]; exact Nat.le_trans hz (by decide), q⟩))
theorem cut_tx (l : List Nat) (lo hi : Option Int) : cutS (tx l) lo hi = tx ((l.drop (HT.sIx l.length 0 lo)).take (HT.sIx l.length l.length hi - HT.sIx l.length 0 lo)) := by
  unfold cutS
  rw [tx_len]
  rfl
theorem cut_len (l : List Nat) (lo hi : Option Int) : ∃ m : List Nat, cutS (tx l) lo hi = tx m ∧ m.length ≤ l.length := ⟨_, cut_tx l lo hi, by
  rw [List.length_take, List.length_drop]
  omega⟩
theorem xv_ixS {l : List Nat} {i : Int} {c : Nat} (ha : Val ta σ H (.str (tx l))) (hb : Val tb σ H (.int i)) (hz : l.length ≤ 1000000) (hc : atI l i = some c) : Val (tOp rIxS ta tb) σ H (.str (tx [c])) :=
  val_op ha hb fun Q q => ⟨_, _, c, rfl, rfl, by rw [tx_len]; exact Nat.le_trans hz (by decide), hc, q⟩
theorem xv_lenS {l : List Nat} (ha : Val ta σ H (.str (tx l))) (hz : l.length ≤ 1000000) : Val (tCB (fun xs H Q => ∃ x n, xs = [x] ∧ LenV K x H n ∧ Q (.int n) H) (tCons ta tNil)) σ H (.int (l.length : Int)) := fun Q q => ha _ ⟨_, l.length, rfl, ⟨by rw [tx_len]; exact Nat.le_trans hz (by decide), (tx_len l).symm⟩, q⟩
theorem xr_callT {sp : Sp} {E : XK} {Q : VK} {tr : TA} (h : tr σ H fun vs H1 => sp (vs ++ []) H1 Q E) : tCall sp [] E tr σ H Q := h
theorem xr_consT {tr : TA} {Q : List V → Hp → Prop} (h : te σ H fun x H1 => tr σ H1 fun xs H2 => Q (x :: xs) H2) : tCons te tr σ H Q := h
theorem xr_nilT {Q : List V → Hp → Prop} (h : Q [] H) : tNil σ H Q := h
theorem xq_drop (h : te σ H fun _ H1 => tz D σ H1) : tSeq (tDrop te) tz D σ H := h
theorem xq_asgT {g : TG} (h : te σ H fun v H1 => g v σ H1 fun σ2 H2 => tz D σ2 H2) : tSeq (tAsg te g) tz D σ H := h
theorem bnd_some {i : Int} (h : Val te σ H (.int i)) : Bnd (tPart te) σ H (some i) := fun Q q => h _ ⟨i, rfl, q⟩
theorem xr_opT {r : R2} {Q : VK} (h : ta σ H fun x H1 => tb σ H1 fun y H2 => r x y H2 Q) : tOp r ta tb σ H Q := h
theorem xs_runT {i : Nat} (h : te σ H fun v H1 => D.nx (σ.set i (some v)) H1) : tAsg te (gName i) D σ H := h
theorem atI_ok {l : List Nat} {i : Int} (h0 : 0 ≤ i) (h1 : i < l.length) : ∃ c, atI l i = some c := by
  obtain ⟨n, rfl⟩ := Int.eq_ofNat_of_zero_le h0
  have hn : n < l.length := by omega
  exact ⟨l[n], atI_nat (List.getElem?_eq_getElem hn)⟩
theorem join_tx : ∀ ys : List (List Nat), Str.join (tx []) (ys.map tx) = tx ys.flatten
  | [] => rfl
  | [x] => by
    show tx x = tx (x ++ [])
    rw [List.append_nil]
  | x :: y :: r => by
    have ih := join_tx (y :: r)
    show tx x ++ tx [] ++ Str.join (tx []) ((y :: r).map tx) = tx (x ++ (y :: r).flatten)
    rw [ih, tx_app, tx_app, List.append_nil]
theorem sum_len : ∀ ys : List (List Nat), ((ys.map tx).map (·.length)).sum = ys.flatten.length
  | [] => rfl
  | x :: r => by
    show (tx x).length + ((r.map tx).map (·.length)).sum = (x ++ r.flatten).length
    rw [sum_len r, tx_len, List.length_append]
/-- ''.join(..) of a list of texts -/
theorem join_txt {s : Str} {ys : List (List Nat)} (hs : s = tx []) : Txt.join s (ys.map tx) = tx ys.flatten := by
  subst hs
  unfold Txt.join
  rw [PySem.StrLaws.glued_eq_join]
  exact join_tx ys
theorem join_sq {p : Addr} {ys : List (List Nat)} (h : SqL K H p (ys.map fun l => V.str (tx l))) : SqL K H p ((ys.map tx).map V.str) := by
  rw [List.map_map]
  exact h
theorem join_sz {s : Str} {ys : List (List Nat)} (hs : s = tx []) (hz : ys.flatten.length ≤ 1000000) : ((ys.map tx).map (·.length)).sum + (ys.map tx).length * s.length ≤ 16777216 := by
  subst hs
  rw [sum_len, tx_len, List.length_nil, Nat.mul_zero]
  omega
/-- a for over a text -/
theorem xs_forS {l : List Nat} {j : Nat} (hv : Val tl σ H (.str (tx l))) (Pv : Nat → L2.St → Hp → Prop) (h0 : Pv 0 σ H)
    (hs : ∀ (i c : Nat) (σ' : L2.St) (H' : Hp), l[i]? = some c → Pv i σ' H' → ts { D with nx := Pv (i + 1), ct := Pv (i + 1), bk := D.nx } (σ'.set j (some (.str (tx [c])))) H') (hd : ∀ σ' H', Pv l.length σ' H' → D.nx σ' H') : tFor (iStr tl) (gName j) ts D σ H :=
  hv _ ⟨tx l, rfl, for_it (walk_str (z := tx l)) Pv h0 (fun _ _ _ _ _ => trivial) (fun i x σ' H' H2 hi p y => by
    obtain ⟨rfl, c, hc, rfl⟩ := y
    have hc' : l[i]? = some c := by
      have h : (l.toArray)[i]? = some c := hc
      rw [List.getElem?_toArray] at h
      exact h
    exact hs i c σ' _ hc' p) (fun σ' H' p => hd σ' H' (by
      have e : (tx l).cps.size = l.length := List.size_toArray
      rw [e] at p
      exact p))⟩
theorem xq_forS {l : List Nat} {j : Nat} (hv : Val tl σ H (.str (tx l))) (Pv : Nat → L2.St → Hp → Prop) (h0 : Pv 0 σ H)
    (hs : ∀ (i c : Nat) (σ' : L2.St) (H' : Hp), l[i]? = some c → Pv i σ' H' → ts { D with nx := Pv (i + 1), ct := Pv (i + 1), bk := tz D } (σ'.set j (some (.str (tx [c])))) H') (hd : ∀ σ' H', Pv l.length σ' H' → tz D σ' H') : tSeq (tFor (iStr tl) (gName j) ts) tz D σ H :=
  xs_forS (D := { D with nx := tz D }) hv Pv h0 hs hd
/-- [e for c in text], e of each sign an int -/
theorem el_lcS {l : List Nat} {j : Nat} {ws : List Nat} {F : Nat → Int} (h : ∀ H1, Same H H1 → Val tl σ H1 (.str (tx l))) (hz : l.length ≤ 40000) (hw : ∀ x, wipe ((wipe σ ws).set j (some x)) ws = wipe σ ws)
    (he : ∀ c H1, Same H H1 → c ∈ l → Val te ((wipe σ ws).set j (some (.str (tx [c])))) H1 (.int (F c))) : Evl.EvL (tLc (iStr tl) (gName j) tYes te ws) σ H ((l.map F).map V.int) := fun H1 e1 Q q =>
  h H1 e1 _ ⟨tx l, rfl, fun Dl hD => lc_it (walk_str (z := tx l)) (fun i H' => Same H1 H' ∧ H' Dl = some (.lst (((l.take i).map F).map V.int))) ⟨Evl.Ex.new hD, upd_same⟩ (fun _ _ _ _ => trivial) (fun i x H' H2 hi p y => ⟨hw x, by
    obtain ⟨rfl, c, hc, rfl⟩ := y
    have hc' : l[i]? = some c := by
      have h : (l.toArray)[i]? = some c := hc
      rw [List.getElem?_toArray] at h
      exact h
    obtain ⟨p1, p2⟩ := p
    show te _ _ _
    refine he c _ (Same.trans e1 p1) (List.mem_of_getElem? hc') _ ⟨_, p2, Evl.sz_lt (by rw [List.length_map, List.length_map, List.length_take]; omega), same_mut p1 hD, ?_⟩
    have htk : l.take (i + 1) = l.take i ++ [c] := take_more hc'
    rw [upd_same, htk, List.map_append, List.map_append]
    rfl⟩) (fun H' p => by
      have e : (tx l).cps.size = l.length := List.size_toArray
      rw [e, List.take_length] at p
      exact q Dl H' hD p.1 p.2)⟩
/-- [text of x for x in a new list of ints], the texts no longer than B -/
theorem xs_lcTx {ms : List Int} {B j : Nat} {ws : List Nat} (h : Evl.EvL tl σ H (ms.map V.int)) (hz : ms.length ≤ 40000) (hw : ∀ x, wipe ((wipe σ ws).set j (some x)) ws = wipe σ ws)
    (he : ∀ x H1, Same H H1 → x ∈ ms → ∀ Q : VK, (∀ l H2, Same H1 H2 → l.length ≤ B → Q (.str (tx l)) H2) → te ((wipe σ ws).set j (some (.int x))) H1 Q) {Q : VK} (q : ∀ p (ys : List (List Nat)) H2, Same H H2 → H2 p = some (.lst (ys.map fun l => V.str (tx l))) → ys.length = ms.length → (∀ y ∈ ys, y.length ≤ B) → Q (.ref p) H2) : tLc (iList K tl) (gName j) tYes te ws σ H Q := by
  refine h H (Evl.Ex.refl H) _ fun a H1 na e1 h1 => ⟨a, rfl, ⟨_, SqL.of h1⟩, fun Dl hD => ?_⟩
  refine lc_list (xs := ms.map V.int) (fun i H' => Same H1 H' ∧ ∃ ys : List (List Nat), H' Dl = some (.lst (ys.map fun l => V.str (tx l))) ∧ ys.length = i ∧ ∀ y ∈ ys, y.length ≤ B) ⟨Evl.Ex.new hD, [], upd_same, rfl, fun _ h => nomatch h⟩ (fun i H' _ p => Same.seq p.1 (SqL.of h1)) (fun i x H' hi p => ⟨hw x, ?_⟩) (fun H' p => ?_)
  · obtain ⟨p1, ys, p2, p3, p4⟩ := p
    rw [List.getElem?_map] at hi
    obtain ⟨m, hm, rfl⟩ := Option.map_eq_some_iff.mp hi
    show te _ H' _
    have hil := (List.getElem?_eq_some_iff.mp hm).1
    refine he m H' (Same.trans e1 p1) (List.mem_of_getElem? hm) _ fun l H2 e2 hl => ?_
    refine ⟨ys.map fun l => V.str (tx l), e2 Dl _ p2, Evl.sz_lt (by rw [List.length_map]; omega), same_mut (Same.trans p1 e2) hD, ys ++ [l], by rw [upd_same, List.map_append]; rfl, by rw [List.length_append, List.length_singleton, p3], fun y hy => ?_⟩
    rcases List.mem_append.mp hy with h | h
    · exact p4 y h
    · rw [List.mem_singleton.mp h]
      exact hl
  · obtain ⟨p1, ys, p2, p3, p4⟩ := p
    rw [List.length_map] at p3
    exact q Dl ys H' (Same.trans e1 p1) p2 p3 p4
theorem flat_len {B : Nat} : ∀ ys : List (List Nat), (∀ y ∈ ys, y.length ≤ B) → ys.flatten.length ≤ ys.length * B
  | [], _ => Nat.zero_le _
  | y :: r, h => by
    have ih := flat_len r fun z hz => h z (List.mem_cons_of_mem _ hz)
    have h1 := h y List.mem_cons_self
    rw [List.flatten_cons, List.length_append, List.length_cons, Nat.add_mul]
    omega
end
end Sh

namespace K11
open PySem PySem.Spec PyProof.Rows L2 Sh
def topS (i : Nat) : Stmt := PySem.Challenge.pw_shellstair_k11_texts_read.main.body.getD i (.Pass ⟨0, 0, 0, 0⟩)
abbrev st_weight : Stmt := topS 8
theorem sc_weight : FnScope ["heap", "total", "here", "above", "many"] ["heap"] (defScope st_weight) := ⟨rfl, rfl, rfl, by decide +kernel, rfl, by decide +kernel, by decide +kernel⟩
abbrev st_look_at : Stmt := topS 10
theorem sc_look_at : FnScope ["text", "sign"] ["text"] (defScope st_look_at) := ⟨rfl, rfl, rfl, by decide +kernel, rfl, by decide +kernel, by decide +kernel⟩
abbrev st_read_on : Stmt := topS 11
theorem sc_read_on : FnScope ["kept", "piece", "numbers", "sign", "one"] ["kept", "piece"] (defScope st_read_on) := ⟨rfl, rfl, rfl, by decide +kernel, rfl, by decide +kernel, by decide +kernel⟩
abbrev st_read : Stmt := topS 12
theorem sc_read : FnScope ["text", "numbers", "kept"] ["text"] (defScope st_read) := ⟨rfl, rfl, rfl, by decide +kernel, rfl, by decide +kernel, by decide +kernel⟩
abbrev st_l_cell : Stmt := topS 14
theorem sc_l_cell : FnScope ["_law_script", "_law_k"] ["_law_script", "_law_k"] (defScope st_l_cell) := ⟨rfl, rfl, rfl, by decide +kernel, rfl, by decide +kernel, by decide +kernel⟩
abbrev st_l_whole : Stmt := topS 15
theorem sc_l_whole : FnScope ["_law_found"] ["_law_found"] (defScope st_l_whole) := ⟨rfl, rfl, rfl, by decide +kernel, rfl, by decide +kernel, by decide +kernel⟩
abbrev st_l_sign_by : Stmt := topS 16
theorem sc_l_sign_by : FnScope ["_law_cell_here", "_law_some"] ["_law_cell_here"] (defScope st_l_sign_by) := ⟨rfl, rfl, rfl, by decide +kernel, rfl, by decide +kernel, by decide +kernel⟩
abbrev st_l_part : Stmt := topS 17
theorem sc_l_part : FnScope ["_law_cell_here", "_law_most", "_law_odd", "_law_way", "_law_many"] ["_law_cell_here", "_law_most", "_law_odd"] (defScope st_l_part) := ⟨rfl, rfl, rfl, by decide +kernel, rfl, by decide +kernel, by decide +kernel⟩
abbrev st_l_changed : Stmt := topS 18
theorem sc_l_changed : FnScope ["_law_text", "_law_script", "_law_place", "_law_sign", "_law_way"] ["_law_text", "_law_script"] (defScope st_l_changed) := ⟨rfl, rfl, rfl, by decide +kernel, rfl, by decide +kernel, by decide +kernel⟩
abbrev st_l_made : Stmt := topS 19
theorem sc_l_made : FnScope ["_law_script", "_law_most", "_law_odd", "_law_text", "_law_cell_here"] ["_law_script"] (defScope st_l_made) := ⟨rfl, rfl, rfl, by decide +kernel, rfl, by decide +kernel, by decide +kernel⟩
abbrev st_l_is_odd : Stmt := topS 20
theorem sc_l_is_odd : FnScope ["_law_text", "_law_sign"] ["_law_text"] (defScope st_l_is_odd) := ⟨rfl, rfl, rfl, by decide +kernel, rfl, by decide +kernel, by decide +kernel⟩
abbrev st_l_read : Stmt := topS 21
theorem sc_l_read : FnScope ["_law_text", "_law_numbers", "_law_total", "_law_here", "_law_there", "_law_full", "_law_begun", "_law_sign"] ["_law_text"] (defScope st_l_read) := ⟨rfl, rfl, rfl, by decide +kernel, rfl, by decide +kernel, by decide +kernel⟩
abbrev st_l_no_sign : Stmt := topS 22
theorem sc_l_no_sign : FnScope ["_law_text", "e"] ["_law_text"] (defScope st_l_no_sign) := ⟨rfl, rfl, rfl, by decide +kernel, rfl, by decide +kernel, by decide +kernel⟩
abbrev st_l_no_end : Stmt := topS 23
theorem sc_l_no_end : FnScope ["_law_text", "e"] ["_law_text"] (defScope st_l_no_end) := ⟨rfl, rfl, rfl, by decide +kernel, rfl, by decide +kernel, by decide +kernel⟩
abbrev st_l_alike : Stmt := topS 24
theorem sc_l_alike : FnScope ["_law_found", "_law_due", "_law_k"] ["_law_found", "_law_due"] (defScope st_l_alike) := ⟨rfl, rfl, rfl, by decide +kernel, rfl, by decide +kernel, by decide +kernel⟩
abbrev st_law : Stmt := topS 25
theorem sc_law : FnScope ["_law_script", "_law_text", "_law_due", "_law_begun", "_law_found"] ["_law_script"] (defScope st_law) := ⟨rfl, rfl, rfl, by decide +kernel, rfl, by decide +kernel, by decide +kernel⟩
/-- what the top has written -/
structure Txt (K : PySem.W.Frag) (mg : Str → Option Value) where
  C_StairError : Addr
  g_StairError : mg "StairError" = some (.ref C_StairError)
  k_StairError : PySem.W.keepIn K (.ref C_StairError) = true
  x_StairError : PySem.W.excIn K C_StairError [.type "ValueError", .type "Exception", .type "BaseException", .type "object"] "ValueError.__new__" = true
  xb_StairError : PySem.W.subIn K (.ref C_StairError) (.type "BaseException") = some true
  xt_StairError : PySem.W.typeIn K (.ref C_StairError) = some (.type "type")
  C_NoMove : Addr
  g_NoMove : mg "NoMove" = some (.ref C_NoMove)
  k_NoMove : PySem.W.keepIn K (.ref C_NoMove) = true
  x_NoMove : PySem.W.excIn K C_NoMove [.type "ValueError", .type "Exception", .type "BaseException", .type "object"] "ValueError.__new__" = true
  xb_NoMove : PySem.W.subIn K (.ref C_NoMove) (.type "BaseException") = some true
  xt_NoMove : PySem.W.typeIn K (.ref C_NoMove) = some (.type "type")
  C_NoNumber : Addr
  g_NoNumber : mg "NoNumber" = some (.ref C_NoNumber)
  k_NoNumber : PySem.W.keepIn K (.ref C_NoNumber) = true
  x_NoNumber : PySem.W.excIn K C_NoNumber [.type "ValueError", .type "Exception", .type "BaseException", .type "object"] "ValueError.__new__" = true
  xb_NoNumber : PySem.W.subIn K (.ref C_NoNumber) (.type "BaseException") = some true
  xt_NoNumber : PySem.W.typeIn K (.ref C_NoNumber) = some (.type "type")
  C_Short : Addr
  g_Short : mg "Short" = some (.ref C_Short)
  k_Short : PySem.W.keepIn K (.ref C_Short) = true
  x_Short : PySem.W.excIn K C_Short [.type "ValueError", .type "Exception", .type "BaseException", .type "object"] "ValueError.__new__" = true
  xb_Short : PySem.W.subIn K (.ref C_Short) (.type "BaseException") = some true
  xt_Short : PySem.W.typeIn K (.ref C_Short) = some (.type "type")
  C_NoSign : Addr
  g_NoSign : mg "NoSign" = some (.ref C_NoSign)
  k_NoSign : PySem.W.keepIn K (.ref C_NoSign) = true
  x_NoSign : PySem.W.excIn K C_NoSign [.type "ValueError", .type "Exception", .type "BaseException", .type "object"] "ValueError.__new__" = true
  xb_NoSign : PySem.W.subIn K (.ref C_NoSign) (.type "BaseException") = some true
  xt_NoSign : PySem.W.typeIn K (.ref C_NoSign) = some (.type "type")
  C_NoEnd : Addr
  g_NoEnd : mg "NoEnd" = some (.ref C_NoEnd)
  k_NoEnd : PySem.W.keepIn K (.ref C_NoEnd) = true
  x_NoEnd : PySem.W.excIn K C_NoEnd [.type "ValueError", .type "Exception", .type "BaseException", .type "object"] "ValueError.__new__" = true
  xb_NoEnd : PySem.W.subIn K (.ref C_NoEnd) (.type "BaseException") = some true
  xt_NoEnd : PySem.W.typeIn K (.ref C_NoEnd) = some (.type "type")
  f_weight : Addr
  d_weight : FuncData
  F_weight : Fun K "weight" "weight" st_weight f_weight d_weight
  g_weight : mg "weight" = some (.ref f_weight)
  b_weight : Binds K d_weight ["heap"] []
  f_look_at : Addr
  d_look_at : FuncData
  F_look_at : Fun K "look_at" "look_at" st_look_at f_look_at d_look_at
  g_look_at : mg "look_at" = some (.ref f_look_at)
  b_look_at : Binds K d_look_at ["text"] []
  f_read_on : Addr
  d_read_on : FuncData
  F_read_on : Fun K "read_on" "read_on" st_read_on f_read_on d_read_on
  g_read_on : mg "read_on" = some (.ref f_read_on)
  b_read_on : Binds K d_read_on ["kept", "piece"] []
  f_read : Addr
  d_read : FuncData
  F_read : Fun K "read" "read" st_read f_read d_read
  g_read : mg "read" = some (.ref f_read)
  b_read : Binds K d_read ["text"] []
  f_l_cell : Addr
  d_l_cell : FuncData
  F_l_cell : Fun K "_law_cell" "_law_cell" st_l_cell f_l_cell d_l_cell
  g_l_cell : mg "_law_cell" = some (.ref f_l_cell)
  b_l_cell : Binds K d_l_cell ["_law_script", "_law_k"] []
  f_l_whole : Addr
  d_l_whole : FuncData
  F_l_whole : Fun K "_law_whole" "_law_whole" st_l_whole f_l_whole d_l_whole
  g_l_whole : mg "_law_whole" = some (.ref f_l_whole)
  b_l_whole : Binds K d_l_whole ["_law_found"] []
  f_l_sign_by : Addr
  d_l_sign_by : FuncData
  F_l_sign_by : Fun K "_law_sign_by" "_law_sign_by" st_l_sign_by f_l_sign_by d_l_sign_by
  g_l_sign_by : mg "_law_sign_by" = some (.ref f_l_sign_by)
  b_l_sign_by : Binds K d_l_sign_by ["_law_cell_here"] []
  f_l_part : Addr
  d_l_part : FuncData
  F_l_part : Fun K "_law_part" "_law_part" st_l_part f_l_part d_l_part
  g_l_part : mg "_law_part" = some (.ref f_l_part)
  b_l_part : Binds K d_l_part ["_law_cell_here", "_law_most", "_law_odd"] []
  f_l_changed : Addr
  d_l_changed : FuncData
  F_l_changed : Fun K "_law_changed" "_law_changed" st_l_changed f_l_changed d_l_changed
  g_l_changed : mg "_law_changed" = some (.ref f_l_changed)
  b_l_changed : Binds K d_l_changed ["_law_text", "_law_script"] []
  f_l_made : Addr
  d_l_made : FuncData
  F_l_made : Fun K "_law_made" "_law_made" st_l_made f_l_made d_l_made
  g_l_made : mg "_law_made" = some (.ref f_l_made)
  b_l_made : Binds K d_l_made ["_law_script"] []
  f_l_is_odd : Addr
  d_l_is_odd : FuncData
  F_l_is_odd : Fun K "_law_is_odd" "_law_is_odd" st_l_is_odd f_l_is_odd d_l_is_odd
  g_l_is_odd : mg "_law_is_odd" = some (.ref f_l_is_odd)
  b_l_is_odd : Binds K d_l_is_odd ["_law_text"] []
  f_l_read : Addr
  d_l_read : FuncData
  F_l_read : Fun K "_law_read" "_law_read" st_l_read f_l_read d_l_read
  g_l_read : mg "_law_read" = some (.ref f_l_read)
  b_l_read : Binds K d_l_read ["_law_text"] []
  f_l_no_sign : Addr
  d_l_no_sign : FuncData
  F_l_no_sign : Fun K "_law_no_sign" "_law_no_sign" st_l_no_sign f_l_no_sign d_l_no_sign
  g_l_no_sign : mg "_law_no_sign" = some (.ref f_l_no_sign)
  b_l_no_sign : Binds K d_l_no_sign ["_law_text"] []
  f_l_no_end : Addr
  d_l_no_end : FuncData
  F_l_no_end : Fun K "_law_no_end" "_law_no_end" st_l_no_end f_l_no_end d_l_no_end
  g_l_no_end : mg "_law_no_end" = some (.ref f_l_no_end)
  b_l_no_end : Binds K d_l_no_end ["_law_text"] []
  f_l_alike : Addr
  d_l_alike : FuncData
  F_l_alike : Fun K "_law_alike" "_law_alike" st_l_alike f_l_alike d_l_alike
  g_l_alike : mg "_law_alike" = some (.ref f_l_alike)
  b_l_alike : Binds K d_l_alike ["_law_found", "_law_due"] []
  f_law : Addr
  d_law : FuncData
  F_law : Fun K "law" "law" st_law f_law d_law
  g_law : mg "law" = some (.ref f_law)
  b_law : Binds K d_law ["_law_script"] []
  eg_NoSign : PySem.W.findIn K (.ref C_NoSign) "__getattribute__" = some (some (.builtin "BaseException.__getattribute__"))
  ek_NoSign : PySem.W.findIn K (.ref C_NoSign) "__getattr__" = some none
  ea_NoSign : PySem.W.findIn K (.ref C_NoSign) "__class__" = some (some (.builtin "object.__class__"))
  ed_NoSign : PySem.W.hasDictIn K C_NoSign = true
  em_NoSign : PySem.W.mroIn K C_NoSign (.type "object") = some true
  i_NoSign_StairError : PySem.W.kitOne K (.ref C_NoSign) (.ref C_StairError) = some true
  i_NoSign_NoMove : PySem.W.kitOne K (.ref C_NoSign) (.ref C_NoMove) = some false
  i_NoSign_NoNumber : PySem.W.kitOne K (.ref C_NoSign) (.ref C_NoNumber) = some false
  i_NoSign_Short : PySem.W.kitOne K (.ref C_NoSign) (.ref C_Short) = some false
  i_NoSign_NoSign : PySem.W.kitOne K (.ref C_NoSign) (.ref C_NoSign) = some true
  i_NoSign_NoEnd : PySem.W.kitOne K (.ref C_NoSign) (.ref C_NoEnd) = some false
  i_NoSign_VE : PySem.W.kitOne K (.ref C_NoSign) (.type "ValueError") = some true
  x_NoSign_NoEnd : PySem.W.exmOne K (.ref C_NoSign) (.ref C_NoEnd) = some false
  x_NoSign_NoMove : PySem.W.exmOne K (.ref C_NoSign) (.ref C_NoMove) = some false
  x_NoSign_NoNumber : PySem.W.exmOne K (.ref C_NoSign) (.ref C_NoNumber) = some false
  x_NoSign_Short : PySem.W.exmOne K (.ref C_NoSign) (.ref C_Short) = some false
  x_NoSign_NoSign : PySem.W.exmOne K (.ref C_NoSign) (.ref C_NoSign) = some true
  eg_NoEnd : PySem.W.findIn K (.ref C_NoEnd) "__getattribute__" = some (some (.builtin "BaseException.__getattribute__"))
  ek_NoEnd : PySem.W.findIn K (.ref C_NoEnd) "__getattr__" = some none
  ea_NoEnd : PySem.W.findIn K (.ref C_NoEnd) "__class__" = some (some (.builtin "object.__class__"))
  ed_NoEnd : PySem.W.hasDictIn K C_NoEnd = true
  em_NoEnd : PySem.W.mroIn K C_NoEnd (.type "object") = some true
  i_NoEnd_StairError : PySem.W.kitOne K (.ref C_NoEnd) (.ref C_StairError) = some true
  i_NoEnd_NoMove : PySem.W.kitOne K (.ref C_NoEnd) (.ref C_NoMove) = some false
  i_NoEnd_NoNumber : PySem.W.kitOne K (.ref C_NoEnd) (.ref C_NoNumber) = some false
  i_NoEnd_Short : PySem.W.kitOne K (.ref C_NoEnd) (.ref C_Short) = some false
  i_NoEnd_NoSign : PySem.W.kitOne K (.ref C_NoEnd) (.ref C_NoSign) = some false
  i_NoEnd_NoEnd : PySem.W.kitOne K (.ref C_NoEnd) (.ref C_NoEnd) = some true
  i_NoEnd_VE : PySem.W.kitOne K (.ref C_NoEnd) (.type "ValueError") = some true
  x_NoEnd_NoEnd : PySem.W.exmOne K (.ref C_NoEnd) (.ref C_NoEnd) = some true
  x_NoEnd_NoMove : PySem.W.exmOne K (.ref C_NoEnd) (.ref C_NoMove) = some false
  x_NoEnd_NoNumber : PySem.W.exmOne K (.ref C_NoEnd) (.ref C_NoNumber) = some false
  x_NoEnd_Short : PySem.W.exmOne K (.ref C_NoEnd) (.ref C_Short) = some false
  x_NoEnd_NoSign : PySem.W.exmOne K (.ref C_NoEnd) (.ref C_NoSign) = some false
  en_ : PySem.W.specialIn K (.builtin "object.__class__") "__get__" = some (some (.builtin "getset_descriptor.__get__"))
  et_ : PySem.W.takesIn K (.builtin "object.__class__") = some true
  m_len : mg "len" = none
  m_isinstance : mg "isinstance" = none
  m_int : mg "int" = none
  m_bool : mg "bool" = none
  m_ValueError : mg "ValueError" = none
  m_list : mg "list" = none
  m_range : mg "range" = none
theorem Txt.E_NoSign {K : PySem.W.Frag} {mg : Str → Option Value} (T : Txt K mg) : ExcC K T.C_NoSign := ⟨T.eg_NoSign, T.ek_NoSign, T.xb_NoSign, T.ed_NoSign, T.ea_NoSign, T.en_, T.et_, T.em_NoSign⟩
theorem Txt.E_NoEnd {K : PySem.W.Frag} {mg : Str → Option Value} (T : Txt K mg) : ExcC K T.C_NoEnd := ⟨T.eg_NoEnd, T.ek_NoEnd, T.xb_NoEnd, T.ed_NoEnd, T.ea_NoEnd, T.en_, T.et_, T.em_NoEnd⟩
local macro_rules | `(tactic| walk_at "side") => `(tactic| first | assumption | omega | exact ⟨by decide, by decide⟩ | exact ⟨by decide, by decide, by decide⟩ | (show (0 : Int) < _; first | omega | decide | exact T60_pos | exact T60_pos1 | decide +kernel))
local macro_rules | `(tactic| walk_at "sq") => `(tactic| first | assumption | exact SqL.of (by assumption))
local macro_rules | `(tactic| walk_at "val") => `(tactic| first
  | with_reducible exact val_c
  | ((with_reducible apply xv_c) <;> exact rfl)
  | ((with_reducible apply val_var) <;> rfl)
  | with_reducible exact xv_p60
  | ((with_reducible apply xv_I0) <;> walk_at "val")
  | ((with_reducible apply xv_I) <;> first | walk_at "val" | walk_at "side")
  | ((with_reducible apply xv_eq) <;> first | walk_at "val" | rfl)
  | ((with_reducible apply xv_ne) <;> first | walk_at "val" | rfl)
  | ((with_reducible apply xv_U) <;> walk_at "val")
  | ((with_reducible apply xv_lenI) <;> first | walk_at "val" | walk_at "sq")
  | ((with_reducible apply xv_ix) <;> first | walk_at "val" | walk_at "sq" | walk_at "side")
  | ((with_reducible apply xv_and) <;> first | walk_at "val" | (intro hc; (try replace hc := of_decide_eq_true hc); walk_at "val"))
  | ((with_reducible apply xv_or) <;> first | walk_at "val" | (intro hc; (try replace hc := of_decide_eq_false hc); walk_at "val"))
  | ((with_reducible apply xv_not) <;> walk_at "val")
  | walk_at "val+")
local macro_rules | `(tactic| walk_at "val+") => `(tactic| fail "val")
local macro_rules | `(tactic| walk_at "arg") => `(tactic| first | with_reducible exact xg_nil | ((with_reducible apply xg_cons) <;> first | walk_at "val" | walk_at "arg"))
local macro_rules | `(tactic| walk_at "ans") => `(tactic| first
  | ((with_reducible apply xa_T) <;> walk_at "val")
  | ((with_reducible apply xa_B) <;> walk_at "val")
  | ((with_reducible apply xa_not) <;> walk_at "ans")
  | ((with_reducible apply xa_and) <;> first | walk_at "ans" | (intro hc; (try replace hc := of_decide_eq_true hc); walk_at "ans"))
  | ((with_reducible apply xa_or) <;> first | walk_at "ans" | (intro hc; (try replace hc := of_decide_eq_false hc); walk_at "ans")))

section
variable {P : Program} {w : World} {K : PySem.W.Frag} {mg : Str → Option Value} {base : Heap}
/-! ### a cell of the script -/
def sp_cell (K : PySem.W.Frag) : Sp := fun vs H Q _ => ∃ (a : Addr) (ns : List Int) (j : Nat), vs = [.ref a, .int (j : Int)] ∧ SqL K H a (ns.map V.int) ∧ Q (.int (ns.getD j 0)) H
theorem ok_l_cell (T : Txt K mg) : FnOk P w K mg base CX0 1 T.f_l_cell T.d_l_cell ["_law_script", "_law_k"] (sp_cell K) := by
  refine T.F_l_cell.ok sc_l_cell (fun vs H Q E h => ?_) (fun cdv A outer s H vs Q E hr h => ?_)
  · obtain ⟨a, ns, j, rfl, _⟩ := h
    rfl
  · obtain ⟨a, ns, j, rfl, hS, q⟩ := h
    refine ⟨_, (pss_cons (ps_if (pt_cmpR op_lt (pv 1) (pe_callB call_len_seq (by rfl) T.m_len PySem.boot_len (pa_cons (pv 0) pa_nil)) (nomark _)) (pss_one (ps_ret (pe_ix ix_list (pv 0) (pv 1) (fun _ _ => rfl)))) pss_nil)
      (pss_one (ps_ret pe_int))), ?_⟩
    refine xs_when (xa_T (xv_I0 (val_var rfl) (xv_lenI (val_var rfl) hS))) (fun hc => ?_) (fun hc => ?_)
    · have hj : (j : Int) < ns.length := of_decide_eq_true hc
      exact st_ret (xv_ix (val_var rfl) (val_var rfl) hS (by omega) hj) q
    · have hj : ¬ (j : Int) < ns.length := of_decide_eq_false hc
      refine st_ret val_c ?_
      rw [List.getD_eq_getElem?_getD, List.getElem?_eq_none (by omega)] at q
      exact q
theorem xv_cell {σ : L2.St} {H : Hp} {ta tb : TE} {a : Addr} {ns : List Int} {j : Nat} (h : Val ta σ H (.ref a)) (h2 : Val tb σ H (.int (j : Int))) (hS : SqL K H a (ns.map V.int)) : Val (tCall (sp_cell K) [] E0 (tCons ta (tCons tb tNil))) σ H (.int (ns.getD j 0)) :=
  xv_call (xg_cons h (xg_cons h2 xg_nil)) fun Q q => ⟨a, ns, j, rfl, hS, q⟩
local macro_rules | `(tactic| walk_at "val+") => `(tactic| ((with_reducible apply xv_cell) <;> first | walk_at "val" | walk_at "sq"))
/-! ### whole numbers -/
def sp_whole : Sp := fun vs H Q _ => ∃ i : Int, vs = [.int i] ∧ Q (.bl true) H
theorem ok_l_whole (T : Txt K mg) : FnOk P w K mg base CX0 1 T.f_l_whole T.d_l_whole ["_law_found"] sp_whole := by
  refine T.F_l_whole.ok sc_l_whole (fun vs H Q E h => ?_) (fun cdv A outer s H vs Q E hr h => ?_)
  · obtain ⟨i, rfl, _⟩ := h
    rfl
  · obtain ⟨i, rfl, q⟩ := h
    refine ⟨_, (pss_one (ps_ret (pe_and (pe_callB call_isi (by rfl) T.m_isinstance (by decide +kernel) (pa_cons (pv 0) (pa_cons (pe_bltn (v := .ty "int") (by rfl) T.m_int (by decide +kernel) rfl) pa_nil))) (pe_one (pe_not (pe_callB call_isi (by rfl) T.m_isinstance (by decide +kernel) (pa_cons (pv 0) (pa_cons (pe_bltn (v := .ty "bool") (by rfl) T.m_bool (by decide +kernel) rfl) pa_nil)))))))), ?_⟩
    exact st_ret (xv_and (xv_isi (val_var rfl) (.base (.int i)) (b := true) (by decide +kernel)) fun _ => xv_not (xv_isi (val_var rfl) (.base (.int i)) (b := false) (by decide +kernel))) q
theorem xv_whole {σ : L2.St} {H : Hp} {ta : TE} {i : Int} (h : Val ta σ H (.int i)) : Val (tCall sp_whole [] E0 (tCons ta tNil)) σ H (.bl true) :=
  xv_call (xg_cons h xg_nil) fun Q q => ⟨i, rfl, q⟩
local macro_rules | `(tactic| walk_at "val+") => `(tactic| ((with_reducible apply xv_whole) <;> walk_at "val"))
/-! ### weight of a list -/
def sp_weight (K : PySem.W.Frag) : Sp := fun vs H Q _ => ∃ (a : Addr) (ns : List Int), vs = [.ref a] ∧ SqL K H a (ns.map V.int) ∧ Sm ns ∧ Q (.int (wt ns)) H
theorem ok_weight (T : Txt K mg) : FnOk P w K mg base CX0 1 T.f_weight T.d_weight ["heap"] (sp_weight K) := by
  refine T.F_weight.ok sc_weight (fun vs H Q E h => ?_) (fun cdv A outer s H vs Q E hr h => ?_)
  · obtain ⟨a, ns, rfl, _⟩ := h
    rfl
  · obtain ⟨a, ns, rfl, hS, hz, q⟩ := h
    refine ⟨_, (pss_cons (ps_set (i := 1) sc_weight.nd rfl (Or.inl rfl) pe_int)
      (pss_cons (ps_set (i := 2) sc_weight.nd rfl (Or.inl rfl) pe_int)
      (pss_cons (ps_set (i := 3) sc_weight.nd rfl (Or.inl rfl) pe_int)
      (pss_cons (ps_for PassesOwn.never rfl (pi_list (pv 0)) (pg_name (i := 4) sc_weight.nd rfl (Or.inl rfl)) (pss_cons (ps_set (i := 1) sc_weight.nd rfl (Or.inl rfl) (pe_op op_add (pv 1) (pe_op op_mulW (pv 4) (pv 2))))
      (pss_one (ps_par (i := 2) (j := 3) (by rfl) sc_weight.nd rfl rfl (by decide) rfl rfl (pa_cons (pv 3) (pa_cons (pe_op op_add (pv 2) (pv 3)) pa_nil)) (by rfl)))))
      (pss_one (ps_ret (pv 1))))))), ?_⟩
    refine xq_set val_c ?_
    refine xq_set val_c ?_
    refine xq_set val_c ?_
    refine xq_forI (ns := ns) (val_var rfl) (Same.refl H) hS (fun i σ H' => ∃ y, σ = [some (.ref a), some (.int (S W 0 (ns.take i))), some (.int (W i)), some (.int (W (i + 1))), y] ∧ H' = H) ⟨_, rfl, rfl⟩ ?_ ?_
    · rintro i n σ H' e hn ⟨y, rfl, rfl⟩
      have hi : i < ns.length := (List.getElem?_eq_some_iff.mp hn).1
      have hc : CMulW n (W i) := wide_mul (hz.mag n (List.mem_of_getElem? hn)) (W_bitsN i) (by decide) (by omega) (by have := hz.len; omega)
      refine xq_set (xv_I0 (val_var rfl) (xv_I (val_var rfl) (val_var rfl) hc)) ?_
      refine xs_par (xg_cons (val_var rfl) (xg_cons (xv_I0 (val_var rfl) (val_var rfl)) xg_nil)) ⟨e, some (.int n), ?_, rfl⟩
      rw [S_take hn, Nat.zero_add]
      rfl
    · rintro σ H' e ⟨y, rfl, rfl⟩
      rw [List.take_length]
      exact st_ret (val_var rfl) q
theorem xv_weight {σ : L2.St} {H : Hp} {ta : TE} {a : Addr} {ns : List Int} (h : Val ta σ H (.ref a)) (hS : SqL K H a (ns.map V.int)) (hz : Sm ns) : Val (tCall (sp_weight K) [] E0 (tCons ta tNil)) σ H (.int (wt ns)) :=
  xv_call (xg_cons h xg_nil) fun Q q => ⟨a, ns, rfl, hS, hz, q⟩
local macro_rules | `(tactic| walk_at "val+") => `(tactic| ((with_reducible apply xv_weight) <;> first | walk_at "val" | walk_at "sq" | walk_at "side"))
/-! ### lists of ints alike -/
def sp_alike (K : PySem.W.Frag) : Sp := fun vs H Q _ => ∃ (a b : Addr) (ns : List Int), vs = [.ref a, .ref b] ∧ SqL K H a (ns.map V.int) ∧ SqL K H b (ns.map V.int) ∧ ns.length ≤ 100000 ∧ Q (.bl true) H
theorem ok_l_alike (T : Txt K mg) : FnOk P w K mg base CX0 2 T.f_l_alike T.d_l_alike ["_law_found", "_law_due"] (sp_alike K) := by
  refine T.F_l_alike.ok sc_l_alike (fun vs H Q E h => ?_) (fun cdv A outer s H vs Q E hr h => ?_)
  · obtain ⟨a, b, ns, rfl, _⟩ := h
    rfl
  · obtain ⟨a, b, ns, rfl, hS, hB, hz, q⟩ := h
    refine ⟨_, (pss_cons (ps_if (PW.pt (pw_or (pt_not (pt_val (pe_callB call_isi (by rfl) T.m_isinstance (by decide +kernel) (pa_cons (pv 0) (pa_cons (pe_bltn (v := .ty "list") (by rfl) T.m_list (by decide +kernel) rfl) pa_nil))))) (pw_or1 (pt_cmpR op_ne (pe_callB call_len_seq (by rfl) T.m_len PySem.boot_len (pa_cons (pv 0) pa_nil)) (pe_callB call_len_seq (by rfl) T.m_len PySem.boot_len (pa_cons (pv 1) pa_nil)) (nomark _))))) (pss_one (ps_ret pe_bl)) pss_nil)
      (pss_cons (ps_for PassesOwn.never rfl (pi_range1 (by rfl) T.m_range (pa_cons (pe_callB call_len_seq (by rfl) T.m_len PySem.boot_len (pa_cons (pv 1) pa_nil)) pa_nil)) (pg_name (i := 2) sc_l_alike.nd rfl (Or.inl rfl)) (pss_one (ps_if (PW.pt (pw_or (pt_not (pt_val (pe_call (ok_l_whole T) (hr.mono (by decide)) (by rfl) T.g_l_whole T.F_l_whole.kp T.b_l_whole .nil pass0 (pa_cons (pe_ix ix_list (pv 0) (pv 2) (fun _ _ => rfl)) pa_nil)))) (pw_or1 (pt_cmpR op_ne (pe_ix ix_list (pv 0) (pv 2) (fun _ _ => rfl)) (pe_ix ix_list (pv 1) (pv 2) (fun _ _ => rfl)) (nomark _))))) (pss_one (ps_ret pe_bl)) pss_nil)))
      (pss_one (ps_ret pe_bl)))), ?_⟩
    refine xs_when (b := false) (xa_or (a := false) (xa_not (a := true) (xa_B (xv_isi (val_var rfl) (tyx_L hS) (by decide +kernel)))) fun _ => xa_T (xv_to (xv_ne (xv_lenI (val_var rfl) hS) (xv_lenI (val_var rfl) hB) rfl) (by rw [decide_eq_true rfl]; rfl))) (fun z => (nomatch z)) (fun _ => ?_)
    refine xq_forR (n := ns.length) (by walk_at "arg") (by omega) (fun i σ H' => ∃ y, σ = [some (.ref a), some (.ref b), y] ∧ H' = H) ⟨none, rfl, rfl⟩ ?_ ?_
    · rintro i σ H' hi ⟨y, rfl, rfl⟩
      refine xs_if (b := false) (xa_or (a := false) (xa_not (a := true) (xa_B (xv_whole (xv_ix (i := (i : Int)) (val_var rfl) (val_var rfl) hS (by omega) (by omega))))) fun _ => xa_T (xv_to (xv_ne (xv_ix (i := (i : Int)) (val_var rfl) (val_var rfl) hS (by omega) (by omega)) (xv_ix (i := (i : Int)) (val_var rfl) (val_var rfl) hB (by omega) (by omega)) rfl) (by rw [decide_eq_true rfl]; rfl))) (fun z => (nomatch z)) (fun _ => ?_)
      exact ⟨_, rfl, rfl⟩
    · rintro σ H' ⟨y, rfl, rfl⟩
      exact st_ret val_c q
/-! ### the signs looked at -/
theorem s_o : ("o" : Str) = tx [111] := by decide +kernel
theorem s_d : ("." : Str) = tx [46] := by decide +kernel
theorem s_e : ("" : Str) = tx [] := by decide +kernel
def sp_look (C : Addr) : Sp := fun vs H Q E => ∃ l : List Nat, vs = [.str (tx l)] ∧ (oddB l = false → Q .non H) ∧ (oddB l = true → E (.ref C) none H)
theorem ok_look_at (T : Txt K mg) : FnOk P w K mg base (L2.CX P w) 1 T.f_look_at T.d_look_at ["text"] (sp_look T.C_NoSign) := by
  refine T.F_look_at.okX sc_look_at (fun vs H Q E h => ?_) (fun cdv A outer s H vs Q E hr h => ?_)
  · obtain ⟨l, rfl, _⟩ := h
    rfl
  · obtain ⟨l, rfl, q1, q2⟩ := h
    refine ⟨_, (pss_one (ps_for (passes_of rfl) rfl (pi_str (pv 0)) (pg_name (i := 1) sc_look_at.nd rfl (Or.inl rfl)) (pss_one (ps_if (PW.pt (pw_and (pt_cmpR op_ne (pv 1) pe_str (nomark _)) (pw_and1 (pt_cmpR op_ne (pv 1) pe_str (nomark _))))) (pss_one (ps_raise rfl (takes_of rfl rfl rfl rfl) (pmk_own PySem.F.excBase_ValueError T.x_NoSign T.g_NoSign T.k_NoSign (raises_own T.xb_NoSign T.xt_NoSign) rfl))) pss_nil)))), ?_⟩
    refine xs_forS (l := l) (val_var rfl) (fun i σ H' => ∃ y, σ = [some (.str (tx l)), y] ∧ H' = H ∧ oddB (l.take i) = false) ⟨none, rfl, rfl, rfl⟩ ?_ ?_
    · rintro i c σ H' hc ⟨y, rfl, rfl, ho⟩
      have hod := odd_take hc
      rw [ho, Bool.false_or] at hod
      refine xs_if (b := oddC c) (xa_and (xa_T (xv_neS (val_var (i := 1) rfl) (xv_cS s_o))) fun _ => xa_T (xv_neS (val_var (i := 1) rfl) (xv_cS s_d))) (fun h => ?_) (fun h => ?_)
      · exact q2 (odd_stop (i + 1) (hod.trans h))
      · exact ⟨_, rfl, rfl, hod.trans h⟩
    · rintro σ H' ⟨y, rfl, rfl, ho⟩
      rw [List.take_length] at ho
      exact q1 ho
/-! ### read_on -/
def sp_read_on : Sp := fun vs H Q _ => ∃ kept piece : List Nat, vs = [.str (tx kept), .str (tx piece)] ∧ kept.length ≤ 20000 ∧ piece.length ≤ 20000 ∧
  ∀ H' p l, Same H H' → H' p = some (.tup [.ref l, .str (tx (rd kept piece).2)]) → H l = none → H' l = some (.lst ((rd kept piece).1.map V.int)) → Q (.ref p) H'
theorem cut_last (kept : List Nat) : cutS (tx kept) (some (-1)) none = tx (kept.drop (kept.length - 1)) := by
  rw [cut_tx]
  have e : HT.sIx kept.length 0 (some (-1)) = kept.length - 1 := by
    show (if (-1 : Int) < 0 then (-1 + (kept.length : Int)).toNat else min (-1 : Int).toNat kept.length) = _
    rw [if_pos (by decide)]
    omega
  rw [e, HT.sIx_none, List.take_of_length_le (by rw [List.length_drop]; omega)]
theorem ok_read_on (T : Txt K mg) : FnOk P w K mg base CX0 2 T.f_read_on T.d_read_on ["kept", "piece"] sp_read_on := by
  refine T.F_read_on.ok sc_read_on (fun vs H Q E h => ?_) (fun cdv A outer s H vs Q E hr h => ?_)
  · obtain ⟨kept, piece, rfl, _⟩ := h
    rfl
  · obtain ⟨kept, piece, rfl, hk, hp, q⟩ := h
    refine ⟨_, (pss_cons (ps_set (i := 2) sc_read_on.nd rfl (Or.inl rfl) (pe_lst pa_nil))
      (pss_cons (ps_for PassesOwn.never rfl (pi_str (pv 1)) (pg_name (i := 3) sc_read_on.nd rfl (Or.inl rfl)) (pss_one (ps_if (PW.pt (pw_and (pt_cmpR op_eq (pv 3) pe_str (nomark _)) (pw_and1 (pt_cmpR op_eq (pe_slice sl_str (pv 0) (po_some (pe_un un_neg pe_int)) po_none) pe_str (nomark _))))) (pss_cons (ps_expr (pe_bm PySem.F.plainAttrs_list PySem.F.slot_list_append PySem.F.type_list_append mt_append (pv 2) (pa_cons (pe_call (ok_weight T) (hr.mono (by decide)) (by rfl) T.g_weight T.F_weight.kp T.b_weight .nil pass0 (pa_cons (pe_lc (own := [("one", 4)]) (g := gName 4) (tt := tYes) rfl sc_read_on.nd (pi_str (pv 0)) (blkOk_by (N := ["kept", "piece", "numbers", "sign", "one"]) (sc := defScope st_read_on) (by decide +kernel)) (fun _ _ _ _ _ => pg_name (i := 4) sc_read_on.nd rfl (Or.inl rfl)) (fun _ _ _ _ _ => pts_nil) (fun _ _ _ _ _ => (pe_callTy call_int1 (by rfl) T.m_int (by decide +kernel) (pa_cons (pe_cmpR op_eq (pv 4) pe_str (nomark _)) pa_nil)))) pa_nil)) pa_nil)))
      (pss_one (ps_set (i := 0) sc_read_on.nd rfl (Or.inl rfl) pe_str))) (pss_one (ps_set (i := 0) sc_read_on.nd rfl (Or.inl rfl) (pe_op op_add_str (pv 0) (pv 3)))))))
      (pss_one (ps_ret (pe_tup (pa_cons (pv 2) (pa_cons (pv 0) pa_nil))))))), ?_⟩
    refine Evl.q_asgL (Evl.el_lst Evl.ea_nil (by decide)) fun l H1 nl e1 h1 => ?_
    refine xq_forS (l := piece) (val_var (i := 1) rfl) (fun i σ H' => ∃ y, σ = [some (.str (tx ((piece.take i).foldl rstep ([], kept)).2)), some (.str (tx piece)), some (.ref l), y, none] ∧ Same H H' ∧ H' l = some (.lst (((piece.take i).foldl rstep ([], kept)).1.map V.int))) ⟨none, rfl, e1, h1⟩ ?_ ?_
    · rintro i c σ H2 hc ⟨y, rfl, e2, h2⟩
      have hi : i < piece.length := (List.getElem?_eq_some_iff.mp hc).1
      have hf := fold_take hc ([], kept)
      have hlen := fold_len (piece.take i) ([], kept)
      have htl : (piece.take i).length ≤ i := by
        rw [List.length_take]
        omega
      generalize (piece.take i).foldl rstep ([], kept) = s at h2 hf hlen
      obtain ⟨ns, kp⟩ := s
      have hn1 : ns.length ≤ 0 + (piece.take i).length := hlen.1
      have hk1 : kp.length ≤ kept.length + (piece.take i).length := hlen.2
      have hneg : Bnd (tPart (tUn (rU fun i => .int (-i)) (tC (.int 1)))) [some (.str (tx kp)), some (.str (tx piece)), some (.ref l), some (.str (tx [c])), none] H2 (some (-1)) := fun Q q => ⟨1, rfl, ⟨-1, rfl, q⟩⟩
      refine xs_if (b := decide ([c] = [111]) && full kp) (xa_and (xa_T (xv_eqS (val_var (i := 3) rfl) (xv_cS s_o))) fun _ => xa_T (xv_eqS (xv_to (xv_slS (l := kp) (val_var (i := 0) rfl) hneg (fun Q q => q) (by omega)) (congrArg V.str (cut_last kp))) (xv_cS s_o))) (fun hb => ?_) (fun hb => ?_)
      · have hst : rstep (ns, kp) c = (ns ++ [wt (bits kp)], []) := by
          unfold rstep
          rw [if_pos hb]
        refine Evl.q_app (l := l) h2 (Evl.ev_var (i := 2) rfl) (v := .int (wt (bits kp))) (fun H3 e3 Q q => ?_) (by rw [List.length_map]; show ns.length < 100000; omega) fun H3 e3 => ?_
        · refine xr_callT (xr_consT ?_)
          refine el_lcS (j := 4) (ws := [4]) (l := kp) (F := bitF) (fun H4 e4 => val_var (i := 0) rfl) (by omega) (fun _ => rfl) (fun d H4 e4 hd => xv_cb (xg_cons (xv_eqS (val_var (i := 4) rfl) (xv_cS s_o)) xg_nil) fun Q q => .inr ⟨_, rfl, q⟩) H3 (Evl.Ex.refl H3) _ fun r H4 nr e4 h4 => ?_
          exact ⟨r, bits kp, rfl, SqL.of h4, bits_sm (by omega), q H4 e4⟩
        · refine st_set (xv_cS s_e) ⟨some (.str (tx [c])), ?_, same_mut (Same.trans e2 e3) nl, ?_⟩
          · rw [hf, hst]
            rfl
          · rw [hf, hst, upd_same, List.map_append]
            rfl
      · have hst : rstep (ns, kp) c = (ns, kp ++ [c]) := by
          unfold rstep
          rw [if_neg (by rw [hb]; decide)]
        refine st_set (xv_addS (val_var (i := 0) rfl) (val_var (i := 3) rfl) (by show kp.length + 1 ≤ _; omega)) ⟨some (.str (tx [c])), ?_, e2, ?_⟩
        · rw [hf, hst]
          rfl
        · rw [hf, hst]
          exact h2
    · rintro σ H2 ⟨y, rfl, e2, h2⟩
      rw [List.take_length] at h2 ⊢
      refine Evl.s_retU (Evl.eu_tup (Evl.ea_cons (Evl.ev_var (i := 2) rfl) (Evl.ea_cons (Evl.ev_var (i := 0) rfl) Evl.ea_nil)) (by show 2 ≤ 100000; omega)) fun p H3 np e3 h3 => ?_
      exact q H3 p l (e2.trans e3) h3 nl (e3 l _ h2)
/-! ### read -/
def sp_read (C D : Addr) : Sp := fun vs H Q E => ∃ l : List Nat, vs = [.str (tx l)] ∧ l.length ≤ 20000 ∧ (oddB l = true → E (.ref C) none H) ∧ (oddB l = false → (rd [] l).2 ≠ [] → ∀ H', Same H H' → E (.ref D) none H') ∧
  (oddB l = false → (rd [] l).2 = [] → ∀ H' p, Same H H' → H p = none → H' p = some (.lst ((rd [] l).1.map V.int)) → Q (.ref p) H')
theorem ok_read (T : Txt K mg) : FnOk P w K mg base (L2.CX P w) 3 T.f_read T.d_read ["text"] (sp_read T.C_NoSign T.C_NoEnd) := by
  refine T.F_read.okX sc_read (fun vs H Q E h => ?_) (fun cdv A outer s H vs Q E hr h => ?_)
  · obtain ⟨l, rfl, _⟩ := h
    rfl
  · obtain ⟨l, rfl, hl, q1, q2, q3⟩ := h
    refine ⟨_, (pss_cons (ps_expr (pe_call (ok_look_at T) (hr.mono (by decide)) (by rfl) T.g_look_at T.F_look_at.kp T.b_look_at .nil (passes_call (takes_of rfl rfl rfl rfl) (fun _ _ _ _ z => z)) (pa_cons (pv 0) pa_nil)))
      (pss_cons (ps_asg (pe_call (ok_read_on T) (hr.mono (by decide)) (by rfl) T.g_read_on T.F_read_on.kp T.b_read_on .nil pass0 (pa_cons pe_str (pa_cons (pv 0) pa_nil))) (pg_tup rfl (pgs_cons (pg_name (i := 1) sc_read.nd rfl (Or.inl rfl)) (pgs_cons (pg_name (i := 2) sc_read.nd rfl (Or.inl rfl)) pgs_nil))))
      (pss_cons (ps_if (pt_cmpR op_ne (pv 2) pe_str (nomark _)) (pss_one (ps_raise rfl (takes_of rfl rfl rfl rfl) (pmk_own PySem.F.excBase_ValueError T.x_NoEnd T.g_NoEnd T.k_NoEnd (raises_own T.xb_NoEnd T.xt_NoEnd) rfl))) pss_nil)
      (pss_one (ps_ret (pv 1)))))), ?_⟩
    refine xq_drop (xr_callT (xg_go (xg_cons (val_var (i := 0) rfl) xg_nil) ⟨l, rfl, fun ho => ?_, fun ho => q1 ho⟩))
    refine xq_asgT (xr_callT (xg_go (xg_cons (xv_cS s_e) (xg_cons (val_var (i := 0) rfl) xg_nil)) ⟨[], l, rfl, by show 0 ≤ 20000; omega, hl, fun H1 p n e1 hp nn hn => ?_⟩))
    refine ⟨p, _, rfl, SqT.of hp, rfl, _, _, rfl, _, _, rfl, rfl, ?_⟩
    refine xs_when (xa_T (xv_neS (val_var (i := 2) rfl) (xv_cS s_e))) (fun hc => ?_) (fun hc => ?_)
    · exact q2 ho (by simpa using hc) H1 e1
    · exact st_ret (val_var (i := 1) rfl) (q3 ho (by simpa using hc) H1 n e1 nn hn)
/-! ### some sign -/
def sp_sign : Sp := fun vs H Q _ => ∃ c : Int, vs = [.int c] ∧ ∀ s : Nat, Q (.str (tx [s])) H
theorem ok_l_sign_by (T : Txt K mg) : FnOk P w K mg base CX0 1 T.f_l_sign_by T.d_l_sign_by ["_law_cell_here"] sp_sign := by
  refine T.F_l_sign_by.ok sc_l_sign_by (fun vs H Q E h => ?_) (fun cdv A outer s H vs Q E hr h => ?_)
  · obtain ⟨c, rfl, _⟩ := h
    rfl
  · obtain ⟨c, rfl, q⟩ := h
    refine ⟨_, (pss_cons (ps_set (i := 1) sc_l_sign_by.nd rfl (Or.inl rfl) pe_str)
      (pss_cons (ps_set (i := 1) sc_l_sign_by.nd rfl (Or.inl rfl) (pe_op op_add_str (pv 1) pe_str))
      (pss_one (ps_ret (pe_ix ix_str (pv 1) (pe_op op_mod (pv 0) pe_int) (fun _ _ => rfl)))))), ?_⟩
    refine xq_set (xv_cS (tx_cps _).symm) ?_
    refine xq_set (xv_addS (val_var (i := 1) rfl) (xv_cS (tx_cps _).symm) (by decide +kernel)) ?_
    have hm : 0 ≤ c % 96 ∧ c % 96 < 96 := ⟨Int.emod_nonneg _ (by decide), Int.emod_lt_of_pos _ (by decide)⟩
    have key : ∀ (l : List Nat), l.length = 96 → ∀ {D : Ends} {σ : L2.St}, σ[1]? = some (some (.str (tx l))) → σ[0]? = some (some (.int c)) → (∀ s, D.rt (.str (tx [s])) H) → tRet (tOp rIxS (tVar 1) (tOp (rI (fun _ j => 0 < j) fun i j => .int (i % j)) (tVar 0) (tC (.int 96)))) D σ H := by
      intro l hl D σ h1 h0 hq
      obtain ⟨s, hs⟩ := atI_ok (l := l) hm.1 (by omega)
      exact st_ret (xv_ixS (val_var (i := 1) h1) (xv_I (C := fun _ j => 0 < j) (g := fun i j => .int (i % j)) (val_var (i := 0) h0) val_c (by decide)) (by omega) hs) (hq s)
    exact key _ (by decide +kernel) rfl rfl fun s => q s
/-! ### a part -/
def sp_part : Sp := fun vs H Q _ => ∃ (c m : Int) (b : Bool), vs = [.int c, .int m, .bl b] ∧ 0 < m ∧ m ≤ 401 ∧ ∀ l H', Same H H' → l.length ≤ 403 → Q (.str (tx l)) H'
theorem rep_len (l : List Nat) (n : Nat) : (List.replicate n l).flatten.length = n * l.length := by
  rw [List.length_flatten, List.map_replicate, List.sum_replicate_nat]
theorem ok_l_part (T : Txt K mg) : FnOk P w K mg base CX0 2 T.f_l_part T.d_l_part ["_law_cell_here", "_law_most", "_law_odd"] sp_part := by
  refine T.F_l_part.ok sc_l_part (fun vs H Q E h => ?_) (fun cdv A outer s H vs Q E hr h => ?_)
  · obtain ⟨c, m, b, rfl, _⟩ := h
    rfl
  · obtain ⟨c, m, b, rfl, h0, h1, q⟩ := h
    refine ⟨_, (pss_cons (ps_set (i := 3) sc_l_part.nd rfl (Or.inl rfl) (pe_op op_mod (pv 0) pe_int))
      (pss_cons (ps_set (i := 4) sc_l_part.nd rfl (Or.inl rfl) (pe_op op_mod (pe_op op_fdiv (pv 0) pe_int) (pv 1)))
      (pss_cons (ps_if (PW.pt (pw_or (pt_cmpR op_eq (pv 3) pe_int (nomark _)) (pw_or1 (pt_cmpR op_eq (pv 3) pe_int (nomark _))))) (pss_one (ps_ret (pe_op op_add_str (pe_ix ix_list (pe_lst (pa_cons (pe_op op_repS pe_str (pv 4)) (pa_cons (pe_op op_repS pe_str (pe_op op_fdiv (pv 4) pe_int)) pa_nil))) (pe_op op_sub (pv 3) pe_int) (fun _ _ => rfl)) pe_str))) pss_nil)
      (pss_cons (ps_if (PW.pt (pw_and (pt_cmpR op_eq (pv 3) pe_int (nomark _)) (pw_and1 (pt_val (pv 2))))) (pss_one (ps_ret (pe_call (ok_l_sign_by T) (hr.mono (by decide)) (by rfl) T.g_l_sign_by T.F_l_sign_by.kp T.b_l_sign_by .nil pass0 (pa_cons (pe_op op_fdiv (pv 0) pe_int) pa_nil)))) pss_nil)
      (pss_one (ps_ret (pe_ix ix_list (pe_lst (pa_cons pe_str (pa_cons pe_str (pa_cons pe_str (pa_cons pe_str (pa_cons pe_str (pa_cons pe_str (pa_cons pe_str (pa_cons pe_str (pa_cons pe_str pa_nil)))))))))) (pv 3) (fun _ _ => rfl)))))))), ?_⟩
    refine xq_set (by walk_at "val") ?_
    have hw : 0 ≤ c % 9 ∧ c % 9 < 9 := ⟨Int.emod_nonneg _ (by decide), Int.emod_lt_of_pos _ (by decide)⟩
    generalize c % 9 = way at hw
    refine xq_set (xv_I (C := fun _ j => 0 < j) (xv_I (val_var (i := 0) rfl) val_c (by exact ⟨by decide, by decide⟩)) (val_var (i := 1) rfl) h0) ?_
    have hy : 0 ≤ c / 9 % m ∧ c / 9 % m < m := ⟨Int.emod_nonneg _ (by omega), Int.emod_lt_of_pos _ h0⟩
    generalize c / 9 % m = many at hy
    refine xs_when (b := decide (way = 4) || decide (way = 5)) (xa_or (xa_T (xv_to (xv_eq (val_var (i := 3) rfl) val_c rfl) (congrArg V.bl (decide_eq_decide.mpr ⟨V.int.inj, congrArg V.int⟩)))) fun _ => xa_T (xv_to (xv_eq (val_var (i := 3) rfl) val_c rfl) (congrArg V.bl (decide_eq_decide.mpr ⟨V.int.inj, congrArg V.int⟩)))) (fun hc => ?_) (fun _ => ?_)
    · rw [Bool.or_eq_true, decide_eq_true_eq, decide_eq_true_eq] at hc
      refine xr_ret (xr_opT (xr_opT ?_))
      have ev : ∀ {σ : L2.St} {H : Hp} {l : List Nat} {s : Str} {i : Int} {tb : TE}, s = tx l → l.length ≤ 2 → 0 ≤ i → i ≤ 400 → (∀ H1, Same H H1 → Val tb σ H1 (.int i)) → Evl.Ev (tOp rRepS (tC (.str s)) tb) σ H (.str (tx (List.replicate i.toNat l).flatten)) := fun hs hl h0 h1 h H1 e1 Q q =>
        xv_repS (xv_cS hs) (h H1 e1) h0 (by omega) (Nat.le_trans (Nat.mul_le_mul hl (show Int.toNat _ ≤ 400 by omega)) (by decide)) _ (q H1 (Evl.Ex.refl H1))
      refine (Evl.el_lst (Evl.ea_cons (ev (l := [46]) s_d (by decide) (i := many) hy.1 (by omega) fun H1 e1 => val_var (i := 4) rfl) (Evl.ea_cons (ev (l := [111, 46]) (s := "o.") (by decide +kernel) (by decide) (i := many / 2) (by omega) (by omega) fun H1 e1 => xv_I (C := CDiv) (g := fun i j => .int (i / j)) (val_var (i := 4) rfl) val_c (by exact ⟨by decide, by decide⟩)) Evl.ea_nil)) (by show 2 ≤ 100000; omega)) H (Evl.Ex.refl H) _ fun lw H1 nw e1 h1 => ?_
      have hat : ∃ l : List Nat, atI [V.str (tx (List.replicate many.toNat [46]).flatten), V.str (tx (List.replicate (many / 2).toNat [111, 46]).flatten)] (way - 4) = some (.str (tx l)) ∧ l.length ≤ 400 := by
        rcases hc with rfl | rfl
        · exact ⟨_, rfl, by rw [rep_len, List.length_singleton]; omega⟩
        · exact ⟨_, rfl, by rw [rep_len]; show _ * 2 ≤ _; omega⟩
      obtain ⟨l, hat, hl⟩ := hat
      refine xv_go (xv_I0 (val_var (i := 3) rfl) val_c) ⟨lw, _, _, .str (tx l), rfl, rfl, SqL.of h1, hat, ?_⟩
      refine xv_go (xv_cS (l := [46, 111, 111]) (by decide +kernel)) ⟨_, _, rfl, rfl, by rw [tx_len, tx_len]; exact Nat.le_trans (show l.length + 3 ≤ 1000 by omega) (by decide), ?_⟩
      rw [tx_app]
      exact q _ H1 e1 (by rw [List.length_append]; show _ + 3 ≤ _; omega)
    · refine xs_when (xa_and (xa_T (xv_eq (val_var (i := 3) rfl) val_c rfl)) fun _ => xa_B (val_var (i := 2) rfl)) (fun _ => ?_) (fun _ => ?_)
      · refine xr_ret (xr_callT (xg_go (xg_cons (xv_I (val_var (i := 0) rfl) val_c (by exact ⟨by decide, by decide⟩)) xg_nil) ⟨_, rfl, fun s => q [s] H (Same.refl H) (by show 1 ≤ 403; omega)⟩))
      · refine xr_ret (xr_opT ?_)
        refine (Evl.el_lst (Evl.ea_cons Evl.ev_c (Evl.ea_cons Evl.ev_c (Evl.ea_cons Evl.ev_c (Evl.ea_cons Evl.ev_c (Evl.ea_cons Evl.ev_c (Evl.ea_cons Evl.ev_c (Evl.ea_cons Evl.ev_c (Evl.ea_cons Evl.ev_c (Evl.ea_cons Evl.ev_c Evl.ea_nil))))))))) (by show 9 ≤ 100000; omega)) H (Evl.Ex.refl H) _ fun lw H1 nw e1 h1 => ?_
        have hat : ∃ l : List Nat, atI [V.str "o", V.str ".", V.str "oo", V.str ".oo", V.str "", V.str "", V.str ".o", V.str "o.oo", V.str "oo"] way = some (.str (tx l)) ∧ l.length ≤ 403 := by
          rcases (show way = 0 ∨ way = 1 ∨ way = 2 ∨ way = 3 ∨ way = 4 ∨ way = 5 ∨ way = 6 ∨ way = 7 ∨ way = 8 by omega) with h | h | h | h | h | h | h | h | h <;> subst h <;> exact ⟨_, congrArg (fun z => some (V.str z)) (tx_cps _).symm, by decide +kernel⟩
        obtain ⟨l, hat, hl⟩ := hat
        exact xv_go (val_var (i := 3) rfl) ⟨lw, _, _, .str (tx l), rfl, rfl, SqL.of h1, hat, q l H1 e1 hl⟩
/-! ### a text changed -/
def sp_changed (K : PySem.W.Frag) : Sp := fun vs H Q _ => ∃ (l : List Nat) (a : Addr) (ns : List Int), vs = [.str (tx l), .ref a] ∧ SqL K H a (ns.map V.int) ∧ l.length ≤ 10000 ∧ ∀ m : List Nat, m.length ≤ l.length + 1 → Q (.str (tx m)) H
theorem ok_l_changed (T : Txt K mg) : FnOk P w K mg base CX0 2 T.f_l_changed T.d_l_changed ["_law_text", "_law_script"] (sp_changed K) := by
  refine T.F_l_changed.ok sc_l_changed (fun vs H Q E h => ?_) (fun cdv A outer s H vs Q E hr h => ?_)
  · obtain ⟨l, a, ns, rfl, _⟩ := h
    rfl
  · obtain ⟨l, a, ns, rfl, hS, hl, q⟩ := h
    refine ⟨_, (pss_cons (ps_set (i := 2) sc_l_changed.nd rfl (Or.inl rfl) (pe_op op_mod (pe_call (ok_l_cell T) (hr.mono (by decide)) (by rfl) T.g_l_cell T.F_l_cell.kp T.b_l_cell .nil pass0 (pa_cons (pv 1) (pa_cons pe_int pa_nil))) (pe_op op_add (pe_callB call_len (by rfl) T.m_len PySem.boot_len (pa_cons (pv 0) pa_nil)) pe_int)))
      (pss_cons (ps_set (i := 3) sc_l_changed.nd rfl (Or.inl rfl) (pe_ix ix_str pe_str (pe_op op_mod (pe_call (ok_l_cell T) (hr.mono (by decide)) (by rfl) T.g_l_cell T.F_l_cell.kp T.b_l_cell .nil pass0 (pa_cons (pv 1) (pa_cons pe_int pa_nil))) pe_int) (fun _ _ => rfl)))
      (Evl.pss_cut (ps_if (pt_cmpR op_eq (pe_op op_mod (pe_call (ok_l_cell T) (hr.mono (by decide)) (by rfl) T.g_l_cell T.F_l_cell.kp T.b_l_cell .nil pass0 (pa_cons (pv 1) (pa_cons pe_int pa_nil))) pe_int) pe_int (nomark _)) (pss_one (ps_set (i := 3) sc_l_changed.nd rfl (Or.inl rfl) (pe_call (ok_l_sign_by T) (hr.mono (by decide)) (by rfl) T.g_l_sign_by T.F_l_sign_by.kp T.b_l_sign_by .nil pass0 (pa_cons (pe_call (ok_l_cell T) (hr.mono (by decide)) (by rfl) T.g_l_cell T.F_l_cell.kp T.b_l_cell .nil pass0 (pa_cons (pv 1) (pa_cons pe_int pa_nil))) pa_nil)))) pss_nil)
      (pss_cons (ps_set (i := 4) sc_l_changed.nd rfl (Or.inl rfl) (pe_op op_mod (pe_call (ok_l_cell T) (hr.mono (by decide)) (by rfl) T.g_l_cell T.F_l_cell.kp T.b_l_cell .nil pass0 (pa_cons (pv 1) (pa_cons pe_int pa_nil))) pe_int))
      (pss_cons (ps_if (pt_cmpR op_eq (pv 4) pe_int (nomark _)) (pss_one (ps_ret (pe_op op_add_str (pe_op op_add_str (pe_slice sl_str (pv 0) po_none (po_some (pv 2))) (pv 3)) (pe_slice sl_str (pv 0) (po_some (pv 2)) po_none)))) pss_nil)
      (pss_cons (ps_if (pt_cmpR op_eq (pv 4) pe_int (nomark _)) (pss_one (ps_ret (pe_op op_add_str (pe_slice sl_str (pv 0) po_none (po_some (pv 2))) (pe_slice sl_str (pv 0) (po_some (pe_op op_add (pv 2) pe_int)) po_none)))) pss_nil)
      (pss_cons (ps_if (pt_cmpR op_eq (pv 4) pe_int (nomark _)) (pss_one (ps_ret (pe_op op_add_str (pe_op op_add_str (pe_slice sl_str (pv 0) po_none (po_some (pv 2))) (pv 3)) (pe_slice sl_str (pv 0) (po_some (pe_op op_add (pv 2) pe_int)) po_none)))) pss_nil)
      (pss_one (ps_ret (pv 0)))))))))), ?_⟩
    have hp : 0 < (l.length : Int) + 1 := by omega
    refine xq_set (xv_I (C := fun _ j => 0 < j) (xv_cell (j := 41) (val_var (i := 1) rfl) val_c hS) (xv_I0 (xv_lenS (val_var (i := 0) rfl) (by omega)) val_c) hp) ?_
    have hpl : 0 ≤ ns.getD 41 0 % ((l.length : Int) + 1) ∧ ns.getD 41 0 % ((l.length : Int) + 1) < (l.length : Int) + 1 := ⟨Int.emod_nonneg _ (by omega), Int.emod_lt_of_pos _ hp⟩
    obtain ⟨k, hk⟩ : ∃ k : Nat, ns.getD 41 0 % ((l.length : Int) + 1) = (k : Int) := ⟨_, (Int.toNat_of_nonneg hpl.1).symm⟩
    rw [hk]
    have hm : 0 ≤ ns.getD 42 0 % 4 ∧ ns.getD 42 0 % 4 < 4 := ⟨Int.emod_nonneg _ (by decide), Int.emod_lt_of_pos _ (by decide)⟩
    obtain ⟨s0, hs0⟩ := atI_ok (l := [111, 46, 111, 46]) hm.1 (by show _ < (4 : Int); omega)
    refine xq_set (xv_ixS (xv_cS (l := [111, 46, 111, 46]) (by decide +kernel)) (xv_I (C := fun _ j => 0 < j) (g := fun i j => .int (i % j)) (xv_cell (j := 42) (val_var (i := 1) rfl) val_c hS) val_c (by decide)) (by show 4 ≤ 1000000; omega) hs0) ?_
    refine xs_cut (Mid := fun σ H' => ∃ s : Nat, σ = [some (.str (tx l)), some (.ref a), some (.int (k : Int)), some (.str (tx [s])), none] ∧ H' = H) ?_ ?_
    · refine xs_if (xa_T (xv_eq (xv_I (C := fun _ j => 0 < j) (g := fun i j => .int (i % j)) (xv_cell (j := 42) (val_var (i := 1) rfl) val_c hS) val_c (by decide)) val_c rfl)) (fun _ => ?_) (fun _ => ⟨s0, rfl, rfl⟩)
      exact xs_runT (xr_callT (xg_go (xg_cons (xv_cell (j := 43) (val_var (i := 1) rfl) val_c hS) xg_nil) ⟨_, rfl, fun s => ⟨s, rfl, rfl⟩⟩))
    rintro σ H' ⟨s1, rfl, rfl⟩
    refine xq_set (xv_I (C := fun _ j => 0 < j) (xv_cell (j := 44) (val_var (i := 1) rfl) val_c hS) val_c (by decide)) ?_
    generalize ns.getD 44 0 % 4 = way
    have hkl : k ≤ l.length := by omega
    have cl : ∀ {σ : L2.St} {ta tb : TE}, Val ta σ H' (.str (tx l)) → Val tb σ H' (.int (k : Int)) → Val (tSl rSlS ta (fun σ H Q => Q none H) (tPart tb)) σ H' (.str (tx (l.take k))) := fun h h2 => xv_to (xv_slS h (fun Q q => q) (bnd_some h2) (by omega)) (congrArg V.str (by
      rw [cut_tx, HT.sIx_none, HT.sIx_nat, Nat.min_eq_left hkl]
      rfl))
    have cr : ∀ {σ : L2.St} {ta tb : TE} {j : Nat}, Val ta σ H' (.str (tx l)) → Val tb σ H' (.int (j : Int)) → Val (tSl rSlS ta (tPart tb) (fun σ H Q => Q none H)) σ H' (.str (tx (l.drop (min j l.length)))) := fun h h2 => xv_to (xv_slS h (bnd_some h2) (fun Q q => q) (by omega)) (congrArg V.str (by
      rw [cut_tx, HT.sIx_none, HT.sIx_nat, List.take_of_length_le (by rw [List.length_drop]; omega)]))
    have h1 : (l.take k).length = k := by
      rw [List.length_take]
      omega
    refine xs_when (xa_T (xv_eq (val_var (i := 4) rfl) val_c rfl)) (fun _ => ?_) (fun _ => ?_)
    · refine st_ret (xv_addS (xv_addS (cl (val_var (i := 0) rfl) (val_var (i := 2) rfl)) (val_var (i := 3) rfl) (by rw [h1]; show _ + 1 ≤ _; omega)) (cr (j := k) (val_var (i := 0) rfl) (val_var (i := 2) rfl)) (by rw [List.length_append, h1, List.length_drop]; show _ + 1 + _ ≤ _; omega)) (q _ ?_)
      rw [List.length_append, List.length_append, h1, List.length_drop]
      show _ + 1 + _ ≤ _
      omega
    · refine xs_when (xa_T (xv_eq (val_var (i := 4) rfl) val_c rfl)) (fun _ => ?_) (fun _ => ?_)
      · refine st_ret (xv_addS (cl (val_var (i := 0) rfl) (val_var (i := 2) rfl)) (cr (j := k + 1) (val_var (i := 0) rfl) (xv_to (v := .int ((k : Int) + 1)) (by exact xv_I0 (g := fun i j => .int (i + j)) (val_var (i := 2) rfl) val_c) (congrArg V.int (by omega)))) (by rw [h1, List.length_drop]; omega)) (q _ ?_)
        rw [List.length_append, h1, List.length_drop]
        omega
      · refine xs_when (xa_T (xv_eq (val_var (i := 4) rfl) val_c rfl)) (fun _ => ?_) (fun _ => ?_)
        · refine st_ret (xv_addS (xv_addS (cl (val_var (i := 0) rfl) (val_var (i := 2) rfl)) (val_var (i := 3) rfl) (by rw [h1]; show _ + 1 ≤ _; omega)) (cr (j := k + 1) (val_var (i := 0) rfl) (xv_to (v := .int ((k : Int) + 1)) (by exact xv_I0 (g := fun i j => .int (i + j)) (val_var (i := 2) rfl) val_c) (congrArg V.int (by omega)))) (by rw [List.length_append, h1, List.length_drop]; show _ + 1 + _ ≤ _; omega)) (q _ ?_)
          rw [List.length_append, List.length_append, h1, List.length_drop]
          show _ + 1 + _ ≤ _
          omega
        · exact st_ret (val_var (i := 0) rfl) (q l (by omega))
/-! ### the text -/
def sp_made (K : PySem.W.Frag) : Sp := fun vs H Q _ => ∃ (a : Addr) (ns : List Int), vs = [.ref a] ∧ SqL K H a (ns.map V.int) ∧ ∀ H' (m : List Nat), Same H H' → m.length ≤ 4000 → Q (.str (tx m)) H'
theorem ok_l_made (T : Txt K mg) : FnOk P w K mg base CX0 3 T.f_l_made T.d_l_made ["_law_script"] (sp_made K) := by
  refine T.F_l_made.ok sc_l_made (fun vs H Q E h => ?_) (fun cdv A outer s H vs Q E hr h => ?_)
  · obtain ⟨a, ns, rfl, _⟩ := h
    rfl
  · obtain ⟨a, ns, rfl, hS, q⟩ := h
    refine ⟨_, (pss_cons (ps_set (i := 1) sc_l_made.nd rfl (Or.inr rfl) pe_int)
      (Evl.pss_cut (ps_if (pt_cmpR op_eq (pe_op op_mod (pe_call (ok_l_cell T) (hr.mono (by decide)) (by rfl) T.g_l_cell T.F_l_cell.kp T.b_l_cell .nil pass0 (pa_cons (pv 0) (pa_cons pe_int pa_nil))) pe_int) pe_int (nomark _)) (pss_one (ps_set (i := 1) sc_l_made.nd rfl (Or.inr rfl) pe_int)) pss_nil)
      (pss_cons (ps_set (i := 2) sc_l_made.nd rfl (Or.inr rfl) (pe_cmpR op_eq (pe_op op_mod (pe_call (ok_l_cell T) (hr.mono (by decide)) (by rfl) T.g_l_cell T.F_l_cell.kp T.b_l_cell .nil pass0 (pa_cons (pv 0) (pa_cons pe_int pa_nil))) pe_int) pe_int (nomark _)))
      (pss_cons (ps_set (i := 3) sc_l_made.nd rfl (Or.inl rfl) (pe_slice sl_str (pe_join pe_str (pe_lc (own := [("_law_cell_here", 4)]) (g := gName 4) (tt := tYes) rfl sc_l_made.nd (pi_list (pe_slice sl_list (pv 0) po_none (po_some pe_int))) (blkOk_by (N := ["_law_script", "_law_most", "_law_odd", "_law_text", "_law_cell_here"]) (sc := defScope st_l_made) (by decide +kernel)) (fun _ _ _ _ _ => pg_name (i := 4) sc_l_made.nd rfl (Or.inl rfl)) (fun _ _ _ _ _ => pts_nil) (fun _ _ _ _ _ => (pe_call (ok_l_part T) (hr.mono (by decide)) (by rfl) T.g_l_part T.F_l_part.kp T.b_l_part .nil pass0 (pa_cons (pv 4) (pa_cons (pv 1) (pa_cons (pv 2) pa_nil))))))) po_none (po_some pe_int)))
      (Evl.pss_cut (ps_if (pt_cmpR op_gt (pe_op op_mod (pe_call (ok_l_cell T) (hr.mono (by decide)) (by rfl) T.g_l_cell T.F_l_cell.kp T.b_l_cell .nil pass0 (pa_cons (pv 0) (pa_cons pe_int pa_nil))) pe_int) pe_int (nomark _)) (pss_one (ps_set (i := 3) sc_l_made.nd rfl (Or.inl rfl) (pe_op op_add_str (pv 3) pe_str))) pss_nil)
      (pss_one (ps_ret (pe_call (ok_l_changed T) (hr.mono (by decide)) (by rfl) T.g_l_changed T.F_l_changed.kp T.b_l_changed .nil pass0 (pa_cons (pv 3) (pa_cons (pv 0) pa_nil)))))))))), ?_⟩
    refine xq_set val_c ?_
    refine xs_cut (Mid := fun σ H' => ∃ m : Int, σ = [some (.ref a), some (.int m), none, none, none] ∧ H' = H ∧ 0 < m ∧ m ≤ 401) ?_ ?_
    · refine xs_if (xa_T (xv_eq (xv_I (C := fun _ j => 0 < j) (g := fun i j => .int (i % j)) (xv_cell (j := 40) (val_var (i := 0) rfl) val_c hS) val_c (by decide)) val_c rfl)) (fun _ => st_set val_c ⟨401, rfl, rfl, by decide, by decide⟩) (fun _ => ⟨31, rfl, rfl, by decide, by decide⟩)
    rintro σ H' ⟨m, rfl, rfl, hm0, hm1⟩
    refine xq_set (xv_eq (xv_I (C := fun _ j => 0 < j) (g := fun i j => .int (i % j)) (xv_cell (j := 45) (val_var (i := 0) rfl) val_c hS) val_c (by decide)) val_c rfl) ?_
    generalize decide (V.int (ns.getD 45 0 % 3) = V.int 1) = b
    have hcl : (ns.take 40).length ≤ 40 := by
      rw [List.length_take]
      omega
    refine xq_asgT (g := gName 3) ?_
    refine ⟨⟨_, rfl⟩, ?_⟩
    refine xs_lcTx (K := K) (B := 403) (j := 4) (ws := [4]) (ms := ns.take 40) (by
      have h := Evl.el_sl (Evl.ev_var (σ := [some (.ref a), some (.int m), some (.bl b), none, none]) (i := 0) rfl) Evl.eo_none (Evl.eo_some (Evl.ev_c (v := V.int 40))) hS
      rw [show cutV (ns.map V.int) none (some 40) = (ns.take 40).map V.int by rw [List.map_take]; exact cut_hi _ 40] at h
      exact h) (by omega) (fun _ => rfl) (fun x H1 e1 hx Q q => xr_callT (xg_go (xg_cons (val_var (i := 4) rfl) (xg_cons (val_var (i := 1) rfl) (xg_cons (val_var (i := 2) rfl) xg_nil))) ⟨x, m, b, rfl, hm0, hm1, fun l H2 e2 hl => q l H2 e2 hl⟩)) fun p ys H1 e1 h1 hyl hyb => ?_
    have hfl := flat_len ys hyb
    have hys : ys.length * 403 ≤ 40 * 403 := Nat.mul_le_mul_right _ (by omega)
    refine ⟨_, p, ys.map tx, rfl, rfl, .inl (join_sq (SqL.of h1)), join_sz s_e (by omega), ?_⟩
    rw [join_txt s_e]
    refine ⟨_, rfl, ⟨_, rfl, by rw [tx_len]; exact Nat.le_trans (show ys.flatten.length ≤ 1000000 by omega) (by decide), ?_⟩⟩
    have hcut : cutS (tx ys.flatten) none (some 3900) = tx (ys.flatten.take (min 3900 ys.flatten.length)) := by
      rw [cut_tx, HT.sIx_none, show (some (3900 : Int)) = some ((3900 : Nat) : Int) from rfl, HT.sIx_nat]
      rfl
    rw [hcut]
    have htl : (ys.flatten.take (min 3900 ys.flatten.length)).length ≤ 3900 := by
      rw [List.length_take]
      omega
    generalize ys.flatten.take (min 3900 ys.flatten.length) = l at htl
    have hS1 := Same.seq e1 hS
    refine xs_cut (Mid := fun σ H' => ∃ l : List Nat, σ = [some (.ref a), some (.int m), some (.bl b), some (.str (tx l)), none] ∧ H' = H1 ∧ l.length ≤ 3903) ?_ ?_
    · refine xs_if (xa_T (xv_I0 (xv_I (C := fun _ j => 0 < j) (g := fun i j => .int (i % j)) (xv_cell (j := 46) (val_var (i := 0) rfl) val_c hS1) val_c (by decide)) val_c)) (fun _ => ?_) (fun _ => ⟨l, rfl, rfl, by omega⟩)
      exact st_set (xv_addS (val_var (i := 3) rfl) (xv_cS (l := [46, 111, 111]) (by decide +kernel)) (by show _ + 3 ≤ _; omega)) ⟨_, rfl, rfl, by rw [List.length_append]; show _ + 3 ≤ _; omega⟩
    rintro σ H' ⟨l, rfl, rfl, hl⟩
    exact xr_ret (xr_callT (xg_go (xg_cons (val_var (i := 3) rfl) (xg_cons (val_var (i := 0) rfl) xg_nil)) ⟨l, a, ns, rfl, hS1, by omega, fun n hn => q H' n e1 (by omega)⟩))
/-! ### is it odd -/
def sp_odd : Sp := fun vs H Q _ => ∃ l : List Nat, vs = [.str (tx l)] ∧ Q (.bl (oddB l)) H
theorem ok_l_is_odd (T : Txt K mg) : FnOk P w K mg base CX0 1 T.f_l_is_odd T.d_l_is_odd ["_law_text"] sp_odd := by
  refine T.F_l_is_odd.ok sc_l_is_odd (fun vs H Q E h => ?_) (fun cdv A outer s H vs Q E hr h => ?_)
  · obtain ⟨l, rfl, _⟩ := h
    rfl
  · obtain ⟨l, rfl, q⟩ := h
    refine ⟨_, (pss_cons (ps_for PassesOwn.never rfl (pi_str (pv 0)) (pg_name (i := 1) sc_l_is_odd.nd rfl (Or.inl rfl)) (pss_one (ps_if (PW.pt (pw_and (pt_cmpR op_ne (pv 1) pe_str (nomark _)) (pw_and1 (pt_cmpR op_ne (pv 1) pe_str (nomark _))))) (pss_one (ps_ret pe_bl)) pss_nil)))
      (pss_one (ps_ret pe_bl))), ?_⟩
    refine xq_forS (l := l) (val_var rfl) (fun i σ H' => ∃ y, σ = [some (.str (tx l)), y] ∧ H' = H ∧ oddB (l.take i) = false) ⟨none, rfl, rfl, rfl⟩ ?_ ?_
    · rintro i c σ H' hc ⟨y, rfl, rfl, ho⟩
      have hod := odd_take hc
      rw [ho, Bool.false_or] at hod
      refine xs_if (b := oddC c) (xa_and (xa_T (xv_neS (val_var (i := 1) rfl) (xv_cS s_o))) fun _ => xa_T (xv_neS (val_var (i := 1) rfl) (xv_cS s_d))) (fun h => ?_) (fun h => ?_)
      · rw [odd_stop (i + 1) (hod.trans h)] at q
        exact st_ret val_c q
      · exact ⟨_, rfl, rfl, hod.trans h⟩
    · rintro σ H' ⟨y, rfl, rfl, ho⟩
      rw [List.take_length] at ho
      rw [ho] at q
      exact st_ret val_c q
/-! ### the law's own reading -/
def sp_lread : Sp := fun vs H Q _ => ∃ l : List Nat, vs = [.str (tx l)] ∧ l.length ≤ 20000 ∧ ∀ H' p n, Same H H' → H' p = some (.tup [.ref n, .bl (!decide ((rd [] l).2 = []))]) → H n = none → H' n = some (.lst ((rd [] l).1.map V.int)) → Q (.ref p) H'
theorem ok_l_read (T : Txt K mg) : FnOk P w K mg base CX0 1 T.f_l_read T.d_l_read ["_law_text"] sp_lread := by
  refine T.F_l_read.ok sc_l_read (fun vs H Q E h => ?_) (fun cdv A outer s H vs Q E hr h => ?_)
  · obtain ⟨l, rfl, _⟩ := h
    rfl
  · obtain ⟨l, rfl, hl, q⟩ := h
    refine ⟨_, (pss_cons (ps_set (i := 1) sc_l_read.nd rfl (Or.inl rfl) (pe_lst pa_nil))
      (pss_cons (ps_set (i := 2) sc_l_read.nd rfl (Or.inl rfl) pe_int)
      (pss_cons (ps_set (i := 3) sc_l_read.nd rfl (Or.inl rfl) pe_int)
      (pss_cons (ps_set (i := 4) sc_l_read.nd rfl (Or.inl rfl) pe_int)
      (pss_cons (ps_set (i := 5) sc_l_read.nd rfl (Or.inl rfl) pe_bl)
      (pss_cons (ps_set (i := 6) sc_l_read.nd rfl (Or.inl rfl) pe_bl)
      (pss_cons (ps_for PassesOwn.never rfl (pi_str (pv 0)) (pg_name (i := 7) sc_l_read.nd rfl (Or.inl rfl)) (pss_cons (ps_set (i := 6) sc_l_read.nd rfl (Or.inl rfl) (pe_or (pe_not (pv 5)) (pe_one (pe_cmpR op_ne (pv 7) pe_str (nomark _)))))
      (pss_one (ps_if (pt_val (pv 6)) (pss_cons (ps_set (i := 5) sc_l_read.nd rfl (Or.inl rfl) (pe_cmpR op_eq (pv 7) pe_str (nomark _)))
      (pss_cons (ps_set (i := 2) sc_l_read.nd rfl (Or.inl rfl) (pe_op op_add (pv 2) (pe_op op_mulW (pv 3) (pe_callTy call_int1 (by rfl) T.m_int (by decide +kernel) (pa_cons (pv 5) pa_nil)))))
      (pss_one (ps_par (i := 3) (j := 4) (by rfl) sc_l_read.nd rfl rfl (by decide) rfl rfl (pa_cons (pv 4) (pa_cons (pe_op op_add (pv 3) (pv 4)) pa_nil)) (by rfl))))) (pss_cons (ps_expr (pe_bm PySem.F.plainAttrs_list PySem.F.slot_list_append PySem.F.type_list_append mt_append (pv 1) (pa_cons (pv 2) pa_nil)))
      (pss_cons (ps_set (i := 2) sc_l_read.nd rfl (Or.inl rfl) pe_int)
      (pss_cons (ps_set (i := 3) sc_l_read.nd rfl (Or.inl rfl) pe_int)
      (pss_cons (ps_set (i := 4) sc_l_read.nd rfl (Or.inl rfl) pe_int)
      (pss_one (ps_set (i := 5) sc_l_read.nd rfl (Or.inl rfl) pe_bl))))))))))
      (pss_one (ps_ret (pe_tup (pa_cons (pv 1) (pa_cons (pv 6) pa_nil)))))))))))), ?_⟩
    refine Evl.q_asgL (Evl.el_lst Evl.ea_nil (by decide)) fun n H1 nn e1 h1 => ?_
    refine xq_set val_c ?_
    refine xq_set val_c ?_
    refine xq_set val_c ?_
    refine xq_set val_c ?_
    refine xq_set val_c ?_
    refine xq_forS (l := l) (val_var (i := 0) rfl) (fun i σ H' => ∃ y, σ = [some (.str (tx l)), some (.ref n), some (.int (wt (bits ((l.take i).foldl rstep ([], [])).2))), some (.int (W ((l.take i).foldl rstep ([], [])).2.length)), some (.int (W (((l.take i).foldl rstep ([], [])).2.length + 1))), some (.bl (full ((l.take i).foldl rstep ([], [])).2)), some (.bl (!decide (((l.take i).foldl rstep ([], [])).2 = []))), y] ∧ Same H H' ∧ H' n = some (.lst (((l.take i).foldl rstep ([], [])).1.map V.int))) ⟨none, rfl, e1, h1⟩ ?_ ?_
    · rintro i c σ H2 hc ⟨y, rfl, e2, h2⟩
      have hi : i < l.length := (List.getElem?_eq_some_iff.mp hc).1
      have hf := fold_take hc ([], [])
      have hlen := fold_len (l.take i) ([], [])
      have htl : (l.take i).length ≤ i := by
        rw [List.length_take]
        omega
      generalize (l.take i).foldl rstep ([], []) = s at h2 hf hlen
      obtain ⟨ms, kp⟩ := s
      have hn1 : ms.length ≤ 0 + (l.take i).length := hlen.1
      have hk1 : kp.length ≤ 0 + (l.take i).length := hlen.2
      refine xq_set (v := .bl (!full kp || !decide ([c] = [111]))) (xv_or (xv_not (val_var (i := 5) rfl)) fun _ => xv_neS (val_var (i := 7) rfl) (xv_cS s_o)) ?_
      refine xs_if (b := !full kp || !decide ([c] = [111])) (xa_B (val_var (i := 6) rfl)) (fun hb => ?_) (fun hb => ?_)
      · have hst : rstep (ms, kp) c = (ms, kp ++ [c]) := by
          unfold rstep
          rw [if_neg]
          intro z
          rw [Bool.and_eq_true] at z
          have z2 : full kp = true := z.2
          rw [z.1, z2] at hb
          cases hb
        have hcm : CMulW (W kp.length) (bitF c) := wide_mul (b := 2) (W_bitsN _) (by rcases bitF_01 c with e | e <;> rw [e] <;> decide) (by omega) (by decide) (by omega)
        refine xq_set (xv_eqS (val_var (i := 7) rfl) (xv_cS s_o)) ?_
        refine xq_set (xv_I0 (val_var (i := 2) rfl) (xv_I (val_var (i := 3) rfl) (xv_cb (v := .int (bitF c)) (xg_cons (val_var (i := 5) rfl) xg_nil) fun Q q => .inr ⟨_, rfl, q⟩) hcm)) ?_
        refine xs_par (xg_cons (val_var (i := 4) rfl) (xg_cons (xv_I0 (val_var (i := 3) rfl) (val_var (i := 4) rfl)) xg_nil)) ⟨some (.str (tx [c])), ?_, e2, by rw [hf, hst]; exact h2⟩
        have hb0 : (!decide (kp ++ [c] = [])) = true := by simp
        rw [hf, hst]
        dsimp only
        rw [bits_snoc, full_snoc, hb0, List.length_append, List.length_singleton, Int.mul_comm (bitF c), hb]
        rfl
      · have hfull : full kp = true ∧ decide ([c] = [111]) = true := by
          rw [Bool.or_eq_false_iff, Bool.not_eq_false', Bool.not_eq_false'] at hb
          exact hb
        have hst : rstep (ms, kp) c = (ms ++ [wt (bits kp)], []) := by
          unfold rstep
          rw [if_pos]
          show (decide ([c] = [111]) && full kp) = true
          rw [hfull.1, hfull.2]
          rfl
        refine Evl.q_app (l := n) h2 (Evl.ev_var (i := 1) rfl) (Evl.ev_var (i := 2) rfl) (by rw [List.length_map]; show ms.length < 100000; omega) fun H3 e3 => ?_
        refine xq_set val_c ?_
        refine xq_set val_c ?_
        refine xq_set val_c ?_
        refine st_set val_c ⟨some (.str (tx [c])), ?_, same_mut (Same.trans e2 e3) nn, ?_⟩
        · rw [hf, hst, hb]
          rfl
        · rw [hf, hst, upd_same, List.map_append]
          rfl
    · rintro σ H2 ⟨y, rfl, e2, h2⟩
      rw [List.take_length] at h2 ⊢
      refine Evl.s_retU (Evl.eu_tup (Evl.ea_cons (Evl.ev_var (i := 1) rfl) (Evl.ea_cons (Evl.ev_var (i := 6) rfl) Evl.ea_nil)) (by show 2 ≤ 100000; omega)) fun p H3 np e3 h3 => ?_
      exact q H3 p n (e2.trans e3) h3 nn (e3 n _ h2)
/-! ### refusals -/
def sp_nosign : Sp := fun vs H Q _ => ∃ l : List Nat, vs = [.str (tx l)] ∧ l.length ≤ 20000 ∧ oddB l = true ∧ Q (.bl true) H
theorem ok_l_no_sign (T : Txt K mg) : FnOk P w K mg base CX0 4 T.f_l_no_sign T.d_l_no_sign ["_law_text"] sp_nosign := by
  refine T.F_l_no_sign.ok sc_l_no_sign (fun vs H Q E h => ?_) (fun cdv A outer s H vs Q E hr h => ?_)
  · obtain ⟨l, rfl, _⟩ := h
    rfl
  · obtain ⟨l, rfl, hl, ho, q⟩ := h
    refine ⟨_, (pss_cons (ps_try_two (i := 1) rfl rfl sc_l_no_sign.nd rfl rfl (.cons ⟨rfl, by decide, Or.inl T.g_NoEnd⟩ (.cons ⟨rfl, by decide, Or.inl T.g_NoMove⟩ (.cons ⟨rfl, by decide, Or.inl T.g_NoNumber⟩ (.cons ⟨rfl, by decide, Or.inl T.g_Short⟩ .nil)))) told4 (by show 4 ≤ 1000; decide) ⟨rfl, by decide, Or.inl T.g_NoSign⟩ takes0 (fun W pn xe tk _ => (pss_one (ps_expr (by exact (pe_callS (ok_read T) (hr.mono (by decide)) (by rfl) T.g_read T.F_read.kp T.b_read (fun σ => passAt tk σ) (by exact (pa_cons (pv 0) pa_nil))))))) (fun a oe cls d pn hz hf => (pss_one (ps_ret (pe_and (pe_callB (call_isX rfl hz hf) (by rfl) T.m_isinstance (by decide +kernel) (pa_cons (pv 1) (pa_cons (pe_glob (v := .ref T.C_StairError) (by rfl) T.g_StairError rfl) pa_nil))) (pe_one (pe_callB (call_isX rfl hz hf) (by rfl) T.m_isinstance (by decide +kernel) (pa_cons (pv 1) (pa_cons (pe_bltn (v := .ty "ValueError") (by rfl) T.m_ValueError (by decide +kernel) rfl) pa_nil)))))))))
      (pss_one (ps_ret pe_bl))), ?_⟩
    refine xq_two (xg_cons (val_var (i := 0) rfl) xg_nil) ?_
    refine ⟨l, rfl, hl, fun _ => ?_, fun z => (nomatch ho.symm.trans z), fun z => (nomatch ho.symm.trans z)⟩
    refine ⟨any_no T.x_NoSign_NoEnd (any_no T.x_NoSign_NoMove (any_no T.x_NoSign_NoNumber (any_no T.x_NoSign_Short rfl))), true, T.x_NoSign_NoSign, fun _ e he => ?_, fun z => (nomatch z)⟩
    exact st_ret (xv_and (xv_isC (val_var rfl) T.E_NoSign T.i_NoSign_StairError) fun _ => xv_isT (val_var rfl) T.E_NoSign T.i_NoSign_VE) q
def sp_noend : Sp := fun vs H Q _ => ∃ l : List Nat, vs = [.str (tx l)] ∧ l.length ≤ 20000 ∧ oddB l = false ∧ (rd [] l).2 ≠ [] ∧ ∀ H', Same H H' → Q (.bl true) H'
theorem ok_l_no_end (T : Txt K mg) : FnOk P w K mg base CX0 4 T.f_l_no_end T.d_l_no_end ["_law_text"] sp_noend := by
  refine T.F_l_no_end.ok sc_l_no_end (fun vs H Q E h => ?_) (fun cdv A outer s H vs Q E hr h => ?_)
  · obtain ⟨l, rfl, _⟩ := h
    rfl
  · obtain ⟨l, rfl, hl, ho, hk, q⟩ := h
    refine ⟨_, (pss_cons (ps_try_two (i := 1) rfl rfl sc_l_no_end.nd rfl rfl (.cons ⟨rfl, by decide, Or.inl T.g_NoMove⟩ (.cons ⟨rfl, by decide, Or.inl T.g_NoNumber⟩ (.cons ⟨rfl, by decide, Or.inl T.g_NoSign⟩ (.cons ⟨rfl, by decide, Or.inl T.g_Short⟩ .nil)))) told4 (by show 4 ≤ 1000; decide) ⟨rfl, by decide, Or.inl T.g_NoEnd⟩ takes0 (fun W pn xe tk _ => (pss_one (ps_expr (by exact (pe_callS (ok_read T) (hr.mono (by decide)) (by rfl) T.g_read T.F_read.kp T.b_read (fun σ => passAt tk σ) (by exact (pa_cons (pv 0) pa_nil))))))) (fun a oe cls d pn hz hf => (pss_one (ps_ret (pe_and (pe_callB (call_isX rfl hz hf) (by rfl) T.m_isinstance (by decide +kernel) (pa_cons (pv 1) (pa_cons (pe_glob (v := .ref T.C_StairError) (by rfl) T.g_StairError rfl) pa_nil))) (pe_one (pe_callB (call_isX rfl hz hf) (by rfl) T.m_isinstance (by decide +kernel) (pa_cons (pv 1) (pa_cons (pe_bltn (v := .ty "ValueError") (by rfl) T.m_ValueError (by decide +kernel) rfl) pa_nil)))))))))
      (pss_one (ps_ret pe_bl))), ?_⟩
    refine xq_two (xg_cons (val_var (i := 0) rfl) xg_nil) ?_
    refine ⟨l, rfl, hl, fun z => (nomatch ho.symm.trans z), fun _ _ H1 e1 => ?_, fun _ z => absurd z hk⟩
    refine ⟨any_no T.x_NoEnd_NoMove (any_no T.x_NoEnd_NoNumber (any_no T.x_NoEnd_NoSign (any_no T.x_NoEnd_Short rfl))), true, T.x_NoEnd_NoEnd, fun _ e he => ?_, fun z => (nomatch z)⟩
    exact st_ret (xv_and (xv_isC (val_var rfl) T.E_NoEnd T.i_NoEnd_StairError) fun _ => xv_isT (val_var rfl) T.E_NoEnd T.i_NoEnd_VE) (q H1 e1)
/-! ### the law -/
def sp_law (K : PySem.W.Frag) : Sp := fun vs H Q _ => ∃ (a : Addr) (ns : List Int), vs = [.ref a] ∧ SqL K H a (ns.map V.int) ∧ ns.length ≤ 63 ∧ ∀ H', Q (.bl true) H'
theorem xv_alike {σ : L2.St} {H : Hp} {ta tb : TE} {a b : Addr} {ns : List Int} (h : Val ta σ H (.ref a)) (h2 : Val tb σ H (.ref b)) (hA : SqL K H a (ns.map V.int)) (hB : SqL K H b (ns.map V.int)) (hz : ns.length ≤ 100000) : Val (tCall (sp_alike K) [] E0 (tCons ta (tCons tb tNil))) σ H (.bl true) :=
  xv_call (xg_cons h (xg_cons h2 xg_nil)) fun Q q => ⟨a, b, ns, rfl, hA, hB, hz, q⟩
theorem ok_law (T : Txt K mg) : FnOk P w K mg base CX0 5 T.f_law T.d_law ["_law_script"] (sp_law K) := by
  refine T.F_law.ok sc_law (fun vs H Q E h => ?_) (fun cdv A outer s H vs Q E hr h => ?_)
  · obtain ⟨a, ns, rfl, _⟩ := h
    rfl
  · obtain ⟨a, ns, rfl, hS, hl, q⟩ := h
    refine ⟨_, (pss_cons (ps_set (i := 1) sc_law.nd rfl (Or.inl rfl) (pe_call (ok_l_made T) (hr.mono (by decide)) (by rfl) T.g_l_made T.F_l_made.kp T.b_l_made .nil pass0 (pa_cons (pv 0) pa_nil)))
      (pss_cons (ps_if (pt_val (pe_call (ok_l_is_odd T) (hr.mono (by decide)) (by rfl) T.g_l_is_odd T.F_l_is_odd.kp T.b_l_is_odd .nil pass0 (pa_cons (pv 1) pa_nil))) (pss_one (ps_ret (pe_call (ok_l_no_sign T) (hr.mono (by decide)) (by rfl) T.g_l_no_sign T.F_l_no_sign.kp T.b_l_no_sign .nil pass0 (pa_cons (pv 1) pa_nil)))) pss_nil)
      (pss_cons (ps_asg (pe_call (ok_l_read T) (hr.mono (by decide)) (by rfl) T.g_l_read T.F_l_read.kp T.b_l_read .nil pass0 (pa_cons (pv 1) pa_nil)) (pg_tup rfl (pgs_cons (pg_name (i := 2) sc_law.nd rfl (Or.inl rfl)) (pgs_cons (pg_name (i := 3) sc_law.nd rfl (Or.inl rfl)) pgs_nil))))
      (pss_cons (ps_if (pt_val (pv 3)) (pss_one (ps_ret (pe_and (pe_call (ok_l_no_end T) (hr.mono (by decide)) (by rfl) T.g_l_no_end T.F_l_no_end.kp T.b_l_no_end .nil pass0 (pa_cons (pv 1) pa_nil)) (pe_one (pe_call (ok_l_alike T) (hr.mono (by decide)) (by rfl) T.g_l_alike T.F_l_alike.kp T.b_l_alike .nil pass0 (pa_cons (pe_call (ok_read T) (hr.mono (by decide)) (by rfl) T.g_read T.F_read.kp T.b_read .nil passL (pa_cons pe_str pa_nil)) (pa_cons (pe_lst (pa_cons pe_int pa_nil)) pa_nil))))))) pss_nil)
      (pss_cons (ps_set (i := 4) sc_law.nd rfl (Or.inl rfl) (pe_call (ok_read T) (hr.mono (by decide)) (by rfl) T.g_read T.F_read.kp T.b_read .nil passL (pa_cons (pv 1) pa_nil)))
      (pss_cons (ps_if (pt_not (pt_val (pe_call (ok_l_alike T) (hr.mono (by decide)) (by rfl) T.g_l_alike T.F_l_alike.kp T.b_l_alike .nil pass0 (pa_cons (pv 4) (pa_cons (pv 2) pa_nil))))) (pss_one (ps_ret pe_bl)) pss_nil)
      (pss_one (ps_ret (pe_and (pe_call (ok_l_alike T) (hr.mono (by decide)) (by rfl) T.g_l_alike T.F_l_alike.kp T.b_l_alike .nil pass0 (pa_cons (pe_call (ok_read T) (hr.mono (by decide)) (by rfl) T.g_read T.F_read.kp T.b_read .nil passL (pa_cons (pe_op op_add_str (pv 1) pe_str) pa_nil)) (pa_cons (pe_op op_cat (pv 2) (pe_lst (pa_cons pe_int pa_nil))) pa_nil))) (pe_one (pe_call (ok_l_alike T) (hr.mono (by decide)) (by rfl) T.g_l_alike T.F_l_alike.kp T.b_l_alike .nil pass0 (pa_cons (pv 4) (pa_cons (pv 2) pa_nil))))))))))))), ?_⟩
    refine xq_run (xr_call (xg_go (xg_cons (val_var (i := 0) rfl) xg_nil) ⟨a, ns, rfl, hS, fun H1 l e1 hll => ?_⟩))
    refine xs_when (xa_B (xv_call (xg_cons (val_var (i := 1) rfl) xg_nil) fun Q q => ⟨l, rfl, q⟩)) (fun ho => ?_) (fun ho => ?_)
    · exact xr_ret (xr_call (xg_go (xg_cons (val_var (i := 1) rfl) xg_nil) ⟨l, rfl, by omega, ho, q H1⟩))
    refine xq_asgT (xr_call (xg_go (xg_cons (val_var (i := 1) rfl) xg_nil) ⟨l, rfl, by omega, fun H2 p du e2 hp nd h2 => ?_⟩))
    refine ⟨p, _, rfl, SqT.of hp, rfl, _, _, rfl, _, _, rfl, rfl, ?_⟩
    have hlen := fold_len l ([], [])
    have hn1 : (rd [] l).1.length ≤ 0 + l.length := hlen.1
    refine xs_when (xa_B (val_var (i := 3) rfl)) (fun hk => ?_) (fun hk => ?_)
    · have hk : (rd [] l).2 ≠ [] := by simpa using hk
      refine xr_ret (xr_and (xr_call (xg_go (xg_cons (val_var (i := 1) rfl) xg_nil) ⟨l, rfl, by omega, ho, hk, fun H3 e3 => ⟨true, rfl, ?_⟩⟩)))
      refine iteT (xr_call (xr_cons (xr_call (xg_go (xg_cons (xv_cS (l := [111, 46, 111, 111]) (by decide +kernel)) xg_nil) ?_))))
      refine ⟨[111, 46, 111, 111], rfl, by show 4 ≤ 20000; omega, fun z => ?_, fun _ z => ?_, fun _ _ H4 r e4 nr h4 => ?_⟩
      · exact absurd z (by decide)
      · exact absurd (by rw [rd_4]) z
      · rw [rd_4] at h4
        refine xr_cons ?_
        refine (Evl.el_lst (Evl.ea_cons Evl.ev_c Evl.ea_nil) (by decide)) H4 (Evl.Ex.refl H4) _ fun c H5 nc e5 h5 => ?_
        exact xr_nilT ⟨r, c, [4], rfl, SqL.of (e5 r _ h4), SqL.of h5, by decide, q H5⟩
    · have hk : (rd [] l).2 = [] := by simpa using hk
      refine xq_run (xr_call (xg_go (xg_cons (val_var (i := 1) rfl) xg_nil) ?_))
      refine ⟨l, rfl, by omega, fun z => (nomatch ho.symm.trans z), fun _ z => absurd hk z, fun _ _ H3 fo e3 nf h3 => ?_⟩
      have d3 := e3 du _ h2
      refine xs_when (b := false) (xa_not (a := true) (xa_B (xv_alike (val_var (i := 4) rfl) (val_var (i := 2) rfl) (SqL.of h3) (SqL.of d3) (by omega)))) (fun z => (nomatch z)) (fun _ => ?_)
      have hoo := rd_oo (l := l) (ns := (rd [] l).1) (Prod.ext rfl hk)
      have hod : oddB (l ++ [46, 111, 111]) = false := by
        rw [odd_app, ho]
        decide
      refine xr_ret (xr_and (xr_call (xr_cons (xr_call (xg_go (xg_cons (xv_addS (val_var (i := 1) rfl) (xv_cS (l := [46, 111, 111]) (by decide +kernel)) (by show _ + 3 ≤ _; omega)) xg_nil) ?_)))))
      refine ⟨l ++ [46, 111, 111], rfl, by rw [List.length_append]; show _ + 3 ≤ _; omega, fun z => (nomatch hod.symm.trans z), fun _ z => absurd (by rw [hoo]) z, fun _ _ H4 r e4 nr h4 => ?_⟩
      rw [hoo] at h4
      refine xr_cons ?_
      refine xl_cat (Evl.ev_var (i := 2) rfl) (e4 du _ d3) (Evl.el_lst (Evl.ea_cons Evl.ev_c Evl.ea_nil) (by decide)) (by rw [List.length_map]; show _ + 1 ≤ _; omega) H4 (Evl.Ex.refl H4) _ fun c H5 nc e5 h5 => ?_
      refine xr_nilT ⟨r, c, (rd [] l).1 ++ [2], rfl, SqL.of (e5 r _ h4), SqL.of (by rw [h5, List.map_append]; rfl), by rw [List.length_append]; show _ + 1 ≤ _; omega, true, rfl, ?_⟩
      refine iteT (xv_go (xv_alike (val_var (i := 4) rfl) (val_var (i := 2) rfl) (SqL.of (e5 fo _ (e4 fo _ h3))) (SqL.of (e5 du _ (e4 du _ d3))) (by omega)) ?_)
      exact q H5
end
theorem all_mk {l : PySem.W.OpenLaw} {w : World} {K : PySem.W.Frag} {h : Heap} {mg : Str → Option Value} {fa : Addr} (X : K.In h) (G : h.Ns mainGlobals mg) (hfa : mg "law" = some (.ref fa))
    {C_StairError : Addr} (a_StairError : PySem.W.nsIn K mainGlobals "StairError" = some (some (.ref C_StairError)))
    (k_StairError : PySem.W.keepIn K (.ref C_StairError) = true) (x_StairError : PySem.W.excIn K C_StairError [.type "ValueError", .type "Exception", .type "BaseException", .type "object"] "ValueError.__new__" = true) (xb_StairError : PySem.W.subIn K (.ref C_StairError) (.type "BaseException") = some true) (xt_StairError : PySem.W.typeIn K (.ref C_StairError) = some (.type "type"))
    {C_NoMove : Addr} (a_NoMove : PySem.W.nsIn K mainGlobals "NoMove" = some (some (.ref C_NoMove)))
    (k_NoMove : PySem.W.keepIn K (.ref C_NoMove) = true) (x_NoMove : PySem.W.excIn K C_NoMove [.type "ValueError", .type "Exception", .type "BaseException", .type "object"] "ValueError.__new__" = true) (xb_NoMove : PySem.W.subIn K (.ref C_NoMove) (.type "BaseException") = some true) (xt_NoMove : PySem.W.typeIn K (.ref C_NoMove) = some (.type "type"))
    {C_NoNumber : Addr} (a_NoNumber : PySem.W.nsIn K mainGlobals "NoNumber" = some (some (.ref C_NoNumber)))
    (k_NoNumber : PySem.W.keepIn K (.ref C_NoNumber) = true) (x_NoNumber : PySem.W.excIn K C_NoNumber [.type "ValueError", .type "Exception", .type "BaseException", .type "object"] "ValueError.__new__" = true) (xb_NoNumber : PySem.W.subIn K (.ref C_NoNumber) (.type "BaseException") = some true) (xt_NoNumber : PySem.W.typeIn K (.ref C_NoNumber) = some (.type "type"))
    {C_Short : Addr} (a_Short : PySem.W.nsIn K mainGlobals "Short" = some (some (.ref C_Short)))
    (k_Short : PySem.W.keepIn K (.ref C_Short) = true) (x_Short : PySem.W.excIn K C_Short [.type "ValueError", .type "Exception", .type "BaseException", .type "object"] "ValueError.__new__" = true) (xb_Short : PySem.W.subIn K (.ref C_Short) (.type "BaseException") = some true) (xt_Short : PySem.W.typeIn K (.ref C_Short) = some (.type "type"))
    {C_NoSign : Addr} (a_NoSign : PySem.W.nsIn K mainGlobals "NoSign" = some (some (.ref C_NoSign)))
    (k_NoSign : PySem.W.keepIn K (.ref C_NoSign) = true) (x_NoSign : PySem.W.excIn K C_NoSign [.type "ValueError", .type "Exception", .type "BaseException", .type "object"] "ValueError.__new__" = true) (xb_NoSign : PySem.W.subIn K (.ref C_NoSign) (.type "BaseException") = some true) (xt_NoSign : PySem.W.typeIn K (.ref C_NoSign) = some (.type "type"))
    {C_NoEnd : Addr} (a_NoEnd : PySem.W.nsIn K mainGlobals "NoEnd" = some (some (.ref C_NoEnd)))
    (k_NoEnd : PySem.W.keepIn K (.ref C_NoEnd) = true) (x_NoEnd : PySem.W.excIn K C_NoEnd [.type "ValueError", .type "Exception", .type "BaseException", .type "object"] "ValueError.__new__" = true) (xb_NoEnd : PySem.W.subIn K (.ref C_NoEnd) (.type "BaseException") = some true) (xt_NoEnd : PySem.W.typeIn K (.ref C_NoEnd) = some (.type "type"))
    {f_weight : Addr} (a_weight : PySem.W.nsIn K mainGlobals "weight" = some (some (.ref f_weight)))
    {od_weight an_weight : Option Addr} {sl_weight : Array (Option Value)} {oc_weight kV_weight dc_weight pm_weight cd_weight ct_weight : Value} (l_weight : K.lookup f_weight = some ⟨oc_weight, od_weight, .func (PySem.W.fnOf "weight" "weight" (defArgs st_weight) (defBody st_weight) (defScope st_weight) .none kV_weight dc_weight pm_weight an_weight cd_weight ct_weight), sl_weight⟩) (c_weight : PySem.W.codeIn K cd_weight "weight" = true) (k_weight : PySem.W.keepIn K (.ref f_weight) = true)
    {f_look_at : Addr} (a_look_at : PySem.W.nsIn K mainGlobals "look_at" = some (some (.ref f_look_at)))
    {od_look_at an_look_at : Option Addr} {sl_look_at : Array (Option Value)} {oc_look_at kV_look_at dc_look_at pm_look_at cd_look_at ct_look_at : Value} (l_look_at : K.lookup f_look_at = some ⟨oc_look_at, od_look_at, .func (PySem.W.fnOf "look_at" "look_at" (defArgs st_look_at) (defBody st_look_at) (defScope st_look_at) .none kV_look_at dc_look_at pm_look_at an_look_at cd_look_at ct_look_at), sl_look_at⟩) (c_look_at : PySem.W.codeIn K cd_look_at "look_at" = true) (k_look_at : PySem.W.keepIn K (.ref f_look_at) = true)
    {f_read_on : Addr} (a_read_on : PySem.W.nsIn K mainGlobals "read_on" = some (some (.ref f_read_on)))
    {od_read_on an_read_on : Option Addr} {sl_read_on : Array (Option Value)} {oc_read_on kV_read_on dc_read_on pm_read_on cd_read_on ct_read_on : Value} (l_read_on : K.lookup f_read_on = some ⟨oc_read_on, od_read_on, .func (PySem.W.fnOf "read_on" "read_on" (defArgs st_read_on) (defBody st_read_on) (defScope st_read_on) .none kV_read_on dc_read_on pm_read_on an_read_on cd_read_on ct_read_on), sl_read_on⟩) (c_read_on : PySem.W.codeIn K cd_read_on "read_on" = true) (k_read_on : PySem.W.keepIn K (.ref f_read_on) = true)
    {f_read : Addr} (a_read : PySem.W.nsIn K mainGlobals "read" = some (some (.ref f_read)))
    {od_read an_read : Option Addr} {sl_read : Array (Option Value)} {oc_read kV_read dc_read pm_read cd_read ct_read : Value} (l_read : K.lookup f_read = some ⟨oc_read, od_read, .func (PySem.W.fnOf "read" "read" (defArgs st_read) (defBody st_read) (defScope st_read) .none kV_read dc_read pm_read an_read cd_read ct_read), sl_read⟩) (c_read : PySem.W.codeIn K cd_read "read" = true) (k_read : PySem.W.keepIn K (.ref f_read) = true)
    {f_l_cell : Addr} (a_l_cell : PySem.W.nsIn K mainGlobals "_law_cell" = some (some (.ref f_l_cell)))
    {od_l_cell an_l_cell : Option Addr} {sl_l_cell : Array (Option Value)} {oc_l_cell kV_l_cell dc_l_cell pm_l_cell cd_l_cell ct_l_cell : Value} (l_l_cell : K.lookup f_l_cell = some ⟨oc_l_cell, od_l_cell, .func (PySem.W.fnOf "_law_cell" "_law_cell" (defArgs st_l_cell) (defBody st_l_cell) (defScope st_l_cell) .none kV_l_cell dc_l_cell pm_l_cell an_l_cell cd_l_cell ct_l_cell), sl_l_cell⟩) (c_l_cell : PySem.W.codeIn K cd_l_cell "_law_cell" = true) (k_l_cell : PySem.W.keepIn K (.ref f_l_cell) = true)
    {f_l_whole : Addr} (a_l_whole : PySem.W.nsIn K mainGlobals "_law_whole" = some (some (.ref f_l_whole)))
    {od_l_whole an_l_whole : Option Addr} {sl_l_whole : Array (Option Value)} {oc_l_whole kV_l_whole dc_l_whole pm_l_whole cd_l_whole ct_l_whole : Value} (l_l_whole : K.lookup f_l_whole = some ⟨oc_l_whole, od_l_whole, .func (PySem.W.fnOf "_law_whole" "_law_whole" (defArgs st_l_whole) (defBody st_l_whole) (defScope st_l_whole) .none kV_l_whole dc_l_whole pm_l_whole an_l_whole cd_l_whole ct_l_whole), sl_l_whole⟩) (c_l_whole : PySem.W.codeIn K cd_l_whole "_law_whole" = true) (k_l_whole : PySem.W.keepIn K (.ref f_l_whole) = true)
    {f_l_sign_by : Addr} (a_l_sign_by : PySem.W.nsIn K mainGlobals "_law_sign_by" = some (some (.ref f_l_sign_by)))
    {od_l_sign_by an_l_sign_by : Option Addr} {sl_l_sign_by : Array (Option Value)} {oc_l_sign_by kV_l_sign_by dc_l_sign_by pm_l_sign_by cd_l_sign_by ct_l_sign_by : Value} (l_l_sign_by : K.lookup f_l_sign_by = some ⟨oc_l_sign_by, od_l_sign_by, .func (PySem.W.fnOf "_law_sign_by" "_law_sign_by" (defArgs st_l_sign_by) (defBody st_l_sign_by) (defScope st_l_sign_by) .none kV_l_sign_by dc_l_sign_by pm_l_sign_by an_l_sign_by cd_l_sign_by ct_l_sign_by), sl_l_sign_by⟩) (c_l_sign_by : PySem.W.codeIn K cd_l_sign_by "_law_sign_by" = true) (k_l_sign_by : PySem.W.keepIn K (.ref f_l_sign_by) = true)
    {f_l_part : Addr} (a_l_part : PySem.W.nsIn K mainGlobals "_law_part" = some (some (.ref f_l_part)))
    {od_l_part an_l_part : Option Addr} {sl_l_part : Array (Option Value)} {oc_l_part kV_l_part dc_l_part pm_l_part cd_l_part ct_l_part : Value} (l_l_part : K.lookup f_l_part = some ⟨oc_l_part, od_l_part, .func (PySem.W.fnOf "_law_part" "_law_part" (defArgs st_l_part) (defBody st_l_part) (defScope st_l_part) .none kV_l_part dc_l_part pm_l_part an_l_part cd_l_part ct_l_part), sl_l_part⟩) (c_l_part : PySem.W.codeIn K cd_l_part "_law_part" = true) (k_l_part : PySem.W.keepIn K (.ref f_l_part) = true)
    {f_l_changed : Addr} (a_l_changed : PySem.W.nsIn K mainGlobals "_law_changed" = some (some (.ref f_l_changed)))
    {od_l_changed an_l_changed : Option Addr} {sl_l_changed : Array (Option Value)} {oc_l_changed kV_l_changed dc_l_changed pm_l_changed cd_l_changed ct_l_changed : Value} (l_l_changed : K.lookup f_l_changed = some ⟨oc_l_changed, od_l_changed, .func (PySem.W.fnOf "_law_changed" "_law_changed" (defArgs st_l_changed) (defBody st_l_changed) (defScope st_l_changed) .none kV_l_changed dc_l_changed pm_l_changed an_l_changed cd_l_changed ct_l_changed), sl_l_changed⟩) (c_l_changed : PySem.W.codeIn K cd_l_changed "_law_changed" = true) (k_l_changed : PySem.W.keepIn K (.ref f_l_changed) = true)
    {f_l_made : Addr} (a_l_made : PySem.W.nsIn K mainGlobals "_law_made" = some (some (.ref f_l_made)))
    {od_l_made an_l_made : Option Addr} {sl_l_made : Array (Option Value)} {oc_l_made kV_l_made dc_l_made pm_l_made cd_l_made ct_l_made : Value} (l_l_made : K.lookup f_l_made = some ⟨oc_l_made, od_l_made, .func (PySem.W.fnOf "_law_made" "_law_made" (defArgs st_l_made) (defBody st_l_made) (defScope st_l_made) .none kV_l_made dc_l_made pm_l_made an_l_made cd_l_made ct_l_made), sl_l_made⟩) (c_l_made : PySem.W.codeIn K cd_l_made "_law_made" = true) (k_l_made : PySem.W.keepIn K (.ref f_l_made) = true)
    {f_l_is_odd : Addr} (a_l_is_odd : PySem.W.nsIn K mainGlobals "_law_is_odd" = some (some (.ref f_l_is_odd)))
    {od_l_is_odd an_l_is_odd : Option Addr} {sl_l_is_odd : Array (Option Value)} {oc_l_is_odd kV_l_is_odd dc_l_is_odd pm_l_is_odd cd_l_is_odd ct_l_is_odd : Value} (l_l_is_odd : K.lookup f_l_is_odd = some ⟨oc_l_is_odd, od_l_is_odd, .func (PySem.W.fnOf "_law_is_odd" "_law_is_odd" (defArgs st_l_is_odd) (defBody st_l_is_odd) (defScope st_l_is_odd) .none kV_l_is_odd dc_l_is_odd pm_l_is_odd an_l_is_odd cd_l_is_odd ct_l_is_odd), sl_l_is_odd⟩) (c_l_is_odd : PySem.W.codeIn K cd_l_is_odd "_law_is_odd" = true) (k_l_is_odd : PySem.W.keepIn K (.ref f_l_is_odd) = true)
    {f_l_read : Addr} (a_l_read : PySem.W.nsIn K mainGlobals "_law_read" = some (some (.ref f_l_read)))
    {od_l_read an_l_read : Option Addr} {sl_l_read : Array (Option Value)} {oc_l_read kV_l_read dc_l_read pm_l_read cd_l_read ct_l_read : Value} (l_l_read : K.lookup f_l_read = some ⟨oc_l_read, od_l_read, .func (PySem.W.fnOf "_law_read" "_law_read" (defArgs st_l_read) (defBody st_l_read) (defScope st_l_read) .none kV_l_read dc_l_read pm_l_read an_l_read cd_l_read ct_l_read), sl_l_read⟩) (c_l_read : PySem.W.codeIn K cd_l_read "_law_read" = true) (k_l_read : PySem.W.keepIn K (.ref f_l_read) = true)
    {f_l_no_sign : Addr} (a_l_no_sign : PySem.W.nsIn K mainGlobals "_law_no_sign" = some (some (.ref f_l_no_sign)))
    {od_l_no_sign an_l_no_sign : Option Addr} {sl_l_no_sign : Array (Option Value)} {oc_l_no_sign kV_l_no_sign dc_l_no_sign pm_l_no_sign cd_l_no_sign ct_l_no_sign : Value} (l_l_no_sign : K.lookup f_l_no_sign = some ⟨oc_l_no_sign, od_l_no_sign, .func (PySem.W.fnOf "_law_no_sign" "_law_no_sign" (defArgs st_l_no_sign) (defBody st_l_no_sign) (defScope st_l_no_sign) .none kV_l_no_sign dc_l_no_sign pm_l_no_sign an_l_no_sign cd_l_no_sign ct_l_no_sign), sl_l_no_sign⟩) (c_l_no_sign : PySem.W.codeIn K cd_l_no_sign "_law_no_sign" = true) (k_l_no_sign : PySem.W.keepIn K (.ref f_l_no_sign) = true)
    {f_l_no_end : Addr} (a_l_no_end : PySem.W.nsIn K mainGlobals "_law_no_end" = some (some (.ref f_l_no_end)))
    {od_l_no_end an_l_no_end : Option Addr} {sl_l_no_end : Array (Option Value)} {oc_l_no_end kV_l_no_end dc_l_no_end pm_l_no_end cd_l_no_end ct_l_no_end : Value} (l_l_no_end : K.lookup f_l_no_end = some ⟨oc_l_no_end, od_l_no_end, .func (PySem.W.fnOf "_law_no_end" "_law_no_end" (defArgs st_l_no_end) (defBody st_l_no_end) (defScope st_l_no_end) .none kV_l_no_end dc_l_no_end pm_l_no_end an_l_no_end cd_l_no_end ct_l_no_end), sl_l_no_end⟩) (c_l_no_end : PySem.W.codeIn K cd_l_no_end "_law_no_end" = true) (k_l_no_end : PySem.W.keepIn K (.ref f_l_no_end) = true)
    {f_l_alike : Addr} (a_l_alike : PySem.W.nsIn K mainGlobals "_law_alike" = some (some (.ref f_l_alike)))
    {od_l_alike an_l_alike : Option Addr} {sl_l_alike : Array (Option Value)} {oc_l_alike kV_l_alike dc_l_alike pm_l_alike cd_l_alike ct_l_alike : Value} (l_l_alike : K.lookup f_l_alike = some ⟨oc_l_alike, od_l_alike, .func (PySem.W.fnOf "_law_alike" "_law_alike" (defArgs st_l_alike) (defBody st_l_alike) (defScope st_l_alike) .none kV_l_alike dc_l_alike pm_l_alike an_l_alike cd_l_alike ct_l_alike), sl_l_alike⟩) (c_l_alike : PySem.W.codeIn K cd_l_alike "_law_alike" = true) (k_l_alike : PySem.W.keepIn K (.ref f_l_alike) = true)
    {f_law : Addr} (a_law : PySem.W.nsIn K mainGlobals "law" = some (some (.ref f_law)))
    {od_law an_law : Option Addr} {sl_law : Array (Option Value)} {oc_law kV_law dc_law pm_law cd_law ct_law : Value} (l_law : K.lookup f_law = some ⟨oc_law, od_law, .func (PySem.W.fnOf "law" "law" (defArgs st_law) (defBody st_law) (defScope st_law) .none kV_law dc_law pm_law an_law cd_law ct_law), sl_law⟩) (c_law : PySem.W.codeIn K cd_law "law" = true) (k_law : PySem.W.keepIn K (.ref f_law) = true)
    (z_len : PySem.W.nsIn K mainGlobals "len" = some none)
    (z_isinstance : PySem.W.nsIn K mainGlobals "isinstance" = some none)
    (z_int : PySem.W.nsIn K mainGlobals "int" = some none)
    (z_bool : PySem.W.nsIn K mainGlobals "bool" = some none)
    (z_ValueError : PySem.W.nsIn K mainGlobals "ValueError" = some none)
    (z_list : PySem.W.nsIn K mainGlobals "list" = some none)
    (z_range : PySem.W.nsIn K mainGlobals "range" = some none)
    (cl_StairError : PySem.W.isClsIn K C_StairError = true)
    (hd_StairError : PySem.W.hasDictIn K C_StairError = true)
    (cl_NoMove : PySem.W.isClsIn K C_NoMove = true)
    (hd_NoMove : PySem.W.hasDictIn K C_NoMove = true)
    (cl_NoNumber : PySem.W.isClsIn K C_NoNumber = true)
    (hd_NoNumber : PySem.W.hasDictIn K C_NoNumber = true)
    (cl_Short : PySem.W.isClsIn K C_Short = true)
    (hd_Short : PySem.W.hasDictIn K C_Short = true)
    (cl_NoSign : PySem.W.isClsIn K C_NoSign = true)
    (hd_NoSign : PySem.W.hasDictIn K C_NoSign = true)
    (cl_NoEnd : PySem.W.isClsIn K C_NoEnd = true)
    (hd_NoEnd : PySem.W.hasDictIn K C_NoEnd = true)
    (s_NoSign_StairError : PySem.W.subIn K (.ref C_NoSign) (.ref C_StairError) = some true)
    (s_NoSign_NoMove : PySem.W.subIn K (.ref C_NoSign) (.ref C_NoMove) = some false)
    (s_NoSign_NoNumber : PySem.W.subIn K (.ref C_NoSign) (.ref C_NoNumber) = some false)
    (s_NoSign_Short : PySem.W.subIn K (.ref C_NoSign) (.ref C_Short) = some false)
    (s_NoSign_NoSign : PySem.W.subIn K (.ref C_NoSign) (.ref C_NoSign) = some true)
    (s_NoSign_NoEnd : PySem.W.subIn K (.ref C_NoSign) (.ref C_NoEnd) = some false)
    (s_NoSign_VE : PySem.W.subIn K (.ref C_NoSign) (.type "ValueError") = some true)
    (s_NoEnd_StairError : PySem.W.subIn K (.ref C_NoEnd) (.ref C_StairError) = some true)
    (s_NoEnd_NoMove : PySem.W.subIn K (.ref C_NoEnd) (.ref C_NoMove) = some false)
    (s_NoEnd_NoNumber : PySem.W.subIn K (.ref C_NoEnd) (.ref C_NoNumber) = some false)
    (s_NoEnd_Short : PySem.W.subIn K (.ref C_NoEnd) (.ref C_Short) = some false)
    (s_NoEnd_NoSign : PySem.W.subIn K (.ref C_NoEnd) (.ref C_NoSign) = some false)
    (s_NoEnd_NoEnd : PySem.W.subIn K (.ref C_NoEnd) (.ref C_NoEnd) = some true)
    (s_NoEnd_VE : PySem.W.subIn K (.ref C_NoEnd) (.type "ValueError") = some true)
    (eg_NoSign : PySem.W.findIn K (.ref C_NoSign) "__getattribute__" = some (some (.builtin "BaseException.__getattribute__")))
    (ek_NoSign : PySem.W.findIn K (.ref C_NoSign) "__getattr__" = some none)
    (ea_NoSign : PySem.W.findIn K (.ref C_NoSign) "__class__" = some (some (.builtin "object.__class__")))
    (em_NoSign : PySem.W.mroIn K C_NoSign (.type "object") = some true)
    (eg_NoEnd : PySem.W.findIn K (.ref C_NoEnd) "__getattribute__" = some (some (.builtin "BaseException.__getattribute__")))
    (ek_NoEnd : PySem.W.findIn K (.ref C_NoEnd) "__getattr__" = some none)
    (ea_NoEnd : PySem.W.findIn K (.ref C_NoEnd) "__class__" = some (some (.builtin "object.__class__")))
    (em_NoEnd : PySem.W.mroIn K C_NoEnd (.type "object") = some true)
    (en_ : PySem.W.specialIn K (.builtin "object.__class__") "__get__" = some (some (.builtin "getset_descriptor.__get__")))
    (et_ : PySem.W.takesIn K (.builtin "object.__class__") = some true) :
    ∃ fd : FuncData, (∀ (s : Shared) (v : Value), BindsTo s fd ⟨[v], []⟩ [("_law_script", v)]) ∧ ∀ base : Heap, K.In base → base.Ns mainGlobals mg → FnOk l.prog w K mg base CX0 5 fa fd ["_law_script"] (sp_law K) := by
  have e := hfa.symm.trans (PySem.W.mg_of X G a_law)
  cases e
  let T : Txt K mg := { C_StairError := C_StairError, g_StairError := PySem.W.mg_of X G a_StairError, k_StairError := k_StairError, x_StairError := x_StairError, xb_StairError := xb_StairError, xt_StairError := xt_StairError, C_NoMove := C_NoMove, g_NoMove := PySem.W.mg_of X G a_NoMove, k_NoMove := k_NoMove, x_NoMove := x_NoMove, xb_NoMove := xb_NoMove, xt_NoMove := xt_NoMove, C_NoNumber := C_NoNumber, g_NoNumber := PySem.W.mg_of X G a_NoNumber, k_NoNumber := k_NoNumber, x_NoNumber := x_NoNumber, xb_NoNumber := xb_NoNumber, xt_NoNumber := xt_NoNumber, C_Short := C_Short, g_Short := PySem.W.mg_of X G a_Short, k_Short := k_Short, x_Short := x_Short, xb_Short := xb_Short, xt_Short := xt_Short, C_NoSign := C_NoSign, g_NoSign := PySem.W.mg_of X G a_NoSign, k_NoSign := k_NoSign, x_NoSign := x_NoSign, xb_NoSign := xb_NoSign, xt_NoSign := xt_NoSign, C_NoEnd := C_NoEnd, g_NoEnd := PySem.W.mg_of X G a_NoEnd, k_NoEnd := k_NoEnd, x_NoEnd := x_NoEnd, xb_NoEnd := xb_NoEnd, xt_NoEnd := xt_NoEnd, f_weight := f_weight, d_weight := _, F_weight := fun_mk (st := st_weight) l_weight c_weight k_weight, g_weight := PySem.W.mg_of X G a_weight, b_weight := (fun_mk (st := st_weight) l_weight c_weight k_weight).binds (ps := ["heap"]) (fun _ _ _ _ _ _ us hl => match us, hl with | [_], _ => rfl), f_look_at := f_look_at, d_look_at := _, F_look_at := fun_mk (st := st_look_at) l_look_at c_look_at k_look_at, g_look_at := PySem.W.mg_of X G a_look_at, b_look_at := (fun_mk (st := st_look_at) l_look_at c_look_at k_look_at).binds (ps := ["text"]) (fun _ _ _ _ _ _ us hl => match us, hl with | [_], _ => rfl), f_read_on := f_read_on, d_read_on := _, F_read_on := fun_mk (st := st_read_on) l_read_on c_read_on k_read_on, g_read_on := PySem.W.mg_of X G a_read_on, b_read_on := (fun_mk (st := st_read_on) l_read_on c_read_on k_read_on).binds (ps := ["kept", "piece"]) (fun _ _ _ _ _ _ us hl => match us, hl with | [_, _], _ => rfl), f_read := f_read, d_read := _, F_read := fun_mk (st := st_read) l_read c_read k_read, g_read := PySem.W.mg_of X G a_read, b_read := (fun_mk (st := st_read) l_read c_read k_read).binds (ps := ["text"]) (fun _ _ _ _ _ _ us hl => match us, hl with | [_], _ => rfl), f_l_cell := f_l_cell, d_l_cell := _, F_l_cell := fun_mk (st := st_l_cell) l_l_cell c_l_cell k_l_cell, g_l_cell := PySem.W.mg_of X G a_l_cell, b_l_cell := (fun_mk (st := st_l_cell) l_l_cell c_l_cell k_l_cell).binds (ps := ["_law_script", "_law_k"]) (fun _ _ _ _ _ _ us hl => match us, hl with | [_, _], _ => rfl), f_l_whole := f_l_whole, d_l_whole := _, F_l_whole := fun_mk (st := st_l_whole) l_l_whole c_l_whole k_l_whole, g_l_whole := PySem.W.mg_of X G a_l_whole, b_l_whole := (fun_mk (st := st_l_whole) l_l_whole c_l_whole k_l_whole).binds (ps := ["_law_found"]) (fun _ _ _ _ _ _ us hl => match us, hl with | [_], _ => rfl), f_l_sign_by := f_l_sign_by, d_l_sign_by := _, F_l_sign_by := fun_mk (st := st_l_sign_by) l_l_sign_by c_l_sign_by k_l_sign_by, g_l_sign_by := PySem.W.mg_of X G a_l_sign_by, b_l_sign_by := (fun_mk (st := st_l_sign_by) l_l_sign_by c_l_sign_by k_l_sign_by).binds (ps := ["_law_cell_here"]) (fun _ _ _ _ _ _ us hl => match us, hl with | [_], _ => rfl), f_l_part := f_l_part, d_l_part := _, F_l_part := fun_mk (st := st_l_part) l_l_part c_l_part k_l_part, g_l_part := PySem.W.mg_of X G a_l_part, b_l_part := (fun_mk (st := st_l_part) l_l_part c_l_part k_l_part).binds (ps := ["_law_cell_here", "_law_most", "_law_odd"]) (fun _ _ _ _ _ _ us hl => match us, hl with | [_, _, _], _ => rfl), f_l_changed := f_l_changed, d_l_changed := _, F_l_changed := fun_mk (st := st_l_changed) l_l_changed c_l_changed k_l_changed, g_l_changed := PySem.W.mg_of X G a_l_changed, b_l_changed := (fun_mk (st := st_l_changed) l_l_changed c_l_changed k_l_changed).binds (ps := ["_law_text", "_law_script"]) (fun _ _ _ _ _ _ us hl => match us, hl with | [_, _], _ => rfl), f_l_made := f_l_made, d_l_made := _, F_l_made := fun_mk (st := st_l_made) l_l_made c_l_made k_l_made, g_l_made := PySem.W.mg_of X G a_l_made, b_l_made := (fun_mk (st := st_l_made) l_l_made c_l_made k_l_made).binds (ps := ["_law_script"]) (fun _ _ _ _ _ _ us hl => match us, hl with | [_], _ => rfl), f_l_is_odd := f_l_is_odd, d_l_is_odd := _, F_l_is_odd := fun_mk (st := st_l_is_odd) l_l_is_odd c_l_is_odd k_l_is_odd, g_l_is_odd := PySem.W.mg_of X G a_l_is_odd, b_l_is_odd := (fun_mk (st := st_l_is_odd) l_l_is_odd c_l_is_odd k_l_is_odd).binds (ps := ["_law_text"]) (fun _ _ _ _ _ _ us hl => match us, hl with | [_], _ => rfl), f_l_read := f_l_read, d_l_read := _, F_l_read := fun_mk (st := st_l_read) l_l_read c_l_read k_l_read, g_l_read := PySem.W.mg_of X G a_l_read, b_l_read := (fun_mk (st := st_l_read) l_l_read c_l_read k_l_read).binds (ps := ["_law_text"]) (fun _ _ _ _ _ _ us hl => match us, hl with | [_], _ => rfl), f_l_no_sign := f_l_no_sign, d_l_no_sign := _, F_l_no_sign := fun_mk (st := st_l_no_sign) l_l_no_sign c_l_no_sign k_l_no_sign, g_l_no_sign := PySem.W.mg_of X G a_l_no_sign, b_l_no_sign := (fun_mk (st := st_l_no_sign) l_l_no_sign c_l_no_sign k_l_no_sign).binds (ps := ["_law_text"]) (fun _ _ _ _ _ _ us hl => match us, hl with | [_], _ => rfl), f_l_no_end := f_l_no_end, d_l_no_end := _, F_l_no_end := fun_mk (st := st_l_no_end) l_l_no_end c_l_no_end k_l_no_end, g_l_no_end := PySem.W.mg_of X G a_l_no_end, b_l_no_end := (fun_mk (st := st_l_no_end) l_l_no_end c_l_no_end k_l_no_end).binds (ps := ["_law_text"]) (fun _ _ _ _ _ _ us hl => match us, hl with | [_], _ => rfl), f_l_alike := f_l_alike, d_l_alike := _, F_l_alike := fun_mk (st := st_l_alike) l_l_alike c_l_alike k_l_alike, g_l_alike := PySem.W.mg_of X G a_l_alike, b_l_alike := (fun_mk (st := st_l_alike) l_l_alike c_l_alike k_l_alike).binds (ps := ["_law_found", "_law_due"]) (fun _ _ _ _ _ _ us hl => match us, hl with | [_, _], _ => rfl), f_law := _, d_law := _, F_law := fun_mk (st := st_law) l_law c_law k_law, g_law := PySem.W.mg_of X G a_law, b_law := (fun_mk (st := st_law) l_law c_law k_law).binds (ps := ["_law_script"]) (fun _ _ _ _ _ _ us hl => match us, hl with | [_], _ => rfl), m_len := PySem.W.mg_none_of X G z_len, m_isinstance := PySem.W.mg_none_of X G z_isinstance, m_int := PySem.W.mg_none_of X G z_int, m_bool := PySem.W.mg_none_of X G z_bool, m_ValueError := PySem.W.mg_none_of X G z_ValueError, m_list := PySem.W.mg_none_of X G z_list, m_range := PySem.W.mg_none_of X G z_range, eg_NoSign := eg_NoSign, ek_NoSign := ek_NoSign, ea_NoSign := ea_NoSign, ed_NoSign := hd_NoSign, em_NoSign := em_NoSign, i_NoSign_StairError := kit_yes cl_StairError xt_StairError s_NoSign_StairError, i_NoSign_NoMove := kit_no cl_NoMove xt_NoMove s_NoSign_NoSign s_NoSign_NoMove, i_NoSign_NoNumber := kit_no cl_NoNumber xt_NoNumber s_NoSign_NoSign s_NoSign_NoNumber, i_NoSign_Short := kit_no cl_Short xt_Short s_NoSign_NoSign s_NoSign_Short, i_NoSign_NoSign := kit_yes cl_NoSign xt_NoSign s_NoSign_NoSign, i_NoSign_NoEnd := kit_no cl_NoEnd xt_NoEnd s_NoSign_NoSign s_NoSign_NoEnd, i_NoSign_VE := kit_ve s_NoSign_VE, x_NoSign_NoEnd := PySem.W.exm_ref xb_NoEnd hd_NoEnd xt_NoEnd s_NoSign_NoEnd, x_NoSign_NoMove := PySem.W.exm_ref xb_NoMove hd_NoMove xt_NoMove s_NoSign_NoMove, x_NoSign_NoNumber := PySem.W.exm_ref xb_NoNumber hd_NoNumber xt_NoNumber s_NoSign_NoNumber, x_NoSign_Short := PySem.W.exm_ref xb_Short hd_Short xt_Short s_NoSign_Short, x_NoSign_NoSign := PySem.W.exm_ref xb_NoSign hd_NoSign xt_NoSign s_NoSign_NoSign, eg_NoEnd := eg_NoEnd, ek_NoEnd := ek_NoEnd, ea_NoEnd := ea_NoEnd, ed_NoEnd := hd_NoEnd, em_NoEnd := em_NoEnd, i_NoEnd_StairError := kit_yes cl_StairError xt_StairError s_NoEnd_StairError, i_NoEnd_NoMove := kit_no cl_NoMove xt_NoMove s_NoEnd_NoEnd s_NoEnd_NoMove, i_NoEnd_NoNumber := kit_no cl_NoNumber xt_NoNumber s_NoEnd_NoEnd s_NoEnd_NoNumber, i_NoEnd_Short := kit_no cl_Short xt_Short s_NoEnd_NoEnd s_NoEnd_Short, i_NoEnd_NoSign := kit_no cl_NoSign xt_NoSign s_NoEnd_NoEnd s_NoEnd_NoSign, i_NoEnd_NoEnd := kit_yes cl_NoEnd xt_NoEnd s_NoEnd_NoEnd, i_NoEnd_VE := kit_ve s_NoEnd_VE, x_NoEnd_NoEnd := PySem.W.exm_ref xb_NoEnd hd_NoEnd xt_NoEnd s_NoEnd_NoEnd, x_NoEnd_NoMove := PySem.W.exm_ref xb_NoMove hd_NoMove xt_NoMove s_NoEnd_NoMove, x_NoEnd_NoNumber := PySem.W.exm_ref xb_NoNumber hd_NoNumber xt_NoNumber s_NoEnd_NoNumber, x_NoEnd_Short := PySem.W.exm_ref xb_Short hd_Short xt_Short s_NoEnd_Short, x_NoEnd_NoSign := PySem.W.exm_ref xb_NoSign hd_NoSign xt_NoSign s_NoEnd_NoSign, en_ := en_, et_ := et_ }
  exact ⟨PySem.W.fnOf "law" "law" (defArgs st_law) (defBody st_law) (defScope st_law) .none kV_law dc_law pm_law an_law cd_law ct_law, fun s v => .of_eq rfl, fun base _ _ => ok_law T⟩
end K11
open PySem PySem.W PyProof.Rows
set_option maxHeartbeats 0 in
theorem PySem.Challenge.cw_shellstair_k11_texts_read_holds : PySem.Challenge.rw_shellstair_k11_texts_read.Holds := by
  w_on; o_law; k_head; (case hw => w_witness2)
  k_fill
  refine L2.walk_of (l := PySem.Challenge.rw_shellstair_k11_texts_read) (n := 63) (k := 5) (x := "_law_script") (CX := fun _ => L2.CX0) (sp := fun w => K11.sp_law _) rfl (by decide) rfl ⟨rfl, by decide, by decide⟩ (fun w h Y => PySem.W.kIn_of Y) ?F (fun _ _ a ns hl _ hS => ⟨a, ns, rfl, hS, hl, fun _ => rfl⟩) (fun _ _ _ _ _ h => h)
  case F =>
    intro w mg fa h KX G hmg
    refine' K11.all_mk KX G hmg ?a_StairError ?k_StairError ?x_StairError ?xb_StairError ?xt_StairError ?a_NoMove ?k_NoMove ?x_NoMove ?xb_NoMove ?xt_NoMove ?a_NoNumber ?k_NoNumber ?x_NoNumber ?xb_NoNumber ?xt_NoNumber ?a_Short ?k_Short ?x_Short ?xb_Short ?xt_Short ?a_NoSign ?k_NoSign ?x_NoSign ?xb_NoSign ?xt_NoSign ?a_NoEnd ?k_NoEnd ?x_NoEnd ?xb_NoEnd ?xt_NoEnd ?a_weight ?l_weight ?c_weight ?k_weight ?a_look_at ?l_look_at ?c_look_at ?k_look_at ?a_read_on ?l_read_on ?c_read_on ?k_read_on ?a_read ?l_read ?c_read ?k_read ?a_l_cell ?l_l_cell ?c_l_cell ?k_l_cell ?a_l_whole ?l_l_whole ?c_l_whole ?k_l_whole ?a_l_sign_by ?l_l_sign_by ?c_l_sign_by ?k_l_sign_by ?a_l_part ?l_l_part ?c_l_part ?k_l_part ?a_l_changed ?l_l_changed ?c_l_changed ?k_l_changed ?a_l_made ?l_l_made ?c_l_made ?k_l_made ?a_l_is_odd ?l_l_is_odd ?c_l_is_odd ?k_l_is_odd ?a_l_read ?l_l_read ?c_l_read ?k_l_read ?a_l_no_sign ?l_l_no_sign ?c_l_no_sign ?k_l_no_sign ?a_l_no_end ?l_l_no_end ?c_l_no_end ?k_l_no_end ?a_l_alike ?l_l_alike ?c_l_alike ?k_l_alike ?a_law ?l_law ?c_law ?k_law ?z_len ?z_isinstance ?z_int ?z_bool ?z_ValueError ?z_list ?z_range ?cl_StairError ?hd_StairError ?cl_NoMove ?hd_NoMove ?cl_NoNumber ?hd_NoNumber ?cl_Short ?hd_Short ?cl_NoSign ?hd_NoSign ?cl_NoEnd ?hd_NoEnd ?s_NoSign_StairError ?s_NoSign_NoMove ?s_NoSign_NoNumber ?s_NoSign_Short ?s_NoSign_NoSign ?s_NoSign_NoEnd ?s_NoSign_VE ?s_NoEnd_StairError ?s_NoEnd_NoMove ?s_NoEnd_NoNumber ?s_NoEnd_Short ?s_NoEnd_NoSign ?s_NoEnd_NoEnd ?s_NoEnd_VE ?eg_NoSign ?ek_NoSign ?ea_NoSign ?em_NoSign ?eg_NoEnd ?ek_NoEnd ?ea_NoEnd ?em_NoEnd ?en_ ?et_
    (case a_StairError => k_is); (case k_StairError => k_is); (case x_StairError => k_exc); (case xb_StairError => k_is); (case xt_StairError => k_is); (case a_NoMove => k_is)
    (case k_NoMove => k_is); (case x_NoMove => k_exc); (case xb_NoMove => k_is); (case xt_NoMove => k_is); (case a_NoNumber => k_is); (case k_NoNumber => k_is)
    (case x_NoNumber => k_exc); (case xb_NoNumber => k_is); (case xt_NoNumber => k_is); (case a_Short => k_is); (case k_Short => k_is); (case x_Short => k_exc)
    (case xb_Short => k_is); (case xt_Short => k_is); (case a_NoSign => k_is); (case k_NoSign => k_is); (case x_NoSign => k_exc); (case xb_NoSign => k_is)
    (case xt_NoSign => k_is); (case a_NoEnd => k_is); (case k_NoEnd => k_is); (case x_NoEnd => k_exc); (case xb_NoEnd => k_is); (case xt_NoEnd => k_is)
    (case a_weight => k_is); (case l_weight => k_is); (case c_weight => k_is); (case k_weight => k_is); (case a_look_at => k_is); (case l_look_at => k_is)
    (case c_look_at => k_is); (case k_look_at => k_is); (case a_read_on => k_is); (case l_read_on => k_is); (case c_read_on => k_is); (case k_read_on => k_is)
    (case a_read => k_is); (case l_read => k_is); (case c_read => k_is); (case k_read => k_is); (case a_l_cell => k_is); (case l_l_cell => k_is)
    (case c_l_cell => k_is); (case k_l_cell => k_is); (case a_l_whole => k_is); (case l_l_whole => k_is); (case c_l_whole => k_is); (case k_l_whole => k_is)
    (case a_l_sign_by => k_is); (case l_l_sign_by => k_is); (case c_l_sign_by => k_is); (case k_l_sign_by => k_is); (case a_l_part => k_is); (case l_l_part => k_is)
    (case c_l_part => k_is); (case k_l_part => k_is); (case a_l_changed => k_is); (case l_l_changed => k_is); (case c_l_changed => k_is); (case k_l_changed => k_is)
    (case a_l_made => k_is); (case l_l_made => k_is); (case c_l_made => k_is); (case k_l_made => k_is); (case a_l_is_odd => k_is); (case l_l_is_odd => k_is)
    (case c_l_is_odd => k_is); (case k_l_is_odd => k_is); (case a_l_read => k_is); (case l_l_read => k_is); (case c_l_read => k_is); (case k_l_read => k_is)
    (case a_l_no_sign => k_is); (case l_l_no_sign => k_is); (case c_l_no_sign => k_is); (case k_l_no_sign => k_is); (case a_l_no_end => k_is); (case l_l_no_end => k_is)
    (case c_l_no_end => k_is); (case k_l_no_end => k_is); (case a_l_alike => k_is); (case l_l_alike => k_is); (case c_l_alike => k_is); (case k_l_alike => k_is)
    (case a_law => k_is); (case l_law => k_is); (case c_law => k_is); (case k_law => k_is); (case z_len => k_is); (case z_isinstance => k_is)
    (case z_int => k_is); (case z_bool => k_is); (case z_ValueError => k_is); (case z_list => k_is); (case z_range => k_is); (case cl_StairError => k_is)
    (case hd_StairError => k_is); (case cl_NoMove => k_is); (case hd_NoMove => k_is); (case cl_NoNumber => k_is); (case hd_NoNumber => k_is); (case cl_Short => k_is)
    (case hd_Short => k_is); (case cl_NoSign => k_is); (case hd_NoSign => k_is); (case cl_NoEnd => k_is); (case hd_NoEnd => k_is); (case s_NoSign_StairError => k_is)
    (case s_NoSign_NoMove => k_is); (case s_NoSign_NoNumber => k_is); (case s_NoSign_Short => k_is); (case s_NoSign_NoSign => k_is); (case s_NoSign_NoEnd => k_is); (case s_NoSign_VE => k_is)
    (case s_NoEnd_StairError => k_is); (case s_NoEnd_NoMove => k_is); (case s_NoEnd_NoNumber => k_is); (case s_NoEnd_Short => k_is); (case s_NoEnd_NoSign => k_is); (case s_NoEnd_NoEnd => k_is)
    (case s_NoEnd_VE => k_is); (case eg_NoSign => k_is); (case ek_NoSign => k_is); (case ea_NoSign => k_is); (case em_NoSign => k_is); (case eg_NoEnd => k_is)
    (case ek_NoEnd => k_is); (case ea_NoEnd => k_is); (case em_NoEnd => k_is); (case en_ => k_is); (case et_ => k_is)
