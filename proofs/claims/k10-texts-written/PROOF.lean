import PyProof.Rows.All
import Wide.All
import OpenK.AllK
import Wide.FinOn
import HandS.ForMost
import HandS.ForExc
import HandS.Steps
import HandS.Evl
import HandS.Wide
import HandS.IsInst
import HandS.Style
import HandS.ExcIs
import HandS.Deep
import KE.KTryMore
import HandS.Exc
import HandS.ExcOwn
import HandS.Rev
import PyProof.StrOps2
import HandS.Text
import HandS.Walk
import KE.GoesRaise
import HandS.Comp
import HandS.RevTup
import HandS.MapObj
import HandS.MapJoin
import PySem.Challenge.RW_shellstair_k10_texts_written
set_option Elab.async false
set_option linter.all false
set_option maxRecDepth 100000
set_option maxHeartbeats 1000000
namespace Sh
/-! the worth of a step, and weighted sums over a list of counts -/
def W : Nat → Int
  | 0 => 1
  | 1 => 2
  | n + 2 => W n + W (n + 1)
/-- f-weighted sum of the counts, the first one on step k -/
def S (f : Nat → Int) : Nat → List Int → Int
  | _, [] => 0
  | k, c :: r => c * f k + S f (k + 1) r
abbrev wt (xs : List Int) : Int := S W 0 xs
theorem W_pos : ∀ n, 0 < W n
  | 0 => by decide
  | 1 => by decide
  | n + 2 => by
    have h1 := W_pos n
    have h2 := W_pos (n + 1)
    show 0 < W n + W (n + 1)
    omega
theorem W_lt : ∀ n, W n < W (n + 1)
  | 0 => by decide
  | n + 1 => by
    have h1 := W_pos n
    show W (n + 1) < W n + W (n + 1)
    omega
theorem W_mono {i j : Nat} (h : i ≤ j) : W i ≤ W j := by
  induction j with
  | zero =>
    have : i = 0 := by omega
    subst this
    exact Int.le_refl _
  | succ j ih =>
    by_cases e : i = j + 1
    · subst e
      exact Int.le_refl _
    · have := ih (by omega)
      have := W_lt j
      omega
theorem W_ge : ∀ n : Nat, (n : Int) < W n
  | 0 => by decide
  | n + 1 => by
    have := W_ge n
    have := W_lt n
    omega
theorem W_bits : ∀ n, W n < 2 ^ (n + 1)
  | 0 => by decide
  | 1 => by decide
  | n + 2 => by
    have h1 := W_bits n
    have h2 := W_bits (n + 1)
    have e1 : (2 : Int) ^ (n + 2 + 1) = 4 * 2 ^ (n + 1) := by
      rw [Int.pow_succ, Int.pow_succ]
      omega
    have e2 : (2 : Int) ^ (n + 1 + 1) = 2 * 2 ^ (n + 1) := by rw [Int.pow_succ]; omega
    have h3 : (0 : Int) < 2 ^ (n + 1) := Int.pow_pos (by decide)
    show W n + W (n + 1) < 2 ^ (n + 2 + 1)
    rw [e2] at h2
    rw [e1]
    generalize (2 : Int) ^ (n + 1) = z at *
    omega
theorem W_bitsN (n : Nat) : (W n).natAbs < 2 ^ (n + 1) := by
  have h1 := W_bits n
  have h2 := W_pos n
  have e : ((2 ^ (n + 1) : Nat) : Int) = 2 ^ (n + 1) := by norm_cast
  omega
/-! sums -/
theorem S_nil (f : Nat → Int) (k : Nat) : S f k [] = 0 := rfl
theorem S_cons (f : Nat → Int) (k : Nat) (c : Int) (r : List Int) : S f k (c :: r) = c * f k + S f (k + 1) r := rfl
theorem S_append (f : Nat → Int) : ∀ (xs ys : List Int) (k : Nat), S f k (xs ++ ys) = S f k xs + S f (k + xs.length) ys
  | [], ys, k => by simp [S]
  | c :: r, ys, k => by
    have ih := S_append f r ys (k + 1)
    show c * f k + S f (k + 1) (r ++ ys) = c * f k + S f (k + 1) r + S f (k + (r.length + 1)) ys
    rw [ih, show k + 1 + r.length = k + (r.length + 1) by omega]
    omega
theorem S_one (f : Nat → Int) (k : Nat) (c : Int) : S f k [c] = c * f k := by simp [S]
theorem take_more {α : Type} {l : List α} {i : Nat} {x : α} (h : l[i]? = some x) : l.take (i + 1) = l.take i ++ [x] := by
  rw [List.take_succ, h]
  rfl
theorem S_take {f : Nat → Int} {xs : List Int} {i : Nat} {c : Int} (h : xs[i]? = some c) (k : Nat) : S f k (xs.take (i + 1)) = S f k (xs.take i) + c * f (k + i) := by
  have hl : i < xs.length := (List.getElem?_eq_some_iff.mp h).1
  rw [take_more h, S_append, S_one, List.length_take, Nat.min_eq_left (Nat.le_of_lt hl)]
theorem S_zeros (f : Nat → Int) : ∀ (n k : Nat), S f k (List.replicate n 0) = 0
  | 0, k => rfl
  | n + 1, k => by
    show 0 * f k + S f (k + 1) (List.replicate n 0) = 0
    rw [S_zeros f n, Int.zero_mul, Int.add_zero]
theorem S_nonneg {f : Nat → Int} (hf : ∀ k, 0 ≤ f k) : ∀ (xs : List Int) (k : Nat), (∀ x ∈ xs, 0 ≤ x) → 0 ≤ S f k xs
  | [], _, _ => Int.le_refl _
  | c :: r, k, h => by
    have h1 := S_nonneg hf r (k + 1) fun x hx => h x (List.mem_cons_of_mem _ hx)
    have h2 := Int.mul_nonneg (h c List.mem_cons_self) (hf k)
    show 0 ≤ c * f k + S f (k + 1) r
    omega
/-! 10 ** 60 -/
def T60 : Int := 10 ^ 60
theorem T60_eq : (10 : Int) ^ (60 : Int).toNat = T60 := by decide +kernel
theorem T60_pos : 0 < T60 := by decide +kernel
theorem T60_pos1 : 0 < T60 + 1 := by decide +kernel
theorem T60_bits : T60.natAbs < 2 ^ 200 := by decide +kernel
/-- a list that is no longer, no greater than a machine could not bear -/
structure Sm (ns : List Int) : Prop where
  len : ns.length ≤ 100000
  mag : ∀ x ∈ ns, x.natAbs < 2 ^ 1000
theorem small60 {x : Int} (h0 : 0 ≤ x) (h : x ≤ T60) : x.natAbs < 2 ^ 1000 := by
  have h1 := T60_bits
  have h2 : (2 : Nat) ^ 200 ≤ 2 ^ 1000 := by decide +kernel
  omega
/-! noughts at the end left out -/
def bare (xs : List Int) : List Int := (xs.reverse.dropWhile (· == 0)).reverse
theorem bare_zero (xs : List Int) : bare (xs ++ [0]) = bare xs := by
  unfold bare
  rw [List.reverse_append]
  rfl
theorem bare_snoc (xs : List Int) {c : Int} (h : c ≠ 0) : bare (xs ++ [c]) = xs ++ [c] := by
  unfold bare
  rw [List.reverse_append]
  show (List.dropWhile (· == 0) (c :: xs.reverse)).reverse = _
  rw [List.dropWhile_cons, if_neg (by simpa using h), List.reverse_cons, List.reverse_reverse]
theorem bare_nil : bare [] = [] := rfl
theorem snoc_of {α : Type} {xs : List α} (h : xs ≠ []) : ∃ ys c, xs = ys ++ [c] := ⟨xs.dropLast, xs.getLast h, (List.dropLast_concat_getLast h).symm⟩
/-- a list is its bare one and noughts -/
theorem bare_rest : ∀ (n : Nat) (xs : List Int), xs.length = n → ∃ k, xs = bare xs ++ List.replicate k 0
  | 0, xs, h => ⟨0, by rw [List.eq_nil_of_length_eq_zero h]; rfl⟩
  | n + 1, xs, h => by
    obtain ⟨ys, c, rfl⟩ := snoc_of (xs := xs) (by intro e; rw [e] at h; cases h)
    rw [List.length_append, List.length_singleton] at h
    by_cases hc : c = 0
    · subst hc
      obtain ⟨k, e⟩ := bare_rest n ys (by omega)
      refine ⟨k + 1, ?_⟩
      rw [bare_zero, List.replicate_succ', ← List.append_assoc, ← e]
    · refine ⟨0, ?_⟩
      rw [bare_snoc ys hc]
      simp
theorem bare_S (f : Nat → Int) (k : Nat) (xs : List Int) : S f k (bare xs) = S f k xs := by
  obtain ⟨n, e⟩ := bare_rest _ xs rfl
  have h := congrArg (S f k) e
  rw [S_append, S_zeros, Int.add_zero] at h
  exact h.symm
theorem bare_mem {xs : List Int} {x : Int} (h : x ∈ bare xs) : x ∈ xs := by
  obtain ⟨n, e⟩ := bare_rest _ xs rfl
  rw [e]
  exact List.mem_append_left _ h
theorem bare_len (xs : List Int) : (bare xs).length ≤ xs.length := by
  obtain ⟨n, e⟩ := bare_rest _ xs rfl
  have h := congrArg List.length e
  rw [List.length_append] at h
  omega
theorem bare_idem (xs : List Int) : bare (bare xs) = bare xs := by
  by_cases h : bare xs = []
  · rw [h]
    rfl
  · obtain ⟨ys, c, e⟩ := snoc_of h
    rw [e]
    refine bare_snoc ys ?_
    intro hc
    unfold bare at e
    have h2 := congrArg List.reverse e
    rw [List.reverse_reverse, List.reverse_append, List.reverse_singleton, List.singleton_append] at h2
    have h3 := List.head?_dropWhile_not (· == 0) xs.reverse
    rw [h2] at h3
    simp [hc] at h3
theorem getD_last (ys : List Int) (c : Int) : (ys ++ [c]).getD ((ys ++ [c]).length - 1) 0 = c := by
  rw [List.getD_eq_getElem?_getD, List.length_append, List.length_singleton, Nat.add_sub_cancel, List.getElem?_append_right (Nat.le_refl _), Nat.sub_self]
  rfl
theorem Sm.bare {xs : List Int} (h : Sm xs) : Sm (bare xs) := ⟨Nat.le_trans (bare_len xs) h.len, fun x hx => h.mag x (bare_mem hx)⟩
/-! still heaps: no step with two, no two neighbours (b: what lies beneath) -/
def stillB : Int → List Int → Bool
  | _, [] => true
  | b, m :: r => !(decide (1 < m) || (decide (0 < m) && decide (0 < b))) && stillB m r
theorem stillB_append : ∀ (xs ys : List Int) (b : Int), stillB b (xs ++ ys) = (stillB b xs && stillB (xs.getLastD b) ys)
  | [], ys, b => by simp [stillB]
  | m :: r, ys, b => by
    show (!(decide (1 < m) || (decide (0 < m) && decide (0 < b))) && stillB m (r ++ ys)) = (!(decide (1 < m) || (decide (0 < m) && decide (0 < b))) && stillB m r && stillB ((m :: r).getLastD b) ys)
    rw [stillB_append r ys m, Bool.and_assoc, List.getLastD_cons]
/-- what lies beneath step i -/
def prev (ns : List Int) (i : Nat) : Int := (ns.take i).getLastD 0
theorem prev_zero (ns : List Int) : prev ns 0 = 0 := by simp [prev]
theorem prev_succ {ns : List Int} {i : Nat} {m : Int} (h : ns[i]? = some m) : prev ns (i + 1) = m := by
  unfold prev
  rw [take_more h]
  simp
theorem stillB_take {ns : List Int} {i : Nat} {m : Int} (h : ns[i]? = some m) : stillB 0 (ns.take (i + 1)) = (stillB 0 (ns.take i) && !(decide (1 < m) || (decide (0 < m) && decide (0 < prev ns i)))) := by
  rw [take_more h, stillB_append]
  show (stillB 0 (ns.take i) && (!(decide (1 < m) || (decide (0 < m) && decide (0 < prev ns i))) && true)) = _
  rw [Bool.and_true]
theorem stillB_stop {ns : List Int} (i : Nat) (h : stillB 0 (ns.take i) = false) : stillB 0 ns = false := by
  have e : ns = ns.take i ++ ns.drop i := (List.take_append_drop i ns).symm
  rw [e, stillB_append, h, Bool.false_and]
theorem getD_of {ns : List Int} {i : Nat} {m : Int} (h : ns[i]? = some m) : ns.getD i 0 = m := by
  rw [List.getD_eq_getElem?_getD, h]
  rfl
theorem get_of {ns : List Int} {i : Nat} (h : i < ns.length) : ns[i]? = some (ns.getD i 0) := by
  rw [List.getD_eq_getElem?_getD, List.getElem?_eq_getElem h]
  rfl
end Sh

/-! Own words over the hand layer: what is evaluated without a change of the tracked heap (Val, Ans), loops with a word that stands over the entry's heap. -/
namespace Sh
open PySem PySem.Spec PyProof.Rows L2
section
variable {σ : L2.St} {H H0 H1 : Hp} {K : PySem.W.Frag} {ta tb tc te tl : TE} {tr : TA} {t u : TT} {x y z v : V} {vs : List V} {D : Ends} {ts tz tu : TS}
def Arg (ta : TA) (σ : L2.St) (H : Hp) (vs : List V) : Prop := ∀ Q : List V → Hp → Prop, Q vs H → ta σ H Q
theorem xg_nil : Arg tNil σ H [] := fun _ q => q
theorem xg_cons (h : Val te σ H v) (hr : Arg tr σ H vs) : Arg (tCons te tr) σ H (v :: vs) := fun _ q => h _ (hr _ q)
theorem xv_go {Q : VK} (h : Val te σ H v) (q : Q v H) : te σ H Q := h Q q
theorem xg_go {ta : TA} {Q : List V → Hp → Prop} (h : Arg ta σ H vs) (q : Q vs H) : ta σ H Q := h Q q
theorem xv_c {w : V} (e : v = w) : Val (tC v) σ H w := fun _ q => by
  subst e
  exact q
theorem xv_I0 {g : Int → Int → V} {i j : Int} (ha : Val ta σ H (.int i)) (hb : Val tb σ H (.int j)) : Val (tOp (rI0 g) ta tb) σ H (g i j) := val_op ha hb fun Q q => ⟨i, j, rfl, rfl, q⟩
theorem xv_I {C : Int → Int → Prop} {g : Int → Int → V} {i j : Int} (ha : Val ta σ H (.int i)) (hb : Val tb σ H (.int j)) (hc : C i j) : Val (tOp (rI C g) ta tb) σ H (g i j) := val_op ha hb fun Q q => ⟨i, j, rfl, rfl, hc, q⟩
theorem xv_U {g : Int → V} {i : Int} (ha : Val ta σ H (.int i)) : Val (tUn (rU g) ta) σ H (g i) := fun Q q => ha _ ⟨i, rfl, q⟩
theorem xv_eq (ha : Val ta σ H x) (hb : Val tb σ H y) (hs : scal x y = true) : Val (tOp rEq ta tb) σ H (.bl (decide (x = y))) := val_op ha hb fun Q q => ⟨hs, q⟩
theorem xv_ne (ha : Val ta σ H x) (hb : Val tb σ H y) (hs : scal x y = true) : Val (tOp rNe ta tb) σ H (.bl (!decide (x = y))) := val_op ha hb fun Q q => ⟨hs, q⟩
theorem xv_to {w : V} (h : Val te σ H v) (e : v = w) : Val te σ H w := e ▸ h
/-- len of a list -/
abbrev rLenQ (K : PySem.W.Frag) : List V → Hp → VK → Prop := fun xs H Q => ∃ p ys, xs = [.ref p] ∧ (SqL K H p ys ∨ SqT K H p ys) ∧ Q (.int ys.length) H
theorem xv_len {p : Addr} {xs : List V} (ha : Val ta σ H (.ref p)) (h : SqL K H p xs) : Val (tCB (rLenQ K) (tCons ta tNil)) σ H (.int (xs.length : Int)) := fun Q q => ha _ ⟨p, xs, rfl, .inl h, q⟩
theorem xv_lenI {p : Addr} {ns : List Int} (ha : Val ta σ H (.ref p)) (h : SqL K H p (ns.map V.int)) : Val (tCB (rLenQ K) (tCons ta tNil)) σ H (.int (ns.length : Int)) := fun Q q => ha _ ⟨p, _, rfl, .inl h, by rw [List.length_map]; exact q⟩
theorem xv_cb {r : List V → Hp → VK → Prop} {ta : TA} (h : Arg ta σ H vs) (hr : ∀ Q : VK, Q v H → r vs H Q) : Val (tCB r ta) σ H v := fun Q q => h _ (hr Q q)
/-- an int of a list at a place -/
theorem atI_int {ns : List Int} {i : Int} (h0 : 0 ≤ i) (h1 : i < ns.length) : atI (ns.map V.int) i = some (.int (ns.getD i.toNat 0)) := by
  obtain ⟨n, rfl⟩ := Int.eq_ofNat_of_zero_le h0
  have hn : n < ns.length := by omega
  refine atI_nat ?_
  rw [List.getElem?_map, List.getD_eq_getElem?_getD]
  show Option.map V.int ns[n]? = some (V.int (ns[n]?.getD 0))
  rw [List.getElem?_eq_getElem hn]
  rfl
theorem xv_ix {p : Addr} {ns : List Int} {i : Int} (ha : Val ta σ H (.ref p)) (hb : Val tb σ H (.int i)) (h : SqL K H p (ns.map V.int)) (h0 : 0 ≤ i) (h1 : i < ns.length) : Val (tOp (rIxL K) ta tb) σ H (.int (ns.getD i.toNat 0)) :=
  val_op ha hb fun Q q => ⟨p, _, i, _, rfl, rfl, h, atI_int h0 h1, q⟩
theorem xv_ixV {p : Addr} {xs : List V} {i : Int} (ha : Val ta σ H (.ref p)) (hb : Val tb σ H (.int i)) (h : SqL K H p xs) (hv : atI xs i = some v) : Val (tOp (rIxL K) ta tb) σ H v :=
  val_op ha hb fun Q q => ⟨p, _, i, _, rfl, rfl, h, hv, q⟩
theorem xv_ixT {p : Addr} {xs : List V} {i : Int} (ha : Val ta σ H (.ref p)) (hb : Val tb σ H (.int i)) (h : SqT K H p xs) (hv : atI xs i = some v) : Val (tOp (rIxT K) ta tb) σ H v :=
  val_op ha hb fun Q q => ⟨p, _, i, _, rfl, rfl, h, hv, q⟩
/-- a def whose promise gives a value and leaves the heap -/
theorem xv_call {sp : Sp} {E : XK} (h : Arg tr σ H vs) (hs : ∀ Q : VK, Q v H → sp (vs ++ []) H Q E) : Val (tCall sp [] E tr) σ H v := fun Q q => h _ (hs Q q)
theorem xv_and {a b : Bool} (h1 : Val ta σ H (.bl a)) (h2 : a = true → Val tb σ H (.bl b)) : Val (tAndV ta tb) σ H (.bl (a && b)) := fun Q q => h1 _ ⟨a, rfl, by
  cases a with
  | true => exact h2 rfl _ q
  | false => exact q⟩
theorem xv_or {a b : Bool} (h1 : Val ta σ H (.bl a)) (h2 : a = false → Val tb σ H (.bl b)) : Val (tOrV ta tb) σ H (.bl (a || b)) := fun Q q => h1 _ ⟨a, rfl, by
  cases a with
  | true => exact q
  | false => exact h2 rfl _ q⟩
theorem xv_not {a : Bool} (h1 : Val ta σ H (.bl a)) : Val (tNotV ta) σ H (.bl (!a)) := fun Q q => h1 _ ⟨a, rfl, q⟩
theorem xv_p60 : Val (tOp (rI CPow fun i j => .int (i ^ j.toNat)) (tC (.int 10)) (tC (.int 60))) σ H (.int T60) := fun Q q => ⟨10, 60, rfl, rfl, ⟨by decide, by decide, by decide⟩, by
  show Q (.int ((10 : Int) ^ (60 : Int).toNat)) H
  rw [T60_eq]
  exact q⟩
/-! tests -/
theorem xa_T {b : Bool} (h : Val te σ H (.bl b)) : Ans (tTest te) σ H b := fun Q q => h _ ⟨b, rfl, q⟩
theorem xa_B {b : Bool} (h : Val te σ H (.bl b)) : Ans (tB te) σ H b := fun Q q => h _ ⟨b, rfl, q⟩
theorem xa_not {a : Bool} (h : Ans t σ H a) : Ans (tNot t) σ H (!a) := fun Q q => h _ q
theorem xa_and {a b : Bool} (h1 : Ans t σ H a) (h2 : a = true → Ans u σ H b) : Ans (tAnd t u) σ H (a && b) := fun Q q => h1 _ (by
  cases a with
  | true => exact h2 rfl _ q
  | false => exact q)
theorem xa_or {a b : Bool} (h1 : Ans t σ H a) (h2 : a = false → Ans u σ H b) : Ans (tOr t u) σ H (a || b) := fun Q q => h1 _ (by
  cases a with
  | true => exact q
  | false => exact h2 rfl _ q)
/-! statements -/
theorem xs_par {i j : Nat} {w : V} {ta : TA} (h : Arg ta σ H [v, w]) (q : D.nx ((σ.set i (some v)).set j (some w)) H) : tPar i j ta D σ H := h _ ⟨v, w, rfl, q⟩
theorem xs_if {b : Bool} (h : Ans t σ H b) (h1 : b = true → ts D σ H) (h2 : b = false → tu D σ H) : tIfS t ts tu D σ H := h _ (by
  cases b with
  | true => exact h1 rfl
  | false => exact h2 rfl)
/-- an if without else, something behind it -/
theorem xs_when {b : Bool} (h : Ans t σ H b) (h1 : b = true → ts { D with nx := tz D } σ H) (h2 : b = false → tz D σ H) : tSeq (tIfS t ts tNext) tz D σ H := xs_if (D := { D with nx := tz D }) h h1 h2
/-- if c: x = e, told by what holds of x behind it -/
theorem xs_ifSet {Pv : V → Prop} {b : Bool} {i : Nat} {v0 : V} (h : Ans t σ H b) (hv : b = true → Val te σ H v) (p1 : b = true → Pv v) (p0 : b = false → Pv v0) (hs : σ.set i (some v0) = σ) (k : ∀ v, Pv v → tz D (σ.set i (some v)) H) :
    tSeq (tIfS t (tAsg te (gName i)) tNext) tz D σ H := xs_when h (fun hb => st_set (D := { D with nx := tz D }) (hv hb) (k v (p1 hb))) fun hb => by
  have q := k v0 (p0 hb)
  rw [hs] at q
  exact q
theorem xs_cut {Mid : L2.St → Hp → Prop} (h : ts { D with nx := Mid } σ H) (k : ∀ σ' H', Mid σ' H' → tz D σ' H') : Evl.tCut ts tz D σ H := ⟨Mid, h, k⟩
theorem xs_seq {D : Ends} (h : ts { D with nx := tz D } σ H) : tSeq ts tz D σ H := h
/-- a for over a list of ints, which stands at H0: what was tracked at H0 stays -/
theorem xs_forI {a : Addr} {ns : List Int} {j : Nat} (hv : Val tl σ H (.ref a)) (e0 : Same H0 H) (hx : SqL K H0 a (ns.map V.int)) (P : Nat → L2.St → Hp → Prop) (h0 : P 0 σ H)
    (hs : ∀ i n σ' H', Same H0 H' → ns[i]? = some n → P i σ' H' → ts { D with nx := fun s h => Same H0 h ∧ P (i + 1) s h, ct := fun s h => Same H0 h ∧ P (i + 1) s h, bk := D.nx } (σ'.set j (some (.int n))) H')
    (hd : ∀ σ' H', Same H0 H' → P ns.length σ' H' → D.nx σ' H') : tFor (iList K tl) (gName j) ts D σ H :=
  hv _ ⟨a, rfl, ⟨_, e0.seq hx⟩, for_list (xs := ns.map V.int) (fun i s h => Same H0 h ∧ P i s h) ⟨e0, h0⟩ (fun _ _ _ _ p => p.1.seq hx)
    (fun i x σ' H' hi p => by
      rw [List.getElem?_map] at hi
      cases e : ns[i]? with
      | none =>
        rw [e] at hi
        cases hi
      | some n =>
        rw [e] at hi
        cases hi
        exact hs i n σ' H' p.1 e p.2)
    (fun σ' H' p => by
      rw [List.length_map] at p
      exact hd σ' H' p.1 p.2)⟩
theorem xs_forV {a : Addr} {xs : List V} {g : TG} (hv : Val tl σ H (.ref a)) (e0 : Same H0 H) (hx : SqL K H0 a xs) (P : Nat → L2.St → Hp → Prop) (h0 : P 0 σ H)
    (hs : ∀ i x σ' H', Same H0 H' → xs[i]? = some x → P i σ' H' → g x σ' H' fun σ2 H2 => ts { D with nx := fun s h => Same H0 h ∧ P (i + 1) s h, ct := fun s h => Same H0 h ∧ P (i + 1) s h, bk := D.nx } σ2 H2)
    (hd : ∀ σ' H', Same H0 H' → P xs.length σ' H' → D.nx σ' H') : tFor (iList K tl) g ts D σ H :=
  hv _ ⟨a, rfl, ⟨_, e0.seq hx⟩, for_list (xs := xs) (fun i s h => Same H0 h ∧ P i s h) ⟨e0, h0⟩ (fun _ _ _ _ p => p.1.seq hx)
    (fun i x σ' H' hi p => hs i x σ' H' p.1 hi p.2) (fun σ' H' p => hd σ' H' p.1 p.2)⟩
/-- a for over range(n) -/
theorem xs_forR {ta : TA} {j : Nat} {n : Nat} (h : Arg ta σ H [.int (n : Int)]) (hn : n < 2 ^ 62) (P : Nat → L2.St → Hp → Prop) (h0 : P 0 σ H)
    (hs : ∀ (i : Nat) σ' H', i < n → P i σ' H' → ts { D with nx := P (i + 1), ct := P (i + 1), bk := D.nx } (σ'.set j (some (.int (i : Int)))) H')
    (hd : ∀ σ' H', P n σ' H' → D.nx σ' H') : tFor (iRng1 ta) (gName j) ts D σ H :=
  h _ ⟨(n : Int), rfl, by omega, by omega, for_range (lo := 0) (n := n) P h0 (fun i σ' H' hi p => by
    show ts { D with nx := P (i + 1), ct := P (i + 1), bk := D.nx } (σ'.set j (some (.int ((0 : Int) + (i : Int))))) H'
    rw [Int.zero_add]
    exact hs i σ' H' hi p) hd⟩
/-- a while whose test leaves the heap: a word and a measure -/
theorem xs_while (P : Nat → L2.St → Hp → Prop) (m0 : Nat) (h0 : P m0 σ H)
    (hs : ∀ m σ' H', P m σ' H' → ∃ b, Ans t σ' H' b ∧ (b = true → ts { D with nx := fun s h => ∃ m', m' < m ∧ P m' s h, ct := fun s h => ∃ m', m' < m ∧ P m' s h, bk := D.nx } σ' H') ∧ (b = false → D.nx σ' H')) : tWhile t ts D σ H :=
  ⟨P, ⟨m0, h0⟩, fun m σ' H' p => by
    obtain ⟨b, hb, h1, h2⟩ := hs m σ' H' p
    refine hb _ ?_
    cases b with
    | true => exact ⟨fun s h => ∃ m', m' < m ∧ P m' s h, fun _ _ z => z, h1 rfl⟩
    | false => exact h2 rfl⟩
/-! the same, something behind -/
theorem xq_set {i : Nat} (h : Val te σ H v) (q : tz D (σ.set i (some v)) H) : tSeq (tAsg te (gName i)) tz D σ H := st_set (D := { D with nx := tz D }) h q
/-- read by hand, step by step -/
theorem xr_ret (h : te σ H fun v H1 => D.rt v H1) : tRet te D σ H := h
theorem xr_and {Q : VK} (h : ta σ H fun x H1 => ∃ c, x = .bl c ∧ if c = true then tb σ H1 Q else Q (.bl false) H1) : tAndV ta tb σ H Q := h
theorem xr_call {sp : Sp} {E : XK} {Q : VK} (h : tr σ H fun vs H1 => sp (vs ++ []) H1 Q E) : tCall sp [] E tr σ H Q := h
theorem xr_cons {Q : List V → Hp → Prop} (h : te σ H fun x H1 => tr σ H1 fun xs H2 => Q (x :: xs) H2) : tCons te tr σ H Q := h
/-- x = e, e read by hand -/
theorem xq_run {i : Nat} (h : te σ H fun v H1 => tz D (σ.set i (some v)) H1) : tSeq (tAsg te (gName i)) tz D σ H := h
theorem xq_par {i j : Nat} {w : V} {ta : TA} (h : Arg ta σ H [v, w]) (q : tz D ((σ.set i (some v)).set j (some w)) H) : tSeq (tPar i j ta) tz D σ H := xs_par (D := { D with nx := tz D }) h q
theorem xq_if {b : Bool} (h : Ans t σ H b) (h1 : b = true → ts { D with nx := tz D } σ H) (h2 : b = false → tu { D with nx := tz D } σ H) : tSeq (tIfS t ts tu) tz D σ H := xs_if (D := { D with nx := tz D }) h h1 h2
theorem xq_forI {a : Addr} {ns : List Int} {j : Nat} (hv : Val tl σ H (.ref a)) (e0 : Same H0 H) (hx : SqL K H0 a (ns.map V.int)) (P : Nat → L2.St → Hp → Prop) (h0 : P 0 σ H)
    (hs : ∀ i n σ' H', Same H0 H' → ns[i]? = some n → P i σ' H' → ts { D with nx := fun s h => Same H0 h ∧ P (i + 1) s h, ct := fun s h => Same H0 h ∧ P (i + 1) s h, bk := tz D } (σ'.set j (some (.int n))) H')
    (hd : ∀ σ' H', Same H0 H' → P ns.length σ' H' → tz D σ' H') : tSeq (tFor (iList K tl) (gName j) ts) tz D σ H := xs_forI (D := { D with nx := tz D }) hv e0 hx P h0 hs hd
theorem xq_forV {a : Addr} {xs : List V} {g : TG} (hv : Val tl σ H (.ref a)) (e0 : Same H0 H) (hx : SqL K H0 a xs) (P : Nat → L2.St → Hp → Prop) (h0 : P 0 σ H)
    (hs : ∀ i x σ' H', Same H0 H' → xs[i]? = some x → P i σ' H' → g x σ' H' fun σ2 H2 => ts { D with nx := fun s h => Same H0 h ∧ P (i + 1) s h, ct := fun s h => Same H0 h ∧ P (i + 1) s h, bk := tz D } σ2 H2)
    (hd : ∀ σ' H', Same H0 H' → P xs.length σ' H' → tz D σ' H') : tSeq (tFor (iList K tl) g ts) tz D σ H := xs_forV (D := { D with nx := tz D }) hv e0 hx P h0 hs hd
theorem xq_forR {ta : TA} {j : Nat} {n : Nat} (h : Arg ta σ H [.int (n : Int)]) (hn : n < 2 ^ 62) (P : Nat → L2.St → Hp → Prop) (h0 : P 0 σ H)
    (hs : ∀ (i : Nat) σ' H', i < n → P i σ' H' → ts { D with nx := P (i + 1), ct := P (i + 1), bk := tz D } (σ'.set j (some (.int (i : Int)))) H')
    (hd : ∀ σ' H', P n σ' H' → tz D σ' H') : tSeq (tFor (iRng1 ta) (gName j) ts) tz D σ H := xs_forR (D := { D with nx := tz D }) h hn P h0 hs hd
theorem xq_while (P : Nat → L2.St → Hp → Prop) (m0 : Nat) (h0 : P m0 σ H)
    (hs : ∀ m σ' H', P m σ' H' → ∃ b, Ans t σ' H' b ∧ (b = true → ts { D with nx := fun s h => ∃ m', m' < m ∧ P m' s h, ct := fun s h => ∃ m', m' < m ∧ P m' s h, bk := tz D } σ' H') ∧ (b = false → tz D σ' H')) : tSeq (tWhile t ts) tz D σ H := xs_while (D := { D with nx := tz D }) P m0 h0 hs
end
/-! ### isinstance -/
section
variable {σ : L2.St} {H : Hp} {K : PySem.W.Frag} {ta : TE}
theorem tyx_L {a : Addr} {xs : List V} (h : SqL K H a xs) : TyX K H (.ref a) (.type "list") := by
  rcases h with (h | ⟨o, h⟩) | ⟨o, its, n, h, hc, _⟩
  · exact .base (.lst h)
  · exact .base (.frz h)
  · exact .kList h hc
theorem xv_isi {x : V} {T a : String} {b : Bool} (ha : Val ta σ H x) (ht : TyX K H x (.type a)) (hk : kitB a T = some b) : Val (tCB (rIsi K) (tCons ta (tCons (tC (.ty T)) tNil))) σ H (.bl b) :=
  fun Q q => ha _ ⟨x, .ty T, .type a, .type T, b, rfl, .ty T, ht, kit_ty hk, q⟩
end
/-! ### what makes new lists (over Evl) -/
section
open Evl
variable {σ : L2.St} {H H' H0 : Hp} {K : PySem.W.Frag} {ta tb tc te tl : TE} {tr : TA} {t u : TT} {x y z v : V} {xs ys vs : List V} {D : Ends} {ts tz tu : TS}
theorem xe_I0 {g : Int → Int → V} {i j : Int} (ha : Ev ta σ H (.int i)) (hb : Ev tb σ H (.int j)) : Ev (tOp (rI0 g) ta tb) σ H (g i j) := ev_op ha hb rv_I0
theorem xe_I {C : Int → Int → Prop} {g : Int → Int → V} {i j : Int} (ha : Ev ta σ H (.int i)) (hb : Ev tb σ H (.int j)) (hc : C i j) : Ev (tOp (rI C g) ta tb) σ H (g i j) := ev_op ha hb (rv_I hc)
theorem xe_p60 : Ev (tOp (rI CPow fun i j => .int (i ^ j.toNat)) (tC (.int 10)) (tC (.int 60))) σ H (.int T60) := fun H1 e Q q => xv_p60 _ (q H1 (Ex.refl H1))
theorem xe_len {p : Addr} (ha : Ev ta σ H (.ref p)) (h : SqL K H p xs) : Ev (tCB (rLenQ K) (tCons ta tNil)) σ H (.int (xs.length : Int)) := fun H1 e Q q => ha H1 e _ fun H2 e2 => ⟨p, xs, rfl, .inl (ex_l (e.trans e2) h), q H2 e2⟩
theorem xe_ix {p : Addr} {ns : List Int} {i : Int} (ha : Ev ta σ H (.ref p)) (hb : Ev tb σ H (.int i)) (h : SqL K H p (ns.map V.int)) (h0 : 0 ≤ i) (h1 : i < ns.length) : Ev (tOp (rIxL K) ta tb) σ H (.int (ns.getD i.toNat 0)) := ev_op ha hb (rv_ixL h (atI_int h0 h1))
theorem xl_rep {k : Int} (ha : EvL ta σ H xs) (hb : Ev tb σ H (.int k)) (hk : -(2 ^ 63) ≤ k ∧ k < 2 ^ 63) (hz : xs.length * k.toNat ≤ 100000) : EvL (tOp rRep ta tb) σ H (List.replicate k.toNat xs).flatten := fun H1 e Q q =>
  ha H1 e _ fun p H2 hp e2 h2 => hb H2 (e.trans e2) _ fun H3 e3 => ⟨p, k, xs, rfl, rfl, e3 p _ h2, hk.1, hk.2, sz_of hz, fun p3 h3 => q p3 _ (fresh_back (e2.trans e3) h3) ((e2.trans e3).trans (Ex.new h3)) upd_same⟩
theorem xl_cat {l : Addr} (ha : Ev ta σ H (.ref l)) (hl : H l = some (.lst xs)) (hb : EvL tb σ H ys) (hz : xs.length + ys.length ≤ 100000) : EvL (tOp rCat ta tb) σ H (xs ++ ys) := fun H1 e Q q =>
  ha H1 e _ fun H2 e2 => hb H2 (e.trans e2) _ fun p H3 hp e3 h3 => ⟨l, p, xs, ys, rfl, rfl, ((e.trans e2).trans e3) l _ hl, h3, sz_of hz, fun p4 h4 => q p4 _ (fresh_back (e2.trans e3) h4) ((e2.trans e3).trans (Ex.new h4)) upd_same⟩
theorem xl_catR {l : Addr} (ha : EvL ta σ H xs) (hb : Ev tb σ H (.ref l)) (hl : H l = some (.lst ys)) (hz : xs.length + ys.length ≤ 100000) : EvL (tOp rCat ta tb) σ H (xs ++ ys) := fun H1 e Q q =>
  ha H1 e _ fun p H2 hp e2 h2 => hb H2 (e.trans e2) _ fun H3 e3 => ⟨p, l, xs, ys, rfl, rfl, e3 p _ h2, ((e.trans e2).trans e3) l _ hl, sz_of hz, fun p4 h4 => q p4 _ (fresh_back (e2.trans e3) h4) ((e2.trans e3).trans (Ex.new h4)) upd_same⟩
theorem xl_catN (ha : EvL ta σ H xs) (hb : EvL tb σ H ys) (hz : xs.length + ys.length ≤ 100000) : EvL (tOp rCat ta tb) σ H (xs ++ ys) := fun H1 e Q q =>
  ha H1 e _ fun p H2 hp e2 h2 => hb H2 (e.trans e2) _ fun p3 H3 hp3 e3 h3 => ⟨p, p3, xs, ys, rfl, rfl, e3 p _ h2, h3, sz_of hz, fun p4 h4 => q p4 _ (fresh_back (e2.trans e3) h4) ((e2.trans e3).trans (Ex.new h4)) upd_same⟩
theorem xl_catV {l m : Addr} (ha : Ev ta σ H (.ref l)) (hl : H l = some (.lst xs)) (hb : Ev tb σ H (.ref m)) (hm : H m = some (.lst ys)) (hz : xs.length + ys.length ≤ 100000) : EvL (tOp rCat ta tb) σ H (xs ++ ys) := fun H1 e Q q =>
  ha H1 e _ fun H2 e2 => hb H2 (e.trans e2) _ fun H3 e3 => ⟨l, m, xs, ys, rfl, rfl, ((e.trans e2).trans e3) l _ hl, ((e.trans e2).trans e3) m _ hm, sz_of hz, fun p4 h4 => q p4 _ (fresh_back (e2.trans e3) h4) ((e2.trans e3).trans (Ex.new h4)) upd_same⟩
/-- list(xs) -/
abbrev rListQ (K : PySem.W.Frag) : List V → Hp → VK → Prop := fun xs H Q => ∃ p ys, xs = [.ref p] ∧ (SqL K H p ys ∨ SqT K H p ys) ∧ ∀ l, H l = none → Q (.ref l) (upd H l (.lst ys))
theorem xl_listQ {p : Addr} (ha : Ev ta σ H (.ref p)) (h : SqL K H p xs) : EvL (tCB (rListQ K) (tCons ta tNil)) σ H xs := fun H1 e Q q =>
  ha H1 e _ fun H2 e2 => ⟨p, xs, rfl, .inl (ex_l (e.trans e2) h), fun l hl => q l _ (fresh_back e2 hl) (e2.trans (Ex.new hl)) upd_same⟩
theorem xl_revL {p : Addr} (ha : Ev ta σ H (.ref p)) (h : SqL K H p xs) : EvL (tRevL K ta) σ H xs.reverse := fun H1 e Q q =>
  ha H1 e _ fun H2 e2 => ⟨p, xs, rfl, ex_l (e.trans e2) h, fun l hl => q l _ (fresh_back e2 hl) (e2.trans (Ex.new hl)) upd_same⟩
/-- [0] * n, of ints -/
theorem flat_rep (k : Nat) (c : Int) : (List.replicate k [V.int c]).flatten = (List.replicate k c).map V.int := by
  induction k with
  | zero => rfl
  | succ k ih => rw [List.replicate_succ, List.flatten_cons, ih] <;> rfl
theorem cut_all (xs : List V) (a b : Nat) : cutV xs (some (a : Int)) (some (b : Int)) = (xs.take b).drop a := by
  unfold cutV
  rw [show HT.sIx xs.length 0 (some (a : Int)) = min a xs.length from HT.sIx_nat xs.length 0 a, show HT.sIx xs.length xs.length (some (b : Int)) = min b xs.length from HT.sIx_nat xs.length xs.length b]
  rw [List.drop_take]
  by_cases ha : a ≤ xs.length
  · have e1 : min a xs.length = a := Nat.min_eq_left ha
    rw [e1]
    by_cases hb : b ≤ xs.length
    · rw [Nat.min_eq_left hb]
    · have e2 : min b xs.length = xs.length := Nat.min_eq_right (by omega)
      rw [e2, List.take_of_length_le (by rw [List.length_drop]; omega), List.take_of_length_le (by rw [List.length_drop]; omega)]
  · have e1 : min a xs.length = xs.length := Nat.min_eq_right (by omega)
    rw [e1, List.drop_length, List.drop_of_length_le (by omega)]
    simp
theorem cut_lo (xs : List V) (a : Nat) : cutV xs (some (a : Int)) none = xs.drop a := by
  unfold cutV
  rw [show HT.sIx xs.length 0 (some (a : Int)) = min a xs.length from HT.sIx_nat xs.length 0 a, HT.sIx_none]
  by_cases ha : a ≤ xs.length
  · rw [Nat.min_eq_left ha, List.take_of_length_le (by rw [List.length_drop]; omega)]
  · rw [Nat.min_eq_right (by omega), List.drop_length, List.drop_of_length_le (by omega)]
    simp
theorem cut_hi (xs : List V) (b : Nat) : cutV xs none (some (b : Int)) = xs.take b := by
  have h := cut_all xs 0 b
  rw [List.drop_zero] at h
  rw [← h]
  unfold cutV
  rw [HT.sIx_none, show HT.sIx xs.length 0 (some ((0 : Nat) : Int)) = min 0 xs.length from HT.sIx_nat xs.length 0 0, Nat.zero_min]
theorem cut_int {ns : List Int} {a b : Int} (ha : 0 ≤ a) (hb : 0 ≤ b) : cutV (ns.map V.int) (some a) (some b) = ((ns.take b.toNat).drop a.toNat).map V.int := by
  obtain ⟨x, rfl⟩ := Int.eq_ofNat_of_zero_le ha
  obtain ⟨y, rfl⟩ := Int.eq_ofNat_of_zero_le hb
  rw [List.map_drop, List.map_take]
  exact cut_all _ x y
/-- [e for x in xs], xs a new list of ints, e's value F x -/
theorem xl_mapI {cs : List Int} {F : Int → V} {j : Nat} {ws : List Nat} (h : EvL tl σ H (cs.map V.int)) (hz : cs.length ≤ 40000) (hw : ∀ x, wipe ((wipe σ ws).set j (some x)) ws = wipe σ ws)
    (he : ∀ x H1, Ex H H1 → x ∈ cs → Ev te ((wipe σ ws).set j (some (.int x))) H1 (F x)) : EvL (tLc (iList K tl) (gName j) tYes te ws) σ H (cs.map F) := by
  have r := el_lcNL (K := K) (vs := ws) (j := j) (t := tYes) (fun _ => true) (fun i => F (cs.getD i 0)) h (by rw [List.length_map]; exact hz) hw (fun i x H1 e hi => fun H2 e2 Q q => q H2 (Ex.refl H2)) (te := te) (fun i x H1 e hi _ => by
    rw [List.getElem?_map] at hi
    cases hc : cs[i]? with
    | none =>
      rw [hc] at hi
      cases hi
    | some c =>
      rw [hc] at hi
      cases hi
      rw [getD_of hc]
      exact he c H1 e (List.mem_of_getElem? hc))
  have e : given (cs.map V.int).length (fun _ => true) (fun i => F (cs.getD i 0)) = cs.map F := by
    unfold given
    rw [List.filter_eq_self.mpr (fun _ _ => rfl), List.length_map]
    refine List.ext_getElem? fun i => ?_
    rw [List.getElem?_map, List.getElem?_map]
    by_cases hi : i < cs.length
    · rw [List.getElem?_range hi, get_of hi]
      rfl
    · rw [List.getElem?_eq_none (by rw [List.length_range]; omega), List.getElem?_eq_none (by omega)]
      rfl
  rw [e] at r
  exact r
/-- what was tracked ahead of a list's making stays when that list is changed -/
theorem same_mut {p : Addr} {o : HO} (e : Same H H') (h : H p = none) : Same H (upd H' p o) := Ex.mut e h
end
/-! ### while len(xs) > 0 and xs[len(xs) - 1] == 0: xs.pop() -/
section
variable {σ : L2.St} {H : Hp} {K : PySem.W.Frag} {D : Ends}
theorem xs_pops {i : Nat} {l : Addr} {xs : List Int} (hσ : σ[i]? = some (some (.ref l))) (hl : H l = some (.lst (xs.map V.int)))
    (q : ∀ H', (∀ b, b ≠ l → H' b = H b) → H' l = some (.lst ((bare xs).map V.int)) → D.nx σ H') :
    tWhile (tAnd (tTest (tOp (rI0 fun i j => .bl (decide (j < i))) (tCB (rLenQ K) (tCons (tVar i) tNil)) (tC (.int 0))))
      (tTest (tOp rEq (tOp (rIxL K) (tVar i) (tOp (rI0 fun i j => .int (i - j)) (tCB (rLenQ K) (tCons (tVar i) tNil)) (tC (.int 1)))) (tC (.int 0)))))
      (tDrop (tBM0 K "list" rPop (tVar i))) D σ H := by
  refine xs_while (fun m s H' => ∃ ys : List Int, s = σ ∧ (∀ b, b ≠ l → H' b = H b) ∧ H' l = some (.lst (ys.map V.int)) ∧ bare ys = bare xs ∧ ys.length = m) _ ⟨xs, rfl, fun _ _ => rfl, hl, rfl, rfl⟩ ?_
  rintro m s H' ⟨ys, rfl, e3, h3, hb, rfl⟩
  refine ⟨_, xa_and (xa_T (xv_I0 (xv_lenI (val_var hσ) (SqL.of h3)) val_c)) fun hc => xa_T (xv_eq (xv_ix (val_var hσ) (xv_I0 (xv_lenI (val_var hσ) (SqL.of h3)) val_c) (SqL.of h3) (by
    have := of_decide_eq_true hc
    omega) (by omega)) val_c rfl), fun hc => ?_, fun hc => ?_⟩
  · rw [Bool.and_eq_true] at hc
    obtain ⟨c1, c2⟩ := hc
    have c1 := of_decide_eq_true c1
    have c2 := V.int.inj (of_decide_eq_true c2)
    obtain ⟨zs, c, rfl⟩ := snoc_of (xs := ys) (by
      rintro rfl
      simp at c1)
    rw [show (((zs ++ [c]).length : Int) - 1).toNat = (zs ++ [c]).length - 1 by omega, getD_last] at c2
    subst c2
    refine ⟨.ref l, hσ, .inl ⟨rfl, _, SqL.of h3⟩, l, _, .int 0, rfl, rfl, h3, ?_, ?_⟩
    · rw [List.length_map, List.getElem?_map, List.length_append, List.length_singleton, Nat.add_sub_cancel, List.getElem?_append_right (Nat.le_refl _), Nat.sub_self]
      rfl
    · refine ⟨zs.length, by rw [List.length_append, List.length_singleton]; omega, zs, rfl, fun b hb => by rw [upd_ne hb]; exact e3 b hb, ?_, ?_, rfl⟩
      · rw [upd_same, List.map_append, List.map_singleton, List.dropLast_concat]
      · rw [← hb, bare_zero]
  · have hy : bare ys = ys := by
      by_cases h0 : ys = []
      · rw [h0]
        rfl
      · obtain ⟨zs, c, rfl⟩ := snoc_of h0
        refine bare_snoc zs fun e => ?_
        subst e
        have c1 := of_decide_eq_false (Bool.and_eq_false_imp.mp hc (decide_eq_true (by rw [List.length_append, List.length_singleton]; omega)))
        refine c1 ?_
        have e9 : (((zs ++ [(0 : Int)]).length : Int) - 1).toNat = (zs ++ [(0 : Int)]).length - 1 := by omega
        rw [e9, getD_last]
    refine q H' e3 ?_
    rw [h3, ← hb, hy]
theorem xq_pops {tz : TS} {i : Nat} {l : Addr} {xs : List Int} (hσ : σ[i]? = some (some (.ref l))) (hl : H l = some (.lst (xs.map V.int)))
    (q : ∀ H', (∀ b, b ≠ l → H' b = H b) → H' l = some (.lst ((bare xs).map V.int)) → tz D σ H') :
    tSeq (tWhile (tAnd (tTest (tOp (rI0 fun i j => .bl (decide (j < i))) (tCB (rLenQ K) (tCons (tVar i) tNil)) (tC (.int 0))))
      (tTest (tOp rEq (tOp (rIxL K) (tVar i) (tOp (rI0 fun i j => .int (i - j)) (tCB (rLenQ K) (tCons (tVar i) tNil)) (tC (.int 1)))) (tC (.int 0)))))
      (tDrop (tBM0 K "list" rPop (tVar i)))) tz D σ H := xs_pops (D := { D with nx := tz D }) hσ hl q
end
/-! ### lists of ints compared -/
section
variable {σ : L2.St} {H : Hp} {K : PySem.W.Frag} {ta tb : TE}
theorem dpAll_int (ns : List Int) : DpAll K H (ns.map V.int) (ns.map PyData.int) := by
  induction ns with
  | nil => exact .nil
  | cons n r ih => exact .cons (.int n) ih
theorem eqvAll_int : ∀ ns ms : List Int, PyData.eqvAll (ns.map PyData.int) (ms.map PyData.int) = decide (ns = ms)
  | [], [] => by simp [PyData.eqvAll]
  | [], m :: ms => by simp [PyData.eqvAll]
  | n :: ns, [] => by simp [PyData.eqvAll]
  | n :: ns, m :: ms => by
    show (n == m && PyData.eqvAll (ns.map PyData.int) (ms.map PyData.int)) = decide (n :: ns = m :: ms)
    rw [eqvAll_int ns ms]
    by_cases h : n = m
    · subst h
      by_cases h2 : ns = ms
      · subst h2
        simp
      · simp [h2]
    · simp [h]
theorem eqv_int (ns ms : List Int) : PyData.eqv (.list (ns.map PyData.int)) (.list (ms.map PyData.int)) = decide (ns = ms) := by
  rw [← eqvAll_int]
  simp [PyData.eqv]
theorem canLayAll_int : ∀ ns : List Int, PyData.canLayAll0 (ns.map PyData.int) = true
  | [] => rfl
  | n :: ns => by
    show (true && PyData.canLayAll0 (ns.map PyData.int)) = true
    rw [canLayAll_int ns]
    rfl
theorem depthAll_int : ∀ ns : List Int, PyData.depthAll (ns.map PyData.int) ≤ 1
  | [] => by simp [PyData.depthAll]
  | n :: ns => by
    have := depthAll_int ns
    simp only [List.map_cons, PyData.depthAll, PyData.depth]
    omega
theorem shaped_int (ns : List Int) : SeqAt.shaped (.list (ns.map PyData.int)) = true := by
  unfold SeqAt.shaped
  rw [Bool.and_eq_true]
  refine ⟨canLayAll_int ns, decide_eq_true ?_⟩
  have := depthAll_int ns
  simp only [PyData.depth]
  omega
/-- xs == ys, xs != ys of lists of ints -/
theorem xv_eqL {a b : Addr} {ns ms : List Int} (ha : Val ta σ H (.ref a)) (hb : Val tb σ H (.ref b)) (h1 : SqL K H a (ns.map V.int)) (h2 : SqL K H b (ms.map V.int)) : Val (tOp (rEqD K) ta tb) σ H (.bl (decide (ns = ms))) :=
  val_op ha hb fun Q q => ⟨_, _, .lst h1 (dpAll_int ns), .lst h2 (dpAll_int ms), shaped_int ns, shaped_int ms, by rw [eqv_int]; exact q⟩
theorem xv_neL {a b : Addr} {ns ms : List Int} (ha : Val ta σ H (.ref a)) (hb : Val tb σ H (.ref b)) (h1 : SqL K H a (ns.map V.int)) (h2 : SqL K H b (ms.map V.int)) : Val (tOp (rNeD K) ta tb) σ H (.bl (!decide (ns = ms))) :=
  val_op ha hb fun Q q => ⟨_, _, .lst h1 (dpAll_int ns), .lst h2 (dpAll_int ms), shaped_int ns, shaped_int ms, by rw [eqv_int]; exact q⟩
end
end Sh

/-! Own words for exceptions: isinstance of what an except suite holds, with the class told by the reading. -/
namespace Sh
open PySem PySem.Spec PyProof.Rows L2
theorem units65 {k : Nat} {A : Around} (hr : Room k A) : A.units + 65 < cLine := by have := hr.un; omega
section
variable {K : PySem.W.Frag} {D Y : Addr}
theorem kit_yes (hc : PySem.W.isClsIn K Y = true) (ht : PySem.W.typeIn K (.ref Y) = some (.type "type")) (hs : PySem.W.subIn K (.ref D) (.ref Y) = some true) : PySem.W.kitOne K (.ref D) (.ref Y) = some true := by
  have e2 : ((PySem.W.clsIn K Y).isSome && PySem.W.typeIn K (.ref Y) == some (.type "type")) = true := by
    have h2 : (PySem.W.clsIn K Y).isSome = true := hc
    rw [h2, ht]
    rfl
  unfold PySem.W.kitOne
  split
  · rfl
  · show (if ((PySem.W.clsIn K Y).isSome && PySem.W.typeIn K (.ref Y) == some (.type "type")) = true then PySem.W.subIn K (.ref D) (.ref Y) else none) = some true
    rw [if_pos e2, hs]
theorem kit_no (hc : PySem.W.isClsIn K Y = true) (ht : PySem.W.typeIn K (.ref Y) = some (.type "type")) (h0 : PySem.W.subIn K (.ref D) (.ref D) = some true) (hs : PySem.W.subIn K (.ref D) (.ref Y) = some false) : PySem.W.kitOne K (.ref D) (.ref Y) = some false := by
  have e2 : ((PySem.W.clsIn K Y).isSome && PySem.W.typeIn K (.ref Y) == some (.type "type")) = true := by
    have h2 : (PySem.W.clsIn K Y).isSome = true := hc
    rw [h2, ht]
    rfl
  unfold PySem.W.kitOne
  split
  · rename_i e
    have e3 : Value.ref D = Value.ref Y := beq_iff_eq.mp e
    cases e3
    rw [h0] at hs
    cases hs
  · show (if ((PySem.W.clsIn K Y).isSome && PySem.W.typeIn K (.ref Y) == some (.type "type")) = true then PySem.W.subIn K (.ref D) (.ref Y) else none) = some false
    rw [if_pos e2, hs]
theorem kit_ve (hs : PySem.W.subIn K (.ref D) (.type "ValueError") = some true) : PySem.W.kitOne K (.ref D) (.type "ValueError") = some true := by
  unfold PySem.W.kitOne
  rw [if_neg (by intro e; cases (beq_iff_eq.mp e))]
  show (if PySem.W.kitMeta "ValueError" = true then PySem.W.subIn K (.ref D) (.type "ValueError") else none) = some true
  rw [if_pos (by decide +kernel), hs]
end
/-- isinstance of what an except suite holds: its class as the reading tells it -/
def rIsX (K : PySem.W.Frag) (a : Addr) (cls : Value) (d : Option Addr) : List V → Hp → VK → Prop := fun xs H Q => ∃ (D : Addr), cls = .ref D ∧ d = none ∧ ExcC K D ∧ rIsE K D a xs H Q
theorem call_isX {X : Cx} {K : PySem.W.Frag} {a : Addr} {oe : Obj} {pn : List (Addr × Obj)} {cls : Value} {d : Option Addr} (hK : X.K = K) (hz : Zc cls d oe) (hf : ∃ vs, oe.data = .fields vs) : CallR (X.suite a ((a, oe) :: pn)) (.builtin "isinstance") (rIsX K a cls d) := by
  subst hK
  rintro pins s σ H xs us Q I r ⟨D, rfl, rfl, C, h⟩
  exact call_isE C hz hf pins s σ H xs us Q I r h
section
variable {σ : L2.St} {H : Hp} {K : PySem.W.Frag} {ta tb : TE} {a D : Addr}
theorem xv_isX {b : Bool} {c : V} {cv : Value} (ha : Val ta σ H (.ref a)) (hb : Val tb σ H c) (hE : ExcC K D) (hc : ∀ u, RelV c u → u = cv) (hk : PySem.W.kitOne K (.ref D) cv = some b) : Val (tCB (rIsX K a (.ref D) none) (tCons ta (tCons tb tNil))) σ H (.bl b) :=
  fun Q q => ha _ (hb _ ⟨D, rfl, rfl, hE, c, cv, b, rfl, hc, hk, q⟩)
theorem xv_isC {b : Bool} {C : Addr} (ha : Val ta σ H (.ref a)) (hE : ExcC K D) (hk : PySem.W.kitOne K (.ref D) (.ref C) = some b) : Val (tCB (rIsX K a (.ref D) none) (tCons ta (tCons (tC (.ref C)) tNil))) σ H (.bl b) :=
  xv_isX ha val_c hE (fun u r => r) hk
theorem xv_isT {b : Bool} {n : String} (ha : Val ta σ H (.ref a)) (hE : ExcC K D) (hk : PySem.W.kitOne K (.ref D) (.type n) = some b) : Val (tCB (rIsX K a (.ref D) none) (tCons ta (tCons (tC (.ty n)) tNil))) σ H (.bl b) :=
  xv_isX ha val_c hE (fun u r => r) hk
end
/-- try: f(..) except C as n: suite -/
theorem xq_try {σ : L2.St} {H : Hp} {K : PySem.W.Frag} {D : Ends} {tz : TS} {sp : Sp} {c : Value} {i : Nat} {ts : Addr → Value → Option Addr → TS} {Wout : WX} {ta : TA} {vs : List V} (h : Arg ta σ H vs)
    (q : sp vs H (fun _ H1 => tz D σ H1) (fun cls d H' => wAs K c i ts Wout { D with nx := tz D } cls d σ H')) : tSeq (fun D σ H => tDrop (tCallS sp (WE (wAs K c i ts Wout D)) ta) D σ H) tz D σ H := h _ q
end Sh

/-! An own rule of the layer: try: body / except (A, B, ..): a suite that is never reached / except C as n: suite. -/
namespace Sh
open PySem PySem.Spec PyProof.Rows L2
/-- the names in the tuple of a clause, and the classes that they stand for -/
inductive TNames (X : Cx) : List Expr → List Value → Prop
  | nil : TNames X [] []
  | cons {x : Str} {p : Pos} {c : Value} {es : List Expr} {cs : List Value} (hc : Names X x c) (r : TNames X es cs) : TNames X (.Name x p :: es) (c :: cs)
/-- a tuple of such many classes is told of -/
def TupTold (cs : List Value) : Prop := ∀ {M : Model} {K : PySem.W.Frag} {cls : Value} {tp e : Addr} {b : Bool} {h : Heap}, K.In h → PySem.W.Looks M h (typeOf (.ref e)) cls → h.get? tp = some { cls := .type "tuple", data := .seq cs.toArray } → PySem.W.exmAny K cls cs = some b →
  PySem.W.Looks M h (excMatches (.ref e) (.ref tp)) b
theorem told2 {c1 c2 : Value} : TupTold [c1, c2] := fun X L hp hx => PySem.W.exm_tup2 X L hp hx
theorem told4 {c1 c2 c3 c4 : Value} : TupTold [c1, c2, c3, c4] := fun X L hp hx => PySem.W.exm_tup4 X L hp hx
theorem any_no {K : PySem.W.Frag} {cls c : Value} {r : List Value} (h : PySem.W.exmOne K cls c = some false) (hr : PySem.W.exmAny K cls r = some false) : PySem.W.exmAny K cls (c :: r) = some false := by
  unfold PySem.W.exmAny
  rw [h, hr]
  rfl
theorem fly_push {B : Heap} {l : List Env} {a : Addr} {Z : Obj → Prop} {h : Heap} (o : Obj) (f : HandSPX.FlyingZ B l a Z h) : HandSPX.FlyingZ B l a Z (h.push o) := by
  obtain ⟨k1, k2, k3, oe, vs, T, oT, ts, he, hz, hd, h1, hnT, hTe, hT, hdT, h3⟩ := f
  exact ⟨fun b o' e => Heap.get?_push_of_some _ (k1 b o' e), k2, k3.of_keeps fun b o' e _ => ⟨o', Heap.get?_push_of_some _ e, rfl⟩, oe, vs, T, oT, ts, Heap.get?_push_of_some _ he, hz, hd, h1, hnT, hTe, Heap.get?_push_of_some _ hT, hdT, h3⟩
/-- what the two clauses wish of an exception: the tuple does not take it, the second one as ever -/
def wTwo (K : PySem.W.Frag) (cs : List Value) (c : Value) (i : Nat) (ts : Addr → Value → Option Addr → TS) (Wout : WX) (D : Ends) : WX := fun cls d σ H => PySem.W.exmAny K cls cs = some false ∧ wAs K c i ts Wout D cls d σ H
section
variable {X : Cx} {x n : Str} {c : Value} {cs : List Value} {es : List Expr} {i : Nat} {body suite s₀ : List Stmt} {b₀ b₁ : Stmt} {np pos pos' p0 p1 : Pos} {kk : Nat} {tb : WX → TS} {ts : Addr → Value → Option Addr → TS} {Wout : WX}
/-- one name of a class, read while a is handled: nothing changes -/
theorem name_run {a : Addr} {pn : List (Addr × Obj)} {σ : L2.St} {H : Hp} {s : Shared} {E : Value → Shared → Prop} {Q : Value → Shared → Prop} {p : Pos} (S : Inv (X.suite a pn) [] σ H s) (hc : Names X x c) (q : Q c s) : wpAny (model X.prog X.w) (X.A.mark (some (.ref a))) (eval (.Name x p) X.env) Q E s := by
  rcases hc with ⟨gl, nd, own | ⟨no, bt, nn⟩⟩
  · exact ld_glob (X := X.suite a pn) S gl own q nd
  · exact ld_blt (X := X.suite a pn) S gl no bt q nn nd
/-- the names of the tuple, one after the other -/
theorem names_run {a : Addr} {pn : List (Addr × Obj)} {σ : L2.St} {H : Hp} {s : Shared} {E : Value → Shared → Prop} {ps : Pos} (S : Inv (X.suite a pn) [] σ H s) : ∀ {es : List Expr} {cs : List Value}, TNames X es cs → ∀ {Q : List Value → Shared → Prop}, Q cs s →
    wpAny (model X.prog X.w) (X.A.mark (some (.ref a))) (spliced (backTo ps (starEach es X.env))) Q E s
  | [], [], _, _, q => spliced_none q
  | _ :: _, _ :: _, .cons hc r, _, q => spliced_more (name_run S hc (names_run S r q))
/-- an exception that lies before the clauses: a lies at h, nothing else has changed since sI -/
structure Lies (X : Cx) (pins : List (Addr × Obj)) (σ : L2.St) (H : Hp) (B : Heap) (a : Addr) (cls : Value) (d : Option Addr) (sI s : Shared) : Prop where
  inv : Inv X pins σ H sI
  nb : ∀ b o, sI.heap.get? b = some o → b ∉ frs X.stack → B.get? b = some o
  up : sI.heap.UpToSlots s.heap
  fly : HandSPX.FlyingZ B (X.env :: X.outer) a (Zc cls d) s.heap
  na : H a = none
  os : s.os = sI.os
  ag : AllBare s.gens
section
variable {pins : List (Addr × Obj)} {σ : L2.St} {H : Hp} {B : Heap} {a : Addr} {cls : Value} {d : Option Addr} {sI s : Shared}
theorem Lies.here (L : Lies X pins σ H B a cls d sI s) : Inv X pins σ H s := L.inv.landed L.nb L.fly.1 L.up L.os L.ag
theorem Lies.heap (L : Lies X pins σ H B a cls d sI s) {h : Heap} (f : HandSPX.FlyingZ B (X.env :: X.outer) a (Zc cls d) h) (u : s.heap.UpToSlots h) : Lies X pins σ H B a cls d sI { s with heap := h } := ⟨L.inv, L.nb, L.up.trans u, f, L.na, L.os, L.ag⟩
theorem Lies.push (L : Lies X pins σ H B a cls d sI s) (o : Obj) : Lies X pins σ H B a cls d sI { s with heap := s.heap.push o } := L.heap (fly_push o L.fly) (Heap.UpToSlots.of_keeps fun _ _ e => Heap.get?_push_of_some _ e)
theorem Lies.suiteOf (L : Lies X pins σ H B a cls d sI s) (hf : X.env.frame = some X.env.locals) : ∃ oe vs, s.heap.get? a = some oe ∧ Zc cls d oe ∧ oe.data = .fields vs ∧ Inv (X.suite a ((a, oe) :: (X.pn ++ pins))) [] σ H s := by
  obtain ⟨oe, vs, he, hz, hd⟩ := L.fly.there
  have nfr : a ∉ frs (X.env :: X.outer) := fun hm => by
    obtain ⟨_, o', e', hnf⟩ := L.fly.2.2.1.mem hm
    rw [he] at e'
    cases e'
    exact hnf _ hd
  refine ⟨oe, vs, he, hz, hd, L.here.suite he hd L.na (fun z => nfr (List.mem_filterMap.mpr ⟨X.env, List.mem_cons_self, by rw [hf, z]⟩)) fun hm => ?_⟩
  obtain ⟨e, he2, q⟩ := List.mem_filterMap.mp hm
  exact nfr (List.mem_filterMap.mpr ⟨e, List.mem_cons_of_mem _ he2, q⟩)
/-- no clause is left: it flies on -/
theorem Lies.on {D : Ends} (L : Lies X pins σ H B a cls d sI s) (hs : X.stack = X.env :: X.outer) (hf : X.env.frame = some X.env.locals) (tk : Takes X Wout) (w : Wout cls d σ H) : wpAny (model X.prog X.w) X.A (handleBy (.ref a) X.env []) (SP X pins D) X.xe s := by
  have away : wpAny (model X.prog X.w) X.A (setFlight (.ref a) X.env.frame) (fun _ s2 => wpAny (model X.prog X.w) X.A (throw (.ref a) : Sem Flow) (SP X pins D) X.xe s2) X.xe s := by
    rw [hf]
    refine HandSPX.setFlight_upZ L.fly fun h2 hh up => wpAny_throw (tk _ _ ⟨a, B, sI, pins, σ, H, cls, d, rfl, L.inv, L.nb, L.up.trans up, .inr (.inr ?_), L.na, L.os, L.ag, w⟩)
    rw [hs]
    exact hh
  obtain ⟨_, _, _, oe, vs, T, _, _, he, _, hd, tb, _⟩ := id L.fly
  have some_tb : (Value.ref T == Value.none) = false := by simp
  apply wpAny_handleBy_nil
  unfold PySem.passOn
  refine wpAny_bind (wpAny_field he hd tb (by
    rw [some_tb, if_neg Bool.false_ne_true]
    first | exact wpAny_bind away | exact wpAny_bind (wpAny_pure (wpAny_bind away))))
/-- the clause with a name -/
theorem Lies.as {D : Ends} (L : Lies X pins σ H B a cls d sI s) (hs : X.stack = X.env :: X.outer) (hf : X.env.frame = some X.env.locals) (hN : X.N.Nodup) (hi : X.N[i]? = some n) (hln : X.env.kindOf n = some .local) (hc : Names X x c) (tk : Takes X Wout)
    (hsu : ∀ (b : Addr) (ob : Obj) (cl : Value) (e : Option Addr) (ps : List (Addr × Obj)), Zc cl e ob → (∃ fs, ob.data = .fields fs) → PSs (X.suite b ((b, ob) :: ps)) (b₀ :: suite) (ts b cl e))
    (w : wAs X.K c i ts Wout D cls d σ H) : wpAny (model X.prog X.w) X.A (handleBy (.ref a) X.env [.ExceptHandler (some (.Name x np)) (some n) (b₀ :: suite) pos']) (SP X pins D) X.xe s := by
  obtain ⟨takes, told, yes, no⟩ := w
  obtain ⟨oe, vs, he, hz, hd, S⟩ := L.suiteOf hf
  have type_of : PySem.W.Looks (model X.prog X.w) s.heap (typeOf (.ref a)) cls := fun A Q E s2 keeps q => wpAny_typeOf_ref (keeps _ _ he) (hz.1 ▸ q)
  have matches_ := PySem.W.exm_one (M := model X.prog X.w) L.here.kIn type_of told
  apply wpAny_handleBy_cons _ (by intro z; cases z)
  apply codeAny_handlers_test
  refine name_run S hc (matches_.here ?_)
  cases takes
  · exact L.on hs hf tk (no rfl)
  · refine codeAny_handlers_suite_as (HandSPX.lands_againZ L.fly fun h4 fl up => ?_)
    obtain ⟨o4, v4, he4, hz4, hd4, S4⟩ := (L.heap fl up).suiteOf hf
    -- behind the suite the name is gone
    have leave : ∀ {τ : L2.St} {G : Hp} {R : Shared → Prop} {s6 : Shared}, Inv (X.suite a ((a, o4) :: (X.pn ++ pins))) [] τ G s6 → (∀ s7, Inv X pins (τ.set i none) G s7 → R s7) → wpAny (model X.prog X.w) X.A (bindName X.env n .none >>= fun _ => unbindBehindTheSuite X.env n pos') (fun _ s7 => R s7) X.xe s6 :=
      fun S6 r => gone_ok (S6.unsuite L.inv.ok) hN hi hln r
    refine store_ok (X := X.suite a ((a, o4) :: (X.pn ++ pins))) (v := .ref a) S4 hN hi (.inl hln) rfl (fun s5 S5 => ?_) (.inr hln)
    refine wpAny_mono ((hsu a o4 cls d (X.pn ++ pins) hz4 ⟨v4, hd4⟩).run [] s5 _ H _ S5 (yes rfl a L.na)) ?_ fun _ _ z => z.elim
    intro f s6 z
    cases f
    case ret u =>
      obtain ⟨v, τ, G, S6, rel, fin⟩ := z
      exact leave S6 fun s7 J => ⟨v, τ.set i none, G, J, rel, fin⟩
    all_goals
      obtain ⟨τ, G, S6, fin⟩ := z
      exact leave S6 fun s7 J => ⟨τ.set i none, G, J, fin⟩
/-- the clause with a tuple, which does not take it -/
theorem Lies.tup {D : Ends} {rest : List ExceptHandler} (L : Lies X pins σ H B a cls d sI s) (hf : X.env.frame = some X.env.locals) (hc : TNames X es cs) (ht : TupTold cs) (hl : cs.length ≤ 1000) (hx : PySem.W.exmAny X.K cls cs = some false)
    (k : ∀ s', Lies X pins σ H B a cls d sI s' → wpAny (model X.prog X.w) X.A (handleBy (.ref a) X.env rest) (SP X pins D) X.xe s') :
    wpAny (model X.prog X.w) X.A (handleBy (.ref a) X.env (.ExceptHandler (some (.Tuple es kk p0)) none (b₁ :: s₀) p1 :: rest)) (SP X pins D) X.xe s := by
  obtain ⟨oe, vs, he, hz, hd, S⟩ := L.suiteOf hf
  apply wpAny_handleBy_cons _ (by intro z; cases z)
  apply codeAny_handlers_test
  refine Tuple_ (names_run (Q := fun vs s1 => wpAny _ _ (newTuple vs) _ _ s1) S hc ?_)
  refine wpAny_newObj_type ?_ (by show cs.toArray.size ≤ sizeLine; rw [List.size_toArray]; exact Nat.le_trans hl (by decide))
  have L' := L.push { cls := .type "tuple", dict := none, data := .seq cs.toArray }
  have LT : PySem.W.Looks (model X.prog X.w) (s.heap.push { cls := .type "tuple", dict := none, data := .seq cs.toArray }) (typeOf (.ref a)) cls := fun A Q E s' k q => wpAny_typeOf_ref (k _ _ (Heap.get?_push_of_some _ he)) (by rw [hz.1]; exact q)
  have LM := ht (M := model X.prog X.w) L'.here.kIn LT (Heap.get?_push_size _ rfl) hx
  refine LM.here ?_
  exact k _ L'
end
theorem ps_try_two (hs : X.stack = X.env :: X.outer) (hf : X.env.frame = some X.env.locals) (hN : X.N.Nodup) (hi : X.N[i]? = some n) (hln : X.env.kindOf n = some .local) (hcs : TNames X es cs) (ht : TupTold cs) (hl : cs.length ≤ 1000) (hc : Names X x c) (tk : Takes X Wout)
    (hb : ∀ (V : WX) (ps : List (Addr × Obj)) (xe : Value → Shared → Prop), Takes (X.tr ps xe) V → PassesOwn (model X.prog X.w) X.A X.env xe → PSs (X.tr ps xe) body (tb V))
    (hsu : ∀ (b : Addr) (ob : Obj) (cl : Value) (e : Option Addr) (ps : List (Addr × Obj)), Zc cl e ob → (∃ fs, ob.data = .fields fs) → PSs (X.suite b ((b, ob) :: ps)) (b₀ :: suite) (ts b cl e)) :
    PS X (.Try body [.ExceptHandler (some (.Tuple es kk p0)) none (b₁ :: s₀) p1, .ExceptHandler (some (.Name x np)) (some n) (b₀ :: suite) pos'] [] [] pos) (fun D σ H => tb (wTwo X.K cs c i ts Wout D) D σ H) := by
  constructor
  intro pins s σ H D I h
  have ok := I.ok
  have frames := ok.frames
  rw [hs] at frames
  apply wpAny_Try_except
  -- what the two clauses do with an exception that comes to them
  have caught : Takes (X.tr (X.pn ++ pins) fun e s1 => wpAny (model X.prog X.w) X.A (noteFrame e X.env) (fun _ s2 => wpAny (model X.prog X.w) X.A (setFlight e none) (fun _ s3 =>
      wpAny (model X.prog X.w) X.A (handleBy e X.env [.ExceptHandler (some (.Tuple es kk p0)) none (b₁ :: s₀) p1, .ExceptHandler (some (.Name x np)) (some n) (b₀ :: suite) pos']) (SP X pins D) X.xe s3) X.xe s2) X.xe s1) (wTwo X.K cs c i ts Wout D) := by
    rintro u s1 ⟨a, B, sI, pins2, τ, G, cls, d, rfl, J, nb, up, sky, na, os, ag, none_of, second⟩
    have above : Sky B (X.env :: X.outer) a (Zc cls d) X.env.locals s1.heap := hs ▸ sky
    refine Sky.land Zc.steady frames hf above ?_
    intro h3 fl up3
    have L : Lies X pins τ G B a cls d sI { s1 with heap := h3 } := ⟨J.ofTry ok, nb, up.trans up3, fl, na, os, ag⟩
    exact L.tup hf hcs ht hl none_of fun s5 L5 => L5.as hs hf hN hi hln hc tk hsu second
  refine wpAny_mono ((hb _ _ _ caught PassesOwn.looking).run [] s σ H D (I.toTry _) h) ?_ fun _ _ z => z
  intro f s1 z
  cases f
  case next =>
    obtain ⟨τ, G, J, fin⟩ := z
    exact wpAny_execs_nil ⟨τ, G, J.ofTry ok, fin⟩
  case ret u =>
    obtain ⟨v, τ, G, J, rel, fin⟩ := z
    exact ⟨v, τ, G, J.ofTry ok, rel, fin⟩
  all_goals
    obtain ⟨τ, G, J, fin⟩ := z
    exact ⟨τ, G, J.ofTry ok, fin⟩
end
/-- try: f(..) with two such clauses -/
theorem xq_two {σ : L2.St} {H : Hp} {K : PySem.W.Frag} {D : Ends} {tz : TS} {sp : Sp} {cs : List Value} {c : Value} {i : Nat} {ts : Addr → Value → Option Addr → TS} {Wout : WX} {ta : TA} {vs : List V} (h : Arg ta σ H vs)
    (q : sp vs H (fun _ H1 => tz D σ H1) (fun cls d H' => wTwo K cs c i ts Wout { D with nx := tz D } cls d σ H')) : tSeq (fun D σ H => tDrop (tCallS sp (WE (wTwo K cs c i ts Wout D)) ta) D σ H) tz D σ H := h _ q
end Sh

namespace Sh
/-! rows: noughts and ones, no two ones side by side, the last a one; there is one of each weight -/
structure Rw (xs : List Int) : Prop where
  zo : ∀ x ∈ xs, x = 0 ∨ x = 1
  st : stillB 0 xs = true
  ba : xs = [] ∨ xs.getLastD 0 = 1
theorem still_snoc (ys : List Int) (c : Int) : stillB 0 (ys ++ [c]) = (stillB 0 ys && !(decide (1 < c) || (decide (0 < c) && decide (0 < ys.getLastD 0)))) := by
  rw [stillB_append]
  show (stillB 0 ys && (!(decide (1 < c) || (decide (0 < c) && decide (0 < ys.getLastD 0))) && true)) = _
  rw [Bool.and_true]
theorem zo_init {ys : List Int} {c : Int} (h : ∀ x ∈ ys ++ [c], x = 0 ∨ x = 1) : (∀ x ∈ ys, x = 0 ∨ x = 1) ∧ (c = 0 ∨ c = 1) := ⟨fun x hx => h x (List.mem_append_left _ hx), h c (List.mem_append_right _ List.mem_cons_self)⟩
theorem S_snoc (f : Nat → Int) (ys : List Int) (c : Int) : S f 0 (ys ++ [c]) = S f 0 ys + c * f ys.length := by
  rw [S_append, S_one, Nat.zero_add]
theorem Z_lt : ∀ (n : Nat) (xs : List Int), xs.length = n → (∀ x ∈ xs, x = 0 ∨ x = 1) → stillB 0 xs = true → S W 0 xs < W n
  | 0, xs, h, _, _ => by
    rw [List.eq_nil_of_length_eq_zero h]
    decide
  | n + 1, xs, h, hz, hs => by
    obtain ⟨ys, c, rfl⟩ := snoc_of (xs := xs) (by intro e; rw [e] at h; cases h)
    have hl : ys.length = n := by
      rw [List.length_append, List.length_singleton] at h
      omega
    obtain ⟨z1, z2⟩ := zo_init hz
    rw [still_snoc, Bool.and_eq_true] at hs
    obtain ⟨s1, s2⟩ := hs
    have ih := Z_lt n ys hl z1 s1
    rw [S_snoc, hl]
    rcases z2 with rfl | rfl
    · have := W_lt n
      omega
    · match n, ys, hl, z1, s1, s2, ih with
      | 0, ys, hl, _, _, _, _ =>
        rw [List.eq_nil_of_length_eq_zero hl]
        decide
      | m + 1, ys, hl, z1, s1, s2, ih =>
        obtain ⟨zs, d, rfl⟩ := snoc_of (xs := ys) (by intro e; rw [e] at hl; cases hl)
        have hl2 : zs.length = m := by
          rw [List.length_append, List.length_singleton] at hl
          omega
        obtain ⟨y1, y2⟩ := zo_init z1
        rw [still_snoc, Bool.and_eq_true] at s1
        have ih2 := Z_lt m zs hl2 y1 s1.1
        have hd : d = 0 := by
          rcases y2 with e | e
          · exact e
          · subst e
            simp at s2
        subst hd
        rw [S_snoc]
        show _ < W m + W (m + 1)
        omega
/-- greedy, from the top -/
def gr : Nat → Int → List Int
  | 0, _ => []
  | k + 1, n => if W k ≤ n then 1 :: gr k (n - W k) else 0 :: gr k n
theorem gr_len : ∀ (k : Nat) (n : Int), (gr k n).length = k
  | 0, _ => rfl
  | k + 1, n => by
    unfold gr
    split <;> rw [List.length_cons, gr_len k]
theorem zo_nonneg {xs : List Int} (h : ∀ x ∈ xs, x = 0 ∨ x = 1) : ∀ x ∈ xs, 0 ≤ x := fun x hx => by
  rcases h x hx with e | e <;> omega
theorem Z_gr : ∀ (n : Nat) (xs : List Int), xs.length = n → (∀ x ∈ xs, x = 0 ∨ x = 1) → stillB 0 xs = true → gr n (S W 0 xs) = xs.reverse
  | 0, xs, h, _, _ => by
    rw [List.eq_nil_of_length_eq_zero h]
    rfl
  | n + 1, xs, h, hz, hs => by
    obtain ⟨ys, c, rfl⟩ := snoc_of (xs := xs) (by intro e; rw [e] at h; cases h)
    have hl : ys.length = n := by
      rw [List.length_append, List.length_singleton] at h
      omega
    obtain ⟨z1, z2⟩ := zo_init hz
    rw [still_snoc, Bool.and_eq_true] at hs
    have ih := Z_gr n ys hl z1 hs.1
    have hlt := Z_lt n ys hl z1 hs.1
    have h0 := S_nonneg (f := W) (fun k => Int.le_of_lt (W_pos k)) ys 0 (zo_nonneg z1)
    rw [S_snoc, hl, List.reverse_append]
    unfold gr
    rcases z2 with rfl | rfl
    · rw [Int.zero_mul, Int.add_zero, if_neg (by omega), ih]
      rfl
    · rw [Int.one_mul, if_pos (by omega), Int.add_sub_cancel, ih]
      rfl
theorem Rw.nonneg {xs : List Int} (h : Rw xs) : ∀ x ∈ xs, 0 ≤ x := zo_nonneg h.zo
theorem Rw.top {xs : List Int} (h : Rw xs) (hne : xs ≠ []) : W (xs.length - 1) ≤ S W 0 xs := by
  obtain ⟨ys, c, rfl⟩ := snoc_of hne
  have hc : c = 1 := by
    rcases h.ba with e | e
    · simp at e
    · simpa using e
  subst hc
  have h0 := S_nonneg (f := W) (fun k => Int.le_of_lt (W_pos k)) ys 0 (zo_nonneg (zo_init h.zo).1)
  rw [S_snoc, List.length_append, List.length_singleton, Nat.add_sub_cancel]
  omega
theorem Rw.lt {xs : List Int} (h : Rw xs) : S W 0 xs < W xs.length := Z_lt _ xs rfl h.zo h.st
theorem Rw.len_le {xs ys : List Int} (hx : Rw xs) (hy : Rw ys) (e : S W 0 xs = S W 0 ys) : xs.length ≤ ys.length := by
  by_cases h0 : xs = []
  · rw [h0]
    exact Nat.zero_le _
  · have h1 := hx.top h0
    have h2 := hy.lt
    by_cases hl : xs.length ≤ ys.length
    · exact hl
    · have h3 := W_mono (i := ys.length) (j := xs.length - 1) (by omega)
      omega
/-- ONE ROW OF EACH WEIGHT -/
theorem Rw.uniq {xs ys : List Int} (hx : Rw xs) (hy : Rw ys) (e : S W 0 xs = S W 0 ys) : xs = ys := by
  have hl : xs.length = ys.length := Nat.le_antisymm (hx.len_le hy e) (hy.len_le hx e.symm)
  have h1 := Z_gr _ xs rfl hx.zo hx.st
  have h2 := Z_gr _ ys rfl hy.zo hy.st
  rw [hl, e, h2] at h1
  have h3 := congrArg List.reverse h1
  rw [List.reverse_reverse, List.reverse_reverse] at h3
  exact h3.symm
theorem gr_ok : ∀ (k : Nat) (n : Int), 0 ≤ n → n < W k → (∀ x ∈ (gr k n).reverse, x = 0 ∨ x = 1) ∧ stillB 0 (gr k n).reverse = true ∧ S W 0 (gr k n).reverse = n ∧ (0 < k → (W (k - 1) ≤ n ↔ (gr k n).reverse.getLastD 0 = 1))
  | 0, n, h0, h1 => by
    have h1 : n < 1 := h1
    have : n = 0 := by omega
    subst this
    exact ⟨fun x h => (nomatch h), rfl, rfl, fun z => (nomatch z)⟩
  | k + 1, n, h0, h1 => by
    unfold gr
    by_cases hc : W k ≤ n
    · rw [if_pos hc, List.reverse_cons]
      have hlt : n - W k < W k := by
        match k, h1, hc with
        | 0, h1, hc =>
          have h1 : n < 2 := h1
          show n - 1 < 1
          omega
        | j + 1, h1, hc =>
          have h1 : n < W j + W (j + 1) := h1
          have := W_lt j
          omega
      obtain ⟨a1, a2, a3, a4⟩ := gr_ok k (n - W k) (by omega) hlt
      have hlen : (gr k (n - W k)).reverse.length = k := by rw [List.length_reverse, gr_len]
      have hlast : (gr k (n - W k)).reverse.getLastD 0 ≤ 0 := by
        match k, h1, hc, a1, a4, hlen with
        | 0, _, _, _, _, hlen =>
          rw [List.eq_nil_of_length_eq_zero hlen]
          decide
        | j + 1, h1, hc, a1, a4, hlen =>
          obtain ⟨ys, c, e⟩ := snoc_of (xs := (gr (j + 1) (n - W (j + 1))).reverse) (by intro e; rw [e] at hlen; cases hlen)
          rw [e] at a1 a4
          rw [e]
          have h1 : n < W j + W (j + 1) := h1
          have h5 := a4 (Nat.succ_pos j)
          have h6 : ¬ W (j + 1 - 1) ≤ n - W (j + 1) := by
            show ¬ W j ≤ _
            omega
          have hc1 : c ≠ 1 := fun e => h6 (h5.mpr (by rw [e]; simp))
          rcases (zo_init a1).2 with e | e
          · rw [e]
            simp
          · exact absurd e hc1
      refine ⟨fun x hx => ?_, ?_, ?_, fun _ => ⟨fun _ => by simp, fun _ => hc⟩⟩
      · rcases List.mem_append.mp hx with h | h
        · exact a1 x h
        · exact .inr (List.mem_singleton.mp h)
      · rw [still_snoc, a2, decide_eq_false (show ¬ 0 < (gr k (n - W k)).reverse.getLastD 0 by omega)]
        rfl
      · rw [S_snoc, a3, hlen]
        omega
    · rw [if_neg hc, List.reverse_cons]
      obtain ⟨a1, a2, a3, a4⟩ := gr_ok k n h0 (by omega)
      have hlen : (gr k n).reverse.length = k := by rw [List.length_reverse, gr_len]
      refine ⟨fun x hx => ?_, ?_, ?_, fun _ => ⟨fun z => absurd z hc, fun z => ?_⟩⟩
      · rcases List.mem_append.mp hx with h | h
        · exact a1 x h
        · exact .inl (List.mem_singleton.mp h)
      · rw [still_snoc, a2]
        rfl
      · rw [S_snoc, a3]
        omega
      · simp at z
/-- the row of a number, as greed finds it -/
theorem gr_rw {k : Nat} {n : Int} (h0 : 0 ≤ n) (h1 : n < W k) (ht : 0 < k → W (k - 1) ≤ n) : Rw (gr k n).reverse ∧ S W 0 (gr k n).reverse = n := by
  obtain ⟨a1, a2, a3, a4⟩ := gr_ok k n h0 h1
  refine ⟨⟨a1, a2, ?_⟩, a3⟩
  by_cases hk : 0 < k
  · exact .inr ((a4 hk).mp (ht hk))
  · have : k = 0 := by omega
    subst this
    exact .inl rfl
theorem W_two : ∀ j : Nat, (2 : Int) ^ j ≤ W (2 * j)
  | 0 => by decide
  | j + 1 => by
    have ih := W_two j
    have h1 := W_lt (2 * j)
    show (2 : Int) ^ j * 2 ≤ W (2 * j) + W (2 * j + 1)
    omega
theorem T60_W : T60 < W 1000 := by
  have h1 := W_two 500
  have h2 : T60 < (2 : Int) ^ 500 := by decide +kernel
  exact Int.lt_of_lt_of_le h2 h1
/-- as the law asks it of a row: what stands at i, what beneath -/
theorem Rw.at {xs : List Int} (h : Rw xs) {i : Nat} {c : Int} (hi : xs[i]? = some c) : (c = 0 ∨ c = 1) ∧ c + prev xs i ≤ 1 ∧ (prev xs i = 0 ∨ prev xs i = 1) := by
  have h1 := h.zo c (List.mem_of_getElem? hi)
  have hp : prev xs i = 0 ∨ prev xs i = 1 := by
    match i with
    | 0 => exact .inl (prev_zero xs)
    | j + 1 =>
      have hj : j < xs.length := by
        have := (List.getElem?_eq_some_iff.mp hi).1
        omega
      rw [prev_succ (get_of hj)]
      exact h.zo _ (List.mem_of_getElem? (get_of hj))
  refine ⟨h1, ?_, hp⟩
  have h2 := stillB_take hi
  have h3 : stillB 0 (xs.take (i + 1)) = true := by
    cases e : stillB 0 (xs.take (i + 1)) with
    | true => rfl
    | false => exact absurd (stillB_stop _ e) (by rw [h.st]; decide)
  rw [h3] at h2
  have h4 := (Bool.and_eq_true_iff.mp h2.symm).2
  rcases h1 with e | e
  · omega
  · subst e
    rcases hp with e | e
    · omega
    · rw [e] at h4
      simp at h4
theorem Rw.end {xs : List Int} (h : Rw xs) : xs = [] ∨ prev xs xs.length = 1 := by
  unfold prev
  rw [List.take_length]
  exact h.ba
theorem Rw.nil : Rw [] := ⟨fun _ h => (nomatch h), rfl, .inl rfl⟩
theorem Rw.sm {xs : List Int} (h : Rw xs) (hl : xs.length ≤ 100000) : Sm xs := ⟨hl, fun x hx => by
  have h3 : (2 : Nat) ^ 20 ≤ 2 ^ 1000 := by decide +kernel
  have h4 : (2 : Nat) ^ 20 = 1048576 := by decide
  rcases h.zo x hx with e | e <;> omega⟩
end Sh

namespace Sh
/-! the row of a number, named -/
def top (n : Int) : Nat → Nat
  | 0 => 0
  | k + 1 => if W k ≤ n then k + 1 else top n k
theorem top_ok {n : Int} : ∀ K : Nat, n < W K → n < W (top n K) ∧ (0 < top n K → W (top n K - 1) ≤ n) ∧ top n K ≤ K
  | 0, h => ⟨h, fun z => (nomatch z), Nat.le_refl _⟩
  | k + 1, h => by
    unfold top
    by_cases hc : W k ≤ n
    · rw [if_pos hc]
      exact ⟨h, fun _ => hc, Nat.le_refl _⟩
    · rw [if_neg hc]
      obtain ⟨a, b, c⟩ := top_ok k (show n < W k by omega)
      exact ⟨a, b, by omega⟩
def rowOf (n : Int) : List Int := (gr (top n 1000) n).reverse
theorem rowOf_rw {n : Int} (h0 : 0 ≤ n) (h1 : n < W 1000) : Rw (rowOf n) := (gr_rw h0 (top_ok 1000 h1).1 (top_ok 1000 h1).2.1).1
theorem rowOf_wt {n : Int} (h0 : 0 ≤ n) (h1 : n < W 1000) : S W 0 (rowOf n) = n := (gr_rw h0 (top_ok 1000 h1).1 (top_ok 1000 h1).2.1).2
theorem rowOf_len {n : Int} (h1 : n < W 1000) : (rowOf n).length ≤ 1000 := by
  unfold rowOf
  rw [List.length_reverse, gr_len]
  exact (top_ok 1000 h1).2.2
theorem rowOf_sm {n : Int} (h0 : 0 ≤ n) (h1 : n < W 1000) : Sm (rowOf n) := (rowOf_rw h0 h1).sm (Nat.le_trans (rowOf_len h1) (by decide))
theorem rowOf_is {n : Int} (h0 : 0 ≤ n) (h1 : n < W 1000) {xs : List Int} (hR : Rw xs) (hw : S W 0 xs = n) : xs = rowOf n := hR.uniq (rowOf_rw h0 h1) (by rw [hw, rowOf_wt h0 h1])
theorem W_900 : 2 * W 900 ≤ W 1000 := by
  have h1 := W_lt 900
  have h2 : W 902 = W 900 + W 901 := rfl
  have h3 : W 902 ≤ W 1000 := W_mono (by decide)
  have h4 : W 900 < W 901 := h1
  omega
def BB : Int := W 420
theorem BB_W : BB + 100 < W 900 := by
  have h1 : ((421 : Nat) : Int) < W 421 := W_ge 421
  have h2 : W 422 = W 420 + W 421 := rfl
  have h3 : W 422 ≤ W 900 := W_mono (by decide)
  have h4 : BB = W 420 := rfl
  omega
theorem BB_0 : 0 < BB := W_pos 420
theorem BB_62 : (10 : Int) ^ (62 : Int).toNat ≤ BB := by
  have h1 := W_two 210
  have h2 : (10 : Int) ^ (62 : Int).toNat ≤ (2 : Int) ^ 210 := by decide +kernel
  exact Int.le_trans h2 h1
theorem W_BB {k : Nat} (h : k < 290) : W k ≤ BB := W_mono (by omega)
end Sh

/-! Own words over the layer for rows: chained comparisons, reversed lists, a list beside the empty one. -/
namespace Sh
open PySem PySem.Spec PyProof.Rows L2
section
variable {σ : L2.St} {H : Hp} {K : PySem.W.Frag} {ta tb tc te : TE} {D : Ends} {ts tz tu : TS} {x y w : V}
theorem xv_chain {r r' : R2} {a b : Bool} (ha : Val ta σ H x) (hb : Val tb σ H y) (hr : ∀ Q : VK, Q (.bl a) H → r x y H Q) (h2 : a = true → Val tc σ H w ∧ ∀ Q : VK, Q (.bl b) H → r' y w H Q) : Val (tChain r r' ta tb tc) σ H (.bl (a && b)) := fun Q q =>
  ha _ (hb _ (hr _ ⟨a, rfl, by
    cases a with
    | true => exact (h2 rfl).1 _ ((h2 rfl).2 _ q)
    | false => exact q⟩))
theorem xq_forRev {ta : TA} {a : Addr} {xs : List V} {j : Nat} (h : Arg ta σ H [.ref a]) (hx : SqL K H a xs) (Pv : Nat → L2.St → Hp → Prop) (h0 : Pv 0 σ H) (hq : ∀ i σ H, Pv i σ H → SqL K H a xs)
    (hs : ∀ (i : Nat) (x : V) (σ' : L2.St) (H' : Hp), i < xs.length → xs[xs.length - 1 - i]? = some x → Pv i σ' H' → ts { D with nx := Pv (i + 1), ct := Pv (i + 1), bk := tz D } (σ'.set j (some x)) H') (hd : ∀ σ' H', Pv xs.length σ' H' → tz D σ' H') :
    tSeq (tFor (iRev K ta) (gName j) ts) tz D σ H := h _ ⟨a, xs, rfl, hx, RT.for_Itv (D := { D with nx := tz D }) Pv h0 hq hs hd⟩
theorem ev_eqI {a : Addr} {ns : List Int} (ha : Evl.Ev ta σ H (.ref a)) (hS : SqL K H a (ns.map V.int)) : Evl.Ev (tOp (rEqD K) ta (tLst tNil)) σ H (.bl (decide (ns = []))) :=
  Evl.ev_opL ha (Evl.el_lst Evl.ea_nil (by decide)) (fun p H1 h1 e1 => fun H2 e2 Q q => ⟨_, _, .lst (Same.seq e2 (Same.seq e1 hS)) (dpAll_int ns), .lst (SqL.of (e2 p _ h1)) .nil, shaped_int ns, by decide +kernel, by rw [show (PyData.list []) = .list (([] : List Int).map PyData.int) from rfl, eqv_int]; exact q H2 (Evl.Ex.refl H2)⟩)
/-- is it a number from 0 to below 10 ** 60 -/
def numB : V → Bool
  | .int n => decide (0 ≤ n) && decide (n < T60)
  | _ => false
theorem numB_int {n : Int} (h0 : 0 ≤ n) (h1 : n < T60) : numB (.int n) = true := by
  show (decide (0 ≤ n) && decide (n < T60)) = true
  rw [decide_eq_true h0, decide_eq_true h1]
  rfl
theorem numB_lo {n : Int} (h0 : n < 0) : numB (.int n) = false := by
  show (decide (0 ≤ n) && decide (n < T60)) = false
  rw [decide_eq_false (by omega)]
  rfl
theorem numB_hi {n : Int} (h0 : T60 ≤ n) : numB (.int n) = false := by
  show (decide (0 ≤ n) && decide (n < T60)) = false
  rw [decide_eq_false (p := n < T60) (by omega), Bool.and_false]
/-- the kinds of things that are asked -/
def Kd (K : PySem.W.Frag) (H : Hp) (x : V) : Prop := (∃ n, x = .int n) ∨ (numB x = false ∧ (TyX K H x (.type "bool") ∨ ∃ t, TyX K H x (.type t) ∧ kitB t "int" = some false))
theorem Kd.int {n : Int} : Kd K H (.int n) := .inl ⟨n, rfl⟩
theorem Kd.bl {b : Bool} : Kd K H (.bl b) := .inr ⟨rfl, .inl (.base (.bl b))⟩
theorem Kd.str {s : Str} : Kd K H (.str s) := .inr ⟨rfl, .inr ⟨"str", .base (.str s), by decide +kernel⟩⟩
theorem Kd.non : Kd K H .non := .inr ⟨rfl, .inr ⟨"NoneType", .base .non, by decide +kernel⟩⟩
theorem Kd.lst {a : Addr} {xs : List V} (h : SqL K H a xs) : Kd K H (.ref a) := .inr ⟨rfl, .inr ⟨"list", tyx_L h, by decide +kernel⟩⟩
theorem xr_lst {Q : VK} {tr : TA} (h : tr σ H fun xs H1 => xs.length ≤ sizeLine ∧ ∀ p, H1 p = none → Q (.ref p) (upd H1 p (.lst xs))) : tLst tr σ H Q := h
theorem xr_nil {Q : List V → Hp → Prop} (h : Q [] H) : tNil σ H Q := h
theorem xr_opR {r : R2} {Q : VK} (h : ta σ H fun x H1 => tb σ H1 fun y H2 => r x y H2 Q) : tOp r ta tb σ H Q := h
end
end Sh

/-! Own words over the layer for texts: a text is told by the list of its signs' numbers. An own rule: text * int. -/
namespace Sh
open PySem PySem.Spec PyProof.Rows L2
def tx (l : List Nat) : Str := ⟨l.toArray⟩
theorem tx_cps (z : Str) : tx z.cps.toList = z := rfl
theorem tx_len (l : List Nat) : (tx l).length = l.length := List.size_toArray
theorem tx_inj {l m : List Nat} (h : tx l = tx m) : l = m := by
  have h := congrArg (fun z : Str => z.cps.toList) h
  exact h
theorem tx_app (l m : List Nat) : tx l ++ tx m = tx (l ++ m) := by
  show Str.append (tx l) (tx m) = tx (l ++ m)
  unfold Str.append tx
  congr 1
  simp
theorem tx_eq (l m : List Nat) : decide (V.str (tx l) = V.str (tx m)) = decide (l = m) := by
  by_cases h : l = m
  · subst h
    rw [decide_eq_true rfl, decide_eq_true rfl]
  · rw [decide_eq_false h, decide_eq_false (fun e => h (tx_inj (V.str.inj e)))]
/-- text * int: some text of that length -/
def rRepS : R2 := fun x y H Q => ∃ (z : Str) (i : Int), x = .str z ∧ y = .int i ∧ 0 ≤ i ∧ i ≤ 100000 ∧ z.length * i.toNat ≤ 1000000 ∧ Q (.str (tx (List.replicate i.toNat z.cps.toList).flatten)) H
theorem fold_cps (c : Array Nat) : ∀ (n : Nat) (b : Array Nat), (List.replicate n c).foldl (· ++ ·) b = (b.toList ++ (List.replicate n c.toList).flatten).toArray
  | 0, b => by simp
  | n + 1, b => by
    rw [List.replicate_succ, List.foldl_cons, fold_cps c n, List.replicate_succ, List.flatten_cons]
    simp
theorem op_repS {X : Cx} : OpR X (binaryOp .Mult) rRepS := by
  intro pins s σ H x y v u Q I left right
  rintro ⟨z, i, rfl, rfl, h0, h1, hz, q⟩
  obtain ⟨t, rfl⟩ := left
  obtain ⟨t', rfl⟩ := right
  have hl := sizeLine_eq
  have hlen : (List.replicate i.toNat z.cps.toList).flatten.length = z.length * i.toNat := by
    rw [List.length_flatten, List.map_replicate, List.sum_replicate_nat, Nat.mul_comm]
    rfl
  refine PySem.P.mul_str (by rw [decide_eq_false (by omega), decide_eq_false (by omega)]; rfl) (fun h2 _ => ?_) (fun _ _ => ?_) ?_
  · have hd : (1000000 : Int) ≤ (2 ^ 63 - 1) / i := by
      rw [Int.le_ediv_iff_mul_le (by omega)]
      have := Int.mul_le_mul_of_nonneg_left h1 (show (0 : Int) ≤ 1000000 by decide)
      omega
    have hi : 1 ≤ i.toNat := by omega
    have : z.length * 1 ≤ z.length * i.toNat := Nat.mul_le_mul_left _ hi
    omega
  · unfold Builtin.Str.tooLong
    exact decide_eq_false (by omega)
  · split
    · rename_i h2
      have : i = 0 := by omega
      subst this
      exact ⟨by decide, ⟨.str _, H, I.tok _, ⟨_, rfl⟩, q⟩⟩
    · split
      · rename_i h2 h3
        refine ⟨.str z, H, I, ⟨t, rfl⟩, ?_⟩
        have e : tx (List.replicate i.toNat z.cps.toList).flatten = z := by
          rw [Bool.or_eq_true, beq_iff_eq, beq_iff_eq] at h3
          rcases h3 with h3 | h3
          · subst h3
            show tx (List.replicate 1 z.cps.toList).flatten = z
            simp [tx]
          · have hc : z.cps.toList = [] := List.eq_nil_of_length_eq_zero h3
            have hf : (List.replicate i.toNat z.cps.toList).flatten = z.cps.toList := by
              rw [hc]
              simp
            rw [hf]
            exact tx_cps z
        rw [e] at q
        exact q
      · refine ⟨?_, ⟨.str _, H, I.tok _, ⟨_, rfl⟩, ?_⟩⟩
        · show (Array.size _) ≤ sizeLine
          rw [fold_cps, List.size_toArray, List.length_append]
          show 0 + _ ≤ _
          omega
        · rw [fold_cps]
          exact q
section
variable {σ : L2.St} {H H0 : Hp} {K : PySem.W.Frag} {ta tb tc te tl : TE} {D : Ends} {ts tz tu : TS} {to th : TO} {x y v : V}
theorem xv_addS {l m : List Nat} (ha : Val ta σ H (.str (tx l))) (hb : Val tb σ H (.str (tx m))) (hz : l.length + m.length ≤ 1000000) :
    Val (tOp (fun x y H Q => ∃ i j, x = .str i ∧ y = .str j ∧ i.length + j.length ≤ sizeLine ∧ Q (.str (i ++ j)) H) ta tb) σ H (.str (tx (l ++ m))) :=
  val_op ha hb fun Q q => ⟨_, _, rfl, rfl, by rw [tx_len, tx_len]; exact Nat.le_trans hz (by decide), by rw [tx_app]; exact q⟩
theorem xv_eqS {l m : List Nat} (ha : Val ta σ H (.str (tx l))) (hb : Val tb σ H (.str (tx m))) : Val (tOp rEq ta tb) σ H (.bl (decide (l = m))) := xv_to (xv_eq ha hb rfl) (congrArg V.bl (tx_eq l m))
theorem xv_neS {l m : List Nat} (ha : Val ta σ H (.str (tx l))) (hb : Val tb σ H (.str (tx m))) : Val (tOp rNe ta tb) σ H (.bl (!decide (l = m))) := xv_to (xv_ne ha hb rfl) (by rw [tx_eq])
theorem xv_cS {s : Str} {l : List Nat} (h : s = tx l) : Val (tC (.str s)) σ H (.str (tx l)) := xv_c (congrArg V.str h)
theorem xv_repS {l : List Nat} {i : Int} (ha : Val ta σ H (.str (tx l))) (hb : Val tb σ H (.int i)) (h0 : 0 ≤ i) (h1 : i ≤ 100000) (hz : l.length * i.toNat ≤ 1000000) : Val (tOp rRepS ta tb) σ H (.str (tx (List.replicate i.toNat l).flatten)) :=
  val_op ha hb fun Q q => ⟨_, _, rfl, rfl, h0, h1, by rw [tx_len]; exact hz, q⟩
/-- a bound of a slice -/
def Bnd (to : TO) (σ : L2.St) (H : Hp) (o : Option Int) : Prop := ∀ Q : Option Int → Hp → Prop, Q o H → to σ H Q
theorem xv_slS {l : List Nat} {lo hi : Option Int} (ha : Val ta σ H (.str (tx l))) (h1 : Bnd to σ H lo) (h2 : Bnd th σ H hi) (hz : l.length ≤ 1000000) : Val (tSl rSlS ta to th) σ H (.str (cutS (tx l) lo hi)) := fun Q q =>
  ha _ (h1 _ (h2 _ ⟨_, rfl, by rw [tx_len]; exact Nat.le_trans hz (by decide), q⟩))
theorem cut_tx (l : List Nat) (lo hi : Option Int) : cutS (tx l) lo hi = tx ((l.drop (HT.sIx l.length 0 lo)).take (HT.sIx l.length l.length hi - HT.sIx l.length 0 lo)) := by
  unfold cutS
  rw [tx_len]
  rfl
theorem cut_len (l : List Nat) (lo hi : Option Int) : ∃ m : List Nat, cutS (tx l) lo hi = tx m ∧ m.length ≤ l.length := ⟨_, cut_tx l lo hi, by
  rw [List.length_take, List.length_drop]
  omega⟩
theorem xv_ixS {l : List Nat} {i : Int} {c : Nat} (ha : Val ta σ H (.str (tx l))) (hb : Val tb σ H (.int i)) (hz : l.length ≤ 1000000) (hc : atI l i = some c) : Val (tOp rIxS ta tb) σ H (.str (tx [c])) :=
  val_op ha hb fun Q q => ⟨_, _, c, rfl, rfl, by rw [tx_len]; exact Nat.le_trans hz (by decide), hc, q⟩
theorem xv_lenS {l : List Nat} (ha : Val ta σ H (.str (tx l))) (hz : l.length ≤ 1000000) : Val (tCB (fun xs H Q => ∃ x n, xs = [x] ∧ LenV K x H n ∧ Q (.int n) H) (tCons ta tNil)) σ H (.int (l.length : Int)) := fun Q q => ha _ ⟨_, l.length, rfl, ⟨by rw [tx_len]; exact Nat.le_trans hz (by decide), (tx_len l).symm⟩, q⟩
theorem xr_callT {sp : Sp} {E : XK} {Q : VK} {tr : TA} (h : tr σ H fun vs H1 => sp (vs ++ []) H1 Q E) : tCall sp [] E tr σ H Q := h
theorem xr_consT {tr : TA} {Q : List V → Hp → Prop} (h : te σ H fun x H1 => tr σ H1 fun xs H2 => Q (x :: xs) H2) : tCons te tr σ H Q := h
theorem xr_nilT {Q : List V → Hp → Prop} (h : Q [] H) : tNil σ H Q := h
theorem xq_drop (h : te σ H fun _ H1 => tz D σ H1) : tSeq (tDrop te) tz D σ H := h
theorem xq_asgT {g : TG} (h : te σ H fun v H1 => g v σ H1 fun σ2 H2 => tz D σ2 H2) : tSeq (tAsg te g) tz D σ H := h
theorem bnd_some {i : Int} (h : Val te σ H (.int i)) : Bnd (tPart te) σ H (some i) := fun Q q => h _ ⟨i, rfl, q⟩
theorem xr_opT {r : R2} {Q : VK} (h : ta σ H fun x H1 => tb σ H1 fun y H2 => r x y H2 Q) : tOp r ta tb σ H Q := h
theorem xs_runT {i : Nat} (h : te σ H fun v H1 => D.nx (σ.set i (some v)) H1) : tAsg te (gName i) D σ H := h
theorem atI_ok {l : List Nat} {i : Int} (h0 : 0 ≤ i) (h1 : i < l.length) : ∃ c, atI l i = some c := by
  obtain ⟨n, rfl⟩ := Int.eq_ofNat_of_zero_le h0
  have hn : n < l.length := by omega
  exact ⟨l[n], atI_nat (List.getElem?_eq_getElem hn)⟩
theorem join_tx : ∀ ys : List (List Nat), Str.join (tx []) (ys.map tx) = tx ys.flatten
  | [] => rfl
  | [x] => by
    show tx x = tx (x ++ [])
    rw [List.append_nil]
  | x :: y :: r => by
    have ih := join_tx (y :: r)
    show tx x ++ tx [] ++ Str.join (tx []) ((y :: r).map tx) = tx (x ++ (y :: r).flatten)
    rw [ih, tx_app, tx_app, List.append_nil]
theorem sum_len : ∀ ys : List (List Nat), ((ys.map tx).map (·.length)).sum = ys.flatten.length
  | [] => rfl
  | x :: r => by
    show (tx x).length + ((r.map tx).map (·.length)).sum = (x ++ r.flatten).length
    rw [sum_len r, tx_len, List.length_append]
/-- ''.join(..) of a list of texts -/
theorem join_txt {s : Str} {ys : List (List Nat)} (hs : s = tx []) : Txt.join s (ys.map tx) = tx ys.flatten := by
  subst hs
  unfold Txt.join
  rw [PySem.StrLaws.glued_eq_join]
  exact join_tx ys
theorem join_sq {p : Addr} {ys : List (List Nat)} (h : SqL K H p (ys.map fun l => V.str (tx l))) : SqL K H p ((ys.map tx).map V.str) := by
  rw [List.map_map]
  exact h
theorem join_sz {s : Str} {ys : List (List Nat)} (hs : s = tx []) (hz : ys.flatten.length ≤ 1000000) : ((ys.map tx).map (·.length)).sum + (ys.map tx).length * s.length ≤ 16777216 := by
  subst hs
  rw [sum_len, tx_len, List.length_nil, Nat.mul_zero]
  omega
/-- a for over a text -/
theorem xs_forS {l : List Nat} {j : Nat} (hv : Val tl σ H (.str (tx l))) (Pv : Nat → L2.St → Hp → Prop) (h0 : Pv 0 σ H)
    (hs : ∀ (i c : Nat) (σ' : L2.St) (H' : Hp), l[i]? = some c → Pv i σ' H' → ts { D with nx := Pv (i + 1), ct := Pv (i + 1), bk := D.nx } (σ'.set j (some (.str (tx [c])))) H') (hd : ∀ σ' H', Pv l.length σ' H' → D.nx σ' H') : tFor (iStr tl) (gName j) ts D σ H :=
  hv _ ⟨tx l, rfl, for_it (walk_str (z := tx l)) Pv h0 (fun _ _ _ _ _ => trivial) (fun i x σ' H' H2 hi p y => by
    obtain ⟨rfl, c, hc, rfl⟩ := y
    have hc' : l[i]? = some c := by
      have h : (l.toArray)[i]? = some c := hc
      rw [List.getElem?_toArray] at h
      exact h
    exact hs i c σ' _ hc' p) (fun σ' H' p => hd σ' H' (by
      have e : (tx l).cps.size = l.length := List.size_toArray
      rw [e] at p
      exact p))⟩
theorem xq_forS {l : List Nat} {j : Nat} (hv : Val tl σ H (.str (tx l))) (Pv : Nat → L2.St → Hp → Prop) (h0 : Pv 0 σ H)
    (hs : ∀ (i c : Nat) (σ' : L2.St) (H' : Hp), l[i]? = some c → Pv i σ' H' → ts { D with nx := Pv (i + 1), ct := Pv (i + 1), bk := tz D } (σ'.set j (some (.str (tx [c])))) H') (hd : ∀ σ' H', Pv l.length σ' H' → tz D σ' H') : tSeq (tFor (iStr tl) (gName j) ts) tz D σ H :=
  xs_forS (D := { D with nx := tz D }) hv Pv h0 hs hd
/-- [e for c in text], e of each sign an int -/
theorem el_lcS {l : List Nat} {j : Nat} {ws : List Nat} {F : Nat → Int} (h : ∀ H1, Same H H1 → Val tl σ H1 (.str (tx l))) (hz : l.length ≤ 40000) (hw : ∀ x, wipe ((wipe σ ws).set j (some x)) ws = wipe σ ws)
    (he : ∀ c H1, Same H H1 → c ∈ l → Val te ((wipe σ ws).set j (some (.str (tx [c])))) H1 (.int (F c))) : Evl.EvL (tLc (iStr tl) (gName j) tYes te ws) σ H ((l.map F).map V.int) := fun H1 e1 Q q =>
  h H1 e1 _ ⟨tx l, rfl, fun Dl hD => lc_it (walk_str (z := tx l)) (fun i H' => Same H1 H' ∧ H' Dl = some (.lst (((l.take i).map F).map V.int))) ⟨Evl.Ex.new hD, upd_same⟩ (fun _ _ _ _ => trivial) (fun i x H' H2 hi p y => ⟨hw x, by
    obtain ⟨rfl, c, hc, rfl⟩ := y
    have hc' : l[i]? = some c := by
      have h : (l.toArray)[i]? = some c := hc
      rw [List.getElem?_toArray] at h
      exact h
    obtain ⟨p1, p2⟩ := p
    show te _ _ _
    refine he c _ (Same.trans e1 p1) (List.mem_of_getElem? hc') _ ⟨_, p2, Evl.sz_lt (by rw [List.length_map, List.length_map, List.length_take]; omega), same_mut p1 hD, ?_⟩
    have htk : l.take (i + 1) = l.take i ++ [c] := take_more hc'
    rw [upd_same, htk, List.map_append, List.map_append]
    rfl⟩) (fun H' p => by
      have e : (tx l).cps.size = l.length := List.size_toArray
      rw [e, List.take_length] at p
      exact q Dl H' hD p.1 p.2)⟩
/-- [text of x for x in a new list of ints], the texts no longer than B -/
theorem xs_lcTx {ms : List Int} {B j : Nat} {ws : List Nat} (h : Evl.EvL tl σ H (ms.map V.int)) (hz : ms.length ≤ 40000) (hw : ∀ x, wipe ((wipe σ ws).set j (some x)) ws = wipe σ ws)
    (he : ∀ x H1, Same H H1 → x ∈ ms → ∀ Q : VK, (∀ l H2, Same H1 H2 → l.length ≤ B → Q (.str (tx l)) H2) → te ((wipe σ ws).set j (some (.int x))) H1 Q) {Q : VK} (q : ∀ p (ys : List (List Nat)) H2, Same H H2 → H2 p = some (.lst (ys.map fun l => V.str (tx l))) → ys.length = ms.length → (∀ y ∈ ys, y.length ≤ B) → Q (.ref p) H2) : tLc (iList K tl) (gName j) tYes te ws σ H Q := by
  refine h H (Evl.Ex.refl H) _ fun a H1 na e1 h1 => ⟨a, rfl, ⟨_, SqL.of h1⟩, fun Dl hD => ?_⟩
  refine lc_list (xs := ms.map V.int) (fun i H' => Same H1 H' ∧ ∃ ys : List (List Nat), H' Dl = some (.lst (ys.map fun l => V.str (tx l))) ∧ ys.length = i ∧ ∀ y ∈ ys, y.length ≤ B) ⟨Evl.Ex.new hD, [], upd_same, rfl, fun _ h => nomatch h⟩ (fun i H' _ p => Same.seq p.1 (SqL.of h1)) (fun i x H' hi p => ⟨hw x, ?_⟩) (fun H' p => ?_)
  · obtain ⟨p1, ys, p2, p3, p4⟩ := p
    rw [List.getElem?_map] at hi
    obtain ⟨m, hm, rfl⟩ := Option.map_eq_some_iff.mp hi
    show te _ H' _
    have hil := (List.getElem?_eq_some_iff.mp hm).1
    refine he m H' (Same.trans e1 p1) (List.mem_of_getElem? hm) _ fun l H2 e2 hl => ?_
    refine ⟨ys.map fun l => V.str (tx l), e2 Dl _ p2, Evl.sz_lt (by rw [List.length_map]; omega), same_mut (Same.trans p1 e2) hD, ys ++ [l], by rw [upd_same, List.map_append]; rfl, by rw [List.length_append, List.length_singleton, p3], fun y hy => ?_⟩
    rcases List.mem_append.mp hy with h | h
    · exact p4 y h
    · rw [List.mem_singleton.mp h]
      exact hl
  · obtain ⟨p1, ys, p2, p3, p4⟩ := p
    rw [List.length_map] at p3
    exact q Dl ys H' (Same.trans e1 p1) p2 p3 p4
theorem flat_len {B : Nat} : ∀ ys : List (List Nat), (∀ y ∈ ys, y.length ≤ B) → ys.flatten.length ≤ ys.length * B
  | [], _ => Nat.zero_le _
  | y :: r, h => by
    have ih := flat_len r fun z hz => h z (List.mem_cons_of_mem _ hz)
    have h1 := h y List.mem_cons_self
    rw [List.flatten_cons, List.length_append, List.length_cons, Nat.add_mul]
    omega
end
end Sh

/-! An own rule of the layer: an exception that a call in a list comprehension's element lets out goes on in the def's own frame. -/
namespace Sh
open PySem PySem.Spec PyProof.Rows L2
/-- in the air, told by its traceback -/
theorem sky_flying {B B0 : Heap} {l : List Env} {a L : Addr} {Z Z0 : Obj → Prop} {h : Heap} (t : HandSPX.TracedZ h B0 a Z0 .none) (x : Sky B l a Z L h) : HandSPX.FlyingZ B l a Z h := by
  obtain ⟨oe, vs, T, oT, ts, he, _, hd, h1, _, _, hT, hdT, h3⟩ := t
  rcases x with ⟨_, _, _, oe2, vs2, he2, _, hd2, h12⟩ | fl | ⟨_, _, _, oe2, vs2, T2, oT2, ts2, he2, _, hd2, h12, _, _, hT2, hdT2, h32⟩
  · rw [he] at he2
    cases he2
    rw [hd] at hd2
    cases hd2
    rw [h1] at h12
    cases h12
  · exact fl
  · rw [he] at he2
    cases he2
    rw [hd] at hd2
    cases hd2
    rw [h1] at h12
    cases h12
    rw [hT] at hT2
    cases hT2
    rw [hdT] at hdT2
    cases hdT2
    rw [h3] at h32
    have z := Option.some.inj h32
    simp [rawInt] at z
theorem frames_sub {h h' B B' : Heap} (k : ∀ b, B.get? b = none → B'.get? b = none) (g : ∀ b o, h.get? b = some o → B.get? b = none → (∀ vs, o.data ≠ .fields vs) → ∃ o', h'.get? b = some o' ∧ o'.data = o.data) : ∀ {l : List Env}, h.FunFrames B l → h'.FunFrames B' l
  | [], _ => trivial
  | env :: rest, ⟨hk, ⟨L, o, hf, hn, ho, hd⟩, hr⟩ => by
    obtain ⟨o', ho', hd'⟩ := g L o ho hn hd
    exact ⟨hk, ⟨L, o', hf, k L hn, ho', fun vs => hd' ▸ hd vs⟩, frames_sub k g hr⟩
/-- the exception leaves the comprehension's block C: noted by the def's frame, C let go, on it goes -/
theorem comp_out {X : Cx} {W : WX} {pins : List (Addr × Obj)} {σ : L2.St} {H' : Hp} {sI s' : Shared} {B : Heap} {a C : Addr} {cls : Value} {d : Option Addr} {ce : Env} {m : Str → Option Value} (tk : Takes X W) (hs : X.stack = X.env :: X.outer) (hf : X.env.frame = some X.env.locals)
    (hce : ce.frame = X.env.frame) (hcl : ce.locals = C) (I : Inv X pins σ H' sI) (fC : FpOk X pins H' C) (nb : ∀ b o, sI.heap.get? b = some o → b ∉ frs X.stack → B.get? b = some o) (up : sI.heap.UpToSlots s'.heap) (fl : HandSPX.FlyingZ B X.stack a (Zc cls d) s'.heap)
    (hn : s'.heap.Ns C m) (na : H' a = none) (os : s'.os = sI.os) (ag : AllBare s'.gens) (w : W cls d σ H') (hC : B.get? C ≠ none) : notedBy (model X.prog X.w) X.A ce (CompFails (model X.prog X.w) X.A X.xe ce) (.ref a) s' := by
  have hfr := I.ok.frames
  rw [hs] at hfr
  rw [hs] at fl
  show wpAny _ X.A (noteFrame (.ref a) ce) _ _ s'
  rw [noteFrame_env _ hce]
  refine HandSPX.looks_onZ Zc.steady hfr hf fl fun h1 hh up1 => ?_
  refine ⟨m, by rw [hcl]; exact up1.ns hn, fun h2 m2 hn2 sb => ?_⟩
  rw [hcl] at hn2 sb
  obtain ⟨b1, b0, b2, oe, vs, T, oT, ts, he, hz, hd, ht1, hnT, hTe, hT, hdT, h3⟩ := hh
  obtain ⟨f0, f1, f2, f3, f4, f5⟩ := fC
  -- B without C
  obtain ⟨B', g1, g2⟩ := restrict B fun b => !decide (b = C)
  have gB : ∀ b o, B'.get? b = some o → B.get? b = some o ∧ b ≠ C := fun b o e => by
    by_cases hb : b = C
    · rw [g2 b (by simp [hb])] at e
      cases e
    · rw [g1 b (by simp [hb])] at e
      exact ⟨e, hb⟩
  have gN : ∀ b, B.get? b = none → B'.get? b = none := fun b e => by
    cases q : B'.get? b with
    | none => rfl
    | some o =>
      rw [(gB b o q).1] at e
      cases e
  obtain ⟨G, k1, k2⟩ := restrict sI.heap fun b => !decide (b = C)
  have kG : ∀ b o, G.get? b = some o → sI.heap.get? b = some o ∧ b ≠ C := fun b o e => by
    by_cases hb : b = C
    · rw [k2 b (by simp [hb])] at e
      cases e
    · rw [k1 b (by simp [hb])] at e
      exact ⟨e, hb⟩
  have aC : a ≠ C := fun z => hC (by rw [← z]; exact b0)
  have TC : T ≠ C := fun z => hC (by rw [← z]; exact hnT)
  have st2 : B'.StaysIn h2 := fun b o e => by
    obtain ⟨e1, e2⟩ := gB b o e
    exact (sb.2 b e2).trans (b1 b o e1)
  have fr2 : h2.FunFrames B' (X.env :: X.outer) := frames_sub (h := h1) (B := B) gN (fun b o e hBn _ => ⟨o, (sb.2 b (fun z => hC (by rw [← z]; exact hBn))).trans e, rfl⟩) b2
  have tr2 : HandSPX.TracedZ h2 B' a (Zc cls d) (rawInt X.env.locals) := ⟨oe, vs, T, oT, ts, (sb.2 a aC).trans he, hz, hd, ht1, gN T hnT, hTe, (sb.2 T TC).trans hT, hdT, h3⟩
  unfold PySem.passOn
  refine wpAny_bind (wpAny_field ((sb.2 a aC).trans he) hd ht1 ?_)
  have some_tb : (Value.ref T == Value.none) = false := by simp
  rw [some_tb, if_neg Bool.false_ne_true]
  have fin : wpAny (model X.prog X.w) X.A (setFlight (.ref a) ce.frame) (fun _ s4 => wpAny (model X.prog X.w) X.A (throw (.ref a) : Sem Value) (fun _ _ => False) X.xe s4) X.xe { s' with heap := h2 } := by
    rw [hce, hf]
    refine HandSPX.setFlight_onZ (base := B') (l := X.env :: X.outer) (Z := Zc cls d) ⟨st2, gN a b0, fr2, tr2⟩ fun h4 hh4 up4 => wpAny_throw (tk _ _ ?_)
    have J : Inv X pins σ H' { sI with heap := G, toks := sI.toks } := I.turned (t' := sI.toks) (fun b o hb e => by
      rw [k1 b (by simp [hb])]
      exact e) f0 f1 f3 f4 f5
    refine ⟨a, B', _, pins, σ, H', cls, d, rfl, J, fun b o e hb => ?_, fun b o e hnf => ?_, .inr (.inr (by rw [hs]; exact hh4)), na, os, ag, w⟩
    · obtain ⟨e1, e2⟩ := kG b o e
      rw [g1 b (by simp [e2])]
      exact nb b o e1 hb
    · obtain ⟨e1, e2⟩ := kG b o e
      obtain ⟨sl, e3⟩ := up b o e1 hnf
      obtain ⟨sl2, e4⟩ := up1 b _ e3 hnf
      obtain ⟨sl3, e5⟩ := up4 b _ ((sb.2 b e2).trans e4) hnf
      exact ⟨sl3, e5⟩
  first | exact wpAny_bind fin | exact wpAny_bind (wpAny_pure (wpAny_bind fin))
/-! ### a comprehension's block -/
/-- the block starts at s H, over the def's context X; ce is its environment, its names lie at the first free place; fp are the objects that the walk is made of -/
structure Blk (X : Cx) (pins : List (Addr × Obj)) (σ : L2.St) (s : Shared) (H : Hp) (scope : Scope) (ce : Env) (fp : List Addr) : Prop where
  out : Inv X pins σ H s
  frame : ce.frame = X.env.frame
  place : ce.locals = s.heap.objs.size
  walk : ∀ b ∈ fp, FpOk X pins H b ∧ b < s.heap.objs.size
/-- between two turns: i are done, the measure is n -/
def Betw (X : Cx) (σ : L2.St) (s : Shared) (H : Hp) (scope : Scope) (ce : Env) (fp : List Addr) (vs : List Nat) (tn : Nat → Heap → Prop) (Wd : Nat → Nat → Hp → Prop) (i n : Nat) (s' : Shared) : Prop :=
  ∃ H', Inv (X.blk s H scope ce fp) [] (wipe σ vs) H' s' ∧ tn i s'.heap ∧ (∀ b ∈ fp, H' b = none) ∧ Wd i n H'
section
variable {X : Cx} {pins pb : List (Addr × Obj)} {σ σ' σ8 : L2.St} {s s' : Shared} {H H' : Hp} {scope : Scope} {ce : Env} {fp : List Addr} {vs : List Nat} {tn : Nat → Heap → Prop} {Wd : Nat → Nat → Hp → Prop} {W : WX} {E : XK} {m i : Nat}
/-- the walk's objects are out of the block's reach -/
theorem Blk.clear (I : Inv (X.blk s H scope ce fp) [] σ' H' s') (hn : ∀ b ∈ fp, H' b = none) (b : Addr) (hb : b ∈ fp) : FpOk (X.blk s H scope ce fp) [] H' b := by
  have free := I.ok.exf b hb
  refine ⟨hn b hb, free.1, I.ok.exfs b hb, .inl hb, free.2, ?_⟩
  intro p hp
  exact (List.not_mem_nil (show p ∈ ([] : List (Addr × Obj)) from hp)).elim
/-- out of the block again, by whatever way: the def's own context, and the place of the block's names -/
theorem Blk.back (k : Blk X pins σ s H scope ce fp) (I : Inv (X.blk s H scope ce fp) pb σ' H' s') : Inv X pins σ H' s' ∧ FpOk X pins H' s.heap.objs.size ∧ ∃ m, s'.heap.Ns s.heap.objs.size m := by
  have J : Inv X pins σ H' s' := by
    refine k.out.call' (ch := fp) I.os I.base I.hok I.bare ?_
    intro b hb
    obtain ⟨⟨-, q1, -, q2, q3, q4⟩, -⟩ := k.walk b hb
    exact ⟨q2, q1, q3, q4⟩
  have gone : H' ce.locals = none := I.free
  obtain ⟨m, (hm : s'.heap.Ns ce.locals m), -⟩ := I.loc
  rw [k.place] at gone hm
  exact ⟨J, k.out.fpOk Nat.le.refl gone, m, hm⟩
/-- a turn is over -/
theorem Betw.next {P : Program} {w : World} {K : PySem.W.Frag} {tg : Expr} {J : It} {it : Addr} {h7 : Heap} (T : Turn P w K tg J fp it tn) (st : tn i h7) (hw : wipe σ8 vs = wipe σ vs) (I : Inv (X.blk s H scope ce fp) ([] ++ pinsAt fp h7) σ8 H' s') (hd : Wd i m H') : Betw X σ s H scope ce fp vs tn Wd i m s' := by
  have stays : ∀ b ∈ fp, ∀ o, h7.get? b = some o → s'.heap.get? b = some o ∧ H' b = none := by
    intro b hb o ho
    have z := I.pin (b, o) (by
      refine List.mem_append.mpr (.inr ?_)
      exact List.mem_append.mpr (.inr (mem_pinsAt hb ho)))
    exact And.intro z.1 z.2.1
  have len : (wipe σ vs).length = σ8.length := hw ▸ wipe_length σ8 vs
  refine ⟨H', Inv.weak (Inv.unpinned (pins := []) I) len ?_, T.keep i h7 _ st fun b hb o ho => (stays b hb o ho).1, ?_, hd⟩
  · intro j v e
    exact (wipe_some (hw ▸ e)).1
  · intro b hb
    obtain ⟨o, ho, -⟩ := T.obj i h7 st b hb
    exact (stays b hb o ho).2
/-- what a call in the element lets out goes on in the def's frame -/
theorem Blk.lets (k : Blk X pins σ s H scope ce fp) (tk : Takes X W) (hW : ∀ cls d σ H, E cls d H → W cls d σ H) (hs : X.stack = X.env :: X.outer) (hf : X.env.frame = some X.env.locals) :
    Passes (L2.CX X.prog X.w) ((X.blk s H scope ce fp).wish (notedBy (model X.prog X.w) X.A ce (CompFails (model X.prog X.w) X.A X.xe ce))) E := by
  intro pb σb Hb s5 u s6 I5 c
  obtain ⟨a, B, sI, pi, σi, Hi, cls, d, rfl, Ii, nb, up, sky, na, os, ag, w⟩ := XE.of_call (W := fun cls d _ H => E cls d H) I5 (fun _ _ _ h => h) c
  obtain ⟨a', B0, H0, cls0, d0, ea, fl0, -⟩ := c
  cases ea
  obtain ⟨J, fC, m, hn⟩ := k.back Ii.unwish
  have there : ∃ o, sI.heap.get? s.heap.objs.size = some o := by
    obtain ⟨o, _, _, e, _⟩ := hn
    exact ⟨o, e⟩
  obtain ⟨o, ho⟩ := there
  have new : s.heap.objs.size ∉ frs X.stack := by
    intro z
    obtain ⟨_, _, e, _⟩ := k.out.stack.mem z
    exact absurd (Heap.lt_size e) (Nat.lt_irrefl _)
  refine comp_out tk hs hf k.frame k.place J fC nb up (sky_flying fl0.2.2.2 sky) (up.ns hn) na os ag (hW _ _ _ _ w) ?_
  rw [nb _ _ ho new]
  intro z
  cases z
end
section
variable {X : Cx} {pins : List (Addr × Obj)} {σ : L2.St} {s : Shared} {H : Hp} {scope : Scope} {ce : Env} {fp : List Addr} {vs : List Nat} {tn : Nat → Heap → Prop} {Wd : Nat → Nat → Hp → Prop} {J : It} {it D : Addr} {Q : VK} {elt tg iter : Expr} {pos : Pos} {g : TG} {te : TE}
/-- the block's loop: turn by turn, to the end -/
theorem Blk.loop (k : Blk X pins σ s H scope ce fp) (calm : X.calm = true) (T : Turn X.prog X.w X.K tg J fp it tn) (pg : PG (X.blk s H scope ce fp) tg g)
    (pe : PE ((X.blk s H scope ce fp).wish (notedBy (model X.prog X.w) X.A ce (CompFails (model X.prog X.w) X.A X.xe ce))) elt te)
    (turns : ∀ i n H', Wd i n H' → (J.stop i H' ∧ Q (.ref D) H') ∨ (J.go i H' ∧ ∃ Nx : Hp → Prop, (∀ H2, Nx H2 → ∃ m, m < n ∧ Wd (i + 1) m H2) ∧ ∀ x H2, J.yld i H' x H2 → g x (wipe σ vs) H2 fun σ3 H3 => wipe σ3 vs = wipe σ vs ∧ tYes σ3 H3 fun b H4 =>
      if b = true then te σ3 H4 fun y H5 => ∃ acc, H5 D = some (.lst acc) ∧ acc.length < sizeLine ∧ Nx (upd H5 D (.lst (acc ++ [y]))) else Nx H4))
    {n : Nat} {s4 : Shared} (start : Betw X σ s H scope ce fp vs tn Wd 0 n s4) :
    codeAny (model X.prog X.w) X.A (.compLoop (.ListComp elt [⟨tg, iter, [], 0⟩] scope pos) 0 (.ref it) (.ref D) ce) (compEnds (model X.prog X.w) X.A X.xe none (EP X pins σ Q) (.ref D) ce) s4 := by
  refine compLoop_any (fun n s' => ∃ i, Betw X σ s H scope ce fp vs tn Wd i n s') ?_ n ⟨0, start⟩
  intro n s5 ⟨i, H5, I5, st5, n5, w5⟩
  have clr := Blk.clear I5 n5
  cases turns i n H5 w5 with
  | inl z =>
    refine thnF (T.done (X.blk s H scope ce fp) rfl rfl rfl calm i [] s5 _ H5 _ I5 clr st5 z.1) ?_
    intro r s6 ⟨er, I6⟩
    obtain ⟨J6, fC, m, hm⟩ := k.back I6
    rw [er]
    refine ⟨m, k.place ▸ hm, ?_⟩
    intro h2 sb
    rw [k.place] at sb
    exact ⟨.ref D, H5, J6.turned (t' := s6.toks) (fun b o hb e => (sb.2 b hb).trans e) fC.1 fC.2.1 fC.2.2.2.1 fC.2.2.2.2.1 fC.2.2.2.2.2, rfl, z.2⟩
  | inr z =>
    obtain ⟨go, Nx, less, step⟩ := z
    refine thnF (T.item (X.blk s H scope ce fp) rfl rfl rfl calm i [] s5 _ H5 _ I5 clr st5 go) ?_
    rintro r s6 ⟨u, rfl, h6⟩
    refine thnF h6 ?_
    rintro _ s7 ⟨x, H7, I7, r7, y7, st7, n7⟩
    have P7 := I7.pinned (Blk.clear I7 n7) (T.obj (i + 1) s7.heap st7)
    refine thnF (pg.run _ s7 _ H7 x u _ P7 r7 (step x H7 y7)) ?_
    rintro _ s8 ⟨σ8, H8, I8, hw, q8⟩
    refine thnF ((pts_nil (X := X.blk s H scope ce fp)).run _ s8 σ8 H8 _ I8 q8) ?_
    rintro b s9 ⟨H9, I9, q9⟩
    have over : ∀ {s' : Shared} {H' : Hp}, Inv (X.blk s H scope ce fp) ([] ++ pinsAt fp s7.heap) σ8 H' s' → Nx H' → ∃ m, m < n ∧ ∃ i, Betw X σ s H scope ce fp vs tn Wd i m s' := by
      intro s' H' I' nx
      obtain ⟨m, lt, wd⟩ := less H' nx
      exact ⟨m, lt, i + 1, Betw.next T st7 hw I' wd⟩
    by_cases hb : b = true
    · rw [if_pos hb] at q9 ⊢
      refine thn (pe.run _ s9 σ8 H9 _ (I9.wish _) q9) ?_
      rintro z s10 ⟨yv, H10, I10, r10, acc, hD, hz, nx⟩
      exact app_ok (X := X.blk s H scope ce fp) I10.unwish hD hz r10 fun s11 I11 => over I11 nx
    · rw [if_neg hb] at q9 ⊢
      exact over I9 q9
/-- [e for x in xs], where a call in e may let an exception out: E is what it may let out, W takes it -/
theorem pe_lcX {W : WX} {E : XK} {own : List (Str × Nat)} {wi : TI} (hc : X.calm = true) (hN : X.N.Nodup) (tk : Takes X W) (hW : ∀ cls d σ H, E cls d H → W cls d σ H) (hs0 : X.stack = X.env :: X.outer) (hf : X.env.frame = some X.env.locals)
    (hi : PI X tg iter wi) (ok : BlkOk X.N X.env.scope scope own)
    (hg : ∀ (s : Shared) (H : Hp) (C : Addr) (cl : List (Str × Addr)) (fp : List Addr), PG (X.blk s H scope (compEnvC scope cl C X.env) fp) tg g)
    (he : ∀ (s : Shared) (H : Hp) (C : Addr) (cl : List (Str × Addr)) (fp : List Addr) (xe : Value → Shared → Prop), Passes (L2.CX X.prog X.w) ((X.blk s H scope (compEnvC scope cl C X.env) fp).wish xe) E → PE ((X.blk s H scope (compEnvC scope cl C X.env) fp).wish xe) elt te)
    (hs : ∀ x, foldedSetIterable iter X.env x = pure x := by intro _; rfl) : PE X (.ListComp elt [⟨tg, iter, [], 0⟩] scope pos) (tLc wi g tYes te (own.map (·.2))) := by
  constructor
  intro pins s σ H Q I h
  have clos := closure_ok (scope := scope) (env := X.env) fun y hy e => I.ok.has y.1 (ok.free y hy e)
  rw [eval_ListComp]
  apply comprehension_at (use := none) rfl hs clos ok.kind
  · intro y hy e
    exact (ok.uniq y hy).trans (congrArg some e)
  refine thn (hi.run pins s σ H _ I h) fun xv s1 hx => thn hx ?_
  rintro itv s2 ⟨it, fp, tn, J, H2, rfl, I2, T, st2, f2, q⟩
  have free2 : H2 s2.heap.objs.size = none := I2.hok.fresh Nat.le.refl
  obtain ⟨Wd, ⟨m0, w0⟩, turns⟩ := q _ free2
  refine wpAny_newObj_type (newEnv_comp ?_) (Nat.zero_le _)
  -- the new list lies there
  have low : ∀ b ∈ fp, b < s2.heap.objs.size := by
    intro b hb
    obtain ⟨_, e, -⟩ := T.obj 0 _ st2 b hb
    exact Heap.lt_size e
  obtain ⟨s3, es3⟩ : ∃ s3 : Shared, s3 = { s2 with heap := s2.heap.push { cls := .type "list", data := .seq ([] : List Value).toArray } } := ⟨_, rfl⟩
  have kept : ∀ b o, s2.heap.get? b = some o → s3.heap.get? b = some o := by
    intro b o e
    rw [es3]
    exact Heap.get?_push_of_some _ e
  have I3 : Inv X pins σ (upd H2 s2.heap.objs.size (.lst [])) s3 := by
    have z := I2.laid (t' := s2.toks) (a := s2.heap.objs.size) (o := .lst []) kept Nat.le.refl ⟨Nat.zero_le _, [], 0, .nil, by rw [es3]; exact Heap.get?_push_size _ rfl⟩
    rw [es3] at z ⊢
    exact z
  have k : Blk X pins σ s3 (upd H2 s2.heap.objs.size (.lst [])) scope (compEnvC scope (cellsFrom (s3.heap.objs.size + 1) scope.names (cloFrom X.env.cells scope.names [])) s3.heap.objs.size X.env) fp := by
    refine ⟨I3, rfl, rfl, fun b hb => ?_⟩
    have lt := low b hb
    constructor
    · refine ⟨?_, (f2 b hb).2⟩
      exact (upd_ne (Nat.ne_of_lt lt)).trans (f2 b hb).1
    · rw [es3, Heap.size_push]
      exact Nat.lt_succ_of_lt lt
  have I4 := block_start I3 ok hN k.walk
  have pe := he _ _ _ _ _ _ (k.lets tk hW hs0 hf)
  have loop := fun {n : Nat} {s4 : Shared} => k.loop (pos := pos) (iter := iter) hc T (hg _ _ _ _ _) pe turns (n := n) (s4 := s4)
  have st4 : tn 0 (pushCells (s3.heap.push { cls := .type "dict", data := .dict #[] }) scope.names) := by
    refine T.keep 0 _ _ st2 fun b _ o e => ?_
    exact pushCells_keeps _ _ _ _ (Heap.get?_push_of_some _ (kept b o e))
  have go := loop ⟨_, I4, st4, fun b hb => (k.walk b hb).1.1, w0⟩
  rw [es3] at go
  exact codeAny_compStart_list go (T.self X.A 0 _ _ _ (es3 ▸ st4) go)
end
end Sh

/-! An own rule of the layer: sep.join(reversed(xs)), xs a list of texts. -/
namespace Sh
open PySem PySem.W PySem.Calls PyProof.Rows MpR
section
variable {prog : Program} {w : World}
theorem join_rev {A : Around} {s : Shared} {E : Value → Shared → Prop} {x : Str} {t : Tok} {it l : Addr} {items : Array Value} {ys : List Str} {Q : Value → Shared → Prop} (hh : A.handled = none) (hit : s.heap.IsRevIter it l ((items.size : Int) - 1)) (hl : s.heap.IsList l items) (hne : l ≠ it) (hn : items.size ≤ sizeLine)
    (hP : ∀ acc : Array Value, ItemsOf (fun i v => items[items.size - 1 - i]? = some v) acc items.size → StrsAre acc.toList ys) (hok : (ys.map (·.length)).sum + ys.length * x.length ≤ 16777216)
    (hq : ∀ (h' : Heap) (t' : Tok) (tk : Nat), (∀ b o, b ≠ it → s.heap.get? b = some o → h'.get? b = some o) → Q (.str (Txt.join x ys) t') { s with heap := h', toks := tk }) :
    wpAny (model prog w) A (call (.builtin "str.join") [.str x t, .ref it]) Q E s := by
  apply wpAny_call
  refine codeAny_call_builtin F.slot_str_join.plain F.entry_str_join (F.slot_str_join.check _ _ _ _ _ _ _ _ (typeIs_str _ _ _) (F.args_str_join_2 _ _) ?_)
  rw [join_tree_other]
  refine wpAny_bind (wpAny_typeOf hit.typeIs ?_)
  show wpAny _ A.in1 ((pyIter (.ref it)).tryCatch _ >>= fun i => collect i >>= fun vs => joinTail x vs) _ _ s
  refine wpAny_bind (wpAny_tryCatch (wpAny_pyIter_revIter hit (wpAny_bind (RT.collect_rev (A := A.in1) hh hit hl hne hn ?_))))
  intro h2 tk acc keeps all
  obtain ⟨ls, elems, rfl⟩ := strsAre_values (hP acc all)
  have short := joinOk_of hok
  have gives : Gives (joinTail x (strValues ls)) (joinMade x ls) := by
    have z := gives_joinTail x ls (by
      have y := short
      unfold JoinOk at y
      simpa using y)
    rcases ls with _ | ⟨_, _ | _⟩ <;> exact z
  rw [elems]
  exact gives prog w A (wants Q E) _ (post_join ls ⟨joinFit_length (by
    have y := short
    unfold JoinOk at y
    simpa using y), fun t2 k => hq h2 t2 k keeps⟩)
end
end Sh
namespace Sh
open PySem PySem.Spec PyProof.Rows L2
/-- sep.join(reversed(xs)) -/
def tJoinRev (K : PySem.W.Frag) (to te : TE) : TE := fun σ H Q => to σ H fun x H1 => (∃ a, x = .str a) ∧ te σ H1 fun v H2 => ∃ (a : Str) (q : Addr) (ys : List Str), x = .str a ∧ v = .ref q ∧ SqL K H2 q (ys.map V.str) ∧
  (ys.map (·.length)).sum + ys.length * a.length ≤ 16777216 ∧ Q (.str (Txt.join a ys.reverse)) H2
section
variable {X : Cx}
theorem strsAre_rev {its : List Value} : ∀ {ys : List Str}, Vals (ys.map V.str) its → ∀ {l : List Value}, l = its → StrsAre l ys
  | [], r, l, e => by
    subst e
    cases r
    exact .nil
  | y :: ys, r, l, e => by
    subst e
    cases r with
    | cons r1 r2 =>
      obtain ⟨t, rfl⟩ := r1
      exact .cons y t (strsAre_rev r2 rfl)
theorem pe_joinRev {o e : Expr} {to te : TE} {apos pos p pos2 : Pos} (hc : X.calm = true) (ho : PE X o to) (hg : Gl X "reversed") (hm : X.mg "reversed" = none) (he : PE X e te)
    (hs1 : starEach [.Call (.Name "reversed" p) [e] [] pos2] X.env = [(false, eval (.Call (.Name "reversed" p) [e] [] pos2) X.env)] := by rfl)
    (star : starEach [e] X.env = (false, eval e X.env) :: starEach [] X.env := by rfl) (base : attributeBase o "join" X.env (eval o X.env) = eval o X.env := by rfl) (line : (apos.endLine == pos.line) = true := by rfl) :
    PE X (.Call (.Attribute o "join" apos) [.Call (.Name "reversed" p) [e] [] pos2] [] pos) (tJoinRev X.K to te) := by
  constructor
  intro pins s σ H Q I h
  refine PySem.Call_method1 base hs1 line (thn (ho.run pins s σ H _ I h) ?_)
  rintro v s1 ⟨x, H1, I1, rel, ⟨a, rfl⟩, h1⟩
  have text : ∃ t, v = Value.str a t := rel
  obtain ⟨t, rfl⟩ := text
  refine ⟨"str", _, F.plainAttrs_str, F.slot_str_join, F.type_str_join, typeIs_str _ _ _, ?_, ?_⟩
  · intro _ z
    cases z
  refine Calls.callWith_builtin rfl (Calls.evalArgs_plain (Calls.spliced_cons (Call_ (ld_blt I1 hg hm PyProof.Rows.boot_reversed (PyProof.Rows.callWith_type1 (args_cons (thn (he.run pins s1 σ H1 _ I1 h1) ?_) star) star rfl)))))
  rintro u s2 ⟨w, H2, I2, r2, b, q, ys, eb, rfl, hq, hz, fin⟩
  cases eb
  cases (show u = Value.ref q from r2)
  obtain ⟨its, rv, pl, _⟩ := I2.list hq
  refine args_nil (call_reversed_list pl.isList (Calls.spliced_nil ?_))
  have lies := pl.isList
  obtain ⟨ol, hol, _⟩ := id lies
  have old := Heap.lt_size hol
  refine join_rev (s := { s2 with heap := s2.heap.push (revObj q ((its.toArray.size : Int) - 1)) }) (ys := ys.reverse) (I2.ok.hd hc) ⟨_, Heap.get?_push_size _ rfl, rfl, rfl⟩ (lies.push _) (Nat.ne_of_lt old) ?_ ?_ ?_ ?_
  · rw [List.size_toArray]
    have := rv.length
    omega
  · intro acc all
    have z := RT.vals_rev rv all
    rw [← List.map_reverse] at z
    exact strsAre_rev z rfl
  · rw [List.map_reverse, List.sum_reverse, List.length_reverse]
    exact hz
  · intro h2 t2 tk keeps
    refine ⟨.str _, H2, I2.kept (t' := tk) ?_, ⟨t2, rfl⟩, fin⟩
    intro b o e
    exact keeps b o (Nat.ne_of_lt (Heap.lt_size e)) (Heap.get?_push_of_some _ e)
end
end Sh

/-! Own words for k10: the text of a number. -/
namespace Sh
open PySem PySem.Spec PyProof.Rows L2
def sgn (b : Int) : Nat := if b = 1 then 111 else 46
theorem t_o : ("o" : Str) = tx [111] := by decide +kernel
theorem t_do : (".o" : Str) = tx [46, 111] := by decide +kernel
theorem t_d : ("." : Str) = tx [46] := by decide +kernel
theorem t_e : ("" : Str) = tx [] := by decide +kernel
theorem atI_sgn {b : Int} (h : b = 0 ∨ b = 1) : atI [46, 111] b = some (sgn b) := by
  rcases h with rfl | rfl <;> decide
theorem flat_sgn (l : List Int) : (l.map fun b => [sgn b]).flatten = l.map sgn := by
  induction l with
  | nil => rfl
  | cons a r ih =>
    rw [List.map_cons, List.flatten_cons, ih]
    rfl
def shownT (n : Int) : List Nat := (rowOf n).map sgn ++ [111]
theorem shownT_len {n : Int} (h1 : n < W 1000) : (shownT n).length ≤ 1001 := by
  unfold shownT
  rw [List.length_append, List.length_map, List.length_singleton]
  exact Nat.succ_le_succ (rowOf_len h1)
section
variable {σ : L2.St} {H H0 : Hp} {K : PySem.W.Frag} {ta tb tc te tl : TE} {D : Ends} {ts tz tu : TS} {to th : TO} {x y v : V}
/-- the kinds of things that are handed to be written -/
def Th (K : PySem.W.Frag) (H : Hp) (x : V) : Prop := (∃ n, x = .int n) ∨ (∃ b, x = .bl b) ∨ (∃ s, x = .str s) ∨ x = .non ∨ ∃ a xs, x = .ref a ∧ SqL K H a xs
theorem Th.same {H' : Hp} (e : Same H H') (h : Th K H x) : Th K H' x := by
  rcases h with h | h | h | h | ⟨a, xs, h, hs⟩
  · exact .inl h
  · exact .inr (.inl h)
  · exact .inr (.inr (.inl h))
  · exact .inr (.inr (.inr (.inl h)))
  · exact .inr (.inr (.inr (.inr ⟨a, xs, h, Same.seq e hs⟩)))
theorem Th.kd (h : Th K H x) : Kd K H x := by
  rcases h with ⟨n, rfl⟩ | ⟨n, rfl⟩ | ⟨n, rfl⟩ | rfl | ⟨a, xs, rfl, hs⟩
  · exact .int
  · exact .bl
  · exact .str
  · exact .non
  · exact .lst hs
/-- is it a number from 1 to below 10 ** 60 -/
def posB : V → Bool
  | .int n => decide (0 < n) && decide (n < T60)
  | _ => false
theorem posB_bad (h : posB x = false) : numB x = false ∨ x = .int 0 := by
  cases x with
  | int n =>
    by_cases h0 : n = 0
    · exact .inr (congrArg V.int h0)
    · left
      have h : (decide (0 < n) && decide (n < T60)) = false := h
      show (decide (0 ≤ n) && decide (n < T60)) = false
      have e : decide (0 ≤ n) = decide (0 < n) := decide_eq_decide.mpr (by omega)
      rw [e, h]
  | _ => exact .inl rfl
theorem posB_good (h : posB x = true) : ∃ n, x = .int n ∧ 0 < n ∧ n < T60 := by
  cases x with
  | int n =>
    have h : (decide (0 < n) && decide (n < T60)) = true := h
    rw [Bool.and_eq_true, decide_eq_true_eq, decide_eq_true_eq] at h
    exact ⟨n, rfl, h.1, h.2⟩
  | _ => exact nomatch h
/-- the text of a thing that is a number -/
def txt1 : V → List Nat
  | .int n => shownT n
  | _ => []
theorem txt1_len : ∀ {xs : List V}, xs.all posB = true → ∀ y ∈ xs.map txt1, y.length ≤ 1001 := fun {xs} h y hy => by
  obtain ⟨x, hx, rfl⟩ := List.mem_map.mp hy
  obtain ⟨n, rfl, _, h2⟩ := posB_good (List.all_eq_true.mp h x hx)
  exact shownT_len (Int.lt_trans h2 T60_W)
/-- [text of x for x in a new list of ints] -/
theorem el_lcF {ms : List Int} {F : Int → List Nat} {j : Nat} {ws : List Nat} (h : Evl.EvL tl σ H (ms.map V.int)) (hz : ms.length ≤ 40000) (hw : ∀ x, wipe ((wipe σ ws).set j (some x)) ws = wipe σ ws)
    (he : ∀ x H1, Same H H1 → x ∈ ms → Val te ((wipe σ ws).set j (some (.int x))) H1 (.str (tx (F x)))) : Evl.EvL (tLc (iList K tl) (gName j) tYes te ws) σ H ((ms.map F).map fun l => V.str (tx l)) := fun H0 e0 Q q => by
  refine h H0 e0 _ fun a H1 na e1 h1 => ⟨a, rfl, ⟨_, SqL.of h1⟩, fun Dl hD => ?_⟩
  refine lc_list (xs := ms.map V.int) (fun i H' => Same H1 H' ∧ H' Dl = some (.lst (((ms.take i).map F).map fun l => V.str (tx l)))) ⟨Evl.Ex.new hD, upd_same⟩ (fun i H' _ p => Same.seq p.1 (SqL.of h1)) (fun i x H' hi p => ⟨hw x, ?_⟩) (fun H' p => ?_)
  · obtain ⟨p1, p2⟩ := p
    rw [List.getElem?_map] at hi
    obtain ⟨m, hm, rfl⟩ := Option.map_eq_some_iff.mp hi
    show te _ H' _
    have hil := (List.getElem?_eq_some_iff.mp hm).1
    refine he m H' (Same.trans e0 (Same.trans e1 p1)) (List.mem_of_getElem? hm) _ ⟨_, p2, Evl.sz_lt (by rw [List.length_map, List.length_map, List.length_take]; omega), same_mut p1 hD, ?_⟩
    have htk : ms.take (i + 1) = ms.take i ++ [m] := take_more hm
    rw [upd_same, htk, List.map_append, List.map_append]
    rfl
  · obtain ⟨p1, p2⟩ := p
    rw [List.length_map, List.take_length] at p2
    exact q Dl H' (Same.free e1 hD) (Same.trans e1 p1) p2
/-- [text of x for x in a list], where an element may raise: behind it every element is a good one -/
theorem xr_lcV {a : Addr} {xs : List V} {Gd : V → Prop} {G : V → List Nat} {j : Nat} {ws : List Nat} (hv : Val tl σ H (.ref a)) (hS : SqL K H a xs) (hz : xs.length ≤ 40000) (hw : ∀ x, wipe ((wipe σ ws).set j (some x)) ws = wipe σ ws) {Q : VK}
    (he : ∀ x H1, Same H H1 → x ∈ xs → ∀ R : VK, (Gd x → ∀ H2, Same H1 H2 → R (.str (tx (G x))) H2) → te ((wipe σ ws).set j (some x)) H1 R) (q : (∀ x ∈ xs, Gd x) → ∀ p H', Same H H' → H' p = some (.lst ((xs.map G).map fun l => V.str (tx l))) → Q (.ref p) H') : tLc (iList K tl) (gName j) tYes te ws σ H Q := by
  refine hv _ ⟨a, rfl, ⟨_, hS⟩, fun Dl hD => ?_⟩
  refine lc_list (xs := xs) (fun i H' => Same H H' ∧ H' Dl = some (.lst (((xs.take i).map G).map fun l => V.str (tx l))) ∧ ∀ x ∈ xs.take i, Gd x) ⟨Evl.Ex.new hD, upd_same, fun _ h => (nomatch h)⟩ (fun i H' _ p => Same.seq p.1 hS) (fun i x H' hi p => ⟨hw x, ?_⟩) (fun H' p => ?_)
  · obtain ⟨p1, p2, p3⟩ := p
    have hil := (List.getElem?_eq_some_iff.mp hi).1
    have htk : xs.take (i + 1) = xs.take i ++ [x] := take_more hi
    show te _ H' _
    refine he x H' p1 (List.mem_of_getElem? hi) _ fun hg H2 e2 => ?_
    refine ⟨_, e2 Dl _ p2, Evl.sz_lt (by rw [List.length_map, List.length_map, List.length_take]; omega), same_mut (p1.trans e2) hD, ?_, fun y hy => ?_⟩
    · rw [upd_same, htk, List.map_append, List.map_append]
      rfl
    · rw [htk] at hy
      rcases List.mem_append.mp hy with h | h
      · exact p3 y h
      · rw [List.mem_singleton.mp h]
        exact hg
  · obtain ⟨p1, p2, p3⟩ := p
    rw [List.take_length] at p2 p3
    exact q p3 Dl H' p1 p2
/-- ''.join(a list of texts), however it came about -/
theorem to_joinQ {Q : VK} {s : Str} (h1 : Val tc σ H (.str s)) (h : te σ H fun y H2 => ∃ a p, ∃ ys : List Str, V.str s = .str a ∧ [y] = [.ref p] ∧ (SqL K H2 p (ys.map V.str) ∨ SqT K H2 p (ys.map V.str)) ∧
      (ys.map (·.length)).sum + ys.length * a.length ≤ 16777216 ∧ Q (.str (Txt.join a ys)) H2) :
    tM1 (fun x xs H Q => ∃ a p, ∃ ys : List Str, x = .str a ∧ xs = [.ref p] ∧ (SqL K H p (ys.map V.str) ∨ SqT K H p (ys.map V.str)) ∧
      (ys.map (·.length)).sum + ys.length * a.length ≤ 16777216 ∧ Q (.str (Txt.join a ys)) H) tc te σ H Q :=
  h1 _ ⟨⟨_, rfl⟩, h⟩
/-- ''.join(a new list of texts) -/
theorem to_join {ys : List (List Nat)} {Q : VK} (h1 : Val tc σ H (.str "")) (h : Evl.EvL te σ H (ys.map fun l => V.str (tx l))) (hz : ys.flatten.length ≤ 1000000) (q : ∀ H', Same H H' → Q (.str (tx ys.flatten)) H') :
    tM1 (fun x xs H Q => ∃ a p, ∃ ys : List Str, x = .str a ∧ xs = [.ref p] ∧ (SqL K H p (ys.map V.str) ∨ SqT K H p (ys.map V.str)) ∧
      (ys.map (·.length)).sum + ys.length * a.length ≤ 16777216 ∧ Q (.str (Txt.join a ys)) H) tc te σ H Q :=
  h1 _ ⟨⟨_, rfl⟩, h H (Evl.Ex.refl H) _ fun p H1 np e1 hp => ⟨_, p, ys.map tx, rfl, rfl, .inl (join_sq (SqL.of hp)), join_sz t_e hz, by
    rw [join_txt t_e]
    exact q H1 e1⟩⟩
theorem flat_one (l : List Nat) : (l.map fun c => [c]).flatten = l := by
  induction l with
  | nil => rfl
  | cons a r ih =>
    rw [List.map_cons, List.flatten_cons, ih]
    rfl
/-- ''.join(reversed(a list of signs)) -/
theorem to_joinRev {a : Addr} {zs : List Nat} {Q : VK} (h1 : Val tc σ H (.str "")) (h : Val te σ H (.ref a)) (hS : SqL K H a (zs.map fun c => V.str (tx [c]))) (hz : zs.length ≤ 1000000) (q : Q (.str (tx zs.reverse)) H) : tJoinRev K tc te σ H Q := by
  have hz2 : (zs.map fun c => [c]).flatten.length ≤ 1000000 := by
    rw [flat_one]
    exact hz
  refine h1 _ ⟨⟨_, rfl⟩, h _ ⟨_, a, (zs.map fun c => [c]).map tx, rfl, rfl, ?_, join_sz t_e hz2, ?_⟩⟩
  · rw [List.map_map, List.map_map]
    exact hS
  · rw [← List.map_reverse, join_txt t_e, ← List.map_reverse, flat_one]
    exact q
end
end Sh

namespace K10
open PySem PySem.Spec PyProof.Rows L2 Sh
def topS (i : Nat) : Stmt := PySem.Challenge.pw_shellstair_k10_texts_written.main.body.getD i (.Pass ⟨0, 0, 0, 0⟩)
abbrev st_is_number : Stmt := topS 8
theorem sc_is_number : FnScope ["thing"] ["thing"] (defScope st_is_number) := ⟨rfl, rfl, rfl, by decide +kernel, rfl, by decide +kernel, by decide +kernel⟩
abbrev st_still_heap : Stmt := topS 9
theorem sc_still_heap : FnScope ["number", "worths", "here", "above", "heap", "left", "each"] ["number"] (defScope st_still_heap) := ⟨rfl, rfl, rfl, by decide +kernel, rfl, by decide +kernel, by decide +kernel⟩
abbrev st_row_of : Stmt := topS 10
theorem sc_row_of : FnScope ["number"] ["number"] (defScope st_row_of) := ⟨rfl, rfl, rfl, by decide +kernel, rfl, by decide +kernel, by decide +kernel⟩
abbrev st_shown : Stmt := topS 12
theorem sc_shown : FnScope ["number", "many"] ["number"] (defScope st_shown) := ⟨rfl, rfl, rfl, by decide +kernel, rfl, by decide +kernel, by decide +kernel⟩
abbrev st_written : Stmt := topS 13
theorem sc_written : FnScope ["numbers", "number"] ["numbers"] (defScope st_written) := ⟨rfl, rfl, rfl, by decide +kernel, rfl, by decide +kernel, by decide +kernel⟩
abbrev st_l_cell : Stmt := topS 15
theorem sc_l_cell : FnScope ["_law_script", "_law_k"] ["_law_script", "_law_k"] (defScope st_l_cell) := ⟨rfl, rfl, rfl, by decide +kernel, rfl, by decide +kernel, by decide +kernel⟩
abbrev st_l_text : Stmt := topS 16
theorem sc_l_text : FnScope ["_law_number", "_law_worths", "_law_here", "_law_there", "_law_signs", "_law_each"] ["_law_number"] (defScope st_l_text) := ⟨rfl, rfl, rfl, by decide +kernel, rfl, by decide +kernel, by decide +kernel⟩
abbrev st_l_numbers : Stmt := topS 17
theorem sc_l_numbers : FnScope ["_law_script", "_law_numbers_here", "_law_k", "_law_size"] ["_law_script"] (defScope st_l_numbers) := ⟨rfl, rfl, rfl, by decide +kernel, rfl, by decide +kernel, by decide +kernel⟩
abbrev st_l_none : Stmt := topS 18
theorem sc_l_none : FnScope ["_law_script", "_law_far", "_law_some"] ["_law_script"] (defScope st_l_none) := ⟨rfl, rfl, rfl, by decide +kernel, rfl, by decide +kernel, by decide +kernel⟩
abbrev st_l_refused : Stmt := topS 19
theorem sc_l_refused : FnScope ["_law_thing", "_law_numbers_here", "e"] ["_law_thing", "_law_numbers_here"] (defScope st_l_refused) := ⟨rfl, rfl, rfl, by decide +kernel, rfl, by decide +kernel, by decide +kernel⟩
abbrev st_l_written : Stmt := topS 20
theorem sc_l_written : FnScope ["_law_numbers_here", "_law_due", "_law_found"] ["_law_numbers_here", "_law_due"] (defScope st_l_written) := ⟨rfl, rfl, rfl, by decide +kernel, rfl, by decide +kernel, by decide +kernel⟩
abbrev st_law : Stmt := topS 21
theorem sc_law : FnScope ["_law_script", "_law_numbers_here", "_law_handed", "_law_due", "_law_number", "_law_found", "_law_thing", "_law_place", "_law_spoilt"] ["_law_script"] (defScope st_law) := ⟨rfl, rfl, rfl, by decide +kernel, rfl, by decide +kernel, by decide +kernel⟩
/-- what the top has written -/
structure Txt (K : PySem.W.Frag) (mg : Str → Option Value) where
  C_StairError : Addr
  g_StairError : mg "StairError" = some (.ref C_StairError)
  k_StairError : PySem.W.keepIn K (.ref C_StairError) = true
  x_StairError : PySem.W.excIn K C_StairError [.type "ValueError", .type "Exception", .type "BaseException", .type "object"] "ValueError.__new__" = true
  xb_StairError : PySem.W.subIn K (.ref C_StairError) (.type "BaseException") = some true
  xt_StairError : PySem.W.typeIn K (.ref C_StairError) = some (.type "type")
  C_NoMove : Addr
  g_NoMove : mg "NoMove" = some (.ref C_NoMove)
  k_NoMove : PySem.W.keepIn K (.ref C_NoMove) = true
  x_NoMove : PySem.W.excIn K C_NoMove [.type "ValueError", .type "Exception", .type "BaseException", .type "object"] "ValueError.__new__" = true
  xb_NoMove : PySem.W.subIn K (.ref C_NoMove) (.type "BaseException") = some true
  xt_NoMove : PySem.W.typeIn K (.ref C_NoMove) = some (.type "type")
  C_NoNumber : Addr
  g_NoNumber : mg "NoNumber" = some (.ref C_NoNumber)
  k_NoNumber : PySem.W.keepIn K (.ref C_NoNumber) = true
  x_NoNumber : PySem.W.excIn K C_NoNumber [.type "ValueError", .type "Exception", .type "BaseException", .type "object"] "ValueError.__new__" = true
  xb_NoNumber : PySem.W.subIn K (.ref C_NoNumber) (.type "BaseException") = some true
  xt_NoNumber : PySem.W.typeIn K (.ref C_NoNumber) = some (.type "type")
  C_Short : Addr
  g_Short : mg "Short" = some (.ref C_Short)
  k_Short : PySem.W.keepIn K (.ref C_Short) = true
  x_Short : PySem.W.excIn K C_Short [.type "ValueError", .type "Exception", .type "BaseException", .type "object"] "ValueError.__new__" = true
  xb_Short : PySem.W.subIn K (.ref C_Short) (.type "BaseException") = some true
  xt_Short : PySem.W.typeIn K (.ref C_Short) = some (.type "type")
  C_NoSign : Addr
  g_NoSign : mg "NoSign" = some (.ref C_NoSign)
  k_NoSign : PySem.W.keepIn K (.ref C_NoSign) = true
  x_NoSign : PySem.W.excIn K C_NoSign [.type "ValueError", .type "Exception", .type "BaseException", .type "object"] "ValueError.__new__" = true
  xb_NoSign : PySem.W.subIn K (.ref C_NoSign) (.type "BaseException") = some true
  xt_NoSign : PySem.W.typeIn K (.ref C_NoSign) = some (.type "type")
  C_NoEnd : Addr
  g_NoEnd : mg "NoEnd" = some (.ref C_NoEnd)
  k_NoEnd : PySem.W.keepIn K (.ref C_NoEnd) = true
  x_NoEnd : PySem.W.excIn K C_NoEnd [.type "ValueError", .type "Exception", .type "BaseException", .type "object"] "ValueError.__new__" = true
  xb_NoEnd : PySem.W.subIn K (.ref C_NoEnd) (.type "BaseException") = some true
  xt_NoEnd : PySem.W.typeIn K (.ref C_NoEnd) = some (.type "type")
  f_is_number : Addr
  d_is_number : FuncData
  F_is_number : Fun K "is_number" "is_number" st_is_number f_is_number d_is_number
  g_is_number : mg "is_number" = some (.ref f_is_number)
  b_is_number : Binds K d_is_number ["thing"] []
  f_still_heap : Addr
  d_still_heap : FuncData
  F_still_heap : Fun K "still_heap" "still_heap" st_still_heap f_still_heap d_still_heap
  g_still_heap : mg "still_heap" = some (.ref f_still_heap)
  b_still_heap : Binds K d_still_heap ["number"] []
  f_row_of : Addr
  d_row_of : FuncData
  F_row_of : Fun K "row_of" "row_of" st_row_of f_row_of d_row_of
  g_row_of : mg "row_of" = some (.ref f_row_of)
  b_row_of : Binds K d_row_of ["number"] []
  f_shown : Addr
  d_shown : FuncData
  F_shown : Fun K "shown" "shown" st_shown f_shown d_shown
  g_shown : mg "shown" = some (.ref f_shown)
  b_shown : Binds K d_shown ["number"] []
  f_written : Addr
  d_written : FuncData
  F_written : Fun K "written" "written" st_written f_written d_written
  g_written : mg "written" = some (.ref f_written)
  b_written : Binds K d_written ["numbers"] []
  f_l_cell : Addr
  d_l_cell : FuncData
  F_l_cell : Fun K "_law_cell" "_law_cell" st_l_cell f_l_cell d_l_cell
  g_l_cell : mg "_law_cell" = some (.ref f_l_cell)
  b_l_cell : Binds K d_l_cell ["_law_script", "_law_k"] []
  f_l_text : Addr
  d_l_text : FuncData
  F_l_text : Fun K "_law_text" "_law_text" st_l_text f_l_text d_l_text
  g_l_text : mg "_law_text" = some (.ref f_l_text)
  b_l_text : Binds K d_l_text ["_law_number"] []
  f_l_numbers : Addr
  d_l_numbers : FuncData
  F_l_numbers : Fun K "_law_numbers" "_law_numbers" st_l_numbers f_l_numbers d_l_numbers
  g_l_numbers : mg "_law_numbers" = some (.ref f_l_numbers)
  b_l_numbers : Binds K d_l_numbers ["_law_script"] []
  f_l_none : Addr
  d_l_none : FuncData
  F_l_none : Fun K "_law_none" "_law_none" st_l_none f_l_none d_l_none
  g_l_none : mg "_law_none" = some (.ref f_l_none)
  b_l_none : Binds K d_l_none ["_law_script"] []
  f_l_refused : Addr
  d_l_refused : FuncData
  F_l_refused : Fun K "_law_refused" "_law_refused" st_l_refused f_l_refused d_l_refused
  g_l_refused : mg "_law_refused" = some (.ref f_l_refused)
  b_l_refused : Binds K d_l_refused ["_law_thing", "_law_numbers_here"] []
  f_l_written : Addr
  d_l_written : FuncData
  F_l_written : Fun K "_law_written" "_law_written" st_l_written f_l_written d_l_written
  g_l_written : mg "_law_written" = some (.ref f_l_written)
  b_l_written : Binds K d_l_written ["_law_numbers_here", "_law_due"] []
  f_law : Addr
  d_law : FuncData
  F_law : Fun K "law" "law" st_law f_law d_law
  g_law : mg "law" = some (.ref f_law)
  b_law : Binds K d_law ["_law_script"] []
  eg_NoNumber : PySem.W.findIn K (.ref C_NoNumber) "__getattribute__" = some (some (.builtin "BaseException.__getattribute__"))
  ek_NoNumber : PySem.W.findIn K (.ref C_NoNumber) "__getattr__" = some none
  ea_NoNumber : PySem.W.findIn K (.ref C_NoNumber) "__class__" = some (some (.builtin "object.__class__"))
  ed_NoNumber : PySem.W.hasDictIn K C_NoNumber = true
  em_NoNumber : PySem.W.mroIn K C_NoNumber (.type "object") = some true
  i_NoNumber_StairError : PySem.W.kitOne K (.ref C_NoNumber) (.ref C_StairError) = some true
  i_NoNumber_NoMove : PySem.W.kitOne K (.ref C_NoNumber) (.ref C_NoMove) = some false
  i_NoNumber_NoNumber : PySem.W.kitOne K (.ref C_NoNumber) (.ref C_NoNumber) = some true
  i_NoNumber_Short : PySem.W.kitOne K (.ref C_NoNumber) (.ref C_Short) = some false
  i_NoNumber_NoSign : PySem.W.kitOne K (.ref C_NoNumber) (.ref C_NoSign) = some false
  i_NoNumber_NoEnd : PySem.W.kitOne K (.ref C_NoNumber) (.ref C_NoEnd) = some false
  i_NoNumber_VE : PySem.W.kitOne K (.ref C_NoNumber) (.type "ValueError") = some true
  x_NoNumber_NoEnd : PySem.W.exmOne K (.ref C_NoNumber) (.ref C_NoEnd) = some false
  x_NoNumber_NoMove : PySem.W.exmOne K (.ref C_NoNumber) (.ref C_NoMove) = some false
  x_NoNumber_NoSign : PySem.W.exmOne K (.ref C_NoNumber) (.ref C_NoSign) = some false
  x_NoNumber_Short : PySem.W.exmOne K (.ref C_NoNumber) (.ref C_Short) = some false
  x_NoNumber_NoNumber : PySem.W.exmOne K (.ref C_NoNumber) (.ref C_NoNumber) = some true
  en_ : PySem.W.specialIn K (.builtin "object.__class__") "__get__" = some (some (.builtin "getset_descriptor.__get__"))
  et_ : PySem.W.takesIn K (.builtin "object.__class__") = some true
  m_isinstance : mg "isinstance" = none
  m_int : mg "int" = none
  m_bool : mg "bool" = none
  m_reversed : mg "reversed" = none
  m_len : mg "len" = none
  m_range : mg "range" = none
  m_min : mg "min" = none
  m_ValueError : mg "ValueError" = none
  m_str : mg "str" = none
  m_list : mg "list" = none
theorem Txt.E_NoNumber {K : PySem.W.Frag} {mg : Str → Option Value} (T : Txt K mg) : ExcC K T.C_NoNumber := ⟨T.eg_NoNumber, T.ek_NoNumber, T.xb_NoNumber, T.ed_NoNumber, T.ea_NoNumber, T.en_, T.et_, T.em_NoNumber⟩
local macro_rules | `(tactic| walk_at "side") => `(tactic| first | assumption | omega | exact ⟨by decide, by decide⟩ | exact ⟨by decide, by decide, by decide⟩ | (show (0 : Int) < _; first | omega | decide | exact T60_pos | exact T60_pos1 | decide +kernel))
local macro_rules | `(tactic| walk_at "sq") => `(tactic| first | assumption | exact SqL.of (by assumption))
local macro_rules | `(tactic| walk_at "val") => `(tactic| first
  | with_reducible exact val_c
  | ((with_reducible apply xv_c) <;> exact rfl)
  | ((with_reducible apply val_var) <;> rfl)
  | with_reducible exact xv_p60
  | ((with_reducible apply xv_I0) <;> walk_at "val")
  | ((with_reducible apply xv_I) <;> first | walk_at "val" | walk_at "side")
  | ((with_reducible apply xv_eq) <;> first | walk_at "val" | rfl)
  | ((with_reducible apply xv_ne) <;> first | walk_at "val" | rfl)
  | ((with_reducible apply xv_U) <;> walk_at "val")
  | ((with_reducible apply xv_lenI) <;> first | walk_at "val" | walk_at "sq")
  | ((with_reducible apply xv_ix) <;> first | walk_at "val" | walk_at "sq" | walk_at "side")
  | ((with_reducible apply xv_and) <;> first | walk_at "val" | (intro hc; (try replace hc := of_decide_eq_true hc); walk_at "val"))
  | ((with_reducible apply xv_or) <;> first | walk_at "val" | (intro hc; (try replace hc := of_decide_eq_false hc); walk_at "val"))
  | ((with_reducible apply xv_not) <;> walk_at "val")
  | walk_at "val+")
local macro_rules | `(tactic| walk_at "val+") => `(tactic| fail "val")
local macro_rules | `(tactic| walk_at "arg") => `(tactic| first | with_reducible exact xg_nil | ((with_reducible apply xg_cons) <;> first | walk_at "val" | walk_at "arg"))
local macro_rules | `(tactic| walk_at "ans") => `(tactic| first
  | ((with_reducible apply xa_T) <;> walk_at "val")
  | ((with_reducible apply xa_B) <;> walk_at "val")
  | ((with_reducible apply xa_not) <;> walk_at "ans")
  | ((with_reducible apply xa_and) <;> first | walk_at "ans" | (intro hc; (try replace hc := of_decide_eq_true hc); walk_at "ans"))
  | ((with_reducible apply xa_or) <;> first | walk_at "ans" | (intro hc; (try replace hc := of_decide_eq_false hc); walk_at "ans")))

section
variable {P : Program} {w : World} {K : PySem.W.Frag} {mg : Str → Option Value} {base : Heap}
/-! ### a cell of the script -/
def sp_cell (K : PySem.W.Frag) : Sp := fun vs H Q _ => ∃ (a : Addr) (ns : List Int) (j : Nat), vs = [.ref a, .int (j : Int)] ∧ SqL K H a (ns.map V.int) ∧ Q (.int (ns.getD j 0)) H
theorem ok_l_cell (T : Txt K mg) : FnOk P w K mg base CX0 1 T.f_l_cell T.d_l_cell ["_law_script", "_law_k"] (sp_cell K) := by
  refine T.F_l_cell.ok sc_l_cell (fun vs H Q E h => ?_) (fun cdv A outer s H vs Q E hr h => ?_)
  · obtain ⟨a, ns, j, rfl, _⟩ := h
    rfl
  · obtain ⟨a, ns, j, rfl, hS, q⟩ := h
    refine ⟨_, (pss_cons (ps_if (pt_cmpR op_lt (pv 1) (pe_callB call_len_seq (by rfl) T.m_len PySem.boot_len (pa_cons (pv 0) pa_nil)) (nomark _)) (pss_one (ps_ret (pe_ix ix_list (pv 0) (pv 1) (fun _ _ => rfl)))) pss_nil)
      (pss_one (ps_ret pe_int))), ?_⟩
    refine xs_when (xa_T (xv_I0 (val_var rfl) (xv_lenI (val_var rfl) hS))) (fun hc => ?_) (fun hc => ?_)
    · have hj : (j : Int) < ns.length := of_decide_eq_true hc
      exact st_ret (xv_ix (val_var rfl) (val_var rfl) hS (by omega) hj) q
    · have hj : ¬ (j : Int) < ns.length := of_decide_eq_false hc
      refine st_ret val_c ?_
      rw [List.getD_eq_getElem?_getD, List.getElem?_eq_none (by omega)] at q
      exact q
theorem xv_cell {σ : L2.St} {H : Hp} {ta tb : TE} {a : Addr} {ns : List Int} {j : Nat} (h : Val ta σ H (.ref a)) (h2 : Val tb σ H (.int (j : Int))) (hS : SqL K H a (ns.map V.int)) : Val (tCall (sp_cell K) [] E0 (tCons ta (tCons tb tNil))) σ H (.int (ns.getD j 0)) :=
  xv_call (xg_cons h (xg_cons h2 xg_nil)) fun Q q => ⟨a, ns, j, rfl, hS, q⟩
local macro_rules | `(tactic| walk_at "val+") => `(tactic| ((with_reducible apply xv_cell) <;> first | walk_at "val" | walk_at "sq"))
/-! ### is_number -/
def sp_is_number (K : PySem.W.Frag) : Sp := fun vs H Q _ => ∃ x : V, vs = [x] ∧ Kd K H x ∧ Q (.bl (numB x)) H
theorem ok_is_number (T : Txt K mg) : FnOk P w K mg base CX0 1 T.f_is_number T.d_is_number ["thing"] (sp_is_number K) := by
  refine T.F_is_number.ok sc_is_number (fun vs H Q E h => ?_) (fun cdv A outer s H vs Q E hr h => ?_)
  · obtain ⟨x, rfl, _⟩ := h
    rfl
  · obtain ⟨x, rfl, hk, q⟩ := h
    refine ⟨_, (pss_cons (ps_if (PW.pt (pw_or (pt_not (pt_val (pe_callB call_isi (by rfl) T.m_isinstance (by decide +kernel) (pa_cons (pv 0) (pa_cons (pe_bltn (v := .ty "int") (by rfl) T.m_int (by decide +kernel) rfl) pa_nil))))) (pw_or1 (pt_val (pe_callB call_isi (by rfl) T.m_isinstance (by decide +kernel) (pa_cons (pv 0) (pa_cons (pe_bltn (v := .ty "bool") (by rfl) T.m_bool (by decide +kernel) rfl) pa_nil))))))) (pss_one (ps_ret pe_bl)) pss_nil)
      (pss_one (ps_ret (pe_chain op_le op_lt pe_int (pv 0) (pe_op op_pow pe_int pe_int))))), ?_⟩
    rcases hk with ⟨n, rfl⟩ | ⟨hn, ht | ⟨t, ht, hi⟩⟩
    · refine xs_when (b := false) (xa_or (a := false) (xa_not (a := true) (xa_B (xv_isi (val_var rfl) (.base (.int n)) (by decide +kernel)))) fun _ => xa_B (xv_isi (val_var rfl) (.base (.int n)) (by decide +kernel))) (fun z => (nomatch z)) (fun _ => ?_)
      exact st_ret (xv_chain (a := decide (0 ≤ n)) (b := decide (n < T60)) val_c (val_var rfl) (fun Q q => ⟨_, _, rfl, rfl, q⟩) fun _ => ⟨xv_p60, fun Q q => ⟨_, _, rfl, rfl, q⟩⟩) q
    · refine xs_when (b := true) (xa_or (a := false) (xa_not (a := true) (xa_B (xv_isi (val_var rfl) ht (by decide +kernel)))) fun _ => xa_B (xv_isi (val_var rfl) ht (by decide +kernel))) (fun _ => ?_) (fun z => (nomatch z))
      rw [hn] at q
      exact st_ret val_c q
    · refine xs_when (b := true) (xa_or (a := true) (b := true) (xa_not (a := false) (xa_B (xv_isi (val_var rfl) ht hi))) fun z => (nomatch z)) (fun _ => ?_) (fun z => (nomatch z))
      rw [hn] at q
      exact st_ret val_c q
/-! ### still_heap: the row of a number -/
def sp_still_heap : Sp := fun vs H Q _ => ∃ n : Int, vs = [.int n] ∧ 0 ≤ n ∧ n < W 1000 ∧ ∀ H' p (xs : List Int), Same H H' → H p = none → H' p = some (.lst (xs.map V.int)) → Rw xs → S W 0 xs = n → xs.length ≤ 1000 → Q (.ref p) H'
theorem ok_still_heap (T : Txt K mg) : FnOk P w K mg base CX0 1 T.f_still_heap T.d_still_heap ["number"] sp_still_heap := by
  refine T.F_still_heap.ok sc_still_heap (fun vs H Q E h => ?_) (fun cdv A outer s H vs Q E hr h => ?_)
  · obtain ⟨n, rfl, _⟩ := h
    rfl
  · obtain ⟨n, rfl, hn0, hn1, q⟩ := h
    refine ⟨_, (pss_cons (ps_set (i := 1) sc_still_heap.nd rfl (Or.inl rfl) (pe_lst pa_nil))
      (pss_cons (ps_set (i := 2) sc_still_heap.nd rfl (Or.inl rfl) pe_int)
      (pss_cons (ps_set (i := 3) sc_still_heap.nd rfl (Or.inl rfl) pe_int)
      (pss_cons (ps_while PassesOwn.never (pt_cmpR op_le (pv 2) (pv 0) (nomark _)) (pss_cons (ps_expr (pe_bm PySem.F.plainAttrs_list PySem.F.slot_list_append PySem.F.type_list_append mt_append (pv 1) (pa_cons (pv 2) pa_nil)))
      (pss_one (ps_par (i := 2) (j := 3) (by rfl) sc_still_heap.nd rfl rfl (by decide) rfl rfl (pa_cons (pv 3) (pa_cons (pe_op op_add (pv 2) (pv 3)) pa_nil)) (by rfl)))))
      (pss_cons (ps_set (i := 4) sc_still_heap.nd rfl (Or.inl rfl) (pe_lst pa_nil))
      (pss_cons (ps_set (i := 5) sc_still_heap.nd rfl (Or.inl rfl) (pv 0))
      (pss_cons (ps_for PassesOwn.never rfl (pi_reversed (by rfl) T.m_reversed (pa_cons (pv 1) pa_nil)) (pg_name (i := 6) sc_still_heap.nd rfl (Or.inl rfl)) (pss_one (ps_if (pt_cmpR op_le (pv 6) (pv 5) (nomark _)) (pss_cons (ps_expr (pe_bm PySem.F.plainAttrs_list PySem.F.slot_list_append PySem.F.type_list_append mt_append (pv 4) (pa_cons pe_int pa_nil)))
      (pss_one (ps_set (i := 5) sc_still_heap.nd rfl (Or.inl rfl) (pe_op op_sub (pv 5) (pv 6))))) (pss_one (ps_expr (pe_bm PySem.F.plainAttrs_list PySem.F.slot_list_append PySem.F.type_list_append mt_append (pv 4) (pa_cons pe_int pa_nil)))))))
      (pss_one (ps_ret (pe_revL (pv 4))))))))))), ?_⟩
    refine Evl.q_asgL (Evl.el_lst Evl.ea_nil (by decide)) fun l H1 nl e1 h1 => ?_
    refine xq_set val_c ?_
    refine xq_set val_c ?_
    refine xq_while (fun m σ H' => ∃ k : Nat, σ = [some (.int n), some (.ref l), some (.int (W k)), some (.int (W (k + 1))), none, none, none] ∧ Same H H' ∧ H' l = some (.lst (((List.range k).map W).map V.int)) ∧ (0 < k → W (k - 1) ≤ n) ∧ k ≤ 1000 ∧ m = 1000 - k) 1000 ⟨0, rfl, e1, h1, fun z => (nomatch z), by omega, rfl⟩ ?_
    rintro m σ H2 ⟨k, rfl, e2, h2, hk, hk2, rfl⟩
    refine ⟨_, by walk_at "ans", fun hc => ?_, fun hc => ?_⟩
    · have hc : W k ≤ n := of_decide_eq_true hc
      have hlt : k < 1000 := by
        by_cases h : k < 1000
        · exact h
        · have := W_mono (i := 1000) (j := k) (by omega)
          omega
      refine Evl.q_app (l := l) h2 (Evl.ev_var rfl) (Evl.ev_var rfl) (by rw [List.length_map, List.length_map, List.length_range]; omega) fun H3 e3 => ?_
      refine xs_par (xg_cons (val_var rfl) (xg_cons (xv_I0 (val_var rfl) (val_var rfl)) xg_nil)) ⟨1000 - (k + 1), by omega, k + 1, rfl, same_mut (e2.trans e3) nl, ?_, fun _ => hc, by omega, rfl⟩
      rw [upd_same, List.range_succ, List.map_append, List.map_append]
      rfl
    · have hc : n < W k := by
        have := of_decide_eq_false hc
        omega
      refine Evl.q_asgL (Evl.el_lst Evl.ea_nil (by decide)) fun b H3 nb e3 h3 => ?_
      refine xq_set (val_var rfl) ?_
      have hbl : l ≠ b := ne_of_none h2 nb
      have nb0 : H b = none := Same.free e2 nb
      have hlen : (((List.range k).map W).map V.int).length = k := by rw [List.length_map, List.length_map, List.length_range]
      refine xq_forRev (xs := ((List.range k).map W).map V.int) (xg_cons (val_var rfl) xg_nil) (SqL.of (e3 l _ h2)) (fun i σ H' => ∃ (hs : List Int) (left : Int) (y : Option V), σ = [some (.int n), some (.ref l), some (.int (W k)), some (.int (W (k + 1))), some (.ref b), some (.int left), y] ∧ Same H H' ∧ H' l = some (.lst (((List.range k).map W).map V.int)) ∧ H' b = some (.lst (hs.map V.int)) ∧ hs ++ gr (k - i) left = gr k n ∧ hs.length = i)
        ⟨[], n, none, rfl, Same.trans e2 e3, e3 l _ h2, h3, rfl, rfl⟩ (fun i σ H h => by
          obtain ⟨hs, left, y, _, _, h, _⟩ := h
          exact SqL.of h) ?_ ?_
      · rintro i x σ H4 hi hx ⟨hs, left, y, rfl, e4, hl4, hb4, hg, hlen2⟩
        rw [hlen] at hi hx
        obtain ⟨j, hj⟩ : ∃ j, k - i = j + 1 := ⟨k - i - 1, by omega⟩
        have hj2 : k - 1 - i = j := by omega
        have hj3 : k - (i + 1) = j := by omega
        rw [hj2, List.getElem?_map, List.getElem?_map, List.getElem?_range (by omega)] at hx
        obtain rfl : V.int (W j) = x := Option.some.inj hx
        rw [hj] at hg
        refine xs_if (by walk_at "ans") (fun hc => ?_) (fun hc => ?_)
        · have hc := of_decide_eq_true hc
          refine Evl.q_app (l := b) hb4 (Evl.ev_var rfl) Evl.ev_c (by rw [List.length_map]; omega) fun H5 e5 => ?_
          refine st_set (xv_I0 (val_var rfl) (val_var rfl)) ⟨hs ++ [1], left - W j, _, rfl, same_mut (e4.trans e5) nb0, ?_, ?_, ?_, by rw [List.length_append, List.length_singleton, hlen2]⟩
          · rw [upd_ne hbl]
            exact e5 l _ hl4
          · rw [upd_same, List.map_append]
            rfl
          · rw [hj3, ← hg, List.append_assoc]
            congr 1
            show _ = gr (j + 1) left
            conv => rhs; unfold gr
            rw [if_pos hc]
            rfl
        · have hc := of_decide_eq_false hc
          refine Evl.s_app (l := b) hb4 (Evl.ev_var rfl) Evl.ev_c (by rw [List.length_map]; omega) fun H5 e5 => ?_
          refine ⟨hs ++ [0], left, _, rfl, same_mut (e4.trans e5) nb0, ?_, ?_, ?_, by rw [List.length_append, List.length_singleton, hlen2]⟩
          · rw [upd_ne hbl]
            exact e5 l _ hl4
          · rw [upd_same, List.map_append]
            rfl
          · rw [hj3, ← hg, List.append_assoc]
            congr 1
            show _ = gr (j + 1) left
            conv => rhs; unfold gr
            rw [if_neg hc]
            rfl
      · rintro σ H4 ⟨hs, left, y, rfl, e4, hl4, hb4, hg, hlen2⟩
        rw [hlen, Nat.sub_self] at hg
        have hg : hs = gr k n := by
          rw [← hg]
          show hs = hs ++ []
          rw [List.append_nil]
        obtain ⟨r1, r2⟩ := gr_rw hn0 hc hk
        refine Evl.s_retL (xl_revL (Evl.ev_var rfl) (SqL.of hb4)) fun p H5 np e5 h5 => ?_
        rw [← List.map_reverse, hg] at h5
        exact q H5 p _ (e4.trans e5) (Same.free e4 np) h5 r1 r2 (by rw [List.length_reverse, gr_len]; exact hk2)
/-! ### row_of -/
def sp_row_of (K : PySem.W.Frag) (C : Addr) : Sp := fun vs H Q E => ∃ x : V, vs = [x] ∧ Kd K H x ∧
  (∀ n : Int, x = .int n → 0 ≤ n → n < T60 → ∀ H' p (xs : List Int), Same H H' → H p = none → H' p = some (.lst (xs.map V.int)) → Rw xs → S W 0 xs = n → xs.length ≤ 1000 → Q (.ref p) H') ∧ (numB x = false → E (.ref C) none H)
theorem ok_row_of (T : Txt K mg) : FnOk P w K mg base (L2.CX P w) 2 T.f_row_of T.d_row_of ["number"] (sp_row_of K T.C_NoNumber) := by
  refine T.F_row_of.okX sc_row_of (fun vs H Q E h => ?_) (fun cdv A outer s H vs Q E hr h => ?_)
  · obtain ⟨x, rfl, _⟩ := h
    rfl
  · obtain ⟨x, rfl, hk, q1, q2⟩ := h
    refine ⟨_, (pss_cons (ps_if (pt_not (pt_val (pe_call (ok_is_number T) (hr.mono (by decide)) (by rfl) T.g_is_number T.F_is_number.kp T.b_is_number .nil pass0 (pa_cons (pv 0) pa_nil)))) (pss_one (ps_raise rfl (takes_of rfl rfl rfl rfl) (pmk_own PySem.F.excBase_ValueError T.x_NoNumber T.g_NoNumber T.k_NoNumber (raises_own T.xb_NoNumber T.xt_NoNumber) rfl))) pss_nil)
      (pss_one (ps_ret (pe_call (ok_still_heap T) (hr.mono (by decide)) (by rfl) T.g_still_heap T.F_still_heap.kp T.b_still_heap .nil pass0 (pa_cons (pv 0) pa_nil))))), ?_⟩
    refine xs_when (xa_not (xa_B (xv_call (xg_cons (val_var rfl) xg_nil) fun Q q => ⟨x, rfl, hk, q⟩))) (fun hc => ?_) (fun hc => ?_)
    · exact q2 (by simpa using hc)
    · have hc : numB x = true := by simpa using hc
      have hx : ∃ n, x = .int n ∧ 0 ≤ n ∧ n < T60 := by
        rcases hk with ⟨n, rfl⟩ | ⟨hn, _⟩
        · have hc : (decide (0 ≤ n) && decide (n < T60)) = true := hc
          rw [Bool.and_eq_true, decide_eq_true_eq, decide_eq_true_eq] at hc
          exact ⟨n, rfl, hc.1, hc.2⟩
        · rw [hn] at hc
          cases hc
      obtain ⟨n, rfl, h0, h1⟩ := hx
      refine xr_ret (xr_call (xg_go (xg_cons (val_var (i := 0) rfl) xg_nil) ?_))
      exact ⟨n, rfl, h0, Int.lt_trans h1 T60_W, q1 n rfl h0 h1⟩
/-! ### shown -/
def sp_shown (K : PySem.W.Frag) (C : Addr) : Sp := fun vs H Q E => ∃ x : V, vs = [x] ∧ Kd K H x ∧ (∀ n : Int, x = .int n → 0 < n → n < T60 → ∀ H', Same H H' → Q (.str (tx (shownT n))) H') ∧ (numB x = false ∨ x = .int 0 → E (.ref C) none H)
theorem ok_shown (T : Txt K mg) : FnOk P w K mg base (L2.CX P w) 3 T.f_shown T.d_shown ["number"] (sp_shown K T.C_NoNumber) := by
  refine T.F_shown.okX sc_shown (fun vs H Q E h => ?_) (fun cdv A outer s H vs Q E hr h => ?_)
  · obtain ⟨x, rfl, _⟩ := h
    rfl
  · obtain ⟨x, rfl, hk, q1, q2⟩ := h
    refine ⟨_, (pss_cons (ps_if (PW.pt (pw_or (pt_not (pt_val (pe_call (ok_is_number T) (hr.mono (by decide)) (by rfl) T.g_is_number T.F_is_number.kp T.b_is_number .nil pass0 (pa_cons (pv 0) pa_nil)))) (pw_or1 (pt_cmpR op_eq (pv 0) pe_int (nomark _))))) (pss_one (ps_raise rfl (takes_of rfl rfl rfl rfl) (pmk_own PySem.F.excBase_ValueError T.x_NoNumber T.g_NoNumber T.k_NoNumber (raises_own T.xb_NoNumber T.xt_NoNumber) rfl))) pss_nil)
      (pss_one (ps_ret (pe_op op_add_str (pe_join pe_str (pe_lc (own := [("many", 1)]) (g := gName 1) (tt := tYes) rfl sc_shown.nd (pi_list (pe_call (ok_row_of T) (hr.mono (by decide)) (by rfl) T.g_row_of T.F_row_of.kp T.b_row_of .nil (passes_call (takes_of rfl rfl rfl rfl) (fun _ _ _ _ z => z)) (pa_cons (pv 0) pa_nil))) (blkOk_by (N := ["number", "many"]) (sc := defScope st_shown) (by decide +kernel)) (fun _ _ _ _ _ => pg_name (i := 1) sc_shown.nd rfl (Or.inl rfl)) (fun _ _ _ _ _ => pts_nil) (fun _ _ _ _ _ => (pe_ix ix_str pe_str (pv 1) (fun _ _ => rfl))))) pe_str)))), ?_⟩
    by_cases hb : numB x = true
    · have hx : ∃ n, x = .int n ∧ 0 ≤ n ∧ n < T60 := by
        rcases hk with ⟨n, rfl⟩ | ⟨hn, _⟩
        · have hc : (decide (0 ≤ n) && decide (n < T60)) = true := hb
          rw [Bool.and_eq_true, decide_eq_true_eq, decide_eq_true_eq] at hc
          exact ⟨n, rfl, hc.1, hc.2⟩
        · rw [hn] at hb
          cases hb
      obtain ⟨n, rfl, h0, h1⟩ := hx
      refine xs_when (b := decide (V.int n = V.int 0)) (xa_or (a := false) (xa_not (a := true) (xa_B (xv_call (xg_cons (val_var rfl) xg_nil) fun Q q => ⟨.int n, rfl, hk, by rw [hb]; exact q⟩))) fun _ => xa_T (xv_eq (val_var rfl) val_c rfl)) (fun hc => ?_) (fun hc => ?_)
      · exact q2 (.inr (of_decide_eq_true hc))
      · have hn0 : 0 < n := by
          have hc := of_decide_eq_false hc
          have : n ≠ 0 := fun z => hc (congrArg V.int z)
          omega
        have hW : n < W 1000 := Int.lt_trans h1 T60_W
        refine xr_ret (xr_opT (to_join (ys := (rowOf n).map fun b => [sgn b]) (xv_c rfl) ?_ (by rw [flat_sgn, List.length_map]; have := rowOf_len hW; omega) fun H1 e1 => xv_cS (l := [111]) t_o _ ?_))
        · refine el_lcF (ms := rowOf n) (F := fun b => [sgn b]) (fun H1 e1 Q q => ?_) (by have := rowOf_len hW; omega) (fun _ => rfl) fun b H1 e1 hm => xv_ixS (xv_cS t_do) (val_var rfl) (by decide) (atI_sgn ((rowOf_rw h0 hW).zo b hm))
          exact xr_call (xg_go (xg_cons (val_var (i := 0) rfl) xg_nil) ⟨.int n, rfl, .int, fun m hm z0 z1 H' p xs e np hp hR hw hl => by
            cases hm
            rw [rowOf_is h0 hW hR hw] at hp
            exact q p H' np e hp, fun z => (nomatch hb.symm.trans z)⟩)
        · refine ⟨_, _, rfl, rfl, ?_, ?_⟩
          · rw [tx_len, tx_len, flat_sgn, List.length_map]
            have := rowOf_len hW
            exact Nat.le_trans (show (rowOf n).length + 1 ≤ 1001 by omega) (by decide)
          · rw [tx_app, flat_sgn]
            exact q1 n rfl hn0 h1 H1 e1
    · have hb : numB x = false := by simpa using hb
      refine xs_when (b := true) (xa_or (a := true) (b := true) (xa_not (a := false) (xa_B (xv_call (xg_cons (val_var rfl) xg_nil) fun Q q => ⟨x, rfl, hk, by rw [hb]; exact q⟩))) fun z => (nomatch z)) (fun _ => q2 (.inl hb)) (fun z => (nomatch z))
/-! ### written -/
def sp_writ (K : PySem.W.Frag) (C : Addr) : Sp := fun vs H Q E => ∃ (a : Addr) (xs : List V), vs = [.ref a] ∧ SqL K H a xs ∧ (∀ x ∈ xs, Th K H x) ∧ xs.length ≤ 900 ∧
  (xs.all posB = true → ∀ H', Same H H' → Q (.str (tx (xs.map txt1).flatten)) H') ∧ (xs.all posB = false → ∀ H', Same H H' → E (.ref C) none H')
theorem ok_written (T : Txt K mg) : FnOk P w K mg base (L2.CX P w) 4 T.f_written T.d_written ["numbers"] (sp_writ K T.C_NoNumber) := by
  refine T.F_written.okX sc_written (fun vs H Q E h => ?_) (fun cdv A outer s H vs Q E hr h => ?_)
  · obtain ⟨a, xs, rfl, _⟩ := h
    rfl
  · obtain ⟨a, xs, rfl, hS, hT, hl, q1, q2⟩ := h
    refine ⟨_, (pss_one (ps_ret (pe_join pe_str (pe_lcX (own := [("number", 1)]) (g := gName 1) rfl sc_written.nd (takes_of rfl rfl rfl rfl) (fun _ _ _ _ h => h) rfl rfl (pi_list (pv 0)) (blkOk_by (N := ["numbers", "number"]) (sc := defScope st_written) (by decide +kernel)) (fun _ _ _ _ _ => pg_name (i := 1) sc_written.nd rfl (Or.inl rfl)) (fun _ _ _ _ _ xe ps => (pe_call (ok_shown T) (hr.mono (by decide)) (by rfl) T.g_shown T.F_shown.kp T.b_shown .nil ps (pa_cons (pv 1) pa_nil))))))), ?_⟩
    refine xr_ret (to_joinQ (xv_c rfl) (xr_lcV (xs := xs) (Gd := fun x => posB x = true) (G := txt1) (val_var (i := 0) rfl) hS (by omega) (fun _ => rfl) (fun x H1 e1 hx R r => ?_) fun hg p H1 e1 hp => ?_))
    · refine xr_call (xg_go (xg_cons (val_var (i := 1) rfl) xg_nil) ⟨x, rfl, ((hT x hx).same e1).kd, ?_, ?_⟩)
      · rintro n rfl h0 h1 H2 e2
        refine r ?_ H2 e2
        show (decide (0 < n) && decide (n < T60)) = true
        rw [decide_eq_true h0, decide_eq_true h1]
        rfl
      · intro hb
        refine q2 ?_ H1 e1
        by_cases h : xs.all posB = true
        · obtain ⟨n, e, h0, h1⟩ := posB_good (List.all_eq_true.mp h x hx)
          rcases hb with hb | hb
          · rw [e, numB_int (by omega) h1] at hb
            cases hb
          · rw [e] at hb
            have := V.int.inj hb
            omega
        · simpa using h
    · have p3 : xs.all posB = true := List.all_eq_true.mpr hg
      have hfl := flat_len _ (txt1_len p3)
      rw [List.length_map] at hfl
      have hm : xs.length * 1001 ≤ 900 * 1001 := Nat.mul_le_mul_right _ hl
      refine ⟨_, p, (xs.map txt1).map tx, rfl, rfl, .inl (join_sq (SqL.of hp)), join_sz t_e (by omega), ?_⟩
      rw [join_txt t_e]
      exact q1 p3 H1 e1
/-! ### the law's own text of a number -/
def sp_text : Sp := fun vs H Q _ => ∃ n : Int, vs = [.int n] ∧ 0 < n ∧ n < T60 ∧ ∀ H', Same H H' → Q (.str (tx (shownT n))) H'
theorem ok_l_text (T : Txt K mg) : FnOk P w K mg base CX0 1 T.f_l_text T.d_l_text ["_law_number"] sp_text := by
  refine T.F_l_text.ok sc_l_text (fun vs H Q E h => ?_) (fun cdv A outer s H vs Q E hr h => ?_)
  · obtain ⟨n, rfl, _⟩ := h
    rfl
  · obtain ⟨n, rfl, hn0, hn1, q⟩ := h
    have hn1 : n < W 1000 := Int.lt_trans hn1 T60_W
    refine ⟨_, (pss_cons (ps_set (i := 1) sc_l_text.nd rfl (Or.inl rfl) (pe_lst pa_nil))
      (pss_cons (ps_set (i := 2) sc_l_text.nd rfl (Or.inl rfl) pe_int)
      (pss_cons (ps_set (i := 3) sc_l_text.nd rfl (Or.inl rfl) pe_int)
      (pss_cons (ps_while PassesOwn.never (pt_cmpR op_le (pv 2) (pv 0) (nomark _)) (pss_cons (ps_expr (pe_bm PySem.F.plainAttrs_list PySem.F.slot_list_append PySem.F.type_list_append mt_append (pv 1) (pa_cons (pv 2) pa_nil)))
      (pss_one (ps_par (i := 2) (j := 3) (by rfl) sc_l_text.nd rfl rfl (by decide) rfl rfl (pa_cons (pv 3) (pa_cons (pe_op op_add (pv 2) (pv 3)) pa_nil)) (by rfl)))))
      (pss_cons (ps_set (i := 4) sc_l_text.nd rfl (Or.inl rfl) (pe_lst (pa_cons pe_str pa_nil)))
      (pss_cons (ps_for PassesOwn.never rfl (pi_reversed (by rfl) T.m_reversed (pa_cons (pv 1) pa_nil)) (pg_name (i := 5) sc_l_text.nd rfl (Or.inl rfl)) (pss_one (ps_if (pt_cmpR op_le (pv 5) (pv 0) (nomark _)) (pss_cons (ps_set (i := 0) sc_l_text.nd rfl (Or.inl rfl) (pe_op op_sub (pv 0) (pv 5)))
      (pss_one (ps_expr (pe_bm PySem.F.plainAttrs_list PySem.F.slot_list_append PySem.F.type_list_append mt_append (pv 4) (pa_cons pe_str pa_nil))))) (pss_one (ps_expr (pe_bm PySem.F.plainAttrs_list PySem.F.slot_list_append PySem.F.type_list_append mt_append (pv 4) (pa_cons pe_str pa_nil)))))))
      (pss_one (ps_ret (pe_joinRev rfl pe_str (by rfl) T.m_reversed (pv 4)))))))))), ?_⟩
    refine Evl.q_asgL (Evl.el_lst Evl.ea_nil (by decide)) fun l H1 nl e1 h1 => ?_
    refine xq_set val_c ?_
    refine xq_set val_c ?_
    refine xq_while (fun m σ H' => ∃ k : Nat, σ = [some (.int n), some (.ref l), some (.int (W k)), some (.int (W (k + 1))), none, none] ∧ Same H H' ∧ H' l = some (.lst (((List.range k).map W).map V.int)) ∧ (0 < k → W (k - 1) ≤ n) ∧ k ≤ 1000 ∧ m = 1000 - k) 1000 ⟨0, rfl, e1, h1, fun z => (nomatch z), by omega, rfl⟩ ?_
    rintro m σ H2 ⟨k, rfl, e2, h2, hk, hk2, rfl⟩
    refine ⟨_, by walk_at "ans", fun hc => ?_, fun hc => ?_⟩
    · have hc : W k ≤ n := of_decide_eq_true hc
      have hlt : k < 1000 := by
        by_cases h : k < 1000
        · exact h
        · have := W_mono (i := 1000) (j := k) (by omega)
          omega
      refine Evl.q_app (l := l) h2 (Evl.ev_var rfl) (Evl.ev_var rfl) (by rw [List.length_map, List.length_map, List.length_range]; omega) fun H3 e3 => ?_
      refine xs_par (xg_cons (val_var rfl) (xg_cons (xv_I0 (val_var rfl) (val_var rfl)) xg_nil)) ⟨1000 - (k + 1), by omega, k + 1, rfl, same_mut (e2.trans e3) nl, ?_, fun _ => hc, by omega, rfl⟩
      rw [upd_same, List.range_succ, List.map_append, List.map_append]
      rfl
    · have hc : n < W k := by
        have := of_decide_eq_false hc
        omega
      refine Evl.q_asgL (Evl.el_lst (Evl.ea_cons (Evl.ev_c (v := V.str "o")) Evl.ea_nil) (by decide)) fun b H3 nb e3 h3 => ?_
      have hbl : l ≠ b := ne_of_none h2 nb
      have nb0 : H b = none := Same.free e2 nb
      have hlen : (((List.range k).map W).map V.int).length = k := by rw [List.length_map, List.length_map, List.length_range]
      refine xq_forRev (xs := ((List.range k).map W).map V.int) (xg_cons (val_var rfl) xg_nil) (SqL.of (e3 l _ h2)) (fun i σ H' => ∃ (hs : List Int) (left : Int) (y : Option V), σ = [some (.int left), some (.ref l), some (.int (W k)), some (.int (W (k + 1))), some (.ref b), y] ∧ Same H H' ∧ H' l = some (.lst (((List.range k).map W).map V.int)) ∧ H' b = some (.lst ((111 :: hs.map sgn).map fun c => V.str (tx [c]))) ∧ hs ++ gr (k - i) left = gr k n ∧ hs.length = i)
        ⟨[], n, none, rfl, Same.trans e2 e3, e3 l _ h2, by rw [h3]; rw [t_o]; rfl, rfl, rfl⟩ (fun i σ H h => by
          obtain ⟨hs, left, y, _, _, h, _⟩ := h
          exact SqL.of h) ?_ ?_
      · rintro i x σ H4 hi hx ⟨hs, left, y, rfl, e4, hl4, hb4, hg, hlen2⟩
        rw [hlen] at hi hx
        obtain ⟨j, hj⟩ : ∃ j, k - i = j + 1 := ⟨k - i - 1, by omega⟩
        have hj2 : k - 1 - i = j := by omega
        have hj3 : k - (i + 1) = j := by omega
        rw [hj2, List.getElem?_map, List.getElem?_map, List.getElem?_range (by omega)] at hx
        obtain rfl : V.int (W j) = x := Option.some.inj hx
        rw [hj] at hg
        refine xs_if (by walk_at "ans") (fun hc => ?_) (fun hc => ?_)
        · have hc := of_decide_eq_true hc
          refine xq_set (xv_I0 (val_var rfl) (val_var rfl)) ?_
          refine Evl.s_app (l := b) hb4 (Evl.ev_var rfl) (Evl.ev_c (v := V.str "o")) (by rw [List.length_map, List.length_cons, List.length_map]; omega) fun H5 e5 => ?_
          refine ⟨hs ++ [1], left - W j, _, rfl, same_mut (e4.trans e5) nb0, ?_, ?_, ?_, by rw [List.length_append, List.length_singleton, hlen2]⟩
          · rw [upd_ne hbl]
            exact e5 l _ hl4
          · rw [upd_same, List.map_append, ← List.cons_append, List.map_append, t_o]
            rfl
          · rw [hj3, ← hg, List.append_assoc]
            congr 1
            show _ = gr (j + 1) left
            conv => rhs; unfold gr
            rw [if_pos hc]
            rfl
        · have hc := of_decide_eq_false hc
          refine Evl.s_app (l := b) hb4 (Evl.ev_var rfl) (Evl.ev_c (v := V.str ".")) (by rw [List.length_map, List.length_cons, List.length_map]; omega) fun H5 e5 => ?_
          refine ⟨hs ++ [0], left, _, rfl, same_mut (e4.trans e5) nb0, ?_, ?_, ?_, by rw [List.length_append, List.length_singleton, hlen2]⟩
          · rw [upd_ne hbl]
            exact e5 l _ hl4
          · rw [upd_same, List.map_append, ← List.cons_append, List.map_append, t_d]
            rfl
          · rw [hj3, ← hg, List.append_assoc]
            congr 1
            show _ = gr (j + 1) left
            conv => rhs; unfold gr
            rw [if_neg hc]
            rfl
      · rintro σ H4 ⟨hs, left, y, rfl, e4, hl4, hb4, hg, hlen2⟩
        rw [hlen, Nat.sub_self] at hg
        have hg : hs = gr k n := by
          rw [← hg]
          show hs = hs ++ []
          rw [List.append_nil]
        obtain ⟨r1, r2⟩ := gr_rw (Int.le_of_lt hn0) hc hk
        have hrow : hs.reverse = rowOf n := by
          rw [hg]
          exact rowOf_is (Int.le_of_lt hn0) hn1 r1 r2
        refine xr_ret (to_joinRev (zs := 111 :: hs.map sgn) (xv_c rfl) (val_var (i := 4) rfl) (SqL.of hb4) (by rw [List.length_cons, List.length_map]; omega) ?_)
        rw [List.reverse_cons, ← List.map_reverse, hrow]
        exact q H4 e4
/-! ### the numbers drawn -/
def sp_numbers (K : PySem.W.Frag) : Sp := fun vs H Q _ => ∃ (a : Addr) (ns : List Int), vs = [.ref a] ∧ SqL K H a (ns.map V.int) ∧ ns.length ≤ 63 ∧ ∀ H' p (ms : List Int), Same H H' → H p = none → H' p = some (.lst (ms.map V.int)) → ms.length ≤ 12 → (∀ m ∈ ms, 0 < m ∧ m < T60) → Q (.ref p) H'
theorem ok_l_numbers (T : Txt K mg) : FnOk P w K mg base CX0 2 T.f_l_numbers T.d_l_numbers ["_law_script"] (sp_numbers K) := by
  refine T.F_l_numbers.ok sc_l_numbers (fun vs H Q E h => ?_) (fun cdv A outer s H vs Q E hr h => ?_)
  · obtain ⟨a, ns, rfl, _⟩ := h
    rfl
  · obtain ⟨a, ns, rfl, hS, hl, q⟩ := h
    refine ⟨_, (pss_cons (ps_set (i := 1) sc_l_numbers.nd rfl (Or.inl rfl) (pe_lst pa_nil))
      (pss_cons (ps_for PassesOwn.never rfl (pi_range1 (by rfl) T.m_range (pa_cons (pe_callB (call_min2 rfl) (by rfl) T.m_min (by decide +kernel) (pa_cons (pe_callB call_len_seq (by rfl) T.m_len PySem.boot_len (pa_cons (pv 0) pa_nil)) (pa_cons pe_int pa_nil))) pa_nil)) (pg_name (i := 2) sc_l_numbers.nd rfl (Or.inl rfl)) (pss_cons (ps_set (i := 3) sc_l_numbers.nd rfl (Or.inl rfl) (pe_ix ix_list (pe_lst (pa_cons (pe_op op_sub (pe_op op_pow pe_int pe_int) pe_int) (pa_cons pe_int (pa_cons pe_int (pa_cons (pe_op op_pow pe_int pe_int) pa_nil))))) (pe_op op_mod (pe_call (ok_l_cell T) (hr.mono (by decide)) (by rfl) T.g_l_cell T.F_l_cell.kp T.b_l_cell .nil pass0 (pa_cons (pv 0) (pa_cons (pe_op op_add pe_int (pv 2)) pa_nil))) pe_int) (fun _ _ => rfl)))
      (pss_one (ps_expr (pe_bm PySem.F.plainAttrs_list PySem.F.slot_list_append PySem.F.type_list_append mt_append (pv 1) (pa_cons (pe_op op_add pe_int (pe_op op_mod (pe_ix ix_list (pv 0) (pv 2) (fun _ _ => rfl)) (pv 3))) pa_nil))))))
      (pss_one (ps_ret (pv 1))))), ?_⟩
    have h60 : (10 : Int) ^ (18 : Int).toNat < T60 ∧ (400 : Int) < T60 ∧ 1 < T60 := by decide +kernel
    obtain ⟨hp, hq, hr1⟩ := h60
    have h18 : (0 : Int) < 10 ^ (18 : Int).toNat := by decide
    refine Evl.q_asgL (Evl.el_lst Evl.ea_nil (by decide)) fun l H1 nl e1 h1 => ?_
    obtain ⟨n, hn, hn1, hn2⟩ : ∃ n : Nat, (if (12 : Int) < (ns.length : Int) then (12 : Int) else ns.length) = (n : Int) ∧ n ≤ 12 ∧ n ≤ ns.length := by
      by_cases h : (12 : Int) < (ns.length : Int)
      · exact ⟨12, by rw [if_pos h]; rfl, Nat.le_refl _, by omega⟩
      · exact ⟨ns.length, by rw [if_neg h], by omega, Nat.le_refl _⟩
    refine xq_forR (n := n) (xg_cons (xv_to (xv_cb (v := .int (if (12 : Int) < (ns.length : Int) then (12 : Int) else ns.length)) (xg_cons (xv_lenI (val_var rfl) (Same.seq e1 hS)) (xg_cons val_c xg_nil)) fun Q q => ⟨_, _, rfl, q⟩) (congrArg V.int hn)) xg_nil) (by omega) (fun i σ H' => ∃ (y2 y3 : Option V) (ms : List Int), σ = [some (.ref a), some (.ref l), y2, y3] ∧ Same H H' ∧ H' l = some (.lst (ms.map V.int)) ∧ ms.length = i ∧ ∀ m ∈ ms, 0 < m ∧ m < T60) ⟨none, none, [], rfl, e1, h1, rfl, fun _ h => nomatch h⟩ ?_ ?_
    · rintro i σ H2 hi ⟨y2, y3, ms, rfl, e2, h2, hms, hmb⟩
      have hS2 := Same.seq e2 hS
      refine xq_run (xr_opR (xr_lst ?_))
      refine xr_cons (xv_go (xv_I0 xv_p60 val_c) (xr_cons (xv_go val_c (xr_cons (xv_go val_c (xr_cons (xv_go (by walk_at "val") (xr_nil ⟨Evl.sz_of (by show 4 ≤ 100000; omega), fun p3 np3 => ?_⟩))))))))
      have e4 : Same H2 (upd H2 p3 (.lst [.int (T60 - 1), .int 3, .int 400, .int (10 ^ (18 : Int).toNat)])) := Evl.Ex.new np3
      have h4 : (upd H2 p3 (.lst [.int (T60 - 1), .int 3, .int 400, .int (10 ^ (18 : Int).toNat)])) p3 = some (.lst [.int (T60 - 1), .int 3, .int 400, .int (10 ^ (18 : Int).toNat)]) := upd_same
      generalize upd H2 p3 (.lst [.int (T60 - 1), .int 3, .int 400, .int (10 ^ (18 : Int).toNat)]) = H4 at h4 e4
      have hS4 := Same.seq e4 hS2
      refine xv_go (xv_I (C := fun _ j => 0 < j) (g := fun i j => .int (i % j)) (xv_cell (j := 12 + i) (val_var (i := 0) rfl) (xv_to (xv_I0 (g := fun i j => .int (i + j)) val_c (val_var (i := 2) rfl)) (congrArg V.int (by omega))) hS4) val_c (by decide)) ?_
      generalize ns.getD (12 + i) 0 = c
      have hx : ∃ z : Int, atI [V.int (T60 - 1), .int 3, .int 400, .int (10 ^ (18 : Int).toNat)] (c % 4) = some (.int z) ∧ 0 < z ∧ z < T60 := by
        rcases (show c % 4 = 0 ∨ c % 4 = 1 ∨ c % 4 = 2 ∨ c % 4 = 3 by omega) with h | h | h | h <;> rw [h]
        · exact ⟨_, rfl, by omega, by omega⟩
        · exact ⟨_, rfl, by omega, by omega⟩
        · exact ⟨_, rfl, by omega, by omega⟩
        · exact ⟨_, rfl, h18, hp⟩
      obtain ⟨z, hx1, z0, z1⟩ := hx
      refine ⟨p3, _, _, .int z, rfl, rfl, SqL.of h4, hx1, ?_⟩
      refine Evl.s_app (l := l) (e4 l _ h2) (Evl.ev_var rfl) (v := .int (1 + ns.getD ((i : Int)).toNat 0 % z)) (fun H5 e5 Q q => xv_I0 (g := fun i j => .int (i + j)) val_c (xv_I (C := fun _ j => 0 < j) (g := fun i j => .int (i % j)) (xv_ix (val_var (i := 0) rfl) (val_var (i := 2) rfl) (Same.seq e5 hS4) (by omega) (by omega)) (val_var (i := 3) rfl) z0) _ (q H5 (Evl.Ex.refl H5))) (by rw [List.length_map]; omega) fun H5 e5 => ?_
      have m0 := Int.emod_nonneg (ns.getD ((i : Int)).toNat 0) (show z ≠ 0 by omega)
      have m1 := Int.emod_lt_of_pos (ns.getD ((i : Int)).toNat 0) z0
      refine ⟨_, _, ms ++ [1 + ns.getD ((i : Int)).toNat 0 % z], rfl, same_mut (Same.trans e2 (Same.trans e4 e5)) nl, ?_, by rw [List.length_append, List.length_singleton, hms], fun m hm => ?_⟩
      · rw [upd_same, List.map_append]
        rfl
      · rcases List.mem_append.mp hm with h | h
        · exact hmb m h
        · rw [List.mem_singleton.mp h]
          omega
    · rintro σ H2 ⟨y2, y3, ms, rfl, e2, h2, hms, hmb⟩
      exact st_ret (val_var (i := 1) rfl) (q H2 l ms e2 nl h2 (by omega) hmb)
/-! ### a thing that is no number to be shown -/
def sp_none (K : PySem.W.Frag) : Sp := fun vs H Q _ => ∃ (a : Addr) (ns : List Int), vs = [.ref a] ∧ SqL K H a (ns.map V.int) ∧ ∀ H' x, Same H H' → Th K H' x → posB x = false → Q x H'
theorem ok_l_none (T : Txt K mg) : FnOk P w K mg base CX0 2 T.f_l_none T.d_l_none ["_law_script"] (sp_none K) := by
  refine T.F_l_none.ok sc_l_none (fun vs H Q E h => ?_) (fun cdv A outer s H vs Q E hr h => ?_)
  · obtain ⟨a, ns, rfl, _⟩ := h
    rfl
  · obtain ⟨a, ns, rfl, hS, q⟩ := h
    refine ⟨_, (pss_cons (ps_set (i := 1) sc_l_none.nd rfl (Or.inl rfl) (pe_op op_mod (pe_call (ok_l_cell T) (hr.mono (by decide)) (by rfl) T.g_l_cell T.F_l_cell.kp T.b_l_cell .nil pass0 (pa_cons (pv 0) (pa_cons pe_int pa_nil))) (pe_op op_pow pe_int pe_int)))
      (pss_cons (ps_set (i := 2) sc_l_none.nd rfl (Or.inl rfl) (pe_lst (pa_cons pe_int (pa_cons (pe_op op_sub (pe_un un_neg pe_int) (pv 1)) (pa_cons (pe_op op_add (pe_op op_pow pe_int pe_int) (pv 1)) (pa_cons pe_bl (pa_cons pe_bl (pa_cons pe_non (pa_cons pe_str (pa_cons (pe_lst (pa_cons pe_int pa_nil)) pa_nil))))))))))
      (pss_one (ps_ret (pe_ix ix_list (pv 2) (pe_op op_mod (pe_call (ok_l_cell T) (hr.mono (by decide)) (by rfl) T.g_l_cell T.F_l_cell.kp T.b_l_cell .nil pass0 (pa_cons (pv 0) (pa_cons pe_int pa_nil))) pe_int) (fun _ _ => rfl)))))), ?_⟩
    have h60 := T60_pos
    refine xq_set (xv_I (C := fun _ j => 0 < j) (g := fun i j => .int (i % j)) (xv_cell (j := 24) (val_var (i := 0) rfl) val_c hS) xv_p60 h60) ?_
    have hf : 0 ≤ ns.getD 24 0 % T60 := Int.emod_nonneg _ (by omega)
    generalize ns.getD 24 0 % T60 = far at hf
    refine xq_run (xr_lst ?_)
    refine xr_cons (xv_go val_c (xr_cons (xv_go (by walk_at "val") (xr_cons (xv_go (by walk_at "val") (xr_cons (xv_go val_c (xr_cons (xv_go val_c (xr_cons (xv_go val_c (xr_cons (xv_go val_c (xr_cons ?_))))))))))))))
    refine (Evl.el_lst (Evl.ea_cons Evl.ev_c Evl.ea_nil) (by decide)) H (Evl.Ex.refl H) _ fun p1 H2 np1 e2 h2 => ?_
    refine xr_nil ⟨Evl.sz_of (by show 8 ≤ 100000; omega), fun p3 np3 => ?_⟩
    have e4 : Same H2 (upd H2 p3 (.lst [.int 0, .int (-1 - far), .int (T60 + far), .bl true, .bl false, .non, .str "1", .ref p1])) := Evl.Ex.new np3
    have h4 : (upd H2 p3 (.lst [.int 0, .int (-1 - far), .int (T60 + far), .bl true, .bl false, .non, .str "1", .ref p1])) p3 = some (.lst [.int 0, .int (-1 - far), .int (T60 + far), .bl true, .bl false, .non, .str "1", .ref p1]) := upd_same
    have k1 := e4 p1 _ h2
    generalize upd H2 p3 (.lst [.int 0, .int (-1 - far), .int (T60 + far), .bl true, .bl false, .non, .str "1", .ref p1]) = H4 at h4 k1 e4
    have hS4 := Same.seq (Same.trans e2 e4) hS
    refine xr_ret (xr_opR ?_)
    refine xv_go (val_var (i := 2) rfl) (xv_go (xv_I (C := fun _ j => 0 < j) (g := fun i j => .int (i % j)) (xv_cell (j := 25) (val_var (i := 0) rfl) val_c hS4) val_c (by decide)) ?_)
    generalize ns.getD 25 0 = c
    have hx : ∃ x, atI [V.int 0, .int (-1 - far), .int (T60 + far), .bl true, .bl false, .non, .str "1", .ref p1] (c % 8) = some x ∧ Th K H4 x ∧ posB x = false := by
      rcases (show c % 8 = 0 ∨ c % 8 = 1 ∨ c % 8 = 2 ∨ c % 8 = 3 ∨ c % 8 = 4 ∨ c % 8 = 5 ∨ c % 8 = 6 ∨ c % 8 = 7 by omega) with h | h | h | h | h | h | h | h <;> rw [h]
      · exact ⟨_, rfl, .inl ⟨_, rfl⟩, rfl⟩
      · refine ⟨_, rfl, .inl ⟨_, rfl⟩, ?_⟩
        show (decide (0 < -1 - far) && decide (-1 - far < T60)) = false
        rw [decide_eq_false (by omega)]
        rfl
      · refine ⟨_, rfl, .inl ⟨_, rfl⟩, ?_⟩
        show (decide (0 < T60 + far) && decide (T60 + far < T60)) = false
        rw [decide_eq_false (p := T60 + far < T60) (by omega), Bool.and_false]
      · exact ⟨_, rfl, .inr (.inl ⟨_, rfl⟩), rfl⟩
      · exact ⟨_, rfl, .inr (.inl ⟨_, rfl⟩), rfl⟩
      · exact ⟨_, rfl, .inr (.inr (.inr (.inl rfl))), rfl⟩
      · exact ⟨_, rfl, .inr (.inr (.inl ⟨_, rfl⟩)), rfl⟩
      · exact ⟨_, rfl, .inr (.inr (.inr (.inr ⟨_, _, rfl, SqL.of k1⟩))), rfl⟩
    obtain ⟨x, hx1, hx2, hx3⟩ := hx
    exact ⟨p3, _, _, x, rfl, rfl, SqL.of h4, hx1, q H4 x (Same.trans e2 e4) hx2 hx3⟩
/-! ### a refusal -/
def sp_refuse (K : PySem.W.Frag) : Sp := fun vs H Q _ => ∃ x y : V, vs = [x, y] ∧ Th K H x ∧ posB x = false ∧ (y = .non ∨ ∃ a xs, y = .ref a ∧ SqL K H a xs ∧ (∀ z ∈ xs, Th K H z) ∧ xs.length ≤ 900 ∧ xs.all posB = false) ∧ ∀ H', Same H H' → Q (.bl true) H'
theorem ok_l_refused (T : Txt K mg) : FnOk P w K mg base CX0 5 T.f_l_refused T.d_l_refused ["_law_thing", "_law_numbers_here"] (sp_refuse K) := by
  refine T.F_l_refused.ok sc_l_refused (fun vs H Q E h => ?_) (fun cdv A outer s H vs Q E hr h => ?_)
  · obtain ⟨x, y, rfl, _⟩ := h
    rfl
  · obtain ⟨x, y, rfl, hx, hp, hy, q⟩ := h
    refine ⟨_, (pss_cons (ps_try_two (i := 2) rfl rfl sc_l_refused.nd rfl rfl (.cons ⟨rfl, by decide, Or.inl T.g_NoEnd⟩ (.cons ⟨rfl, by decide, Or.inl T.g_NoMove⟩ (.cons ⟨rfl, by decide, Or.inl T.g_NoSign⟩ (.cons ⟨rfl, by decide, Or.inl T.g_Short⟩ .nil)))) told4 (by show 4 ≤ 1000; decide) ⟨rfl, by decide, Or.inl T.g_NoNumber⟩ takes0 (fun W pn xe tk _ => (pss_one (ps_if (pt_cmpR op_isN (pv 1) pe_non (nomark _)) (pss_one (ps_expr (by exact (pe_callS (ok_shown T) (hr.mono (by decide)) (by rfl) T.g_shown T.F_shown.kp T.b_shown (fun σ => passAt tk σ) (by exact (pa_cons (pv 0) pa_nil)))))) (pss_one (ps_expr (by exact (pe_callS (ok_written T) (hr.mono (by decide)) (by rfl) T.g_written T.F_written.kp T.b_written (fun σ => passAt tk σ) (by exact (pa_cons (pv 1) pa_nil))))))))) (fun a oe cls d pn hz hf => (pss_one (ps_ret (pe_and (pe_callB (call_isX rfl hz hf) (by rfl) T.m_isinstance (by decide +kernel) (pa_cons (pv 2) (pa_cons (pe_glob (v := .ref T.C_StairError) (by rfl) T.g_StairError rfl) pa_nil))) (pe_one (pe_callB (call_isX rfl hz hf) (by rfl) T.m_isinstance (by decide +kernel) (pa_cons (pv 2) (pa_cons (pe_bltn (v := .ty "ValueError") (by rfl) T.m_ValueError (by decide +kernel) rfl) pa_nil)))))))))
      (pss_one (ps_ret pe_bl))), ?_⟩
    refine xs_seq ?_
    rcases hy with rfl | ⟨a, xs, rfl, hS, hT, hl, hb⟩
    · refine xs_if (b := true) (ans_isN (val_var rfl) rfl) (fun _ => ?_) (fun z => (nomatch z))
      refine xg_go (xg_cons (val_var (i := 0) rfl) xg_nil) ?_
      refine ⟨x, rfl, hx.kd, fun n e h0 h1 => (by
        subst e
        have hp : (decide (0 < n) && decide (n < T60)) = false := hp
        rw [decide_eq_true h0, decide_eq_true h1] at hp
        cases hp), fun _ => ?_⟩
      refine ⟨any_no T.x_NoNumber_NoEnd (any_no T.x_NoNumber_NoMove (any_no T.x_NoNumber_NoSign (any_no T.x_NoNumber_Short rfl))), true, T.x_NoNumber_NoNumber, fun _ e he => ?_, fun z => (nomatch z)⟩
      exact st_ret (xv_and (xv_isC (val_var rfl) T.E_NoNumber T.i_NoNumber_StairError) fun _ => xv_isT (val_var rfl) T.E_NoNumber T.i_NoNumber_VE) (q _ (Same.refl _))
    · refine xs_if (b := false) (ans_isN (val_var rfl) rfl) (fun z => (nomatch z)) (fun _ => ?_)
      refine xg_go (xg_cons (val_var (i := 1) rfl) xg_nil) ?_
      refine ⟨a, xs, rfl, hS, hT, hl, fun z => (nomatch hb.symm.trans z), fun _ H1 e1 => ?_⟩
      refine ⟨any_no T.x_NoNumber_NoEnd (any_no T.x_NoNumber_NoMove (any_no T.x_NoNumber_NoSign (any_no T.x_NoNumber_Short rfl))), true, T.x_NoNumber_NoNumber, fun _ e he => ?_, fun z => (nomatch z)⟩
      exact st_ret (xv_and (xv_isC (val_var rfl) T.E_NoNumber T.i_NoNumber_StairError) fun _ => xv_isT (val_var rfl) T.E_NoNumber T.i_NoNumber_VE) (q _ e1)
/-! ### written, beside what is due -/
def sp_lwr (K : PySem.W.Frag) : Sp := fun vs H Q _ => ∃ (a : Addr) (ns : List Int), vs = [.ref a, .str (tx (ns.map shownT).flatten)] ∧ SqL K H a (ns.map V.int) ∧ ns.length ≤ 900 ∧ (∀ n ∈ ns, 0 < n ∧ n < T60) ∧ ∀ H', Same H H' → Q (.bl true) H'
theorem all_good {ns : List Int} (h : ∀ n ∈ ns, 0 < n ∧ n < T60) : (ns.map V.int).all posB = true := List.all_eq_true.mpr fun x hx => by
  obtain ⟨n, hn, rfl⟩ := List.mem_map.mp hx
  show (decide (0 < n) && decide (n < T60)) = true
  rw [decide_eq_true (h n hn).1, decide_eq_true (h n hn).2]
  rfl
theorem th_ints {K : PySem.W.Frag} {H : Hp} {ns : List Int} : ∀ x ∈ ns.map V.int, Th K H x := fun x hx => by
  obtain ⟨n, hn, rfl⟩ := List.mem_map.mp hx
  exact .inl ⟨n, rfl⟩
theorem ok_l_written (T : Txt K mg) : FnOk P w K mg base CX0 5 T.f_l_written T.d_l_written ["_law_numbers_here", "_law_due"] (sp_lwr K) := by
  refine T.F_l_written.ok sc_l_written (fun vs H Q E h => ?_) (fun cdv A outer s H vs Q E hr h => ?_)
  · obtain ⟨a, ns, rfl, _⟩ := h
    rfl
  · obtain ⟨a, ns, rfl, hS, hl, hn, q⟩ := h
    refine ⟨_, (pss_cons (ps_set (i := 2) sc_l_written.nd rfl (Or.inl rfl) (pe_call (ok_written T) (hr.mono (by decide)) (by rfl) T.g_written T.F_written.kp T.b_written .nil passL (pa_cons (pv 0) pa_nil)))
      (pss_one (ps_ret (pe_and (pe_callB call_isi (by rfl) T.m_isinstance (by decide +kernel) (pa_cons (pv 2) (pa_cons (pe_bltn (v := .ty "str") (by rfl) T.m_str (by decide +kernel) rfl) pa_nil))) (pe_one (pe_cmpR op_eq (pv 2) (pv 1) (nomark _))))))), ?_⟩
    refine xq_run (xr_call (xg_go (xg_cons (val_var (i := 0) rfl) xg_nil) ⟨a, _, rfl, hS, th_ints, by rw [List.length_map]; exact hl, fun _ H1 e1 => ?_, fun z => (nomatch (all_good hn).symm.trans z)⟩))
    have hm : (ns.map V.int).map txt1 = ns.map shownT := by
      rw [List.map_map]
      rfl
    rw [hm]
    refine st_ret (xv_and (a := true) (xv_isi (val_var rfl) (.base (.str _)) (by decide +kernel)) fun _ => xv_eqS (val_var (i := 2) rfl) (val_var (i := 1) rfl)) ?_
    rw [decide_eq_true rfl]
    exact q H1 e1
/-! ### the law -/
theorem shown_4 : shownT 4 = [111, 46, 111, 111] := by
  have h4 : (4 : Int) < T60 := by decide +kernel
  have hR : Rw [1, 0, 1] := ⟨fun x hx => by
    rcases List.mem_cons.mp hx with h | h
    · exact .inr h
    · rcases List.mem_cons.mp h with h | h
      · exact .inl h
      · exact .inr (List.mem_singleton.mp h), by decide, .inr (by decide)⟩
  have e := rowOf_is (n := 4) (by decide) (Int.lt_trans h4 T60_W) hR (by decide)
  unfold shownT
  rw [← e]
  decide
theorem flat_shown {ms : List Int} (hl : ms.length ≤ 50) (hm : ∀ m ∈ ms, 0 < m ∧ m < T60) : (ms.map shownT).flatten.length ≤ 60000 := by
  have h := flat_len (B := 1001) (ms.map shownT) fun y hy => by
    obtain ⟨m, hmm, rfl⟩ := List.mem_map.mp hy
    exact shownT_len (Int.lt_trans (hm m hmm).2 T60_W)
  rw [List.length_map] at h
  have : ms.length * 1001 ≤ 50 * 1001 := Nat.mul_le_mul_right _ hl
  omega
theorem flat_more {ms : List Int} {i : Nat} {n : Int} (h : ms[i]? = some n) : ((ms.take (i + 1)).map shownT).flatten = ((ms.take i).map shownT).flatten ++ shownT n := by
  rw [take_more h, List.map_append, List.flatten_append]
  congr 1
  show shownT n ++ [] = shownT n
  rw [List.append_nil]
section
variable {σ : L2.St} {H : Hp} {ta tb te ti : TE}
theorem ev_lwr {p : Addr} {ms : List Int} (ha : Evl.Ev ta σ H (.ref p)) (hb : Evl.Ev tb σ H (.str (tx (ms.map shownT).flatten))) (hS : SqL K H p (ms.map V.int)) (hl : ms.length ≤ 900) (hm : ∀ n ∈ ms, 0 < n ∧ n < T60) : Evl.Ev (tCall (sp_lwr K) [] E0 (tCons ta (tCons tb tNil))) σ H (.bl true) :=
  Evl.ev_call (Evl.ea_cons ha (Evl.ea_cons hb Evl.ea_nil)) fun H1 e Q q E => ⟨p, ms, rfl, Evl.ex_l e hS, hl, hm, fun H' e' => q H' e'⟩
theorem ev_lwrL {ms : List Int} (ha : Evl.EvL ta σ H (ms.map V.int)) (hb : Evl.Ev tb σ H (.str (tx (ms.map shownT).flatten))) (hl : ms.length ≤ 900) (hm : ∀ n ∈ ms, 0 < n ∧ n < T60) : Evl.Ev (tCall (sp_lwr K) [] E0 (tCons ta (tCons tb tNil))) σ H (.bl true) :=
  fun H1 e Q q => xr_call (xr_cons (ha H1 e _ fun p H2 np e2 h2 => xr_cons (hb H2 (e.trans e2) _ fun H3 e3 => xr_nil ⟨p, ms, rfl, SqL.of (e3 p _ h2), hl, hm, fun H4 e4 => q H4 ((e2.trans e3).trans e4)⟩)))
theorem el_hi {a : Addr} {xs : List V} {k : Nat} (h : Evl.Ev te σ H (.ref a)) (hi : Evl.Ev ti σ H (.int (k : Int))) (hS : SqL K H a xs) : Evl.EvL (tSl (rSlL K) te tNoPart (tPart ti)) σ H (xs.take k) := by
  have r := Evl.el_sl h Evl.eo_none (Evl.eo_some hi) hS
  rw [cut_hi] at r
  exact r
theorem el_lo {a : Addr} {xs : List V} {k : Nat} (h : Evl.Ev te σ H (.ref a)) (hi : Evl.Ev ti σ H (.int (k : Int))) (hS : SqL K H a xs) : Evl.EvL (tSl (rSlL K) te (tPart ti) tNoPart) σ H (xs.drop k) := by
  have r := Evl.el_sl h (Evl.eo_some hi) Evl.eo_none hS
  rw [cut_lo] at r
  exact r
end
def sp_law (K : PySem.W.Frag) : Sp := fun vs H Q _ => ∃ (a : Addr) (ns : List Int), vs = [.ref a] ∧ SqL K H a (ns.map V.int) ∧ ns.length ≤ 63 ∧ ∀ H', Q (.bl true) H'
theorem ok_law (T : Txt K mg) : FnOk P w K mg base CX0 6 T.f_law T.d_law ["_law_script"] (sp_law K) := by
  refine T.F_law.ok sc_law (fun vs H Q E h => ?_) (fun cdv A outer s H vs Q E hr h => ?_)
  · obtain ⟨a, ns, rfl, _⟩ := h
    rfl
  · obtain ⟨a, ns, rfl, hS, hl, q⟩ := h
    refine ⟨_, (pss_cons (ps_set (i := 1) sc_law.nd rfl (Or.inl rfl) (pe_call (ok_l_numbers T) (hr.mono (by decide)) (by rfl) T.g_l_numbers T.F_l_numbers.kp T.b_l_numbers .nil pass0 (pa_cons (pv 0) pa_nil)))
      (pss_cons (ps_set (i := 2) sc_law.nd rfl (Or.inl rfl) (pe_callTy call_list_of (by rfl) T.m_list (by decide +kernel) (pa_cons (pv 1) pa_nil)))
      (pss_cons (ps_set (i := 3) sc_law.nd rfl (Or.inl rfl) pe_str)
      (pss_cons (ps_for PassesOwn.never rfl (pi_list (pv 1)) (pg_name (i := 4) sc_law.nd rfl (Or.inl rfl)) (pss_cons (ps_set (i := 5) sc_law.nd rfl (Or.inl rfl) (pe_call (ok_shown T) (hr.mono (by decide)) (by rfl) T.g_shown T.F_shown.kp T.b_shown .nil passL (pa_cons (pv 4) pa_nil)))
      (pss_cons (ps_if (PW.pt (pw_or (pt_not (pt_val (pe_callB call_isi (by rfl) T.m_isinstance (by decide +kernel) (pa_cons (pv 5) (pa_cons (pe_bltn (v := .ty "str") (by rfl) T.m_str (by decide +kernel) rfl) pa_nil))))) (pw_or1 (pt_cmpR op_ne (pv 5) (pe_call (ok_l_text T) (hr.mono (by decide)) (by rfl) T.g_l_text T.F_l_text.kp T.b_l_text .nil pass0 (pa_cons (pv 4) pa_nil)) (nomark _))))) (pss_one (ps_ret pe_bl)) pss_nil)
      (pss_one (ps_set (i := 3) sc_law.nd rfl (Or.inl rfl) (pe_op op_add_str (pv 3) (pv 5)))))))
      (pss_cons (ps_if (PW.pt (pw_or (pt_not (pt_val (pe_call (ok_l_written T) (hr.mono (by decide)) (by rfl) T.g_l_written T.F_l_written.kp T.b_l_written .nil pass0 (pa_cons (pv 2) (pa_cons (pv 3) pa_nil))))) (pw_or (pt_cmpR (op_neD hr.units) (pv 2) (pv 1) (nomark _)) (pw_or1 (pt_not (pt_val (pe_call (ok_l_written T) (hr.mono (by decide)) (by rfl) T.g_l_written T.F_l_written.kp T.b_l_written .nil pass0 (pa_cons (pe_lst pa_nil) (pa_cons pe_str pa_nil))))))))) (pss_one (ps_ret pe_bl)) pss_nil)
      (pss_cons (ps_set (i := 6) sc_law.nd rfl (Or.inl rfl) (pe_call (ok_l_none T) (hr.mono (by decide)) (by rfl) T.g_l_none T.F_l_none.kp T.b_l_none .nil pass0 (pa_cons (pv 0) pa_nil)))
      (pss_cons (ps_set (i := 7) sc_law.nd rfl (Or.inl rfl) (pe_op op_mod (pe_call (ok_l_cell T) (hr.mono (by decide)) (by rfl) T.g_l_cell T.F_l_cell.kp T.b_l_cell .nil pass0 (pa_cons (pv 0) (pa_cons pe_int pa_nil))) (pe_op op_add (pe_callB call_len_seq (by rfl) T.m_len PySem.boot_len (pa_cons (pv 1) pa_nil)) pe_int)))
      (pss_cons (ps_set (i := 8) sc_law.nd rfl (Or.inl rfl) (pe_op op_cat (pe_op op_cat (pe_slice sl_list (pv 1) po_none (po_some (pv 7))) (pe_lst (pa_cons (pv 6) pa_nil))) (pe_slice sl_list (pv 1) (po_some (pv 7)) po_none)))
      (pss_cons (ps_if (PW.pt (pw_or (pt_not (pt_val (pe_call (ok_l_refused T) (hr.mono (by decide)) (by rfl) T.g_l_refused T.F_l_refused.kp T.b_l_refused .nil pass0 (pa_cons (pv 6) (pa_cons pe_non pa_nil))))) (pw_or1 (pt_not (pt_val (pe_call (ok_l_refused T) (hr.mono (by decide)) (by rfl) T.g_l_refused T.F_l_refused.kp T.b_l_refused .nil pass0 (pa_cons (pv 6) (pa_cons (pv 8) pa_nil)))))))) (pss_one (ps_ret pe_bl)) pss_nil)
      (pss_cons (ps_expr (pe_bm PySem.F.plainAttrs_list PySem.F.slot_list_append PySem.F.type_list_append mt_append (pv 2) (pa_cons pe_int pa_nil)))
      (pss_one (ps_ret (pe_and (pe_call (ok_l_written T) (hr.mono (by decide)) (by rfl) T.g_l_written T.F_l_written.kp T.b_l_written .nil pass0 (pa_cons (pv 2) (pa_cons (pe_op op_add_str (pv 3) pe_str) pa_nil))) (pe_one (pe_call (ok_l_written T) (hr.mono (by decide)) (by rfl) T.g_l_written T.F_l_written.kp T.b_l_written .nil pass0 (pa_cons (pv 1) (pa_cons (pv 3) pa_nil))))))))))))))))), ?_⟩
    refine xq_run (xr_call (xg_go (xg_cons (val_var (i := 0) rfl) xg_nil) ⟨a, ns, rfl, hS, hl, fun H1 b ms e1 nb h1 hml hm => ?_⟩))
    refine Evl.q_asgL (xl_listQ (Evl.ev_var (i := 1) rfl) (SqL.of h1)) fun c H2 nc e2 h2 => ?_
    refine xq_set (xv_cS (l := []) t_e) ?_
    have hS2 := Same.seq (Same.trans e1 e2) hS
    have b2 := e2 b _ h1
    have hbc : b ≠ c := ne_of_none h1 nc
    refine xq_forI (ns := ms) (val_var (i := 1) rfl) (Same.refl H2) (SqL.of b2) (fun i σ H' => ∃ y4 y5, σ = [some (.ref a), some (.ref b), some (.ref c), some (.str (tx ((ms.take i).map shownT).flatten)), y4, y5, none, none, none]) ⟨none, none, rfl⟩ ?_ ?_
    · rintro i n σ H3 e3 hn ⟨y4, y5, rfl⟩
      obtain ⟨n0, n1⟩ := hm n (List.mem_of_getElem? hn)
      have hi := (List.getElem?_eq_some_iff.mp hn).1
      refine xq_run (xr_call (xg_go (xg_cons (val_var (i := 4) rfl) xg_nil) ⟨.int n, rfl, .int, fun m hmm z0 z1 H4 e4 => ?_, fun z => ?_⟩))
      · cases hmm
        refine Evl.q_when (b := false) (Evl.et_or (a := false) (b := false) (Evl.et_not (a := true) (Evl.et_B (fun H1 e Q q => xv_isi (val_var (i := 5) rfl) (.base (.str _)) (by decide +kernel) _ (q H1 (Evl.Ex.refl H1))))) fun _ => Evl.et_test (Evl.ev_is (Evl.ev_op (Evl.ev_var (i := 5) rfl) (Evl.ev_call (Evl.ea_cons (Evl.ev_var (i := 4) rfl) Evl.ea_nil) (fun H1 e Q q E => ⟨n, rfl, n0, n1, fun H2 e2 => q H2 e2⟩)) (Evl.rv_ne rfl)) (by rw [decide_eq_true rfl]; rfl))) (fun z => (nomatch z)) (fun _ H5 e5 => ?_)
        refine st_set (xv_addS (val_var (i := 3) rfl) (val_var (i := 5) rfl) ?_) ⟨Same.trans (Same.trans e3 e4) e5, some (.int n), some (.str (tx (shownT n))), ?_⟩
        · have h1 := flat_shown (ms := ms.take i) (by rw [List.length_take]; omega) fun m hmm => hm m (List.mem_of_mem_take hmm)
          have h2 := shownT_len (Int.lt_trans n1 T60_W)
          omega
        · rw [flat_more hn]
          rfl
      · rcases z with z | z
        · rw [numB_int (by omega) n1] at z
          cases z
        · have := V.int.inj z
          omega
    · rintro σ H3 e3 ⟨y4, y5, rfl⟩
      rw [List.take_length]
      have b3 := e3 b _ b2
      have c3 := e3 c _ h2
      refine Evl.q_when (b := false) (Evl.et_or (a := false) (b := false) (Evl.et_not (a := true) (Evl.et_B (ev_lwr (ms := ms) (Evl.ev_var (i := 2) rfl) (Evl.ev_var (i := 3) rfl) (SqL.of c3) (by omega) hm))) fun _ => Evl.et_or (a := false) (b := false) (Evl.et_test (fun H4 e4 Q q => xv_to (xv_neL (val_var (i := 2) rfl) (val_var (i := 1) rfl) (SqL.of (e4 c _ c3)) (SqL.of (e4 b _ b3))) (by rw [decide_eq_true rfl]; rfl) _ (q H4 (Evl.Ex.refl H4)))) fun _ =>
        Evl.et_not (a := true) (Evl.et_B (ev_lwrL (ms := []) (Evl.el_lst Evl.ea_nil (by decide)) (Evl.ev_is Evl.ev_c (congrArg V.str t_e)) (by decide) fun _ h => nomatch h))) (fun z => (nomatch z)) (fun _ H4 e4 => ?_)
      have b4 := e4 b _ b3
      have c4 := e4 c _ c3
      have hS4 := Same.seq (Same.trans e3 e4) hS2
      refine xq_run (xr_call (xg_go (xg_cons (val_var (i := 0) rfl) xg_nil) ⟨a, ns, rfl, hS4, fun H5 x e5 hx hp => ?_⟩))
      have b5 := e5 b _ b4
      have c5 := e5 c _ c4
      have hS5 := Same.seq e5 hS4
      have hpos : (0 : Int) < (ms.length : Int) + 1 := by omega
      refine xq_set (xv_I (C := fun _ j => 0 < j) (g := fun i j => .int (i % j)) (xv_cell (j := 26) (val_var (i := 0) rfl) val_c hS5) (xv_I0 (xv_lenI (val_var (i := 1) rfl) (SqL.of b5)) val_c) hpos) ?_
      obtain ⟨k, hk⟩ : ∃ k : Nat, ns.getD 26 0 % ((ms.length : Int) + 1) = (k : Int) := ⟨_, (Int.toNat_of_nonneg (Int.emod_nonneg _ (by omega))).symm⟩
      rw [hk]
      refine Evl.q_asgL (xl_catN (xl_catN (el_hi (Evl.ev_var (i := 1) rfl) (Evl.ev_var (i := 7) rfl) (SqL.of b5)) (Evl.el_lst (Evl.ea_cons (Evl.ev_var (i := 6) rfl) Evl.ea_nil) (by show 1 ≤ 100000; omega)) (by rw [List.length_take, List.length_map]; show _ + 1 ≤ _; omega)) (el_lo (Evl.ev_var (i := 1) rfl) (Evl.ev_var (i := 7) rfl) (SqL.of b5)) (by rw [List.length_append, List.length_take, List.length_drop, List.length_map]; show _ + 1 + _ ≤ _; omega)) fun d H6 nd e6 h6 => ?_
      have b6 := e6 b _ b5
      have c6 := e6 c _ c5
      have hx6 := hx.same e6
      have hall : ∀ H' : Hp, Th K H' x → ∀ z ∈ (ms.map V.int).take k ++ [x] ++ (ms.map V.int).drop k, Th K H' z := fun H' hx' z hz => by
        rcases List.mem_append.mp hz with h | h
        · rcases List.mem_append.mp h with h | h
          · exact th_ints z (List.mem_of_mem_take h)
          · rw [List.mem_singleton.mp h]
            exact hx'
        · exact th_ints z (List.mem_of_mem_drop h)
      have hbad : ((ms.map V.int).take k ++ [x] ++ (ms.map V.int).drop k).all posB = false := by
        rw [List.all_append, List.all_append]
        simp [hp]
      have hlen : ((ms.map V.int).take k ++ [x] ++ (ms.map V.int).drop k).length ≤ 900 := by
        rw [List.length_append, List.length_append, List.length_take, List.length_drop, List.length_map]
        show _ + 1 + _ ≤ _
        omega
      refine Evl.q_when (b := false) (Evl.et_or (a := false) (b := false) (Evl.et_not (a := true) (Evl.et_B (Evl.ev_call (Evl.ea_cons (Evl.ev_var (i := 6) rfl) (Evl.ea_cons Evl.ev_c Evl.ea_nil)) fun H7 e7 Q q E => ⟨x, .non, rfl, hx6.same e7, hp, .inl rfl, fun H' e' => q H' e'⟩))) fun _ =>
        Evl.et_not (a := true) (Evl.et_B (Evl.ev_call (Evl.ea_cons (Evl.ev_var (i := 6) rfl) (Evl.ea_cons (Evl.ev_var (i := 8) rfl) Evl.ea_nil)) fun H7 e7 Q q E => ⟨x, .ref d, rfl, hx6.same e7, hp, .inr ⟨d, _, rfl, SqL.of (e7 d _ h6), hall H7 (hx6.same e7), hlen, hbad⟩, fun H' e' => q H' e'⟩))) (fun z => (nomatch z)) (fun _ H7 e7 => ?_)
      have b7 := e7 b _ b6
      have c7 := e7 c _ c6
      refine Evl.q_app (l := c) c7 (Evl.ev_var (i := 2) rfl) (Evl.ev_c (v := V.int 4)) (by rw [List.length_map]; omega) fun H8 e8 => ?_
      have h4 : (4 : Int) < T60 := by decide +kernel
      have e44 : ms.map V.int ++ [V.int 4] = (ms ++ [4]).map V.int := by
        rw [List.map_append]
        rfl
      have b8 : (upd H8 c (.lst (ms.map V.int ++ [V.int 4]))) b = some (.lst (ms.map V.int)) := by
        rw [upd_ne hbc]
        exact e8 b _ b7
      have c8 : (upd H8 c (.lst (ms.map V.int ++ [V.int 4]))) c = some (.lst ((ms ++ [4]).map V.int)) := by
        rw [upd_same, e44]
      generalize upd H8 c (.lst (ms.map V.int ++ [V.int 4])) = H9 at b8 c8
      have hfl : ((ms ++ [4]).map shownT).flatten = (ms.map shownT).flatten ++ [111, 46, 111, 111] := by
        have e4 : ([4].map shownT).flatten = [111, 46, 111, 111] := by
          show shownT 4 ++ [] = _
          rw [List.append_nil, shown_4]
        rw [List.map_append, List.flatten_append, e4]
      have hm4 : ∀ n ∈ ms ++ [4], 0 < n ∧ n < T60 := fun n hn => by
        rcases List.mem_append.mp hn with h | h
        · exact hm n h
        · rw [List.mem_singleton.mp h]
          exact ⟨by decide, h4⟩
      have hf8 := flat_shown (ms := ms) (by omega) hm
      refine Evl.s_ret (Evl.ev_andV (a := true) (b := true) (ev_lwr (ms := ms ++ [4]) (Evl.ev_var (i := 2) rfl) (fun H10 e10 Q q => ?_) (SqL.of c8) (by rw [List.length_append]; show _ + 1 ≤ _; omega) hm4) fun _ => ev_lwr (ms := ms) (Evl.ev_var (i := 1) rfl) (Evl.ev_var (i := 3) rfl) (SqL.of b8) (by omega) hm) fun H10 e10 => q H10
      rw [hfl] at q
      exact xv_addS (val_var (i := 3) rfl) (xv_cS (l := [111, 46, 111, 111]) (by decide +kernel)) (by show _ + 4 ≤ _; omega) _ (q H10 (Evl.Ex.refl H10))
end
theorem all_mk {l : PySem.W.OpenLaw} {w : World} {K : PySem.W.Frag} {h : Heap} {mg : Str → Option Value} {fa : Addr} (X : K.In h) (G : h.Ns mainGlobals mg) (hfa : mg "law" = some (.ref fa))
    {C_StairError : Addr} (a_StairError : PySem.W.nsIn K mainGlobals "StairError" = some (some (.ref C_StairError)))
    (k_StairError : PySem.W.keepIn K (.ref C_StairError) = true) (x_StairError : PySem.W.excIn K C_StairError [.type "ValueError", .type "Exception", .type "BaseException", .type "object"] "ValueError.__new__" = true) (xb_StairError : PySem.W.subIn K (.ref C_StairError) (.type "BaseException") = some true) (xt_StairError : PySem.W.typeIn K (.ref C_StairError) = some (.type "type"))
    {C_NoMove : Addr} (a_NoMove : PySem.W.nsIn K mainGlobals "NoMove" = some (some (.ref C_NoMove)))
    (k_NoMove : PySem.W.keepIn K (.ref C_NoMove) = true) (x_NoMove : PySem.W.excIn K C_NoMove [.type "ValueError", .type "Exception", .type "BaseException", .type "object"] "ValueError.__new__" = true) (xb_NoMove : PySem.W.subIn K (.ref C_NoMove) (.type "BaseException") = some true) (xt_NoMove : PySem.W.typeIn K (.ref C_NoMove) = some (.type "type"))
    {C_NoNumber : Addr} (a_NoNumber : PySem.W.nsIn K mainGlobals "NoNumber" = some (some (.ref C_NoNumber)))
    (k_NoNumber : PySem.W.keepIn K (.ref C_NoNumber) = true) (x_NoNumber : PySem.W.excIn K C_NoNumber [.type "ValueError", .type "Exception", .type "BaseException", .type "object"] "ValueError.__new__" = true) (xb_NoNumber : PySem.W.subIn K (.ref C_NoNumber) (.type "BaseException") = some true) (xt_NoNumber : PySem.W.typeIn K (.ref C_NoNumber) = some (.type "type"))
    {C_Short : Addr} (a_Short : PySem.W.nsIn K mainGlobals "Short" = some (some (.ref C_Short)))
    (k_Short : PySem.W.keepIn K (.ref C_Short) = true) (x_Short : PySem.W.excIn K C_Short [.type "ValueError", .type "Exception", .type "BaseException", .type "object"] "ValueError.__new__" = true) (xb_Short : PySem.W.subIn K (.ref C_Short) (.type "BaseException") = some true) (xt_Short : PySem.W.typeIn K (.ref C_Short) = some (.type "type"))
    {C_NoSign : Addr} (a_NoSign : PySem.W.nsIn K mainGlobals "NoSign" = some (some (.ref C_NoSign)))
    (k_NoSign : PySem.W.keepIn K (.ref C_NoSign) = true) (x_NoSign : PySem.W.excIn K C_NoSign [.type "ValueError", .type "Exception", .type "BaseException", .type "object"] "ValueError.__new__" = true) (xb_NoSign : PySem.W.subIn K (.ref C_NoSign) (.type "BaseException") = some true) (xt_NoSign : PySem.W.typeIn K (.ref C_NoSign) = some (.type "type"))
    {C_NoEnd : Addr} (a_NoEnd : PySem.W.nsIn K mainGlobals "NoEnd" = some (some (.ref C_NoEnd)))
    (k_NoEnd : PySem.W.keepIn K (.ref C_NoEnd) = true) (x_NoEnd : PySem.W.excIn K C_NoEnd [.type "ValueError", .type "Exception", .type "BaseException", .type "object"] "ValueError.__new__" = true) (xb_NoEnd : PySem.W.subIn K (.ref C_NoEnd) (.type "BaseException") = some true) (xt_NoEnd : PySem.W.typeIn K (.ref C_NoEnd) = some (.type "type"))
    {f_is_number : Addr} (a_is_number : PySem.W.nsIn K mainGlobals "is_number" = some (some (.ref f_is_number)))
    {od_is_number an_is_number : Option Addr} {sl_is_number : Array (Option Value)} {oc_is_number kV_is_number dc_is_number pm_is_number cd_is_number ct_is_number : Value} (l_is_number : K.lookup f_is_number = some ⟨oc_is_number, od_is_number, .func (PySem.W.fnOf "is_number" "is_number" (defArgs st_is_number) (defBody st_is_number) (defScope st_is_number) .none kV_is_number dc_is_number pm_is_number an_is_number cd_is_number ct_is_number), sl_is_number⟩) (c_is_number : PySem.W.codeIn K cd_is_number "is_number" = true) (k_is_number : PySem.W.keepIn K (.ref f_is_number) = true)
    {f_still_heap : Addr} (a_still_heap : PySem.W.nsIn K mainGlobals "still_heap" = some (some (.ref f_still_heap)))
    {od_still_heap an_still_heap : Option Addr} {sl_still_heap : Array (Option Value)} {oc_still_heap kV_still_heap dc_still_heap pm_still_heap cd_still_heap ct_still_heap : Value} (l_still_heap : K.lookup f_still_heap = some ⟨oc_still_heap, od_still_heap, .func (PySem.W.fnOf "still_heap" "still_heap" (defArgs st_still_heap) (defBody st_still_heap) (defScope st_still_heap) .none kV_still_heap dc_still_heap pm_still_heap an_still_heap cd_still_heap ct_still_heap), sl_still_heap⟩) (c_still_heap : PySem.W.codeIn K cd_still_heap "still_heap" = true) (k_still_heap : PySem.W.keepIn K (.ref f_still_heap) = true)
    {f_row_of : Addr} (a_row_of : PySem.W.nsIn K mainGlobals "row_of" = some (some (.ref f_row_of)))
    {od_row_of an_row_of : Option Addr} {sl_row_of : Array (Option Value)} {oc_row_of kV_row_of dc_row_of pm_row_of cd_row_of ct_row_of : Value} (l_row_of : K.lookup f_row_of = some ⟨oc_row_of, od_row_of, .func (PySem.W.fnOf "row_of" "row_of" (defArgs st_row_of) (defBody st_row_of) (defScope st_row_of) .none kV_row_of dc_row_of pm_row_of an_row_of cd_row_of ct_row_of), sl_row_of⟩) (c_row_of : PySem.W.codeIn K cd_row_of "row_of" = true) (k_row_of : PySem.W.keepIn K (.ref f_row_of) = true)
    {f_shown : Addr} (a_shown : PySem.W.nsIn K mainGlobals "shown" = some (some (.ref f_shown)))
    {od_shown an_shown : Option Addr} {sl_shown : Array (Option Value)} {oc_shown kV_shown dc_shown pm_shown cd_shown ct_shown : Value} (l_shown : K.lookup f_shown = some ⟨oc_shown, od_shown, .func (PySem.W.fnOf "shown" "shown" (defArgs st_shown) (defBody st_shown) (defScope st_shown) .none kV_shown dc_shown pm_shown an_shown cd_shown ct_shown), sl_shown⟩) (c_shown : PySem.W.codeIn K cd_shown "shown" = true) (k_shown : PySem.W.keepIn K (.ref f_shown) = true)
    {f_written : Addr} (a_written : PySem.W.nsIn K mainGlobals "written" = some (some (.ref f_written)))
    {od_written an_written : Option Addr} {sl_written : Array (Option Value)} {oc_written kV_written dc_written pm_written cd_written ct_written : Value} (l_written : K.lookup f_written = some ⟨oc_written, od_written, .func (PySem.W.fnOf "written" "written" (defArgs st_written) (defBody st_written) (defScope st_written) .none kV_written dc_written pm_written an_written cd_written ct_written), sl_written⟩) (c_written : PySem.W.codeIn K cd_written "written" = true) (k_written : PySem.W.keepIn K (.ref f_written) = true)
    {f_l_cell : Addr} (a_l_cell : PySem.W.nsIn K mainGlobals "_law_cell" = some (some (.ref f_l_cell)))
    {od_l_cell an_l_cell : Option Addr} {sl_l_cell : Array (Option Value)} {oc_l_cell kV_l_cell dc_l_cell pm_l_cell cd_l_cell ct_l_cell : Value} (l_l_cell : K.lookup f_l_cell = some ⟨oc_l_cell, od_l_cell, .func (PySem.W.fnOf "_law_cell" "_law_cell" (defArgs st_l_cell) (defBody st_l_cell) (defScope st_l_cell) .none kV_l_cell dc_l_cell pm_l_cell an_l_cell cd_l_cell ct_l_cell), sl_l_cell⟩) (c_l_cell : PySem.W.codeIn K cd_l_cell "_law_cell" = true) (k_l_cell : PySem.W.keepIn K (.ref f_l_cell) = true)
    {f_l_text : Addr} (a_l_text : PySem.W.nsIn K mainGlobals "_law_text" = some (some (.ref f_l_text)))
    {od_l_text an_l_text : Option Addr} {sl_l_text : Array (Option Value)} {oc_l_text kV_l_text dc_l_text pm_l_text cd_l_text ct_l_text : Value} (l_l_text : K.lookup f_l_text = some ⟨oc_l_text, od_l_text, .func (PySem.W.fnOf "_law_text" "_law_text" (defArgs st_l_text) (defBody st_l_text) (defScope st_l_text) .none kV_l_text dc_l_text pm_l_text an_l_text cd_l_text ct_l_text), sl_l_text⟩) (c_l_text : PySem.W.codeIn K cd_l_text "_law_text" = true) (k_l_text : PySem.W.keepIn K (.ref f_l_text) = true)
    {f_l_numbers : Addr} (a_l_numbers : PySem.W.nsIn K mainGlobals "_law_numbers" = some (some (.ref f_l_numbers)))
    {od_l_numbers an_l_numbers : Option Addr} {sl_l_numbers : Array (Option Value)} {oc_l_numbers kV_l_numbers dc_l_numbers pm_l_numbers cd_l_numbers ct_l_numbers : Value} (l_l_numbers : K.lookup f_l_numbers = some ⟨oc_l_numbers, od_l_numbers, .func (PySem.W.fnOf "_law_numbers" "_law_numbers" (defArgs st_l_numbers) (defBody st_l_numbers) (defScope st_l_numbers) .none kV_l_numbers dc_l_numbers pm_l_numbers an_l_numbers cd_l_numbers ct_l_numbers), sl_l_numbers⟩) (c_l_numbers : PySem.W.codeIn K cd_l_numbers "_law_numbers" = true) (k_l_numbers : PySem.W.keepIn K (.ref f_l_numbers) = true)
    {f_l_none : Addr} (a_l_none : PySem.W.nsIn K mainGlobals "_law_none" = some (some (.ref f_l_none)))
    {od_l_none an_l_none : Option Addr} {sl_l_none : Array (Option Value)} {oc_l_none kV_l_none dc_l_none pm_l_none cd_l_none ct_l_none : Value} (l_l_none : K.lookup f_l_none = some ⟨oc_l_none, od_l_none, .func (PySem.W.fnOf "_law_none" "_law_none" (defArgs st_l_none) (defBody st_l_none) (defScope st_l_none) .none kV_l_none dc_l_none pm_l_none an_l_none cd_l_none ct_l_none), sl_l_none⟩) (c_l_none : PySem.W.codeIn K cd_l_none "_law_none" = true) (k_l_none : PySem.W.keepIn K (.ref f_l_none) = true)
    {f_l_refused : Addr} (a_l_refused : PySem.W.nsIn K mainGlobals "_law_refused" = some (some (.ref f_l_refused)))
    {od_l_refused an_l_refused : Option Addr} {sl_l_refused : Array (Option Value)} {oc_l_refused kV_l_refused dc_l_refused pm_l_refused cd_l_refused ct_l_refused : Value} (l_l_refused : K.lookup f_l_refused = some ⟨oc_l_refused, od_l_refused, .func (PySem.W.fnOf "_law_refused" "_law_refused" (defArgs st_l_refused) (defBody st_l_refused) (defScope st_l_refused) .none kV_l_refused dc_l_refused pm_l_refused an_l_refused cd_l_refused ct_l_refused), sl_l_refused⟩) (c_l_refused : PySem.W.codeIn K cd_l_refused "_law_refused" = true) (k_l_refused : PySem.W.keepIn K (.ref f_l_refused) = true)
    {f_l_written : Addr} (a_l_written : PySem.W.nsIn K mainGlobals "_law_written" = some (some (.ref f_l_written)))
    {od_l_written an_l_written : Option Addr} {sl_l_written : Array (Option Value)} {oc_l_written kV_l_written dc_l_written pm_l_written cd_l_written ct_l_written : Value} (l_l_written : K.lookup f_l_written = some ⟨oc_l_written, od_l_written, .func (PySem.W.fnOf "_law_written" "_law_written" (defArgs st_l_written) (defBody st_l_written) (defScope st_l_written) .none kV_l_written dc_l_written pm_l_written an_l_written cd_l_written ct_l_written), sl_l_written⟩) (c_l_written : PySem.W.codeIn K cd_l_written "_law_written" = true) (k_l_written : PySem.W.keepIn K (.ref f_l_written) = true)
    {f_law : Addr} (a_law : PySem.W.nsIn K mainGlobals "law" = some (some (.ref f_law)))
    {od_law an_law : Option Addr} {sl_law : Array (Option Value)} {oc_law kV_law dc_law pm_law cd_law ct_law : Value} (l_law : K.lookup f_law = some ⟨oc_law, od_law, .func (PySem.W.fnOf "law" "law" (defArgs st_law) (defBody st_law) (defScope st_law) .none kV_law dc_law pm_law an_law cd_law ct_law), sl_law⟩) (c_law : PySem.W.codeIn K cd_law "law" = true) (k_law : PySem.W.keepIn K (.ref f_law) = true)
    (z_isinstance : PySem.W.nsIn K mainGlobals "isinstance" = some none)
    (z_int : PySem.W.nsIn K mainGlobals "int" = some none)
    (z_bool : PySem.W.nsIn K mainGlobals "bool" = some none)
    (z_reversed : PySem.W.nsIn K mainGlobals "reversed" = some none)
    (z_len : PySem.W.nsIn K mainGlobals "len" = some none)
    (z_range : PySem.W.nsIn K mainGlobals "range" = some none)
    (z_min : PySem.W.nsIn K mainGlobals "min" = some none)
    (z_ValueError : PySem.W.nsIn K mainGlobals "ValueError" = some none)
    (z_str : PySem.W.nsIn K mainGlobals "str" = some none)
    (z_list : PySem.W.nsIn K mainGlobals "list" = some none)
    (cl_StairError : PySem.W.isClsIn K C_StairError = true)
    (hd_StairError : PySem.W.hasDictIn K C_StairError = true)
    (cl_NoMove : PySem.W.isClsIn K C_NoMove = true)
    (hd_NoMove : PySem.W.hasDictIn K C_NoMove = true)
    (cl_NoNumber : PySem.W.isClsIn K C_NoNumber = true)
    (hd_NoNumber : PySem.W.hasDictIn K C_NoNumber = true)
    (cl_Short : PySem.W.isClsIn K C_Short = true)
    (hd_Short : PySem.W.hasDictIn K C_Short = true)
    (cl_NoSign : PySem.W.isClsIn K C_NoSign = true)
    (hd_NoSign : PySem.W.hasDictIn K C_NoSign = true)
    (cl_NoEnd : PySem.W.isClsIn K C_NoEnd = true)
    (hd_NoEnd : PySem.W.hasDictIn K C_NoEnd = true)
    (s_NoNumber_StairError : PySem.W.subIn K (.ref C_NoNumber) (.ref C_StairError) = some true)
    (s_NoNumber_NoMove : PySem.W.subIn K (.ref C_NoNumber) (.ref C_NoMove) = some false)
    (s_NoNumber_NoNumber : PySem.W.subIn K (.ref C_NoNumber) (.ref C_NoNumber) = some true)
    (s_NoNumber_Short : PySem.W.subIn K (.ref C_NoNumber) (.ref C_Short) = some false)
    (s_NoNumber_NoSign : PySem.W.subIn K (.ref C_NoNumber) (.ref C_NoSign) = some false)
    (s_NoNumber_NoEnd : PySem.W.subIn K (.ref C_NoNumber) (.ref C_NoEnd) = some false)
    (s_NoNumber_VE : PySem.W.subIn K (.ref C_NoNumber) (.type "ValueError") = some true)
    (eg_NoNumber : PySem.W.findIn K (.ref C_NoNumber) "__getattribute__" = some (some (.builtin "BaseException.__getattribute__")))
    (ek_NoNumber : PySem.W.findIn K (.ref C_NoNumber) "__getattr__" = some none)
    (ea_NoNumber : PySem.W.findIn K (.ref C_NoNumber) "__class__" = some (some (.builtin "object.__class__")))
    (em_NoNumber : PySem.W.mroIn K C_NoNumber (.type "object") = some true)
    (en_ : PySem.W.specialIn K (.builtin "object.__class__") "__get__" = some (some (.builtin "getset_descriptor.__get__")))
    (et_ : PySem.W.takesIn K (.builtin "object.__class__") = some true) :
    ∃ fd : FuncData, (∀ (s : Shared) (v : Value), BindsTo s fd ⟨[v], []⟩ [("_law_script", v)]) ∧ ∀ base : Heap, K.In base → base.Ns mainGlobals mg → FnOk l.prog w K mg base CX0 6 fa fd ["_law_script"] (sp_law K) := by
  have e := hfa.symm.trans (PySem.W.mg_of X G a_law)
  cases e
  let T : Txt K mg := { C_StairError := C_StairError, g_StairError := PySem.W.mg_of X G a_StairError, k_StairError := k_StairError, x_StairError := x_StairError, xb_StairError := xb_StairError, xt_StairError := xt_StairError, C_NoMove := C_NoMove, g_NoMove := PySem.W.mg_of X G a_NoMove, k_NoMove := k_NoMove, x_NoMove := x_NoMove, xb_NoMove := xb_NoMove, xt_NoMove := xt_NoMove, C_NoNumber := C_NoNumber, g_NoNumber := PySem.W.mg_of X G a_NoNumber, k_NoNumber := k_NoNumber, x_NoNumber := x_NoNumber, xb_NoNumber := xb_NoNumber, xt_NoNumber := xt_NoNumber, C_Short := C_Short, g_Short := PySem.W.mg_of X G a_Short, k_Short := k_Short, x_Short := x_Short, xb_Short := xb_Short, xt_Short := xt_Short, C_NoSign := C_NoSign, g_NoSign := PySem.W.mg_of X G a_NoSign, k_NoSign := k_NoSign, x_NoSign := x_NoSign, xb_NoSign := xb_NoSign, xt_NoSign := xt_NoSign, C_NoEnd := C_NoEnd, g_NoEnd := PySem.W.mg_of X G a_NoEnd, k_NoEnd := k_NoEnd, x_NoEnd := x_NoEnd, xb_NoEnd := xb_NoEnd, xt_NoEnd := xt_NoEnd, f_is_number := f_is_number, d_is_number := _, F_is_number := fun_mk (st := st_is_number) l_is_number c_is_number k_is_number, g_is_number := PySem.W.mg_of X G a_is_number, b_is_number := (fun_mk (st := st_is_number) l_is_number c_is_number k_is_number).binds (ps := ["thing"]) (fun _ _ _ _ _ _ us hl => match us, hl with | [_], _ => rfl), f_still_heap := f_still_heap, d_still_heap := _, F_still_heap := fun_mk (st := st_still_heap) l_still_heap c_still_heap k_still_heap, g_still_heap := PySem.W.mg_of X G a_still_heap, b_still_heap := (fun_mk (st := st_still_heap) l_still_heap c_still_heap k_still_heap).binds (ps := ["number"]) (fun _ _ _ _ _ _ us hl => match us, hl with | [_], _ => rfl), f_row_of := f_row_of, d_row_of := _, F_row_of := fun_mk (st := st_row_of) l_row_of c_row_of k_row_of, g_row_of := PySem.W.mg_of X G a_row_of, b_row_of := (fun_mk (st := st_row_of) l_row_of c_row_of k_row_of).binds (ps := ["number"]) (fun _ _ _ _ _ _ us hl => match us, hl with | [_], _ => rfl), f_shown := f_shown, d_shown := _, F_shown := fun_mk (st := st_shown) l_shown c_shown k_shown, g_shown := PySem.W.mg_of X G a_shown, b_shown := (fun_mk (st := st_shown) l_shown c_shown k_shown).binds (ps := ["number"]) (fun _ _ _ _ _ _ us hl => match us, hl with | [_], _ => rfl), f_written := f_written, d_written := _, F_written := fun_mk (st := st_written) l_written c_written k_written, g_written := PySem.W.mg_of X G a_written, b_written := (fun_mk (st := st_written) l_written c_written k_written).binds (ps := ["numbers"]) (fun _ _ _ _ _ _ us hl => match us, hl with | [_], _ => rfl), f_l_cell := f_l_cell, d_l_cell := _, F_l_cell := fun_mk (st := st_l_cell) l_l_cell c_l_cell k_l_cell, g_l_cell := PySem.W.mg_of X G a_l_cell, b_l_cell := (fun_mk (st := st_l_cell) l_l_cell c_l_cell k_l_cell).binds (ps := ["_law_script", "_law_k"]) (fun _ _ _ _ _ _ us hl => match us, hl with | [_, _], _ => rfl), f_l_text := f_l_text, d_l_text := _, F_l_text := fun_mk (st := st_l_text) l_l_text c_l_text k_l_text, g_l_text := PySem.W.mg_of X G a_l_text, b_l_text := (fun_mk (st := st_l_text) l_l_text c_l_text k_l_text).binds (ps := ["_law_number"]) (fun _ _ _ _ _ _ us hl => match us, hl with | [_], _ => rfl), f_l_numbers := f_l_numbers, d_l_numbers := _, F_l_numbers := fun_mk (st := st_l_numbers) l_l_numbers c_l_numbers k_l_numbers, g_l_numbers := PySem.W.mg_of X G a_l_numbers, b_l_numbers := (fun_mk (st := st_l_numbers) l_l_numbers c_l_numbers k_l_numbers).binds (ps := ["_law_script"]) (fun _ _ _ _ _ _ us hl => match us, hl with | [_], _ => rfl), f_l_none := f_l_none, d_l_none := _, F_l_none := fun_mk (st := st_l_none) l_l_none c_l_none k_l_none, g_l_none := PySem.W.mg_of X G a_l_none, b_l_none := (fun_mk (st := st_l_none) l_l_none c_l_none k_l_none).binds (ps := ["_law_script"]) (fun _ _ _ _ _ _ us hl => match us, hl with | [_], _ => rfl), f_l_refused := f_l_refused, d_l_refused := _, F_l_refused := fun_mk (st := st_l_refused) l_l_refused c_l_refused k_l_refused, g_l_refused := PySem.W.mg_of X G a_l_refused, b_l_refused := (fun_mk (st := st_l_refused) l_l_refused c_l_refused k_l_refused).binds (ps := ["_law_thing", "_law_numbers_here"]) (fun _ _ _ _ _ _ us hl => match us, hl with | [_, _], _ => rfl), f_l_written := f_l_written, d_l_written := _, F_l_written := fun_mk (st := st_l_written) l_l_written c_l_written k_l_written, g_l_written := PySem.W.mg_of X G a_l_written, b_l_written := (fun_mk (st := st_l_written) l_l_written c_l_written k_l_written).binds (ps := ["_law_numbers_here", "_law_due"]) (fun _ _ _ _ _ _ us hl => match us, hl with | [_, _], _ => rfl), f_law := _, d_law := _, F_law := fun_mk (st := st_law) l_law c_law k_law, g_law := PySem.W.mg_of X G a_law, b_law := (fun_mk (st := st_law) l_law c_law k_law).binds (ps := ["_law_script"]) (fun _ _ _ _ _ _ us hl => match us, hl with | [_], _ => rfl), m_isinstance := PySem.W.mg_none_of X G z_isinstance, m_int := PySem.W.mg_none_of X G z_int, m_bool := PySem.W.mg_none_of X G z_bool, m_reversed := PySem.W.mg_none_of X G z_reversed, m_len := PySem.W.mg_none_of X G z_len, m_range := PySem.W.mg_none_of X G z_range, m_min := PySem.W.mg_none_of X G z_min, m_ValueError := PySem.W.mg_none_of X G z_ValueError, m_str := PySem.W.mg_none_of X G z_str, m_list := PySem.W.mg_none_of X G z_list, eg_NoNumber := eg_NoNumber, ek_NoNumber := ek_NoNumber, ea_NoNumber := ea_NoNumber, ed_NoNumber := hd_NoNumber, em_NoNumber := em_NoNumber, i_NoNumber_StairError := kit_yes cl_StairError xt_StairError s_NoNumber_StairError, i_NoNumber_NoMove := kit_no cl_NoMove xt_NoMove s_NoNumber_NoNumber s_NoNumber_NoMove, i_NoNumber_NoNumber := kit_yes cl_NoNumber xt_NoNumber s_NoNumber_NoNumber, i_NoNumber_Short := kit_no cl_Short xt_Short s_NoNumber_NoNumber s_NoNumber_Short, i_NoNumber_NoSign := kit_no cl_NoSign xt_NoSign s_NoNumber_NoNumber s_NoNumber_NoSign, i_NoNumber_NoEnd := kit_no cl_NoEnd xt_NoEnd s_NoNumber_NoNumber s_NoNumber_NoEnd, i_NoNumber_VE := kit_ve s_NoNumber_VE, x_NoNumber_NoEnd := PySem.W.exm_ref xb_NoEnd hd_NoEnd xt_NoEnd s_NoNumber_NoEnd, x_NoNumber_NoMove := PySem.W.exm_ref xb_NoMove hd_NoMove xt_NoMove s_NoNumber_NoMove, x_NoNumber_NoSign := PySem.W.exm_ref xb_NoSign hd_NoSign xt_NoSign s_NoNumber_NoSign, x_NoNumber_Short := PySem.W.exm_ref xb_Short hd_Short xt_Short s_NoNumber_Short, x_NoNumber_NoNumber := PySem.W.exm_ref xb_NoNumber hd_NoNumber xt_NoNumber s_NoNumber_NoNumber, en_ := en_, et_ := et_ }
  exact ⟨PySem.W.fnOf "law" "law" (defArgs st_law) (defBody st_law) (defScope st_law) .none kV_law dc_law pm_law an_law cd_law ct_law, fun s v => .of_eq rfl, fun base _ _ => ok_law T⟩
end K10
open PySem PySem.W PyProof.Rows
set_option maxHeartbeats 0 in
theorem PySem.Challenge.cw_shellstair_k10_texts_written_holds : PySem.Challenge.rw_shellstair_k10_texts_written.Holds := by
  w_on; o_law; k_head; (case hw => w_witness2)
  k_fill
  refine L2.walk_of (l := PySem.Challenge.rw_shellstair_k10_texts_written) (n := 63) (k := 6) (x := "_law_script") (CX := fun _ => L2.CX0) (sp := fun w => K10.sp_law _) rfl (by decide) rfl ⟨rfl, by decide, by decide⟩ (fun w h Y => PySem.W.kIn_of Y) ?F (fun _ _ a ns hl _ hS => ⟨a, ns, rfl, hS, hl, fun _ => rfl⟩) (fun _ _ _ _ _ h => h)
  case F =>
    intro w mg fa h KX G hmg
    refine' K10.all_mk KX G hmg ?a_StairError ?k_StairError ?x_StairError ?xb_StairError ?xt_StairError ?a_NoMove ?k_NoMove ?x_NoMove ?xb_NoMove ?xt_NoMove ?a_NoNumber ?k_NoNumber ?x_NoNumber ?xb_NoNumber ?xt_NoNumber ?a_Short ?k_Short ?x_Short ?xb_Short ?xt_Short ?a_NoSign ?k_NoSign ?x_NoSign ?xb_NoSign ?xt_NoSign ?a_NoEnd ?k_NoEnd ?x_NoEnd ?xb_NoEnd ?xt_NoEnd ?a_is_number ?l_is_number ?c_is_number ?k_is_number ?a_still_heap ?l_still_heap ?c_still_heap ?k_still_heap ?a_row_of ?l_row_of ?c_row_of ?k_row_of ?a_shown ?l_shown ?c_shown ?k_shown ?a_written ?l_written ?c_written ?k_written ?a_l_cell ?l_l_cell ?c_l_cell ?k_l_cell ?a_l_text ?l_l_text ?c_l_text ?k_l_text ?a_l_numbers ?l_l_numbers ?c_l_numbers ?k_l_numbers ?a_l_none ?l_l_none ?c_l_none ?k_l_none ?a_l_refused ?l_l_refused ?c_l_refused ?k_l_refused ?a_l_written ?l_l_written ?c_l_written ?k_l_written ?a_law ?l_law ?c_law ?k_law ?z_isinstance ?z_int ?z_bool ?z_reversed ?z_len ?z_range ?z_min ?z_ValueError ?z_str ?z_list ?cl_StairError ?hd_StairError ?cl_NoMove ?hd_NoMove ?cl_NoNumber ?hd_NoNumber ?cl_Short ?hd_Short ?cl_NoSign ?hd_NoSign ?cl_NoEnd ?hd_NoEnd ?s_NoNumber_StairError ?s_NoNumber_NoMove ?s_NoNumber_NoNumber ?s_NoNumber_Short ?s_NoNumber_NoSign ?s_NoNumber_NoEnd ?s_NoNumber_VE ?eg_NoNumber ?ek_NoNumber ?ea_NoNumber ?em_NoNumber ?en_ ?et_
    (case a_StairError => k_is); (case k_StairError => k_is); (case x_StairError => k_exc); (case xb_StairError => k_is); (case xt_StairError => k_is); (case a_NoMove => k_is)
    (case k_NoMove => k_is); (case x_NoMove => k_exc); (case xb_NoMove => k_is); (case xt_NoMove => k_is); (case a_NoNumber => k_is); (case k_NoNumber => k_is)
    (case x_NoNumber => k_exc); (case xb_NoNumber => k_is); (case xt_NoNumber => k_is); (case a_Short => k_is); (case k_Short => k_is); (case x_Short => k_exc)
    (case xb_Short => k_is); (case xt_Short => k_is); (case a_NoSign => k_is); (case k_NoSign => k_is); (case x_NoSign => k_exc); (case xb_NoSign => k_is)
    (case xt_NoSign => k_is); (case a_NoEnd => k_is); (case k_NoEnd => k_is); (case x_NoEnd => k_exc); (case xb_NoEnd => k_is); (case xt_NoEnd => k_is)
    (case a_is_number => k_is); (case l_is_number => k_is); (case c_is_number => k_is); (case k_is_number => k_is); (case a_still_heap => k_is); (case l_still_heap => k_is)
    (case c_still_heap => k_is); (case k_still_heap => k_is); (case a_row_of => k_is); (case l_row_of => k_is); (case c_row_of => k_is); (case k_row_of => k_is)
    (case a_shown => k_is); (case l_shown => k_is); (case c_shown => k_is); (case k_shown => k_is); (case a_written => k_is); (case l_written => k_is)
    (case c_written => k_is); (case k_written => k_is); (case a_l_cell => k_is); (case l_l_cell => k_is); (case c_l_cell => k_is); (case k_l_cell => k_is)
    (case a_l_text => k_is); (case l_l_text => k_is); (case c_l_text => k_is); (case k_l_text => k_is); (case a_l_numbers => k_is); (case l_l_numbers => k_is)
    (case c_l_numbers => k_is); (case k_l_numbers => k_is); (case a_l_none => k_is); (case l_l_none => k_is); (case c_l_none => k_is); (case k_l_none => k_is)
    (case a_l_refused => k_is); (case l_l_refused => k_is); (case c_l_refused => k_is); (case k_l_refused => k_is); (case a_l_written => k_is); (case l_l_written => k_is)
    (case c_l_written => k_is); (case k_l_written => k_is); (case a_law => k_is); (case l_law => k_is); (case c_law => k_is); (case k_law => k_is)
    (case z_isinstance => k_is); (case z_int => k_is); (case z_bool => k_is); (case z_reversed => k_is); (case z_len => k_is); (case z_range => k_is)
    (case z_min => k_is); (case z_ValueError => k_is); (case z_str => k_is); (case z_list => k_is); (case cl_StairError => k_is); (case hd_StairError => k_is)
    (case cl_NoMove => k_is); (case hd_NoMove => k_is); (case cl_NoNumber => k_is); (case hd_NoNumber => k_is); (case cl_Short => k_is); (case hd_Short => k_is)
    (case cl_NoSign => k_is); (case hd_NoSign => k_is); (case cl_NoEnd => k_is); (case hd_NoEnd => k_is); (case s_NoNumber_StairError => k_is); (case s_NoNumber_NoMove => k_is)
    (case s_NoNumber_NoNumber => k_is); (case s_NoNumber_Short => k_is); (case s_NoNumber_NoSign => k_is); (case s_NoNumber_NoEnd => k_is); (case s_NoNumber_VE => k_is); (case eg_NoNumber => k_is)
    (case ek_NoNumber => k_is); (case ea_NoNumber => k_is); (case em_NoNumber => k_is); (case en_ => k_is); (case et_ => k_is)
