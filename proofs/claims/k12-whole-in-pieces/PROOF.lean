import PyProof.Rows.All
import Wide.All
import OpenK.AllK
import Wide.FinOn
import HandS.ForMost
import HandS.ForExc
import HandS.Steps
import HandS.Evl
import HandS.Wide
import HandS.IsInst
import HandS.Style
import HandS.ExcIs
import HandS.Deep
import KE.KTryMore
import HandS.Exc
import HandS.ExcOwn
import HandS.Rev
import PyProof.StrOps2
import HandS.Text
import HandS.Walk
import KE.GoesRaise
import HandS.Comp
import HandS.RevTup
import HandS.MapObj
import HandS.MapJoin
import HandS.HotCalls
import PyProof.ListNew
import PyProof.ListRange
import KE.KRevIter
import PySem.Challenge.RW_shellstair_k12_whole_in_pieces
set_option Elab.async false
set_option linter.all false
set_option maxRecDepth 100000
set_option maxHeartbeats 1000000
namespace Sh
/-! the worth of a step, and weighted sums over a list of counts -/
def W : Nat → Int
  | 0 => 1
  | 1 => 2
  | n + 2 => W n + W (n + 1)
/-- f-weighted sum of the counts, the first one on step k -/
def S (f : Nat → Int) : Nat → List Int → Int
  | _, [] => 0
  | k, c :: r => c * f k + S f (k + 1) r
abbrev wt (xs : List Int) : Int := S W 0 xs
theorem W_pos : ∀ n, 0 < W n
  | 0 => by decide
  | 1 => by decide
  | n + 2 => by
    have h1 := W_pos n
    have h2 := W_pos (n + 1)
    show 0 < W n + W (n + 1)
    omega
theorem W_lt : ∀ n, W n < W (n + 1)
  | 0 => by decide
  | n + 1 => by
    have h1 := W_pos n
    show W (n + 1) < W n + W (n + 1)
    omega
theorem W_mono {i j : Nat} (h : i ≤ j) : W i ≤ W j := by
  induction j with
  | zero =>
    have : i = 0 := by omega
    subst this
    exact Int.le_refl _
  | succ j ih =>
    by_cases e : i = j + 1
    · subst e
      exact Int.le_refl _
    · have := ih (by omega)
      have := W_lt j
      omega
theorem W_ge : ∀ n : Nat, (n : Int) < W n
  | 0 => by decide
  | n + 1 => by
    have := W_ge n
    have := W_lt n
    omega
theorem W_bits : ∀ n, W n < 2 ^ (n + 1)
  | 0 => by decide
  | 1 => by decide
  | n + 2 => by
    have h1 := W_bits n
    have h2 := W_bits (n + 1)
    have e1 : (2 : Int) ^ (n + 2 + 1) = 4 * 2 ^ (n + 1) := by
      rw [Int.pow_succ, Int.pow_succ]
      omega
    have e2 : (2 : Int) ^ (n + 1 + 1) = 2 * 2 ^ (n + 1) := by rw [Int.pow_succ]; omega
    have h3 : (0 : Int) < 2 ^ (n + 1) := Int.pow_pos (by decide)
    show W n + W (n + 1) < 2 ^ (n + 2 + 1)
    rw [e2] at h2
    rw [e1]
    generalize (2 : Int) ^ (n + 1) = z at *
    omega
theorem W_bitsN (n : Nat) : (W n).natAbs < 2 ^ (n + 1) := by
  have h1 := W_bits n
  have h2 := W_pos n
  have e : ((2 ^ (n + 1) : Nat) : Int) = 2 ^ (n + 1) := by norm_cast
  omega
/-! sums -/
theorem S_nil (f : Nat → Int) (k : Nat) : S f k [] = 0 := rfl
theorem S_cons (f : Nat → Int) (k : Nat) (c : Int) (r : List Int) : S f k (c :: r) = c * f k + S f (k + 1) r := rfl
theorem S_append (f : Nat → Int) : ∀ (xs ys : List Int) (k : Nat), S f k (xs ++ ys) = S f k xs + S f (k + xs.length) ys
  | [], ys, k => by simp [S]
  | c :: r, ys, k => by
    have ih := S_append f r ys (k + 1)
    show c * f k + S f (k + 1) (r ++ ys) = c * f k + S f (k + 1) r + S f (k + (r.length + 1)) ys
    rw [ih, show k + 1 + r.length = k + (r.length + 1) by omega]
    omega
theorem S_one (f : Nat → Int) (k : Nat) (c : Int) : S f k [c] = c * f k := by simp [S]
theorem take_more {α : Type} {l : List α} {i : Nat} {x : α} (h : l[i]? = some x) : l.take (i + 1) = l.take i ++ [x] := by
  rw [List.take_succ, h]
  rfl
theorem S_take {f : Nat → Int} {xs : List Int} {i : Nat} {c : Int} (h : xs[i]? = some c) (k : Nat) : S f k (xs.take (i + 1)) = S f k (xs.take i) + c * f (k + i) := by
  have hl : i < xs.length := (List.getElem?_eq_some_iff.mp h).1
  rw [take_more h, S_append, S_one, List.length_take, Nat.min_eq_left (Nat.le_of_lt hl)]
theorem S_zeros (f : Nat → Int) : ∀ (n k : Nat), S f k (List.replicate n 0) = 0
  | 0, k => rfl
  | n + 1, k => by
    show 0 * f k + S f (k + 1) (List.replicate n 0) = 0
    rw [S_zeros f n, Int.zero_mul, Int.add_zero]
theorem S_nonneg {f : Nat → Int} (hf : ∀ k, 0 ≤ f k) : ∀ (xs : List Int) (k : Nat), (∀ x ∈ xs, 0 ≤ x) → 0 ≤ S f k xs
  | [], _, _ => Int.le_refl _
  | c :: r, k, h => by
    have h1 := S_nonneg hf r (k + 1) fun x hx => h x (List.mem_cons_of_mem _ hx)
    have h2 := Int.mul_nonneg (h c List.mem_cons_self) (hf k)
    show 0 ≤ c * f k + S f (k + 1) r
    omega
/-! 10 ** 60 -/
def T60 : Int := 10 ^ 60
theorem T60_eq : (10 : Int) ^ (60 : Int).toNat = T60 := by decide +kernel
theorem T60_pos : 0 < T60 := by decide +kernel
theorem T60_pos1 : 0 < T60 + 1 := by decide +kernel
theorem T60_bits : T60.natAbs < 2 ^ 200 := by decide +kernel
/-- a list that is no longer, no greater than a machine could not bear -/
structure Sm (ns : List Int) : Prop where
  len : ns.length ≤ 100000
  mag : ∀ x ∈ ns, x.natAbs < 2 ^ 1000
theorem small60 {x : Int} (h0 : 0 ≤ x) (h : x ≤ T60) : x.natAbs < 2 ^ 1000 := by
  have h1 := T60_bits
  have h2 : (2 : Nat) ^ 200 ≤ 2 ^ 1000 := by decide +kernel
  omega
/-! noughts at the end left out -/
def bare (xs : List Int) : List Int := (xs.reverse.dropWhile (· == 0)).reverse
theorem bare_zero (xs : List Int) : bare (xs ++ [0]) = bare xs := by
  unfold bare
  rw [List.reverse_append]
  rfl
theorem bare_snoc (xs : List Int) {c : Int} (h : c ≠ 0) : bare (xs ++ [c]) = xs ++ [c] := by
  unfold bare
  rw [List.reverse_append]
  show (List.dropWhile (· == 0) (c :: xs.reverse)).reverse = _
  rw [List.dropWhile_cons, if_neg (by simpa using h), List.reverse_cons, List.reverse_reverse]
theorem bare_nil : bare [] = [] := rfl
theorem snoc_of {α : Type} {xs : List α} (h : xs ≠ []) : ∃ ys c, xs = ys ++ [c] := ⟨xs.dropLast, xs.getLast h, (List.dropLast_concat_getLast h).symm⟩
/-- a list is its bare one and noughts -/
theorem bare_rest : ∀ (n : Nat) (xs : List Int), xs.length = n → ∃ k, xs = bare xs ++ List.replicate k 0
  | 0, xs, h => ⟨0, by rw [List.eq_nil_of_length_eq_zero h]; rfl⟩
  | n + 1, xs, h => by
    obtain ⟨ys, c, rfl⟩ := snoc_of (xs := xs) (by intro e; rw [e] at h; cases h)
    rw [List.length_append, List.length_singleton] at h
    by_cases hc : c = 0
    · subst hc
      obtain ⟨k, e⟩ := bare_rest n ys (by omega)
      refine ⟨k + 1, ?_⟩
      rw [bare_zero, List.replicate_succ', ← List.append_assoc, ← e]
    · refine ⟨0, ?_⟩
      rw [bare_snoc ys hc]
      simp
theorem bare_S (f : Nat → Int) (k : Nat) (xs : List Int) : S f k (bare xs) = S f k xs := by
  obtain ⟨n, e⟩ := bare_rest _ xs rfl
  have h := congrArg (S f k) e
  rw [S_append, S_zeros, Int.add_zero] at h
  exact h.symm
theorem bare_mem {xs : List Int} {x : Int} (h : x ∈ bare xs) : x ∈ xs := by
  obtain ⟨n, e⟩ := bare_rest _ xs rfl
  rw [e]
  exact List.mem_append_left _ h
theorem bare_len (xs : List Int) : (bare xs).length ≤ xs.length := by
  obtain ⟨n, e⟩ := bare_rest _ xs rfl
  have h := congrArg List.length e
  rw [List.length_append] at h
  omega
theorem bare_idem (xs : List Int) : bare (bare xs) = bare xs := by
  by_cases h : bare xs = []
  · rw [h]
    rfl
  · obtain ⟨ys, c, e⟩ := snoc_of h
    rw [e]
    refine bare_snoc ys ?_
    intro hc
    unfold bare at e
    have h2 := congrArg List.reverse e
    rw [List.reverse_reverse, List.reverse_append, List.reverse_singleton, List.singleton_append] at h2
    have h3 := List.head?_dropWhile_not (· == 0) xs.reverse
    rw [h2] at h3
    simp [hc] at h3
theorem getD_last (ys : List Int) (c : Int) : (ys ++ [c]).getD ((ys ++ [c]).length - 1) 0 = c := by
  rw [List.getD_eq_getElem?_getD, List.length_append, List.length_singleton, Nat.add_sub_cancel, List.getElem?_append_right (Nat.le_refl _), Nat.sub_self]
  rfl
theorem Sm.bare {xs : List Int} (h : Sm xs) : Sm (bare xs) := ⟨Nat.le_trans (bare_len xs) h.len, fun x hx => h.mag x (bare_mem hx)⟩
/-! still heaps: no step with two, no two neighbours (b: what lies beneath) -/
def stillB : Int → List Int → Bool
  | _, [] => true
  | b, m :: r => !(decide (1 < m) || (decide (0 < m) && decide (0 < b))) && stillB m r
theorem stillB_append : ∀ (xs ys : List Int) (b : Int), stillB b (xs ++ ys) = (stillB b xs && stillB (xs.getLastD b) ys)
  | [], ys, b => by simp [stillB]
  | m :: r, ys, b => by
    show (!(decide (1 < m) || (decide (0 < m) && decide (0 < b))) && stillB m (r ++ ys)) = (!(decide (1 < m) || (decide (0 < m) && decide (0 < b))) && stillB m r && stillB ((m :: r).getLastD b) ys)
    rw [stillB_append r ys m, Bool.and_assoc, List.getLastD_cons]
/-- what lies beneath step i -/
def prev (ns : List Int) (i : Nat) : Int := (ns.take i).getLastD 0
theorem prev_zero (ns : List Int) : prev ns 0 = 0 := by simp [prev]
theorem prev_succ {ns : List Int} {i : Nat} {m : Int} (h : ns[i]? = some m) : prev ns (i + 1) = m := by
  unfold prev
  rw [take_more h]
  simp
theorem stillB_take {ns : List Int} {i : Nat} {m : Int} (h : ns[i]? = some m) : stillB 0 (ns.take (i + 1)) = (stillB 0 (ns.take i) && !(decide (1 < m) || (decide (0 < m) && decide (0 < prev ns i)))) := by
  rw [take_more h, stillB_append]
  show (stillB 0 (ns.take i) && (!(decide (1 < m) || (decide (0 < m) && decide (0 < prev ns i))) && true)) = _
  rw [Bool.and_true]
theorem stillB_stop {ns : List Int} (i : Nat) (h : stillB 0 (ns.take i) = false) : stillB 0 ns = false := by
  have e : ns = ns.take i ++ ns.drop i := (List.take_append_drop i ns).symm
  rw [e, stillB_append, h, Bool.false_and]
theorem getD_of {ns : List Int} {i : Nat} {m : Int} (h : ns[i]? = some m) : ns.getD i 0 = m := by
  rw [List.getD_eq_getElem?_getD, h]
  rfl
theorem get_of {ns : List Int} {i : Nat} (h : i < ns.length) : ns[i]? = some (ns.getD i 0) := by
  rw [List.getD_eq_getElem?_getD, List.getElem?_eq_getElem h]
  rfl
end Sh

/-! Own words over the hand layer: what is evaluated without a change of the tracked heap (Val, Ans), loops with a word that stands over the entry's heap. -/
namespace Sh
open PySem PySem.Spec PyProof.Rows L2
section
variable {σ : L2.St} {H H0 H1 : Hp} {K : PySem.W.Frag} {ta tb tc te tl : TE} {tr : TA} {t u : TT} {x y z v : V} {vs : List V} {D : Ends} {ts tz tu : TS}
def Arg (ta : TA) (σ : L2.St) (H : Hp) (vs : List V) : Prop := ∀ Q : List V → Hp → Prop, Q vs H → ta σ H Q
theorem xg_nil : Arg tNil σ H [] := fun _ q => q
theorem xg_cons (h : Val te σ H v) (hr : Arg tr σ H vs) : Arg (tCons te tr) σ H (v :: vs) := fun _ q => h _ (hr _ q)
theorem xv_go {Q : VK} (h : Val te σ H v) (q : Q v H) : te σ H Q := h Q q
theorem xg_go {ta : TA} {Q : List V → Hp → Prop} (h : Arg ta σ H vs) (q : Q vs H) : ta σ H Q := h Q q
theorem xv_c {w : V} (e : v = w) : Val (tC v) σ H w := fun _ q => by
  subst e
  exact q
theorem xv_I0 {g : Int → Int → V} {i j : Int} (ha : Val ta σ H (.int i)) (hb : Val tb σ H (.int j)) : Val (tOp (rI0 g) ta tb) σ H (g i j) := val_op ha hb fun Q q => ⟨i, j, rfl, rfl, q⟩
theorem xv_I {C : Int → Int → Prop} {g : Int → Int → V} {i j : Int} (ha : Val ta σ H (.int i)) (hb : Val tb σ H (.int j)) (hc : C i j) : Val (tOp (rI C g) ta tb) σ H (g i j) := val_op ha hb fun Q q => ⟨i, j, rfl, rfl, hc, q⟩
theorem xv_U {g : Int → V} {i : Int} (ha : Val ta σ H (.int i)) : Val (tUn (rU g) ta) σ H (g i) := fun Q q => ha _ ⟨i, rfl, q⟩
theorem xv_eq (ha : Val ta σ H x) (hb : Val tb σ H y) (hs : scal x y = true) : Val (tOp rEq ta tb) σ H (.bl (decide (x = y))) := val_op ha hb fun Q q => ⟨hs, q⟩
theorem xv_ne (ha : Val ta σ H x) (hb : Val tb σ H y) (hs : scal x y = true) : Val (tOp rNe ta tb) σ H (.bl (!decide (x = y))) := val_op ha hb fun Q q => ⟨hs, q⟩
theorem xv_to {w : V} (h : Val te σ H v) (e : v = w) : Val te σ H w := e ▸ h
/-- len of a list -/
abbrev rLenQ (K : PySem.W.Frag) : List V → Hp → VK → Prop := fun xs H Q => ∃ p ys, xs = [.ref p] ∧ (SqL K H p ys ∨ SqT K H p ys) ∧ Q (.int ys.length) H
theorem xv_len {p : Addr} {xs : List V} (ha : Val ta σ H (.ref p)) (h : SqL K H p xs) : Val (tCB (rLenQ K) (tCons ta tNil)) σ H (.int (xs.length : Int)) := fun Q q => ha _ ⟨p, xs, rfl, .inl h, q⟩
theorem xv_lenI {p : Addr} {ns : List Int} (ha : Val ta σ H (.ref p)) (h : SqL K H p (ns.map V.int)) : Val (tCB (rLenQ K) (tCons ta tNil)) σ H (.int (ns.length : Int)) := fun Q q => ha _ ⟨p, _, rfl, .inl h, by rw [List.length_map]; exact q⟩
theorem xv_cb {r : List V → Hp → VK → Prop} {ta : TA} (h : Arg ta σ H vs) (hr : ∀ Q : VK, Q v H → r vs H Q) : Val (tCB r ta) σ H v := fun Q q => h _ (hr Q q)
/-- an int of a list at a place -/
theorem atI_int {ns : List Int} {i : Int} (h0 : 0 ≤ i) (h1 : i < ns.length) : atI (ns.map V.int) i = some (.int (ns.getD i.toNat 0)) := by
  obtain ⟨n, rfl⟩ := Int.eq_ofNat_of_zero_le h0
  have hn : n < ns.length := by omega
  refine atI_nat ?_
  rw [List.getElem?_map, List.getD_eq_getElem?_getD]
  show Option.map V.int ns[n]? = some (V.int (ns[n]?.getD 0))
  rw [List.getElem?_eq_getElem hn]
  rfl
theorem xv_ix {p : Addr} {ns : List Int} {i : Int} (ha : Val ta σ H (.ref p)) (hb : Val tb σ H (.int i)) (h : SqL K H p (ns.map V.int)) (h0 : 0 ≤ i) (h1 : i < ns.length) : Val (tOp (rIxL K) ta tb) σ H (.int (ns.getD i.toNat 0)) :=
  val_op ha hb fun Q q => ⟨p, _, i, _, rfl, rfl, h, atI_int h0 h1, q⟩
theorem xv_ixV {p : Addr} {xs : List V} {i : Int} (ha : Val ta σ H (.ref p)) (hb : Val tb σ H (.int i)) (h : SqL K H p xs) (hv : atI xs i = some v) : Val (tOp (rIxL K) ta tb) σ H v :=
  val_op ha hb fun Q q => ⟨p, _, i, _, rfl, rfl, h, hv, q⟩
theorem xv_ixT {p : Addr} {xs : List V} {i : Int} (ha : Val ta σ H (.ref p)) (hb : Val tb σ H (.int i)) (h : SqT K H p xs) (hv : atI xs i = some v) : Val (tOp (rIxT K) ta tb) σ H v :=
  val_op ha hb fun Q q => ⟨p, _, i, _, rfl, rfl, h, hv, q⟩
/-- a def whose promise gives a value and leaves the heap -/
theorem xv_call {sp : Sp} {E : XK} (h : Arg tr σ H vs) (hs : ∀ Q : VK, Q v H → sp (vs ++ []) H Q E) : Val (tCall sp [] E tr) σ H v := fun Q q => h _ (hs Q q)
theorem xv_and {a b : Bool} (h1 : Val ta σ H (.bl a)) (h2 : a = true → Val tb σ H (.bl b)) : Val (tAndV ta tb) σ H (.bl (a && b)) := fun Q q => h1 _ ⟨a, rfl, by
  cases a with
  | true => exact h2 rfl _ q
  | false => exact q⟩
theorem xv_or {a b : Bool} (h1 : Val ta σ H (.bl a)) (h2 : a = false → Val tb σ H (.bl b)) : Val (tOrV ta tb) σ H (.bl (a || b)) := fun Q q => h1 _ ⟨a, rfl, by
  cases a with
  | true => exact q
  | false => exact h2 rfl _ q⟩
theorem xv_not {a : Bool} (h1 : Val ta σ H (.bl a)) : Val (tNotV ta) σ H (.bl (!a)) := fun Q q => h1 _ ⟨a, rfl, q⟩
theorem xv_p60 : Val (tOp (rI CPow fun i j => .int (i ^ j.toNat)) (tC (.int 10)) (tC (.int 60))) σ H (.int T60) := fun Q q => ⟨10, 60, rfl, rfl, ⟨by decide, by decide, by decide⟩, by
  show Q (.int ((10 : Int) ^ (60 : Int).toNat)) H
  rw [T60_eq]
  exact q⟩
/-! tests -/
theorem xa_T {b : Bool} (h : Val te σ H (.bl b)) : Ans (tTest te) σ H b := fun Q q => h _ ⟨b, rfl, q⟩
theorem xa_B {b : Bool} (h : Val te σ H (.bl b)) : Ans (tB te) σ H b := fun Q q => h _ ⟨b, rfl, q⟩
theorem xa_not {a : Bool} (h : Ans t σ H a) : Ans (tNot t) σ H (!a) := fun Q q => h _ q
theorem xa_and {a b : Bool} (h1 : Ans t σ H a) (h2 : a = true → Ans u σ H b) : Ans (tAnd t u) σ H (a && b) := fun Q q => h1 _ (by
  cases a with
  | true => exact h2 rfl _ q
  | false => exact q)
theorem xa_or {a b : Bool} (h1 : Ans t σ H a) (h2 : a = false → Ans u σ H b) : Ans (tOr t u) σ H (a || b) := fun Q q => h1 _ (by
  cases a with
  | true => exact q
  | false => exact h2 rfl _ q)
/-! statements -/
theorem xs_par {i j : Nat} {w : V} {ta : TA} (h : Arg ta σ H [v, w]) (q : D.nx ((σ.set i (some v)).set j (some w)) H) : tPar i j ta D σ H := h _ ⟨v, w, rfl, q⟩
theorem xs_if {b : Bool} (h : Ans t σ H b) (h1 : b = true → ts D σ H) (h2 : b = false → tu D σ H) : tIfS t ts tu D σ H := h _ (by
  cases b with
  | true => exact h1 rfl
  | false => exact h2 rfl)
/-- an if without else, something behind it -/
theorem xs_when {b : Bool} (h : Ans t σ H b) (h1 : b = true → ts { D with nx := tz D } σ H) (h2 : b = false → tz D σ H) : tSeq (tIfS t ts tNext) tz D σ H := xs_if (D := { D with nx := tz D }) h h1 h2
/-- if c: x = e, told by what holds of x behind it -/
theorem xs_ifSet {Pv : V → Prop} {b : Bool} {i : Nat} {v0 : V} (h : Ans t σ H b) (hv : b = true → Val te σ H v) (p1 : b = true → Pv v) (p0 : b = false → Pv v0) (hs : σ.set i (some v0) = σ) (k : ∀ v, Pv v → tz D (σ.set i (some v)) H) :
    tSeq (tIfS t (tAsg te (gName i)) tNext) tz D σ H := xs_when h (fun hb => st_set (D := { D with nx := tz D }) (hv hb) (k v (p1 hb))) fun hb => by
  have q := k v0 (p0 hb)
  rw [hs] at q
  exact q
theorem xs_cut {Mid : L2.St → Hp → Prop} (h : ts { D with nx := Mid } σ H) (k : ∀ σ' H', Mid σ' H' → tz D σ' H') : Evl.tCut ts tz D σ H := ⟨Mid, h, k⟩
theorem xs_seq {D : Ends} (h : ts { D with nx := tz D } σ H) : tSeq ts tz D σ H := h
/-- a for over a list of ints, which stands at H0: what was tracked at H0 stays -/
theorem xs_forI {a : Addr} {ns : List Int} {j : Nat} (hv : Val tl σ H (.ref a)) (e0 : Same H0 H) (hx : SqL K H0 a (ns.map V.int)) (P : Nat → L2.St → Hp → Prop) (h0 : P 0 σ H)
    (hs : ∀ i n σ' H', Same H0 H' → ns[i]? = some n → P i σ' H' → ts { D with nx := fun s h => Same H0 h ∧ P (i + 1) s h, ct := fun s h => Same H0 h ∧ P (i + 1) s h, bk := D.nx } (σ'.set j (some (.int n))) H')
    (hd : ∀ σ' H', Same H0 H' → P ns.length σ' H' → D.nx σ' H') : tFor (iList K tl) (gName j) ts D σ H :=
  hv _ ⟨a, rfl, ⟨_, e0.seq hx⟩, for_list (xs := ns.map V.int) (fun i s h => Same H0 h ∧ P i s h) ⟨e0, h0⟩ (fun _ _ _ _ p => p.1.seq hx)
    (fun i x σ' H' hi p => by
      rw [List.getElem?_map] at hi
      cases e : ns[i]? with
      | none =>
        rw [e] at hi
        cases hi
      | some n =>
        rw [e] at hi
        cases hi
        exact hs i n σ' H' p.1 e p.2)
    (fun σ' H' p => by
      rw [List.length_map] at p
      exact hd σ' H' p.1 p.2)⟩
theorem xs_forV {a : Addr} {xs : List V} {g : TG} (hv : Val tl σ H (.ref a)) (e0 : Same H0 H) (hx : SqL K H0 a xs) (P : Nat → L2.St → Hp → Prop) (h0 : P 0 σ H)
    (hs : ∀ i x σ' H', Same H0 H' → xs[i]? = some x → P i σ' H' → g x σ' H' fun σ2 H2 => ts { D with nx := fun s h => Same H0 h ∧ P (i + 1) s h, ct := fun s h => Same H0 h ∧ P (i + 1) s h, bk := D.nx } σ2 H2)
    (hd : ∀ σ' H', Same H0 H' → P xs.length σ' H' → D.nx σ' H') : tFor (iList K tl) g ts D σ H :=
  hv _ ⟨a, rfl, ⟨_, e0.seq hx⟩, for_list (xs := xs) (fun i s h => Same H0 h ∧ P i s h) ⟨e0, h0⟩ (fun _ _ _ _ p => p.1.seq hx)
    (fun i x σ' H' hi p => hs i x σ' H' p.1 hi p.2) (fun σ' H' p => hd σ' H' p.1 p.2)⟩
/-- a for over range(n) -/
theorem xs_forR {ta : TA} {j : Nat} {n : Nat} (h : Arg ta σ H [.int (n : Int)]) (hn : n < 2 ^ 62) (P : Nat → L2.St → Hp → Prop) (h0 : P 0 σ H)
    (hs : ∀ (i : Nat) σ' H', i < n → P i σ' H' → ts { D with nx := P (i + 1), ct := P (i + 1), bk := D.nx } (σ'.set j (some (.int (i : Int)))) H')
    (hd : ∀ σ' H', P n σ' H' → D.nx σ' H') : tFor (iRng1 ta) (gName j) ts D σ H :=
  h _ ⟨(n : Int), rfl, by omega, by omega, for_range (lo := 0) (n := n) P h0 (fun i σ' H' hi p => by
    show ts { D with nx := P (i + 1), ct := P (i + 1), bk := D.nx } (σ'.set j (some (.int ((0 : Int) + (i : Int))))) H'
    rw [Int.zero_add]
    exact hs i σ' H' hi p) hd⟩
/-- a while whose test leaves the heap: a word and a measure -/
theorem xs_while (P : Nat → L2.St → Hp → Prop) (m0 : Nat) (h0 : P m0 σ H)
    (hs : ∀ m σ' H', P m σ' H' → ∃ b, Ans t σ' H' b ∧ (b = true → ts { D with nx := fun s h => ∃ m', m' < m ∧ P m' s h, ct := fun s h => ∃ m', m' < m ∧ P m' s h, bk := D.nx } σ' H') ∧ (b = false → D.nx σ' H')) : tWhile t ts D σ H :=
  ⟨P, ⟨m0, h0⟩, fun m σ' H' p => by
    obtain ⟨b, hb, h1, h2⟩ := hs m σ' H' p
    refine hb _ ?_
    cases b with
    | true => exact ⟨fun s h => ∃ m', m' < m ∧ P m' s h, fun _ _ z => z, h1 rfl⟩
    | false => exact h2 rfl⟩
/-! the same, something behind -/
theorem xq_set {i : Nat} (h : Val te σ H v) (q : tz D (σ.set i (some v)) H) : tSeq (tAsg te (gName i)) tz D σ H := st_set (D := { D with nx := tz D }) h q
/-- read by hand, step by step -/
theorem xr_ret (h : te σ H fun v H1 => D.rt v H1) : tRet te D σ H := h
theorem xr_and {Q : VK} (h : ta σ H fun x H1 => ∃ c, x = .bl c ∧ if c = true then tb σ H1 Q else Q (.bl false) H1) : tAndV ta tb σ H Q := h
theorem xr_call {sp : Sp} {E : XK} {Q : VK} (h : tr σ H fun vs H1 => sp (vs ++ []) H1 Q E) : tCall sp [] E tr σ H Q := h
theorem xr_cons {Q : List V → Hp → Prop} (h : te σ H fun x H1 => tr σ H1 fun xs H2 => Q (x :: xs) H2) : tCons te tr σ H Q := h
/-- x = e, e read by hand -/
theorem xq_run {i : Nat} (h : te σ H fun v H1 => tz D (σ.set i (some v)) H1) : tSeq (tAsg te (gName i)) tz D σ H := h
theorem xq_par {i j : Nat} {w : V} {ta : TA} (h : Arg ta σ H [v, w]) (q : tz D ((σ.set i (some v)).set j (some w)) H) : tSeq (tPar i j ta) tz D σ H := xs_par (D := { D with nx := tz D }) h q
theorem xq_if {b : Bool} (h : Ans t σ H b) (h1 : b = true → ts { D with nx := tz D } σ H) (h2 : b = false → tu { D with nx := tz D } σ H) : tSeq (tIfS t ts tu) tz D σ H := xs_if (D := { D with nx := tz D }) h h1 h2
theorem xq_forI {a : Addr} {ns : List Int} {j : Nat} (hv : Val tl σ H (.ref a)) (e0 : Same H0 H) (hx : SqL K H0 a (ns.map V.int)) (P : Nat → L2.St → Hp → Prop) (h0 : P 0 σ H)
    (hs : ∀ i n σ' H', Same H0 H' → ns[i]? = some n → P i σ' H' → ts { D with nx := fun s h => Same H0 h ∧ P (i + 1) s h, ct := fun s h => Same H0 h ∧ P (i + 1) s h, bk := tz D } (σ'.set j (some (.int n))) H')
    (hd : ∀ σ' H', Same H0 H' → P ns.length σ' H' → tz D σ' H') : tSeq (tFor (iList K tl) (gName j) ts) tz D σ H := xs_forI (D := { D with nx := tz D }) hv e0 hx P h0 hs hd
theorem xq_forV {a : Addr} {xs : List V} {g : TG} (hv : Val tl σ H (.ref a)) (e0 : Same H0 H) (hx : SqL K H0 a xs) (P : Nat → L2.St → Hp → Prop) (h0 : P 0 σ H)
    (hs : ∀ i x σ' H', Same H0 H' → xs[i]? = some x → P i σ' H' → g x σ' H' fun σ2 H2 => ts { D with nx := fun s h => Same H0 h ∧ P (i + 1) s h, ct := fun s h => Same H0 h ∧ P (i + 1) s h, bk := tz D } σ2 H2)
    (hd : ∀ σ' H', Same H0 H' → P xs.length σ' H' → tz D σ' H') : tSeq (tFor (iList K tl) g ts) tz D σ H := xs_forV (D := { D with nx := tz D }) hv e0 hx P h0 hs hd
theorem xq_forR {ta : TA} {j : Nat} {n : Nat} (h : Arg ta σ H [.int (n : Int)]) (hn : n < 2 ^ 62) (P : Nat → L2.St → Hp → Prop) (h0 : P 0 σ H)
    (hs : ∀ (i : Nat) σ' H', i < n → P i σ' H' → ts { D with nx := P (i + 1), ct := P (i + 1), bk := tz D } (σ'.set j (some (.int (i : Int)))) H')
    (hd : ∀ σ' H', P n σ' H' → tz D σ' H') : tSeq (tFor (iRng1 ta) (gName j) ts) tz D σ H := xs_forR (D := { D with nx := tz D }) h hn P h0 hs hd
theorem xq_while (P : Nat → L2.St → Hp → Prop) (m0 : Nat) (h0 : P m0 σ H)
    (hs : ∀ m σ' H', P m σ' H' → ∃ b, Ans t σ' H' b ∧ (b = true → ts { D with nx := fun s h => ∃ m', m' < m ∧ P m' s h, ct := fun s h => ∃ m', m' < m ∧ P m' s h, bk := tz D } σ' H') ∧ (b = false → tz D σ' H')) : tSeq (tWhile t ts) tz D σ H := xs_while (D := { D with nx := tz D }) P m0 h0 hs
end
/-! ### isinstance -/
section
variable {σ : L2.St} {H : Hp} {K : PySem.W.Frag} {ta : TE}
theorem tyx_L {a : Addr} {xs : List V} (h : SqL K H a xs) : TyX K H (.ref a) (.type "list") := by
  rcases h with (h | ⟨o, h⟩) | ⟨o, its, n, h, hc, _⟩
  · exact .base (.lst h)
  · exact .base (.frz h)
  · exact .kList h hc
theorem xv_isi {x : V} {T a : String} {b : Bool} (ha : Val ta σ H x) (ht : TyX K H x (.type a)) (hk : kitB a T = some b) : Val (tCB (rIsi K) (tCons ta (tCons (tC (.ty T)) tNil))) σ H (.bl b) :=
  fun Q q => ha _ ⟨x, .ty T, .type a, .type T, b, rfl, .ty T, ht, kit_ty hk, q⟩
end
/-! ### what makes new lists (over Evl) -/
section
open Evl
variable {σ : L2.St} {H H' H0 : Hp} {K : PySem.W.Frag} {ta tb tc te tl : TE} {tr : TA} {t u : TT} {x y z v : V} {xs ys vs : List V} {D : Ends} {ts tz tu : TS}
theorem xe_I0 {g : Int → Int → V} {i j : Int} (ha : Ev ta σ H (.int i)) (hb : Ev tb σ H (.int j)) : Ev (tOp (rI0 g) ta tb) σ H (g i j) := ev_op ha hb rv_I0
theorem xe_I {C : Int → Int → Prop} {g : Int → Int → V} {i j : Int} (ha : Ev ta σ H (.int i)) (hb : Ev tb σ H (.int j)) (hc : C i j) : Ev (tOp (rI C g) ta tb) σ H (g i j) := ev_op ha hb (rv_I hc)
theorem xe_p60 : Ev (tOp (rI CPow fun i j => .int (i ^ j.toNat)) (tC (.int 10)) (tC (.int 60))) σ H (.int T60) := fun H1 e Q q => xv_p60 _ (q H1 (Ex.refl H1))
theorem xe_len {p : Addr} (ha : Ev ta σ H (.ref p)) (h : SqL K H p xs) : Ev (tCB (rLenQ K) (tCons ta tNil)) σ H (.int (xs.length : Int)) := fun H1 e Q q => ha H1 e _ fun H2 e2 => ⟨p, xs, rfl, .inl (ex_l (e.trans e2) h), q H2 e2⟩
theorem xe_ix {p : Addr} {ns : List Int} {i : Int} (ha : Ev ta σ H (.ref p)) (hb : Ev tb σ H (.int i)) (h : SqL K H p (ns.map V.int)) (h0 : 0 ≤ i) (h1 : i < ns.length) : Ev (tOp (rIxL K) ta tb) σ H (.int (ns.getD i.toNat 0)) := ev_op ha hb (rv_ixL h (atI_int h0 h1))
theorem xl_rep {k : Int} (ha : EvL ta σ H xs) (hb : Ev tb σ H (.int k)) (hk : -(2 ^ 63) ≤ k ∧ k < 2 ^ 63) (hz : xs.length * k.toNat ≤ 100000) : EvL (tOp rRep ta tb) σ H (List.replicate k.toNat xs).flatten := fun H1 e Q q =>
  ha H1 e _ fun p H2 hp e2 h2 => hb H2 (e.trans e2) _ fun H3 e3 => ⟨p, k, xs, rfl, rfl, e3 p _ h2, hk.1, hk.2, sz_of hz, fun p3 h3 => q p3 _ (fresh_back (e2.trans e3) h3) ((e2.trans e3).trans (Ex.new h3)) upd_same⟩
theorem xl_cat {l : Addr} (ha : Ev ta σ H (.ref l)) (hl : H l = some (.lst xs)) (hb : EvL tb σ H ys) (hz : xs.length + ys.length ≤ 100000) : EvL (tOp rCat ta tb) σ H (xs ++ ys) := fun H1 e Q q =>
  ha H1 e _ fun H2 e2 => hb H2 (e.trans e2) _ fun p H3 hp e3 h3 => ⟨l, p, xs, ys, rfl, rfl, ((e.trans e2).trans e3) l _ hl, h3, sz_of hz, fun p4 h4 => q p4 _ (fresh_back (e2.trans e3) h4) ((e2.trans e3).trans (Ex.new h4)) upd_same⟩
theorem xl_catR {l : Addr} (ha : EvL ta σ H xs) (hb : Ev tb σ H (.ref l)) (hl : H l = some (.lst ys)) (hz : xs.length + ys.length ≤ 100000) : EvL (tOp rCat ta tb) σ H (xs ++ ys) := fun H1 e Q q =>
  ha H1 e _ fun p H2 hp e2 h2 => hb H2 (e.trans e2) _ fun H3 e3 => ⟨p, l, xs, ys, rfl, rfl, e3 p _ h2, ((e.trans e2).trans e3) l _ hl, sz_of hz, fun p4 h4 => q p4 _ (fresh_back (e2.trans e3) h4) ((e2.trans e3).trans (Ex.new h4)) upd_same⟩
theorem xl_catN (ha : EvL ta σ H xs) (hb : EvL tb σ H ys) (hz : xs.length + ys.length ≤ 100000) : EvL (tOp rCat ta tb) σ H (xs ++ ys) := fun H1 e Q q =>
  ha H1 e _ fun p H2 hp e2 h2 => hb H2 (e.trans e2) _ fun p3 H3 hp3 e3 h3 => ⟨p, p3, xs, ys, rfl, rfl, e3 p _ h2, h3, sz_of hz, fun p4 h4 => q p4 _ (fresh_back (e2.trans e3) h4) ((e2.trans e3).trans (Ex.new h4)) upd_same⟩
theorem xl_catV {l m : Addr} (ha : Ev ta σ H (.ref l)) (hl : H l = some (.lst xs)) (hb : Ev tb σ H (.ref m)) (hm : H m = some (.lst ys)) (hz : xs.length + ys.length ≤ 100000) : EvL (tOp rCat ta tb) σ H (xs ++ ys) := fun H1 e Q q =>
  ha H1 e _ fun H2 e2 => hb H2 (e.trans e2) _ fun H3 e3 => ⟨l, m, xs, ys, rfl, rfl, ((e.trans e2).trans e3) l _ hl, ((e.trans e2).trans e3) m _ hm, sz_of hz, fun p4 h4 => q p4 _ (fresh_back (e2.trans e3) h4) ((e2.trans e3).trans (Ex.new h4)) upd_same⟩
/-- list(xs) -/
abbrev rListQ (K : PySem.W.Frag) : List V → Hp → VK → Prop := fun xs H Q => ∃ p ys, xs = [.ref p] ∧ (SqL K H p ys ∨ SqT K H p ys) ∧ ∀ l, H l = none → Q (.ref l) (upd H l (.lst ys))
theorem xl_listQ {p : Addr} (ha : Ev ta σ H (.ref p)) (h : SqL K H p xs) : EvL (tCB (rListQ K) (tCons ta tNil)) σ H xs := fun H1 e Q q =>
  ha H1 e _ fun H2 e2 => ⟨p, xs, rfl, .inl (ex_l (e.trans e2) h), fun l hl => q l _ (fresh_back e2 hl) (e2.trans (Ex.new hl)) upd_same⟩
theorem xl_revL {p : Addr} (ha : Ev ta σ H (.ref p)) (h : SqL K H p xs) : EvL (tRevL K ta) σ H xs.reverse := fun H1 e Q q =>
  ha H1 e _ fun H2 e2 => ⟨p, xs, rfl, ex_l (e.trans e2) h, fun l hl => q l _ (fresh_back e2 hl) (e2.trans (Ex.new hl)) upd_same⟩
/-- [0] * n, of ints -/
theorem flat_rep (k : Nat) (c : Int) : (List.replicate k [V.int c]).flatten = (List.replicate k c).map V.int := by
  induction k with
  | zero => rfl
  | succ k ih => rw [List.replicate_succ, List.flatten_cons, ih] <;> rfl
theorem cut_all (xs : List V) (a b : Nat) : cutV xs (some (a : Int)) (some (b : Int)) = (xs.take b).drop a := by
  unfold cutV
  rw [show HT.sIx xs.length 0 (some (a : Int)) = min a xs.length from HT.sIx_nat xs.length 0 a, show HT.sIx xs.length xs.length (some (b : Int)) = min b xs.length from HT.sIx_nat xs.length xs.length b]
  rw [List.drop_take]
  by_cases ha : a ≤ xs.length
  · have e1 : min a xs.length = a := Nat.min_eq_left ha
    rw [e1]
    by_cases hb : b ≤ xs.length
    · rw [Nat.min_eq_left hb]
    · have e2 : min b xs.length = xs.length := Nat.min_eq_right (by omega)
      rw [e2, List.take_of_length_le (by rw [List.length_drop]; omega), List.take_of_length_le (by rw [List.length_drop]; omega)]
  · have e1 : min a xs.length = xs.length := Nat.min_eq_right (by omega)
    rw [e1, List.drop_length, List.drop_of_length_le (by omega)]
    simp
theorem cut_lo (xs : List V) (a : Nat) : cutV xs (some (a : Int)) none = xs.drop a := by
  unfold cutV
  rw [show HT.sIx xs.length 0 (some (a : Int)) = min a xs.length from HT.sIx_nat xs.length 0 a, HT.sIx_none]
  by_cases ha : a ≤ xs.length
  · rw [Nat.min_eq_left ha, List.take_of_length_le (by rw [List.length_drop]; omega)]
  · rw [Nat.min_eq_right (by omega), List.drop_length, List.drop_of_length_le (by omega)]
    simp
theorem cut_hi (xs : List V) (b : Nat) : cutV xs none (some (b : Int)) = xs.take b := by
  have h := cut_all xs 0 b
  rw [List.drop_zero] at h
  rw [← h]
  unfold cutV
  rw [HT.sIx_none, show HT.sIx xs.length 0 (some ((0 : Nat) : Int)) = min 0 xs.length from HT.sIx_nat xs.length 0 0, Nat.zero_min]
theorem cut_int {ns : List Int} {a b : Int} (ha : 0 ≤ a) (hb : 0 ≤ b) : cutV (ns.map V.int) (some a) (some b) = ((ns.take b.toNat).drop a.toNat).map V.int := by
  obtain ⟨x, rfl⟩ := Int.eq_ofNat_of_zero_le ha
  obtain ⟨y, rfl⟩ := Int.eq_ofNat_of_zero_le hb
  rw [List.map_drop, List.map_take]
  exact cut_all _ x y
/-- [e for x in xs], xs a new list of ints, e's value F x -/
theorem xl_mapI {cs : List Int} {F : Int → V} {j : Nat} {ws : List Nat} (h : EvL tl σ H (cs.map V.int)) (hz : cs.length ≤ 40000) (hw : ∀ x, wipe ((wipe σ ws).set j (some x)) ws = wipe σ ws)
    (he : ∀ x H1, Ex H H1 → x ∈ cs → Ev te ((wipe σ ws).set j (some (.int x))) H1 (F x)) : EvL (tLc (iList K tl) (gName j) tYes te ws) σ H (cs.map F) := by
  have r := el_lcNL (K := K) (vs := ws) (j := j) (t := tYes) (fun _ => true) (fun i => F (cs.getD i 0)) h (by rw [List.length_map]; exact hz) hw (fun i x H1 e hi => fun H2 e2 Q q => q H2 (Ex.refl H2)) (te := te) (fun i x H1 e hi _ => by
    rw [List.getElem?_map] at hi
    cases hc : cs[i]? with
    | none =>
      rw [hc] at hi
      cases hi
    | some c =>
      rw [hc] at hi
      cases hi
      rw [getD_of hc]
      exact he c H1 e (List.mem_of_getElem? hc))
  have e : given (cs.map V.int).length (fun _ => true) (fun i => F (cs.getD i 0)) = cs.map F := by
    unfold given
    rw [List.filter_eq_self.mpr (fun _ _ => rfl), List.length_map]
    refine List.ext_getElem? fun i => ?_
    rw [List.getElem?_map, List.getElem?_map]
    by_cases hi : i < cs.length
    · rw [List.getElem?_range hi, get_of hi]
      rfl
    · rw [List.getElem?_eq_none (by rw [List.length_range]; omega), List.getElem?_eq_none (by omega)]
      rfl
  rw [e] at r
  exact r
/-- what was tracked ahead of a list's making stays when that list is changed -/
theorem same_mut {p : Addr} {o : HO} (e : Same H H') (h : H p = none) : Same H (upd H' p o) := Ex.mut e h
end
/-! ### while len(xs) > 0 and xs[len(xs) - 1] == 0: xs.pop() -/
section
variable {σ : L2.St} {H : Hp} {K : PySem.W.Frag} {D : Ends}
theorem xs_pops {i : Nat} {l : Addr} {xs : List Int} (hσ : σ[i]? = some (some (.ref l))) (hl : H l = some (.lst (xs.map V.int)))
    (q : ∀ H', (∀ b, b ≠ l → H' b = H b) → H' l = some (.lst ((bare xs).map V.int)) → D.nx σ H') :
    tWhile (tAnd (tTest (tOp (rI0 fun i j => .bl (decide (j < i))) (tCB (rLenQ K) (tCons (tVar i) tNil)) (tC (.int 0))))
      (tTest (tOp rEq (tOp (rIxL K) (tVar i) (tOp (rI0 fun i j => .int (i - j)) (tCB (rLenQ K) (tCons (tVar i) tNil)) (tC (.int 1)))) (tC (.int 0)))))
      (tDrop (tBM0 K "list" rPop (tVar i))) D σ H := by
  refine xs_while (fun m s H' => ∃ ys : List Int, s = σ ∧ (∀ b, b ≠ l → H' b = H b) ∧ H' l = some (.lst (ys.map V.int)) ∧ bare ys = bare xs ∧ ys.length = m) _ ⟨xs, rfl, fun _ _ => rfl, hl, rfl, rfl⟩ ?_
  rintro m s H' ⟨ys, rfl, e3, h3, hb, rfl⟩
  refine ⟨_, xa_and (xa_T (xv_I0 (xv_lenI (val_var hσ) (SqL.of h3)) val_c)) fun hc => xa_T (xv_eq (xv_ix (val_var hσ) (xv_I0 (xv_lenI (val_var hσ) (SqL.of h3)) val_c) (SqL.of h3) (by
    have := of_decide_eq_true hc
    omega) (by omega)) val_c rfl), fun hc => ?_, fun hc => ?_⟩
  · rw [Bool.and_eq_true] at hc
    obtain ⟨c1, c2⟩ := hc
    have c1 := of_decide_eq_true c1
    have c2 := V.int.inj (of_decide_eq_true c2)
    obtain ⟨zs, c, rfl⟩ := snoc_of (xs := ys) (by
      rintro rfl
      simp at c1)
    rw [show (((zs ++ [c]).length : Int) - 1).toNat = (zs ++ [c]).length - 1 by omega, getD_last] at c2
    subst c2
    refine ⟨.ref l, hσ, .inl ⟨rfl, _, SqL.of h3⟩, l, _, .int 0, rfl, rfl, h3, ?_, ?_⟩
    · rw [List.length_map, List.getElem?_map, List.length_append, List.length_singleton, Nat.add_sub_cancel, List.getElem?_append_right (Nat.le_refl _), Nat.sub_self]
      rfl
    · refine ⟨zs.length, by rw [List.length_append, List.length_singleton]; omega, zs, rfl, fun b hb => by rw [upd_ne hb]; exact e3 b hb, ?_, ?_, rfl⟩
      · rw [upd_same, List.map_append, List.map_singleton, List.dropLast_concat]
      · rw [← hb, bare_zero]
  · have hy : bare ys = ys := by
      by_cases h0 : ys = []
      · rw [h0]
        rfl
      · obtain ⟨zs, c, rfl⟩ := snoc_of h0
        refine bare_snoc zs fun e => ?_
        subst e
        have c1 := of_decide_eq_false (Bool.and_eq_false_imp.mp hc (decide_eq_true (by rw [List.length_append, List.length_singleton]; omega)))
        refine c1 ?_
        have e9 : (((zs ++ [(0 : Int)]).length : Int) - 1).toNat = (zs ++ [(0 : Int)]).length - 1 := by omega
        rw [e9, getD_last]
    refine q H' e3 ?_
    rw [h3, ← hb, hy]
theorem xq_pops {tz : TS} {i : Nat} {l : Addr} {xs : List Int} (hσ : σ[i]? = some (some (.ref l))) (hl : H l = some (.lst (xs.map V.int)))
    (q : ∀ H', (∀ b, b ≠ l → H' b = H b) → H' l = some (.lst ((bare xs).map V.int)) → tz D σ H') :
    tSeq (tWhile (tAnd (tTest (tOp (rI0 fun i j => .bl (decide (j < i))) (tCB (rLenQ K) (tCons (tVar i) tNil)) (tC (.int 0))))
      (tTest (tOp rEq (tOp (rIxL K) (tVar i) (tOp (rI0 fun i j => .int (i - j)) (tCB (rLenQ K) (tCons (tVar i) tNil)) (tC (.int 1)))) (tC (.int 0)))))
      (tDrop (tBM0 K "list" rPop (tVar i)))) tz D σ H := xs_pops (D := { D with nx := tz D }) hσ hl q
end
/-! ### lists of ints compared -/
section
variable {σ : L2.St} {H : Hp} {K : PySem.W.Frag} {ta tb : TE}
theorem dpAll_int (ns : List Int) : DpAll K H (ns.map V.int) (ns.map PyData.int) := by
  induction ns with
  | nil => exact .nil
  | cons n r ih => exact .cons (.int n) ih
theorem eqvAll_int : ∀ ns ms : List Int, PyData.eqvAll (ns.map PyData.int) (ms.map PyData.int) = decide (ns = ms)
  | [], [] => by simp [PyData.eqvAll]
  | [], m :: ms => by simp [PyData.eqvAll]
  | n :: ns, [] => by simp [PyData.eqvAll]
  | n :: ns, m :: ms => by
    show (n == m && PyData.eqvAll (ns.map PyData.int) (ms.map PyData.int)) = decide (n :: ns = m :: ms)
    rw [eqvAll_int ns ms]
    by_cases h : n = m
    · subst h
      by_cases h2 : ns = ms
      · subst h2
        simp
      · simp [h2]
    · simp [h]
theorem eqv_int (ns ms : List Int) : PyData.eqv (.list (ns.map PyData.int)) (.list (ms.map PyData.int)) = decide (ns = ms) := by
  rw [← eqvAll_int]
  simp [PyData.eqv]
theorem canLayAll_int : ∀ ns : List Int, PyData.canLayAll0 (ns.map PyData.int) = true
  | [] => rfl
  | n :: ns => by
    show (true && PyData.canLayAll0 (ns.map PyData.int)) = true
    rw [canLayAll_int ns]
    rfl
theorem depthAll_int : ∀ ns : List Int, PyData.depthAll (ns.map PyData.int) ≤ 1
  | [] => by simp [PyData.depthAll]
  | n :: ns => by
    have := depthAll_int ns
    simp only [List.map_cons, PyData.depthAll, PyData.depth]
    omega
theorem shaped_int (ns : List Int) : SeqAt.shaped (.list (ns.map PyData.int)) = true := by
  unfold SeqAt.shaped
  rw [Bool.and_eq_true]
  refine ⟨canLayAll_int ns, decide_eq_true ?_⟩
  have := depthAll_int ns
  simp only [PyData.depth]
  omega
/-- xs == ys, xs != ys of lists of ints -/
theorem xv_eqL {a b : Addr} {ns ms : List Int} (ha : Val ta σ H (.ref a)) (hb : Val tb σ H (.ref b)) (h1 : SqL K H a (ns.map V.int)) (h2 : SqL K H b (ms.map V.int)) : Val (tOp (rEqD K) ta tb) σ H (.bl (decide (ns = ms))) :=
  val_op ha hb fun Q q => ⟨_, _, .lst h1 (dpAll_int ns), .lst h2 (dpAll_int ms), shaped_int ns, shaped_int ms, by rw [eqv_int]; exact q⟩
theorem xv_neL {a b : Addr} {ns ms : List Int} (ha : Val ta σ H (.ref a)) (hb : Val tb σ H (.ref b)) (h1 : SqL K H a (ns.map V.int)) (h2 : SqL K H b (ms.map V.int)) : Val (tOp (rNeD K) ta tb) σ H (.bl (!decide (ns = ms))) :=
  val_op ha hb fun Q q => ⟨_, _, .lst h1 (dpAll_int ns), .lst h2 (dpAll_int ms), shaped_int ns, shaped_int ms, by rw [eqv_int]; exact q⟩
end
end Sh

/-! Own words for exceptions: isinstance of what an except suite holds, with the class told by the reading. -/
namespace Sh
open PySem PySem.Spec PyProof.Rows L2
theorem units65 {k : Nat} {A : Around} (hr : Room k A) : A.units + 65 < cLine := by have := hr.un; omega
section
variable {K : PySem.W.Frag} {D Y : Addr}
theorem kit_yes (hc : PySem.W.isClsIn K Y = true) (ht : PySem.W.typeIn K (.ref Y) = some (.type "type")) (hs : PySem.W.subIn K (.ref D) (.ref Y) = some true) : PySem.W.kitOne K (.ref D) (.ref Y) = some true := by
  have e2 : ((PySem.W.clsIn K Y).isSome && PySem.W.typeIn K (.ref Y) == some (.type "type")) = true := by
    have h2 : (PySem.W.clsIn K Y).isSome = true := hc
    rw [h2, ht]
    rfl
  unfold PySem.W.kitOne
  split
  · rfl
  · show (if ((PySem.W.clsIn K Y).isSome && PySem.W.typeIn K (.ref Y) == some (.type "type")) = true then PySem.W.subIn K (.ref D) (.ref Y) else none) = some true
    rw [if_pos e2, hs]
theorem kit_no (hc : PySem.W.isClsIn K Y = true) (ht : PySem.W.typeIn K (.ref Y) = some (.type "type")) (h0 : PySem.W.subIn K (.ref D) (.ref D) = some true) (hs : PySem.W.subIn K (.ref D) (.ref Y) = some false) : PySem.W.kitOne K (.ref D) (.ref Y) = some false := by
  have e2 : ((PySem.W.clsIn K Y).isSome && PySem.W.typeIn K (.ref Y) == some (.type "type")) = true := by
    have h2 : (PySem.W.clsIn K Y).isSome = true := hc
    rw [h2, ht]
    rfl
  unfold PySem.W.kitOne
  split
  · rename_i e
    have e3 : Value.ref D = Value.ref Y := beq_iff_eq.mp e
    cases e3
    rw [h0] at hs
    cases hs
  · show (if ((PySem.W.clsIn K Y).isSome && PySem.W.typeIn K (.ref Y) == some (.type "type")) = true then PySem.W.subIn K (.ref D) (.ref Y) else none) = some false
    rw [if_pos e2, hs]
theorem kit_ve (hs : PySem.W.subIn K (.ref D) (.type "ValueError") = some true) : PySem.W.kitOne K (.ref D) (.type "ValueError") = some true := by
  unfold PySem.W.kitOne
  rw [if_neg (by intro e; cases (beq_iff_eq.mp e))]
  show (if PySem.W.kitMeta "ValueError" = true then PySem.W.subIn K (.ref D) (.type "ValueError") else none) = some true
  rw [if_pos (by decide +kernel), hs]
end
/-- isinstance of what an except suite holds: its class as the reading tells it -/
def rIsX (K : PySem.W.Frag) (a : Addr) (cls : Value) (d : Option Addr) : List V → Hp → VK → Prop := fun xs H Q => ∃ (D : Addr), cls = .ref D ∧ d = none ∧ ExcC K D ∧ rIsE K D a xs H Q
theorem call_isX {X : Cx} {K : PySem.W.Frag} {a : Addr} {oe : Obj} {pn : List (Addr × Obj)} {cls : Value} {d : Option Addr} (hK : X.K = K) (hz : Zc cls d oe) (hf : ∃ vs, oe.data = .fields vs) : CallR (X.suite a ((a, oe) :: pn)) (.builtin "isinstance") (rIsX K a cls d) := by
  subst hK
  rintro pins s σ H xs us Q I r ⟨D, rfl, rfl, C, h⟩
  exact call_isE C hz hf pins s σ H xs us Q I r h
section
variable {σ : L2.St} {H : Hp} {K : PySem.W.Frag} {ta tb : TE} {a D : Addr}
theorem xv_isX {b : Bool} {c : V} {cv : Value} (ha : Val ta σ H (.ref a)) (hb : Val tb σ H c) (hE : ExcC K D) (hc : ∀ u, RelV c u → u = cv) (hk : PySem.W.kitOne K (.ref D) cv = some b) : Val (tCB (rIsX K a (.ref D) none) (tCons ta (tCons tb tNil))) σ H (.bl b) :=
  fun Q q => ha _ (hb _ ⟨D, rfl, rfl, hE, c, cv, b, rfl, hc, hk, q⟩)
theorem xv_isC {b : Bool} {C : Addr} (ha : Val ta σ H (.ref a)) (hE : ExcC K D) (hk : PySem.W.kitOne K (.ref D) (.ref C) = some b) : Val (tCB (rIsX K a (.ref D) none) (tCons ta (tCons (tC (.ref C)) tNil))) σ H (.bl b) :=
  xv_isX ha val_c hE (fun u r => r) hk
theorem xv_isT {b : Bool} {n : String} (ha : Val ta σ H (.ref a)) (hE : ExcC K D) (hk : PySem.W.kitOne K (.ref D) (.type n) = some b) : Val (tCB (rIsX K a (.ref D) none) (tCons ta (tCons (tC (.ty n)) tNil))) σ H (.bl b) :=
  xv_isX ha val_c hE (fun u r => r) hk
end
/-- try: f(..) except C as n: suite -/
theorem xq_try {σ : L2.St} {H : Hp} {K : PySem.W.Frag} {D : Ends} {tz : TS} {sp : Sp} {c : Value} {i : Nat} {ts : Addr → Value → Option Addr → TS} {Wout : WX} {ta : TA} {vs : List V} (h : Arg ta σ H vs)
    (q : sp vs H (fun _ H1 => tz D σ H1) (fun cls d H' => wAs K c i ts Wout { D with nx := tz D } cls d σ H')) : tSeq (fun D σ H => tDrop (tCallS sp (WE (wAs K c i ts Wout D)) ta) D σ H) tz D σ H := h _ q
end Sh

/-! An own rule of the layer: try: body / except (A, B, ..): a suite that is never reached / except C as n: suite. -/
namespace Sh
open PySem PySem.Spec PyProof.Rows L2
/-- the names in the tuple of a clause, and the classes that they stand for -/
inductive TNames (X : Cx) : List Expr → List Value → Prop
  | nil : TNames X [] []
  | cons {x : Str} {p : Pos} {c : Value} {es : List Expr} {cs : List Value} (hc : Names X x c) (r : TNames X es cs) : TNames X (.Name x p :: es) (c :: cs)
/-- a tuple of such many classes is told of -/
def TupTold (cs : List Value) : Prop := ∀ {M : Model} {K : PySem.W.Frag} {cls : Value} {tp e : Addr} {b : Bool} {h : Heap}, K.In h → PySem.W.Looks M h (typeOf (.ref e)) cls → h.get? tp = some { cls := .type "tuple", data := .seq cs.toArray } → PySem.W.exmAny K cls cs = some b →
  PySem.W.Looks M h (excMatches (.ref e) (.ref tp)) b
theorem told2 {c1 c2 : Value} : TupTold [c1, c2] := fun X L hp hx => PySem.W.exm_tup2 X L hp hx
theorem told4 {c1 c2 c3 c4 : Value} : TupTold [c1, c2, c3, c4] := fun X L hp hx => PySem.W.exm_tup4 X L hp hx
theorem any_no {K : PySem.W.Frag} {cls c : Value} {r : List Value} (h : PySem.W.exmOne K cls c = some false) (hr : PySem.W.exmAny K cls r = some false) : PySem.W.exmAny K cls (c :: r) = some false := by
  unfold PySem.W.exmAny
  rw [h, hr]
  rfl
theorem fly_push {B : Heap} {l : List Env} {a : Addr} {Z : Obj → Prop} {h : Heap} (o : Obj) (f : HandSPX.FlyingZ B l a Z h) : HandSPX.FlyingZ B l a Z (h.push o) := by
  obtain ⟨k1, k2, k3, oe, vs, T, oT, ts, he, hz, hd, h1, hnT, hTe, hT, hdT, h3⟩ := f
  exact ⟨fun b o' e => Heap.get?_push_of_some _ (k1 b o' e), k2, k3.of_keeps fun b o' e _ => ⟨o', Heap.get?_push_of_some _ e, rfl⟩, oe, vs, T, oT, ts, Heap.get?_push_of_some _ he, hz, hd, h1, hnT, hTe, Heap.get?_push_of_some _ hT, hdT, h3⟩
/-- what the two clauses wish of an exception: the tuple does not take it, the second one as ever -/
def wTwo (K : PySem.W.Frag) (cs : List Value) (c : Value) (i : Nat) (ts : Addr → Value → Option Addr → TS) (Wout : WX) (D : Ends) : WX := fun cls d σ H => PySem.W.exmAny K cls cs = some false ∧ wAs K c i ts Wout D cls d σ H
section
variable {X : Cx} {x n : Str} {c : Value} {cs : List Value} {es : List Expr} {i : Nat} {body suite s₀ : List Stmt} {b₀ b₁ : Stmt} {np pos pos' p0 p1 : Pos} {kk : Nat} {tb : WX → TS} {ts : Addr → Value → Option Addr → TS} {Wout : WX}
/-- one name of a class, read while a is handled: nothing changes -/
theorem name_run {a : Addr} {pn : List (Addr × Obj)} {σ : L2.St} {H : Hp} {s : Shared} {E : Value → Shared → Prop} {Q : Value → Shared → Prop} {p : Pos} (S : Inv (X.suite a pn) [] σ H s) (hc : Names X x c) (q : Q c s) : wpAny (model X.prog X.w) (X.A.mark (some (.ref a))) (eval (.Name x p) X.env) Q E s := by
  rcases hc with ⟨gl, nd, own | ⟨no, bt, nn⟩⟩
  · exact ld_glob (X := X.suite a pn) S gl own q nd
  · exact ld_blt (X := X.suite a pn) S gl no bt q nn nd
/-- the names of the tuple, one after the other -/
theorem names_run {a : Addr} {pn : List (Addr × Obj)} {σ : L2.St} {H : Hp} {s : Shared} {E : Value → Shared → Prop} {ps : Pos} (S : Inv (X.suite a pn) [] σ H s) : ∀ {es : List Expr} {cs : List Value}, TNames X es cs → ∀ {Q : List Value → Shared → Prop}, Q cs s →
    wpAny (model X.prog X.w) (X.A.mark (some (.ref a))) (spliced (backTo ps (starEach es X.env))) Q E s
  | [], [], _, _, q => spliced_none q
  | _ :: _, _ :: _, .cons hc r, _, q => spliced_more (name_run S hc (names_run S r q))
/-- an exception that lies before the clauses: a lies at h, nothing else has changed since sI -/
structure Lies (X : Cx) (pins : List (Addr × Obj)) (σ : L2.St) (H : Hp) (B : Heap) (a : Addr) (cls : Value) (d : Option Addr) (sI s : Shared) : Prop where
  inv : Inv X pins σ H sI
  nb : ∀ b o, sI.heap.get? b = some o → b ∉ frs X.stack → B.get? b = some o
  up : sI.heap.UpToSlots s.heap
  fly : HandSPX.FlyingZ B (X.env :: X.outer) a (Zc cls d) s.heap
  na : H a = none
  os : s.os = sI.os
  ag : AllBare s.gens
section
variable {pins : List (Addr × Obj)} {σ : L2.St} {H : Hp} {B : Heap} {a : Addr} {cls : Value} {d : Option Addr} {sI s : Shared}
theorem Lies.here (L : Lies X pins σ H B a cls d sI s) : Inv X pins σ H s := L.inv.landed L.nb L.fly.1 L.up L.os L.ag
theorem Lies.heap (L : Lies X pins σ H B a cls d sI s) {h : Heap} (f : HandSPX.FlyingZ B (X.env :: X.outer) a (Zc cls d) h) (u : s.heap.UpToSlots h) : Lies X pins σ H B a cls d sI { s with heap := h } := ⟨L.inv, L.nb, L.up.trans u, f, L.na, L.os, L.ag⟩
theorem Lies.push (L : Lies X pins σ H B a cls d sI s) (o : Obj) : Lies X pins σ H B a cls d sI { s with heap := s.heap.push o } := L.heap (fly_push o L.fly) (Heap.UpToSlots.of_keeps fun _ _ e => Heap.get?_push_of_some _ e)
theorem Lies.suiteOf (L : Lies X pins σ H B a cls d sI s) (hf : X.env.frame = some X.env.locals) : ∃ oe vs, s.heap.get? a = some oe ∧ Zc cls d oe ∧ oe.data = .fields vs ∧ Inv (X.suite a ((a, oe) :: (X.pn ++ pins))) [] σ H s := by
  obtain ⟨oe, vs, he, hz, hd⟩ := L.fly.there
  have nfr : a ∉ frs (X.env :: X.outer) := fun hm => by
    obtain ⟨_, o', e', hnf⟩ := L.fly.2.2.1.mem hm
    rw [he] at e'
    cases e'
    exact hnf _ hd
  refine ⟨oe, vs, he, hz, hd, L.here.suite he hd L.na (fun z => nfr (List.mem_filterMap.mpr ⟨X.env, List.mem_cons_self, by rw [hf, z]⟩)) fun hm => ?_⟩
  obtain ⟨e, he2, q⟩ := List.mem_filterMap.mp hm
  exact nfr (List.mem_filterMap.mpr ⟨e, List.mem_cons_of_mem _ he2, q⟩)
/-- no clause is left: it flies on -/
theorem Lies.on {D : Ends} (L : Lies X pins σ H B a cls d sI s) (hs : X.stack = X.env :: X.outer) (hf : X.env.frame = some X.env.locals) (tk : Takes X Wout) (w : Wout cls d σ H) : wpAny (model X.prog X.w) X.A (handleBy (.ref a) X.env []) (SP X pins D) X.xe s := by
  have away : wpAny (model X.prog X.w) X.A (setFlight (.ref a) X.env.frame) (fun _ s2 => wpAny (model X.prog X.w) X.A (throw (.ref a) : Sem Flow) (SP X pins D) X.xe s2) X.xe s := by
    rw [hf]
    refine HandSPX.setFlight_upZ L.fly fun h2 hh up => wpAny_throw (tk _ _ ⟨a, B, sI, pins, σ, H, cls, d, rfl, L.inv, L.nb, L.up.trans up, .inr (.inr ?_), L.na, L.os, L.ag, w⟩)
    rw [hs]
    exact hh
  obtain ⟨_, _, _, oe, vs, T, _, _, he, _, hd, tb, _⟩ := id L.fly
  have some_tb : (Value.ref T == Value.none) = false := by simp
  apply wpAny_handleBy_nil
  unfold PySem.passOn
  refine wpAny_bind (wpAny_field he hd tb (by
    rw [some_tb, if_neg Bool.false_ne_true]
    first | exact wpAny_bind away | exact wpAny_bind (wpAny_pure (wpAny_bind away))))
/-- the clause with a name -/
theorem Lies.as {D : Ends} (L : Lies X pins σ H B a cls d sI s) (hs : X.stack = X.env :: X.outer) (hf : X.env.frame = some X.env.locals) (hN : X.N.Nodup) (hi : X.N[i]? = some n) (hln : X.env.kindOf n = some .local) (hc : Names X x c) (tk : Takes X Wout)
    (hsu : ∀ (b : Addr) (ob : Obj) (cl : Value) (e : Option Addr) (ps : List (Addr × Obj)), Zc cl e ob → (∃ fs, ob.data = .fields fs) → PSs (X.suite b ((b, ob) :: ps)) (b₀ :: suite) (ts b cl e))
    (w : wAs X.K c i ts Wout D cls d σ H) : wpAny (model X.prog X.w) X.A (handleBy (.ref a) X.env [.ExceptHandler (some (.Name x np)) (some n) (b₀ :: suite) pos']) (SP X pins D) X.xe s := by
  obtain ⟨takes, told, yes, no⟩ := w
  obtain ⟨oe, vs, he, hz, hd, S⟩ := L.suiteOf hf
  have type_of : PySem.W.Looks (model X.prog X.w) s.heap (typeOf (.ref a)) cls := fun A Q E s2 keeps q => wpAny_typeOf_ref (keeps _ _ he) (hz.1 ▸ q)
  have matches_ := PySem.W.exm_one (M := model X.prog X.w) L.here.kIn type_of told
  apply wpAny_handleBy_cons _ (by intro z; cases z)
  apply codeAny_handlers_test
  refine name_run S hc (matches_.here ?_)
  cases takes
  · exact L.on hs hf tk (no rfl)
  · refine codeAny_handlers_suite_as (HandSPX.lands_againZ L.fly fun h4 fl up => ?_)
    obtain ⟨o4, v4, he4, hz4, hd4, S4⟩ := (L.heap fl up).suiteOf hf
    -- behind the suite the name is gone
    have leave : ∀ {τ : L2.St} {G : Hp} {R : Shared → Prop} {s6 : Shared}, Inv (X.suite a ((a, o4) :: (X.pn ++ pins))) [] τ G s6 → (∀ s7, Inv X pins (τ.set i none) G s7 → R s7) → wpAny (model X.prog X.w) X.A (bindName X.env n .none >>= fun _ => unbindBehindTheSuite X.env n pos') (fun _ s7 => R s7) X.xe s6 :=
      fun S6 r => gone_ok (S6.unsuite L.inv.ok) hN hi hln r
    refine store_ok (X := X.suite a ((a, o4) :: (X.pn ++ pins))) (v := .ref a) S4 hN hi (.inl hln) rfl (fun s5 S5 => ?_) (.inr hln)
    refine wpAny_mono ((hsu a o4 cls d (X.pn ++ pins) hz4 ⟨v4, hd4⟩).run [] s5 _ H _ S5 (yes rfl a L.na)) ?_ fun _ _ z => z.elim
    intro f s6 z
    cases f
    case ret u =>
      obtain ⟨v, τ, G, S6, rel, fin⟩ := z
      exact leave S6 fun s7 J => ⟨v, τ.set i none, G, J, rel, fin⟩
    all_goals
      obtain ⟨τ, G, S6, fin⟩ := z
      exact leave S6 fun s7 J => ⟨τ.set i none, G, J, fin⟩
/-- the clause with a tuple, which does not take it -/
theorem Lies.tup {D : Ends} {rest : List ExceptHandler} (L : Lies X pins σ H B a cls d sI s) (hf : X.env.frame = some X.env.locals) (hc : TNames X es cs) (ht : TupTold cs) (hl : cs.length ≤ 1000) (hx : PySem.W.exmAny X.K cls cs = some false)
    (k : ∀ s', Lies X pins σ H B a cls d sI s' → wpAny (model X.prog X.w) X.A (handleBy (.ref a) X.env rest) (SP X pins D) X.xe s') :
    wpAny (model X.prog X.w) X.A (handleBy (.ref a) X.env (.ExceptHandler (some (.Tuple es kk p0)) none (b₁ :: s₀) p1 :: rest)) (SP X pins D) X.xe s := by
  obtain ⟨oe, vs, he, hz, hd, S⟩ := L.suiteOf hf
  apply wpAny_handleBy_cons _ (by intro z; cases z)
  apply codeAny_handlers_test
  refine Tuple_ (names_run (Q := fun vs s1 => wpAny _ _ (newTuple vs) _ _ s1) S hc ?_)
  refine wpAny_newObj_type ?_ (by show cs.toArray.size ≤ sizeLine; rw [List.size_toArray]; exact Nat.le_trans hl (by decide))
  have L' := L.push { cls := .type "tuple", dict := none, data := .seq cs.toArray }
  have LT : PySem.W.Looks (model X.prog X.w) (s.heap.push { cls := .type "tuple", dict := none, data := .seq cs.toArray }) (typeOf (.ref a)) cls := fun A Q E s' k q => wpAny_typeOf_ref (k _ _ (Heap.get?_push_of_some _ he)) (by rw [hz.1]; exact q)
  have LM := ht (M := model X.prog X.w) L'.here.kIn LT (Heap.get?_push_size _ rfl) hx
  refine LM.here ?_
  exact k _ L'
end
theorem ps_try_two (hs : X.stack = X.env :: X.outer) (hf : X.env.frame = some X.env.locals) (hN : X.N.Nodup) (hi : X.N[i]? = some n) (hln : X.env.kindOf n = some .local) (hcs : TNames X es cs) (ht : TupTold cs) (hl : cs.length ≤ 1000) (hc : Names X x c) (tk : Takes X Wout)
    (hb : ∀ (V : WX) (ps : List (Addr × Obj)) (xe : Value → Shared → Prop), Takes (X.tr ps xe) V → PassesOwn (model X.prog X.w) X.A X.env xe → PSs (X.tr ps xe) body (tb V))
    (hsu : ∀ (b : Addr) (ob : Obj) (cl : Value) (e : Option Addr) (ps : List (Addr × Obj)), Zc cl e ob → (∃ fs, ob.data = .fields fs) → PSs (X.suite b ((b, ob) :: ps)) (b₀ :: suite) (ts b cl e)) :
    PS X (.Try body [.ExceptHandler (some (.Tuple es kk p0)) none (b₁ :: s₀) p1, .ExceptHandler (some (.Name x np)) (some n) (b₀ :: suite) pos'] [] [] pos) (fun D σ H => tb (wTwo X.K cs c i ts Wout D) D σ H) := by
  constructor
  intro pins s σ H D I h
  have ok := I.ok
  have frames := ok.frames
  rw [hs] at frames
  apply wpAny_Try_except
  -- what the two clauses do with an exception that comes to them
  have caught : Takes (X.tr (X.pn ++ pins) fun e s1 => wpAny (model X.prog X.w) X.A (noteFrame e X.env) (fun _ s2 => wpAny (model X.prog X.w) X.A (setFlight e none) (fun _ s3 =>
      wpAny (model X.prog X.w) X.A (handleBy e X.env [.ExceptHandler (some (.Tuple es kk p0)) none (b₁ :: s₀) p1, .ExceptHandler (some (.Name x np)) (some n) (b₀ :: suite) pos']) (SP X pins D) X.xe s3) X.xe s2) X.xe s1) (wTwo X.K cs c i ts Wout D) := by
    rintro u s1 ⟨a, B, sI, pins2, τ, G, cls, d, rfl, J, nb, up, sky, na, os, ag, none_of, second⟩
    have above : Sky B (X.env :: X.outer) a (Zc cls d) X.env.locals s1.heap := hs ▸ sky
    refine Sky.land Zc.steady frames hf above ?_
    intro h3 fl up3
    have L : Lies X pins τ G B a cls d sI { s1 with heap := h3 } := ⟨J.ofTry ok, nb, up.trans up3, fl, na, os, ag⟩
    exact L.tup hf hcs ht hl none_of fun s5 L5 => L5.as hs hf hN hi hln hc tk hsu second
  refine wpAny_mono ((hb _ _ _ caught PassesOwn.looking).run [] s σ H D (I.toTry _) h) ?_ fun _ _ z => z
  intro f s1 z
  cases f
  case next =>
    obtain ⟨τ, G, J, fin⟩ := z
    exact wpAny_execs_nil ⟨τ, G, J.ofTry ok, fin⟩
  case ret u =>
    obtain ⟨v, τ, G, J, rel, fin⟩ := z
    exact ⟨v, τ, G, J.ofTry ok, rel, fin⟩
  all_goals
    obtain ⟨τ, G, J, fin⟩ := z
    exact ⟨τ, G, J.ofTry ok, fin⟩
end
/-- try: f(..) with two such clauses -/
theorem xq_two {σ : L2.St} {H : Hp} {K : PySem.W.Frag} {D : Ends} {tz : TS} {sp : Sp} {cs : List Value} {c : Value} {i : Nat} {ts : Addr → Value → Option Addr → TS} {Wout : WX} {ta : TA} {vs : List V} (h : Arg ta σ H vs)
    (q : sp vs H (fun _ H1 => tz D σ H1) (fun cls d H' => wTwo K cs c i ts Wout { D with nx := tz D } cls d σ H')) : tSeq (fun D σ H => tDrop (tCallS sp (WE (wTwo K cs c i ts Wout D)) ta) D σ H) tz D σ H := h _ q
end Sh

namespace Sh
/-! rows: noughts and ones, no two ones side by side, the last a one; there is one of each weight -/
structure Rw (xs : List Int) : Prop where
  zo : ∀ x ∈ xs, x = 0 ∨ x = 1
  st : stillB 0 xs = true
  ba : xs = [] ∨ xs.getLastD 0 = 1
theorem still_snoc (ys : List Int) (c : Int) : stillB 0 (ys ++ [c]) = (stillB 0 ys && !(decide (1 < c) || (decide (0 < c) && decide (0 < ys.getLastD 0)))) := by
  rw [stillB_append]
  show (stillB 0 ys && (!(decide (1 < c) || (decide (0 < c) && decide (0 < ys.getLastD 0))) && true)) = _
  rw [Bool.and_true]
theorem zo_init {ys : List Int} {c : Int} (h : ∀ x ∈ ys ++ [c], x = 0 ∨ x = 1) : (∀ x ∈ ys, x = 0 ∨ x = 1) ∧ (c = 0 ∨ c = 1) := ⟨fun x hx => h x (List.mem_append_left _ hx), h c (List.mem_append_right _ List.mem_cons_self)⟩
theorem S_snoc (f : Nat → Int) (ys : List Int) (c : Int) : S f 0 (ys ++ [c]) = S f 0 ys + c * f ys.length := by
  rw [S_append, S_one, Nat.zero_add]
theorem Z_lt : ∀ (n : Nat) (xs : List Int), xs.length = n → (∀ x ∈ xs, x = 0 ∨ x = 1) → stillB 0 xs = true → S W 0 xs < W n
  | 0, xs, h, _, _ => by
    rw [List.eq_nil_of_length_eq_zero h]
    decide
  | n + 1, xs, h, hz, hs => by
    obtain ⟨ys, c, rfl⟩ := snoc_of (xs := xs) (by intro e; rw [e] at h; cases h)
    have hl : ys.length = n := by
      rw [List.length_append, List.length_singleton] at h
      omega
    obtain ⟨z1, z2⟩ := zo_init hz
    rw [still_snoc, Bool.and_eq_true] at hs
    obtain ⟨s1, s2⟩ := hs
    have ih := Z_lt n ys hl z1 s1
    rw [S_snoc, hl]
    rcases z2 with rfl | rfl
    · have := W_lt n
      omega
    · match n, ys, hl, z1, s1, s2, ih with
      | 0, ys, hl, _, _, _, _ =>
        rw [List.eq_nil_of_length_eq_zero hl]
        decide
      | m + 1, ys, hl, z1, s1, s2, ih =>
        obtain ⟨zs, d, rfl⟩ := snoc_of (xs := ys) (by intro e; rw [e] at hl; cases hl)
        have hl2 : zs.length = m := by
          rw [List.length_append, List.length_singleton] at hl
          omega
        obtain ⟨y1, y2⟩ := zo_init z1
        rw [still_snoc, Bool.and_eq_true] at s1
        have ih2 := Z_lt m zs hl2 y1 s1.1
        have hd : d = 0 := by
          rcases y2 with e | e
          · exact e
          · subst e
            simp at s2
        subst hd
        rw [S_snoc]
        show _ < W m + W (m + 1)
        omega
/-- greedy, from the top -/
def gr : Nat → Int → List Int
  | 0, _ => []
  | k + 1, n => if W k ≤ n then 1 :: gr k (n - W k) else 0 :: gr k n
theorem gr_len : ∀ (k : Nat) (n : Int), (gr k n).length = k
  | 0, _ => rfl
  | k + 1, n => by
    unfold gr
    split <;> rw [List.length_cons, gr_len k]
theorem zo_nonneg {xs : List Int} (h : ∀ x ∈ xs, x = 0 ∨ x = 1) : ∀ x ∈ xs, 0 ≤ x := fun x hx => by
  rcases h x hx with e | e <;> omega
theorem Z_gr : ∀ (n : Nat) (xs : List Int), xs.length = n → (∀ x ∈ xs, x = 0 ∨ x = 1) → stillB 0 xs = true → gr n (S W 0 xs) = xs.reverse
  | 0, xs, h, _, _ => by
    rw [List.eq_nil_of_length_eq_zero h]
    rfl
  | n + 1, xs, h, hz, hs => by
    obtain ⟨ys, c, rfl⟩ := snoc_of (xs := xs) (by intro e; rw [e] at h; cases h)
    have hl : ys.length = n := by
      rw [List.length_append, List.length_singleton] at h
      omega
    obtain ⟨z1, z2⟩ := zo_init hz
    rw [still_snoc, Bool.and_eq_true] at hs
    have ih := Z_gr n ys hl z1 hs.1
    have hlt := Z_lt n ys hl z1 hs.1
    have h0 := S_nonneg (f := W) (fun k => Int.le_of_lt (W_pos k)) ys 0 (zo_nonneg z1)
    rw [S_snoc, hl, List.reverse_append]
    unfold gr
    rcases z2 with rfl | rfl
    · rw [Int.zero_mul, Int.add_zero, if_neg (by omega), ih]
      rfl
    · rw [Int.one_mul, if_pos (by omega), Int.add_sub_cancel, ih]
      rfl
theorem Rw.nonneg {xs : List Int} (h : Rw xs) : ∀ x ∈ xs, 0 ≤ x := zo_nonneg h.zo
theorem Rw.top {xs : List Int} (h : Rw xs) (hne : xs ≠ []) : W (xs.length - 1) ≤ S W 0 xs := by
  obtain ⟨ys, c, rfl⟩ := snoc_of hne
  have hc : c = 1 := by
    rcases h.ba with e | e
    · simp at e
    · simpa using e
  subst hc
  have h0 := S_nonneg (f := W) (fun k => Int.le_of_lt (W_pos k)) ys 0 (zo_nonneg (zo_init h.zo).1)
  rw [S_snoc, List.length_append, List.length_singleton, Nat.add_sub_cancel]
  omega
theorem Rw.lt {xs : List Int} (h : Rw xs) : S W 0 xs < W xs.length := Z_lt _ xs rfl h.zo h.st
theorem Rw.len_le {xs ys : List Int} (hx : Rw xs) (hy : Rw ys) (e : S W 0 xs = S W 0 ys) : xs.length ≤ ys.length := by
  by_cases h0 : xs = []
  · rw [h0]
    exact Nat.zero_le _
  · have h1 := hx.top h0
    have h2 := hy.lt
    by_cases hl : xs.length ≤ ys.length
    · exact hl
    · have h3 := W_mono (i := ys.length) (j := xs.length - 1) (by omega)
      omega
/-- ONE ROW OF EACH WEIGHT -/
theorem Rw.uniq {xs ys : List Int} (hx : Rw xs) (hy : Rw ys) (e : S W 0 xs = S W 0 ys) : xs = ys := by
  have hl : xs.length = ys.length := Nat.le_antisymm (hx.len_le hy e) (hy.len_le hx e.symm)
  have h1 := Z_gr _ xs rfl hx.zo hx.st
  have h2 := Z_gr _ ys rfl hy.zo hy.st
  rw [hl, e, h2] at h1
  have h3 := congrArg List.reverse h1
  rw [List.reverse_reverse, List.reverse_reverse] at h3
  exact h3.symm
theorem gr_ok : ∀ (k : Nat) (n : Int), 0 ≤ n → n < W k → (∀ x ∈ (gr k n).reverse, x = 0 ∨ x = 1) ∧ stillB 0 (gr k n).reverse = true ∧ S W 0 (gr k n).reverse = n ∧ (0 < k → (W (k - 1) ≤ n ↔ (gr k n).reverse.getLastD 0 = 1))
  | 0, n, h0, h1 => by
    have h1 : n < 1 := h1
    have : n = 0 := by omega
    subst this
    exact ⟨fun x h => (nomatch h), rfl, rfl, fun z => (nomatch z)⟩
  | k + 1, n, h0, h1 => by
    unfold gr
    by_cases hc : W k ≤ n
    · rw [if_pos hc, List.reverse_cons]
      have hlt : n - W k < W k := by
        match k, h1, hc with
        | 0, h1, hc =>
          have h1 : n < 2 := h1
          show n - 1 < 1
          omega
        | j + 1, h1, hc =>
          have h1 : n < W j + W (j + 1) := h1
          have := W_lt j
          omega
      obtain ⟨a1, a2, a3, a4⟩ := gr_ok k (n - W k) (by omega) hlt
      have hlen : (gr k (n - W k)).reverse.length = k := by rw [List.length_reverse, gr_len]
      have hlast : (gr k (n - W k)).reverse.getLastD 0 ≤ 0 := by
        match k, h1, hc, a1, a4, hlen with
        | 0, _, _, _, _, hlen =>
          rw [List.eq_nil_of_length_eq_zero hlen]
          decide
        | j + 1, h1, hc, a1, a4, hlen =>
          obtain ⟨ys, c, e⟩ := snoc_of (xs := (gr (j + 1) (n - W (j + 1))).reverse) (by intro e; rw [e] at hlen; cases hlen)
          rw [e] at a1 a4
          rw [e]
          have h1 : n < W j + W (j + 1) := h1
          have h5 := a4 (Nat.succ_pos j)
          have h6 : ¬ W (j + 1 - 1) ≤ n - W (j + 1) := by
            show ¬ W j ≤ _
            omega
          have hc1 : c ≠ 1 := fun e => h6 (h5.mpr (by rw [e]; simp))
          rcases (zo_init a1).2 with e | e
          · rw [e]
            simp
          · exact absurd e hc1
      refine ⟨fun x hx => ?_, ?_, ?_, fun _ => ⟨fun _ => by simp, fun _ => hc⟩⟩
      · rcases List.mem_append.mp hx with h | h
        · exact a1 x h
        · exact .inr (List.mem_singleton.mp h)
      · rw [still_snoc, a2, decide_eq_false (show ¬ 0 < (gr k (n - W k)).reverse.getLastD 0 by omega)]
        rfl
      · rw [S_snoc, a3, hlen]
        omega
    · rw [if_neg hc, List.reverse_cons]
      obtain ⟨a1, a2, a3, a4⟩ := gr_ok k n h0 (by omega)
      have hlen : (gr k n).reverse.length = k := by rw [List.length_reverse, gr_len]
      refine ⟨fun x hx => ?_, ?_, ?_, fun _ => ⟨fun z => absurd z hc, fun z => ?_⟩⟩
      · rcases List.mem_append.mp hx with h | h
        · exact a1 x h
        · exact .inl (List.mem_singleton.mp h)
      · rw [still_snoc, a2]
        rfl
      · rw [S_snoc, a3]
        omega
      · simp at z
/-- the row of a number, as greed finds it -/
theorem gr_rw {k : Nat} {n : Int} (h0 : 0 ≤ n) (h1 : n < W k) (ht : 0 < k → W (k - 1) ≤ n) : Rw (gr k n).reverse ∧ S W 0 (gr k n).reverse = n := by
  obtain ⟨a1, a2, a3, a4⟩ := gr_ok k n h0 h1
  refine ⟨⟨a1, a2, ?_⟩, a3⟩
  by_cases hk : 0 < k
  · exact .inr ((a4 hk).mp (ht hk))
  · have : k = 0 := by omega
    subst this
    exact .inl rfl
theorem W_two : ∀ j : Nat, (2 : Int) ^ j ≤ W (2 * j)
  | 0 => by decide
  | j + 1 => by
    have ih := W_two j
    have h1 := W_lt (2 * j)
    show (2 : Int) ^ j * 2 ≤ W (2 * j) + W (2 * j + 1)
    omega
theorem T60_W : T60 < W 1000 := by
  have h1 := W_two 500
  have h2 : T60 < (2 : Int) ^ 500 := by decide +kernel
  exact Int.lt_of_lt_of_le h2 h1
/-- as the law asks it of a row: what stands at i, what beneath -/
theorem Rw.at {xs : List Int} (h : Rw xs) {i : Nat} {c : Int} (hi : xs[i]? = some c) : (c = 0 ∨ c = 1) ∧ c + prev xs i ≤ 1 ∧ (prev xs i = 0 ∨ prev xs i = 1) := by
  have h1 := h.zo c (List.mem_of_getElem? hi)
  have hp : prev xs i = 0 ∨ prev xs i = 1 := by
    match i with
    | 0 => exact .inl (prev_zero xs)
    | j + 1 =>
      have hj : j < xs.length := by
        have := (List.getElem?_eq_some_iff.mp hi).1
        omega
      rw [prev_succ (get_of hj)]
      exact h.zo _ (List.mem_of_getElem? (get_of hj))
  refine ⟨h1, ?_, hp⟩
  have h2 := stillB_take hi
  have h3 : stillB 0 (xs.take (i + 1)) = true := by
    cases e : stillB 0 (xs.take (i + 1)) with
    | true => rfl
    | false => exact absurd (stillB_stop _ e) (by rw [h.st]; decide)
  rw [h3] at h2
  have h4 := (Bool.and_eq_true_iff.mp h2.symm).2
  rcases h1 with e | e
  · omega
  · subst e
    rcases hp with e | e
    · omega
    · rw [e] at h4
      simp at h4
theorem Rw.end {xs : List Int} (h : Rw xs) : xs = [] ∨ prev xs xs.length = 1 := by
  unfold prev
  rw [List.take_length]
  exact h.ba
theorem Rw.nil : Rw [] := ⟨fun _ h => (nomatch h), rfl, .inl rfl⟩
theorem Rw.sm {xs : List Int} (h : Rw xs) (hl : xs.length ≤ 100000) : Sm xs := ⟨hl, fun x hx => by
  have h3 : (2 : Nat) ^ 20 ≤ 2 ^ 1000 := by decide +kernel
  have h4 : (2 : Nat) ^ 20 = 1048576 := by decide
  rcases h.zo x hx with e | e <;> omega⟩
end Sh

namespace Sh
/-! the row of a number, named -/
def top (n : Int) : Nat → Nat
  | 0 => 0
  | k + 1 => if W k ≤ n then k + 1 else top n k
theorem top_ok {n : Int} : ∀ K : Nat, n < W K → n < W (top n K) ∧ (0 < top n K → W (top n K - 1) ≤ n) ∧ top n K ≤ K
  | 0, h => ⟨h, fun z => (nomatch z), Nat.le_refl _⟩
  | k + 1, h => by
    unfold top
    by_cases hc : W k ≤ n
    · rw [if_pos hc]
      exact ⟨h, fun _ => hc, Nat.le_refl _⟩
    · rw [if_neg hc]
      obtain ⟨a, b, c⟩ := top_ok k (show n < W k by omega)
      exact ⟨a, b, by omega⟩
def rowOf (n : Int) : List Int := (gr (top n 1000) n).reverse
theorem rowOf_rw {n : Int} (h0 : 0 ≤ n) (h1 : n < W 1000) : Rw (rowOf n) := (gr_rw h0 (top_ok 1000 h1).1 (top_ok 1000 h1).2.1).1
theorem rowOf_wt {n : Int} (h0 : 0 ≤ n) (h1 : n < W 1000) : S W 0 (rowOf n) = n := (gr_rw h0 (top_ok 1000 h1).1 (top_ok 1000 h1).2.1).2
theorem rowOf_len {n : Int} (h1 : n < W 1000) : (rowOf n).length ≤ 1000 := by
  unfold rowOf
  rw [List.length_reverse, gr_len]
  exact (top_ok 1000 h1).2.2
theorem rowOf_sm {n : Int} (h0 : 0 ≤ n) (h1 : n < W 1000) : Sm (rowOf n) := (rowOf_rw h0 h1).sm (Nat.le_trans (rowOf_len h1) (by decide))
theorem rowOf_is {n : Int} (h0 : 0 ≤ n) (h1 : n < W 1000) {xs : List Int} (hR : Rw xs) (hw : S W 0 xs = n) : xs = rowOf n := hR.uniq (rowOf_rw h0 h1) (by rw [hw, rowOf_wt h0 h1])
theorem W_900 : 2 * W 900 ≤ W 1000 := by
  have h1 := W_lt 900
  have h2 : W 902 = W 900 + W 901 := rfl
  have h3 : W 902 ≤ W 1000 := W_mono (by decide)
  have h4 : W 900 < W 901 := h1
  omega
def BB : Int := W 420
theorem BB_W : BB + 100 < W 900 := by
  have h1 : ((421 : Nat) : Int) < W 421 := W_ge 421
  have h2 : W 422 = W 420 + W 421 := rfl
  have h3 : W 422 ≤ W 900 := W_mono (by decide)
  have h4 : BB = W 420 := rfl
  omega
theorem BB_0 : 0 < BB := W_pos 420
theorem BB_62 : (10 : Int) ^ (62 : Int).toNat ≤ BB := by
  have h1 := W_two 210
  have h2 : (10 : Int) ^ (62 : Int).toNat ≤ (2 : Int) ^ 210 := by decide +kernel
  exact Int.le_trans h2 h1
theorem W_BB {k : Nat} (h : k < 290) : W k ≤ BB := W_mono (by omega)
end Sh

/-! Own words over the layer for rows: chained comparisons, reversed lists, a list beside the empty one. -/
namespace Sh
open PySem PySem.Spec PyProof.Rows L2
section
variable {σ : L2.St} {H : Hp} {K : PySem.W.Frag} {ta tb tc te : TE} {D : Ends} {ts tz tu : TS} {x y w : V}
theorem xv_chain {r r' : R2} {a b : Bool} (ha : Val ta σ H x) (hb : Val tb σ H y) (hr : ∀ Q : VK, Q (.bl a) H → r x y H Q) (h2 : a = true → Val tc σ H w ∧ ∀ Q : VK, Q (.bl b) H → r' y w H Q) : Val (tChain r r' ta tb tc) σ H (.bl (a && b)) := fun Q q =>
  ha _ (hb _ (hr _ ⟨a, rfl, by
    cases a with
    | true => exact (h2 rfl).1 _ ((h2 rfl).2 _ q)
    | false => exact q⟩))
theorem xq_forRev {ta : TA} {a : Addr} {xs : List V} {j : Nat} (h : Arg ta σ H [.ref a]) (hx : SqL K H a xs) (Pv : Nat → L2.St → Hp → Prop) (h0 : Pv 0 σ H) (hq : ∀ i σ H, Pv i σ H → SqL K H a xs)
    (hs : ∀ (i : Nat) (x : V) (σ' : L2.St) (H' : Hp), i < xs.length → xs[xs.length - 1 - i]? = some x → Pv i σ' H' → ts { D with nx := Pv (i + 1), ct := Pv (i + 1), bk := tz D } (σ'.set j (some x)) H') (hd : ∀ σ' H', Pv xs.length σ' H' → tz D σ' H') :
    tSeq (tFor (iRev K ta) (gName j) ts) tz D σ H := h _ ⟨a, xs, rfl, hx, RT.for_Itv (D := { D with nx := tz D }) Pv h0 hq hs hd⟩
theorem ev_eqI {a : Addr} {ns : List Int} (ha : Evl.Ev ta σ H (.ref a)) (hS : SqL K H a (ns.map V.int)) : Evl.Ev (tOp (rEqD K) ta (tLst tNil)) σ H (.bl (decide (ns = []))) :=
  Evl.ev_opL ha (Evl.el_lst Evl.ea_nil (by decide)) (fun p H1 h1 e1 => fun H2 e2 Q q => ⟨_, _, .lst (Same.seq e2 (Same.seq e1 hS)) (dpAll_int ns), .lst (SqL.of (e2 p _ h1)) .nil, shaped_int ns, by decide +kernel, by rw [show (PyData.list []) = .list (([] : List Int).map PyData.int) from rfl, eqv_int]; exact q H2 (Evl.Ex.refl H2)⟩)
/-- is it a number from 0 to below 10 ** 60 -/
def numB : V → Bool
  | .int n => decide (0 ≤ n) && decide (n < T60)
  | _ => false
theorem numB_int {n : Int} (h0 : 0 ≤ n) (h1 : n < T60) : numB (.int n) = true := by
  show (decide (0 ≤ n) && decide (n < T60)) = true
  rw [decide_eq_true h0, decide_eq_true h1]
  rfl
theorem numB_lo {n : Int} (h0 : n < 0) : numB (.int n) = false := by
  show (decide (0 ≤ n) && decide (n < T60)) = false
  rw [decide_eq_false (by omega)]
  rfl
theorem numB_hi {n : Int} (h0 : T60 ≤ n) : numB (.int n) = false := by
  show (decide (0 ≤ n) && decide (n < T60)) = false
  rw [decide_eq_false (p := n < T60) (by omega), Bool.and_false]
/-- the kinds of things that are asked -/
def Kd (K : PySem.W.Frag) (H : Hp) (x : V) : Prop := (∃ n, x = .int n) ∨ (numB x = false ∧ (TyX K H x (.type "bool") ∨ ∃ t, TyX K H x (.type t) ∧ kitB t "int" = some false))
theorem Kd.int {n : Int} : Kd K H (.int n) := .inl ⟨n, rfl⟩
theorem Kd.bl {b : Bool} : Kd K H (.bl b) := .inr ⟨rfl, .inl (.base (.bl b))⟩
theorem Kd.str {s : Str} : Kd K H (.str s) := .inr ⟨rfl, .inr ⟨"str", .base (.str s), by decide +kernel⟩⟩
theorem Kd.non : Kd K H .non := .inr ⟨rfl, .inr ⟨"NoneType", .base .non, by decide +kernel⟩⟩
theorem Kd.lst {a : Addr} {xs : List V} (h : SqL K H a xs) : Kd K H (.ref a) := .inr ⟨rfl, .inr ⟨"list", tyx_L h, by decide +kernel⟩⟩
theorem xr_lst {Q : VK} {tr : TA} (h : tr σ H fun xs H1 => xs.length ≤ sizeLine ∧ ∀ p, H1 p = none → Q (.ref p) (upd H1 p (.lst xs))) : tLst tr σ H Q := h
theorem xr_nil {Q : List V → Hp → Prop} (h : Q [] H) : tNil σ H Q := h
theorem xr_opR {r : R2} {Q : VK} (h : ta σ H fun x H1 => tb σ H1 fun y H2 => r x y H2 Q) : tOp r ta tb σ H Q := h
end
end Sh

namespace Sh
/-! reading a text: signs by their numbers, 111 the shell, 46 the empty step -/
def bitF (c : Nat) : Int := if decide ([c] = [111]) = true then 1 else 0
def bits (kept : List Nat) : List Int := kept.map bitF
def full (kept : List Nat) : Bool := decide (kept.drop (kept.length - 1) = [111])
def rstep (s : List Int × List Nat) (c : Nat) : List Int × List Nat := if (decide ([c] = [111]) && full s.2) = true then (s.1 ++ [wt (bits s.2)], []) else (s.1, s.2 ++ [c])
def rd (kept piece : List Nat) : List Int × List Nat := piece.foldl rstep ([], kept)
def oddC (c : Nat) : Bool := !decide ([c] = [111]) && !decide ([c] = [46])
def oddB (l : List Nat) : Bool := l.any oddC
theorem full_snoc (ys : List Nat) (c : Nat) : full (ys ++ [c]) = decide ([c] = [111]) := by
  unfold full
  rw [List.length_append, List.length_singleton, Nat.add_sub_cancel, List.drop_left]
theorem full_nil : full [] = false := rfl
theorem fold_take {l : List Nat} {i c : Nat} (h : l[i]? = some c) (s : List Int × List Nat) : (l.take (i + 1)).foldl rstep s = rstep ((l.take i).foldl rstep s) c := by
  rw [take_more h, List.foldl_append]
  rfl
theorem bits_snoc (ys : List Nat) (c : Nat) : wt (bits (ys ++ [c])) = wt (bits ys) + bitF c * W ys.length := by
  unfold bits
  rw [List.map_append]
  show S W 0 (ys.map bitF ++ [bitF c]) = _
  rw [S_snoc, List.length_map]
theorem bitF_01 (c : Nat) : bitF c = 0 ∨ bitF c = 1 := by
  unfold bitF
  split
  · exact .inr rfl
  · exact .inl rfl
theorem bits_sm {kept : List Nat} (h : kept.length ≤ 100000) : Sm (bits kept) := ⟨by rw [bits, List.length_map]; exact h, fun x hx => by
  obtain ⟨c, _, rfl⟩ := List.mem_map.mp hx
  have h3 : (2 : Nat) ^ 20 ≤ 2 ^ 1000 := by decide +kernel
  have h4 : (2 : Nat) ^ 20 = 1048576 := by decide
  rcases bitF_01 c with e | e <;> omega⟩
theorem rstep_len (s : List Int × List Nat) (c : Nat) : (rstep s c).1.length ≤ s.1.length + 1 ∧ (rstep s c).2.length ≤ s.2.length + 1 := by
  unfold rstep
  split
  · rw [List.length_append]
    exact ⟨Nat.le_refl _, Nat.zero_le _⟩
  · rw [List.length_append]
    exact ⟨Nat.le_succ _, Nat.le_refl _⟩
theorem fold_len : ∀ (l : List Nat) (s : List Int × List Nat), (l.foldl rstep s).1.length ≤ s.1.length + l.length ∧ (l.foldl rstep s).2.length ≤ s.2.length + l.length
  | [], s => ⟨Nat.le_refl _, Nat.le_refl _⟩
  | c :: r, s => by
    have h1 := rstep_len s c
    have h2 := fold_len r (rstep s c)
    rw [List.foldl_cons, List.length_cons]
    omega
theorem rd_app (a b : List Nat) : rd [] (a ++ b) = b.foldl rstep (rd [] a) := List.foldl_append
/-- behind a text that is read to its end, .oo is two more -/
theorem rd_oo {l : List Nat} {ns : List Int} (h : rd [] l = (ns, [])) : rd [] (l ++ [46, 111, 111]) = (ns ++ [2], []) := by
  rw [rd_app, h]
  rfl
theorem rd_4 : rd [] [111, 46, 111, 111] = ([4], []) := by decide
theorem odd_take {l : List Nat} {i c : Nat} (h : l[i]? = some c) : oddB (l.take (i + 1)) = (oddB (l.take i) || oddC c) := by
  rw [take_more h]
  unfold oddB
  rw [List.any_append]
  simp
theorem odd_stop {l : List Nat} (i : Nat) (h : oddB (l.take i) = true) : oddB l = true := by
  unfold oddB at *
  rw [List.any_eq_true] at *
  obtain ⟨x, hx, hy⟩ := h
  exact ⟨x, List.mem_of_mem_take hx, hy⟩
theorem odd_app (a b : List Nat) : oddB (a ++ b) = (oddB a || oddB b) := List.any_append
end Sh

/-! Own words over the layer for texts: a text is told by the list of its signs' numbers. An own rule: text * int. -/
namespace Sh
open PySem PySem.Spec PyProof.Rows L2
def tx (l : List Nat) : Str := ⟨l.toArray⟩
theorem tx_cps (z : Str) : tx z.cps.toList = z := rfl
theorem tx_len (l : List Nat) : (tx l).length = l.length := List.size_toArray
theorem tx_inj {l m : List Nat} (h : tx l = tx m) : l = m := by
  have h := congrArg (fun z : Str => z.cps.toList) h
  exact h
theorem tx_app (l m : List Nat) : tx l ++ tx m = tx (l ++ m) := by
  show Str.append (tx l) (tx m) = tx (l ++ m)
  unfold Str.append tx
  congr 1
  simp
theorem tx_eq (l m : List Nat) : decide (V.str (tx l) = V.str (tx m)) = decide (l = m) := by
  by_cases h : l = m
  · subst h
    rw [decide_eq_true rfl, decide_eq_true rfl]
  · rw [decide_eq_false h, decide_eq_false (fun e => h (tx_inj (V.str.inj e)))]
/-- text * int: some text of that length -/
def rRepS : R2 := fun x y H Q => ∃ (z : Str) (i : Int), x = .str z ∧ y = .int i ∧ 0 ≤ i ∧ i ≤ 100000 ∧ z.length * i.toNat ≤ 1000000 ∧ Q (.str (tx (List.replicate i.toNat z.cps.toList).flatten)) H
theorem fold_cps (c : Array Nat) : ∀ (n : Nat) (b : Array Nat), (List.replicate n c).foldl (· ++ ·) b = (b.toList ++ (List.replicate n c.toList).flatten).toArray
  | 0, b => by simp
  | n + 1, b => by
    rw [List.replicate_succ, List.foldl_cons, fold_cps c n, List.replicate_succ, List.flatten_cons]
    simp
theorem op_repS {X : Cx} : OpR X (binaryOp .Mult) rRepS := by
  intro pins s σ H x y v u Q I left right
  rintro ⟨z, i, rfl, rfl, h0, h1, hz, q⟩
  obtain ⟨t, rfl⟩ := left
  obtain ⟨t', rfl⟩ := right
  have hl := sizeLine_eq
  have hlen : (List.replicate i.toNat z.cps.toList).flatten.length = z.length * i.toNat := by
    rw [List.length_flatten, List.map_replicate, List.sum_replicate_nat, Nat.mul_comm]
    rfl
  refine PySem.P.mul_str (by rw [decide_eq_false (by omega), decide_eq_false (by omega)]; rfl) (fun h2 _ => ?_) (fun _ _ => ?_) ?_
  · have hd : (1000000 : Int) ≤ (2 ^ 63 - 1) / i := by
      rw [Int.le_ediv_iff_mul_le (by omega)]
      have := Int.mul_le_mul_of_nonneg_left h1 (show (0 : Int) ≤ 1000000 by decide)
      omega
    have hi : 1 ≤ i.toNat := by omega
    have : z.length * 1 ≤ z.length * i.toNat := Nat.mul_le_mul_left _ hi
    omega
  · unfold Builtin.Str.tooLong
    exact decide_eq_false (by omega)
  · split
    · rename_i h2
      have : i = 0 := by omega
      subst this
      exact ⟨by decide, ⟨.str _, H, I.tok _, ⟨_, rfl⟩, q⟩⟩
    · split
      · rename_i h2 h3
        refine ⟨.str z, H, I, ⟨t, rfl⟩, ?_⟩
        have e : tx (List.replicate i.toNat z.cps.toList).flatten = z := by
          rw [Bool.or_eq_true, beq_iff_eq, beq_iff_eq] at h3
          rcases h3 with h3 | h3
          · subst h3
            show tx (List.replicate 1 z.cps.toList).flatten = z
            simp [tx]
          · have hc : z.cps.toList = [] := List.eq_nil_of_length_eq_zero h3
            have hf : (List.replicate i.toNat z.cps.toList).flatten = z.cps.toList := by
              rw [hc]
              simp
            rw [hf]
            exact tx_cps z
        rw [e] at q
        exact q
      · refine ⟨?_, ⟨.str _, H, I.tok _, ⟨_, rfl⟩, ?_⟩⟩
        · show (Array.size _) ≤ sizeLine
          rw [fold_cps, List.size_toArray, List.length_append]
          show 0 + _ ≤ _
          omega
        · rw [fold_cps]
          exact q
section
variable {σ : L2.St} {H H0 : Hp} {K : PySem.W.Frag} {ta tb tc te tl : TE} {D : Ends} {ts tz tu : TS} {to th : TO} {x y v : V}
theorem xv_addS {l m : List Nat} (ha : Val ta σ H (.str (tx l))) (hb : Val tb σ H (.str (tx m))) (hz : l.length + m.length ≤ 1000000) :
    Val (tOp (fun x y H Q => ∃ i j, x = .str i ∧ y = .str j ∧ i.length + j.length ≤ sizeLine ∧ Q (.str (i ++ j)) H) ta tb) σ H (.str (tx (l ++ m))) :=
  val_op ha hb fun Q q => ⟨_, _, rfl, rfl, by rw [tx_len, tx_len]; exact Nat.le_trans hz (by decide), by rw [tx_app]; exact q⟩
theorem xv_eqS {l m : List Nat} (ha : Val ta σ H (.str (tx l))) (hb : Val tb σ H (.str (tx m))) : Val (tOp rEq ta tb) σ H (.bl (decide (l = m))) := xv_to (xv_eq ha hb rfl) (congrArg V.bl (tx_eq l m))
theorem xv_neS {l m : List Nat} (ha : Val ta σ H (.str (tx l))) (hb : Val tb σ H (.str (tx m))) : Val (tOp rNe ta tb) σ H (.bl (!decide (l = m))) := xv_to (xv_ne ha hb rfl) (by rw [tx_eq])
theorem xv_cS {s : Str} {l : List Nat} (h : s = tx l) : Val (tC (.str s)) σ H (.str (tx l)) := xv_c (congrArg V.str h)
theorem xv_repS {l : List Nat} {i : Int} (ha : Val ta σ H (.str (tx l))) (hb : Val tb σ H (.int i)) (h0 : 0 ≤ i) (h1 : i ≤ 100000) (hz : l.length * i.toNat ≤ 1000000) : Val (tOp rRepS ta tb) σ H (.str (tx (List.replicate i.toNat l).flatten)) :=
  val_op ha hb fun Q q => ⟨_, _, rfl, rfl, h0, h1, by rw [tx_len]; exact hz, q⟩
/-- a bound of a slice -/
def Bnd (to : TO) (σ : L2.St) (H : Hp) (o : Option Int) : Prop := ∀ Q : Option Int → Hp → Prop, Q o H → to σ H Q
theorem xv_slS {l : List Nat} {lo hi : Option Int} (ha : Val ta σ H (.str (tx l))) (h1 : Bnd to σ H lo) (h2 : Bnd th σ H hi) (hz : l.length ≤ 1000000) : Val (tSl rSlS ta to th) σ H (.str (cutS (tx l) lo hi)) := fun Q q =>
  ha _ (h1 _ (h2 _ ⟨_, rfl, by rw [tx_len]; exact Nat.le_trans hz (by decide), q⟩))
theorem cut_tx (l : List Nat) (lo hi : Option Int) : cutS (tx l) lo hi = tx ((l.drop (HT.sIx l.length 0 lo)).take (HT.sIx l.length l.length hi - HT.sIx l.length 0 lo)) := by
  unfold cutS
  rw [tx_len]
  rfl
theorem cut_len (l : List Nat) (lo hi : Option Int) : ∃ m : List Nat, cutS (tx l) lo hi = tx m ∧ m.length ≤ l.length := ⟨_, cut_tx l lo hi, by
  rw [List.length_take, List.length_drop]
  omega⟩
theorem xv_ixS {l : List Nat} {i : Int} {c : Nat} (ha : Val ta σ H (.str (tx l))) (hb : Val tb σ H (.int i)) (hz : l.length ≤ 1000000) (hc : atI l i = some c) : Val (tOp rIxS ta tb) σ H (.str (tx [c])) :=
  val_op ha hb fun Q q => ⟨_, _, c, rfl, rfl, by rw [tx_len]; exact Nat.le_trans hz (by decide), hc, q⟩
theorem xv_lenS {l : List Nat} (ha : Val ta σ H (.str (tx l))) (hz : l.length ≤ 1000000) : Val (tCB (fun xs H Q => ∃ x n, xs = [x] ∧ LenV K x H n ∧ Q (.int n) H) (tCons ta tNil)) σ H (.int (l.length : Int)) := fun Q q => ha _ ⟨_, l.length, rfl, ⟨by rw [tx_len]; exact Nat.le_trans hz (by decide), (tx_len l).symm⟩, q⟩
theorem xr_callT {sp : Sp} {E : XK} {Q : VK} {tr : TA} (h : tr σ H fun vs H1 => sp (vs ++ []) H1 Q E) : tCall sp [] E tr σ H Q := h
theorem xr_consT {tr : TA} {Q : List V → Hp → Prop} (h : te σ H fun x H1 => tr σ H1 fun xs H2 => Q (x :: xs) H2) : tCons te tr σ H Q := h
theorem xr_nilT {Q : List V → Hp → Prop} (h : Q [] H) : tNil σ H Q := h
theorem xq_drop (h : te σ H fun _ H1 => tz D σ H1) : tSeq (tDrop te) tz D σ H := h
theorem xq_asgT {g : TG} (h : te σ H fun v H1 => g v σ H1 fun σ2 H2 => tz D σ2 H2) : tSeq (tAsg te g) tz D σ H := h
theorem bnd_some {i : Int} (h : Val te σ H (.int i)) : Bnd (tPart te) σ H (some i) := fun Q q => h _ ⟨i, rfl, q⟩
theorem xr_opT {r : R2} {Q : VK} (h : ta σ H fun x H1 => tb σ H1 fun y H2 => r x y H2 Q) : tOp r ta tb σ H Q := h
theorem xs_runT {i : Nat} (h : te σ H fun v H1 => D.nx (σ.set i (some v)) H1) : tAsg te (gName i) D σ H := h
theorem atI_ok {l : List Nat} {i : Int} (h0 : 0 ≤ i) (h1 : i < l.length) : ∃ c, atI l i = some c := by
  obtain ⟨n, rfl⟩ := Int.eq_ofNat_of_zero_le h0
  have hn : n < l.length := by omega
  exact ⟨l[n], atI_nat (List.getElem?_eq_getElem hn)⟩
theorem join_tx : ∀ ys : List (List Nat), Str.join (tx []) (ys.map tx) = tx ys.flatten
  | [] => rfl
  | [x] => by
    show tx x = tx (x ++ [])
    rw [List.append_nil]
  | x :: y :: r => by
    have ih := join_tx (y :: r)
    show tx x ++ tx [] ++ Str.join (tx []) ((y :: r).map tx) = tx (x ++ (y :: r).flatten)
    rw [ih, tx_app, tx_app, List.append_nil]
theorem sum_len : ∀ ys : List (List Nat), ((ys.map tx).map (·.length)).sum = ys.flatten.length
  | [] => rfl
  | x :: r => by
    show (tx x).length + ((r.map tx).map (·.length)).sum = (x ++ r.flatten).length
    rw [sum_len r, tx_len, List.length_append]
/-- ''.join(..) of a list of texts -/
theorem join_txt {s : Str} {ys : List (List Nat)} (hs : s = tx []) : Txt.join s (ys.map tx) = tx ys.flatten := by
  subst hs
  unfold Txt.join
  rw [PySem.StrLaws.glued_eq_join]
  exact join_tx ys
theorem join_sq {p : Addr} {ys : List (List Nat)} (h : SqL K H p (ys.map fun l => V.str (tx l))) : SqL K H p ((ys.map tx).map V.str) := by
  rw [List.map_map]
  exact h
theorem join_sz {s : Str} {ys : List (List Nat)} (hs : s = tx []) (hz : ys.flatten.length ≤ 1000000) : ((ys.map tx).map (·.length)).sum + (ys.map tx).length * s.length ≤ 16777216 := by
  subst hs
  rw [sum_len, tx_len, List.length_nil, Nat.mul_zero]
  omega
/-- a for over a text -/
theorem xs_forS {l : List Nat} {j : Nat} (hv : Val tl σ H (.str (tx l))) (Pv : Nat → L2.St → Hp → Prop) (h0 : Pv 0 σ H)
    (hs : ∀ (i c : Nat) (σ' : L2.St) (H' : Hp), l[i]? = some c → Pv i σ' H' → ts { D with nx := Pv (i + 1), ct := Pv (i + 1), bk := D.nx } (σ'.set j (some (.str (tx [c])))) H') (hd : ∀ σ' H', Pv l.length σ' H' → D.nx σ' H') : tFor (iStr tl) (gName j) ts D σ H :=
  hv _ ⟨tx l, rfl, for_it (walk_str (z := tx l)) Pv h0 (fun _ _ _ _ _ => trivial) (fun i x σ' H' H2 hi p y => by
    obtain ⟨rfl, c, hc, rfl⟩ := y
    have hc' : l[i]? = some c := by
      have h : (l.toArray)[i]? = some c := hc
      rw [List.getElem?_toArray] at h
      exact h
    exact hs i c σ' _ hc' p) (fun σ' H' p => hd σ' H' (by
      have e : (tx l).cps.size = l.length := List.size_toArray
      rw [e] at p
      exact p))⟩
theorem xq_forS {l : List Nat} {j : Nat} (hv : Val tl σ H (.str (tx l))) (Pv : Nat → L2.St → Hp → Prop) (h0 : Pv 0 σ H)
    (hs : ∀ (i c : Nat) (σ' : L2.St) (H' : Hp), l[i]? = some c → Pv i σ' H' → ts { D with nx := Pv (i + 1), ct := Pv (i + 1), bk := tz D } (σ'.set j (some (.str (tx [c])))) H') (hd : ∀ σ' H', Pv l.length σ' H' → tz D σ' H') : tSeq (tFor (iStr tl) (gName j) ts) tz D σ H :=
  xs_forS (D := { D with nx := tz D }) hv Pv h0 hs hd
/-- [e for c in text], e of each sign an int -/
theorem el_lcS {l : List Nat} {j : Nat} {ws : List Nat} {F : Nat → Int} (h : ∀ H1, Same H H1 → Val tl σ H1 (.str (tx l))) (hz : l.length ≤ 40000) (hw : ∀ x, wipe ((wipe σ ws).set j (some x)) ws = wipe σ ws)
    (he : ∀ c H1, Same H H1 → c ∈ l → Val te ((wipe σ ws).set j (some (.str (tx [c])))) H1 (.int (F c))) : Evl.EvL (tLc (iStr tl) (gName j) tYes te ws) σ H ((l.map F).map V.int) := fun H1 e1 Q q =>
  h H1 e1 _ ⟨tx l, rfl, fun Dl hD => lc_it (walk_str (z := tx l)) (fun i H' => Same H1 H' ∧ H' Dl = some (.lst (((l.take i).map F).map V.int))) ⟨Evl.Ex.new hD, upd_same⟩ (fun _ _ _ _ => trivial) (fun i x H' H2 hi p y => ⟨hw x, by
    obtain ⟨rfl, c, hc, rfl⟩ := y
    have hc' : l[i]? = some c := by
      have h : (l.toArray)[i]? = some c := hc
      rw [List.getElem?_toArray] at h
      exact h
    obtain ⟨p1, p2⟩ := p
    show te _ _ _
    refine he c _ (Same.trans e1 p1) (List.mem_of_getElem? hc') _ ⟨_, p2, Evl.sz_lt (by rw [List.length_map, List.length_map, List.length_take]; omega), same_mut p1 hD, ?_⟩
    have htk : l.take (i + 1) = l.take i ++ [c] := take_more hc'
    rw [upd_same, htk, List.map_append, List.map_append]
    rfl⟩) (fun H' p => by
      have e : (tx l).cps.size = l.length := List.size_toArray
      rw [e, List.take_length] at p
      exact q Dl H' hD p.1 p.2)⟩
/-- [text of x for x in a new list of ints], the texts no longer than B -/
theorem xs_lcTx {ms : List Int} {B j : Nat} {ws : List Nat} (h : Evl.EvL tl σ H (ms.map V.int)) (hz : ms.length ≤ 40000) (hw : ∀ x, wipe ((wipe σ ws).set j (some x)) ws = wipe σ ws)
    (he : ∀ x H1, Same H H1 → x ∈ ms → ∀ Q : VK, (∀ l H2, Same H1 H2 → l.length ≤ B → Q (.str (tx l)) H2) → te ((wipe σ ws).set j (some (.int x))) H1 Q) {Q : VK} (q : ∀ p (ys : List (List Nat)) H2, Same H H2 → H2 p = some (.lst (ys.map fun l => V.str (tx l))) → ys.length = ms.length → (∀ y ∈ ys, y.length ≤ B) → Q (.ref p) H2) : tLc (iList K tl) (gName j) tYes te ws σ H Q := by
  refine h H (Evl.Ex.refl H) _ fun a H1 na e1 h1 => ⟨a, rfl, ⟨_, SqL.of h1⟩, fun Dl hD => ?_⟩
  refine lc_list (xs := ms.map V.int) (fun i H' => Same H1 H' ∧ ∃ ys : List (List Nat), H' Dl = some (.lst (ys.map fun l => V.str (tx l))) ∧ ys.length = i ∧ ∀ y ∈ ys, y.length ≤ B) ⟨Evl.Ex.new hD, [], upd_same, rfl, fun _ h => nomatch h⟩ (fun i H' _ p => Same.seq p.1 (SqL.of h1)) (fun i x H' hi p => ⟨hw x, ?_⟩) (fun H' p => ?_)
  · obtain ⟨p1, ys, p2, p3, p4⟩ := p
    rw [List.getElem?_map] at hi
    obtain ⟨m, hm, rfl⟩ := Option.map_eq_some_iff.mp hi
    show te _ H' _
    have hil := (List.getElem?_eq_some_iff.mp hm).1
    refine he m H' (Same.trans e1 p1) (List.mem_of_getElem? hm) _ fun l H2 e2 hl => ?_
    refine ⟨ys.map fun l => V.str (tx l), e2 Dl _ p2, Evl.sz_lt (by rw [List.length_map]; omega), same_mut (Same.trans p1 e2) hD, ys ++ [l], by rw [upd_same, List.map_append]; rfl, by rw [List.length_append, List.length_singleton, p3], fun y hy => ?_⟩
    rcases List.mem_append.mp hy with h | h
    · exact p4 y h
    · rw [List.mem_singleton.mp h]
      exact hl
  · obtain ⟨p1, ys, p2, p3, p4⟩ := p
    rw [List.length_map] at p3
    exact q Dl ys H' (Same.trans e1 p1) p2 p3 p4
theorem flat_len {B : Nat} : ∀ ys : List (List Nat), (∀ y ∈ ys, y.length ≤ B) → ys.flatten.length ≤ ys.length * B
  | [], _ => Nat.zero_le _
  | y :: r, h => by
    have ih := flat_len r fun z hz => h z (List.mem_cons_of_mem _ hz)
    have h1 := h y List.mem_cons_self
    rw [List.flatten_cons, List.length_append, List.length_cons, Nat.add_mul]
    omega
end
end Sh

/-! An own rule of the layer: an exception that a call in a list comprehension's element lets out goes on in the def's own frame. -/
namespace Sh
open PySem PySem.Spec PyProof.Rows L2
/-- in the air, told by its traceback -/
theorem sky_flying {B B0 : Heap} {l : List Env} {a L : Addr} {Z Z0 : Obj → Prop} {h : Heap} (t : HandSPX.TracedZ h B0 a Z0 .none) (x : Sky B l a Z L h) : HandSPX.FlyingZ B l a Z h := by
  obtain ⟨oe, vs, T, oT, ts, he, _, hd, h1, _, _, hT, hdT, h3⟩ := t
  rcases x with ⟨_, _, _, oe2, vs2, he2, _, hd2, h12⟩ | fl | ⟨_, _, _, oe2, vs2, T2, oT2, ts2, he2, _, hd2, h12, _, _, hT2, hdT2, h32⟩
  · rw [he] at he2
    cases he2
    rw [hd] at hd2
    cases hd2
    rw [h1] at h12
    cases h12
  · exact fl
  · rw [he] at he2
    cases he2
    rw [hd] at hd2
    cases hd2
    rw [h1] at h12
    cases h12
    rw [hT] at hT2
    cases hT2
    rw [hdT] at hdT2
    cases hdT2
    rw [h3] at h32
    have z := Option.some.inj h32
    simp [rawInt] at z
theorem frames_sub {h h' B B' : Heap} (k : ∀ b, B.get? b = none → B'.get? b = none) (g : ∀ b o, h.get? b = some o → B.get? b = none → (∀ vs, o.data ≠ .fields vs) → ∃ o', h'.get? b = some o' ∧ o'.data = o.data) : ∀ {l : List Env}, h.FunFrames B l → h'.FunFrames B' l
  | [], _ => trivial
  | env :: rest, ⟨hk, ⟨L, o, hf, hn, ho, hd⟩, hr⟩ => by
    obtain ⟨o', ho', hd'⟩ := g L o ho hn hd
    exact ⟨hk, ⟨L, o', hf, k L hn, ho', fun vs => hd' ▸ hd vs⟩, frames_sub k g hr⟩
/-- the exception leaves the comprehension's block C: noted by the def's frame, C let go, on it goes -/
theorem comp_out {X : Cx} {W : WX} {pins : List (Addr × Obj)} {σ : L2.St} {H' : Hp} {sI s' : Shared} {B : Heap} {a C : Addr} {cls : Value} {d : Option Addr} {ce : Env} {m : Str → Option Value} (tk : Takes X W) (hs : X.stack = X.env :: X.outer) (hf : X.env.frame = some X.env.locals)
    (hce : ce.frame = X.env.frame) (hcl : ce.locals = C) (I : Inv X pins σ H' sI) (fC : FpOk X pins H' C) (nb : ∀ b o, sI.heap.get? b = some o → b ∉ frs X.stack → B.get? b = some o) (up : sI.heap.UpToSlots s'.heap) (fl : HandSPX.FlyingZ B X.stack a (Zc cls d) s'.heap)
    (hn : s'.heap.Ns C m) (na : H' a = none) (os : s'.os = sI.os) (ag : AllBare s'.gens) (w : W cls d σ H') (hC : B.get? C ≠ none) : notedBy (model X.prog X.w) X.A ce (CompFails (model X.prog X.w) X.A X.xe ce) (.ref a) s' := by
  have hfr := I.ok.frames
  rw [hs] at hfr
  rw [hs] at fl
  show wpAny _ X.A (noteFrame (.ref a) ce) _ _ s'
  rw [noteFrame_env _ hce]
  refine HandSPX.looks_onZ Zc.steady hfr hf fl fun h1 hh up1 => ?_
  refine ⟨m, by rw [hcl]; exact up1.ns hn, fun h2 m2 hn2 sb => ?_⟩
  rw [hcl] at hn2 sb
  obtain ⟨b1, b0, b2, oe, vs, T, oT, ts, he, hz, hd, ht1, hnT, hTe, hT, hdT, h3⟩ := hh
  obtain ⟨f0, f1, f2, f3, f4, f5⟩ := fC
  -- B without C
  obtain ⟨B', g1, g2⟩ := restrict B fun b => !decide (b = C)
  have gB : ∀ b o, B'.get? b = some o → B.get? b = some o ∧ b ≠ C := fun b o e => by
    by_cases hb : b = C
    · rw [g2 b (by simp [hb])] at e
      cases e
    · rw [g1 b (by simp [hb])] at e
      exact ⟨e, hb⟩
  have gN : ∀ b, B.get? b = none → B'.get? b = none := fun b e => by
    cases q : B'.get? b with
    | none => rfl
    | some o =>
      rw [(gB b o q).1] at e
      cases e
  obtain ⟨G, k1, k2⟩ := restrict sI.heap fun b => !decide (b = C)
  have kG : ∀ b o, G.get? b = some o → sI.heap.get? b = some o ∧ b ≠ C := fun b o e => by
    by_cases hb : b = C
    · rw [k2 b (by simp [hb])] at e
      cases e
    · rw [k1 b (by simp [hb])] at e
      exact ⟨e, hb⟩
  have aC : a ≠ C := fun z => hC (by rw [← z]; exact b0)
  have TC : T ≠ C := fun z => hC (by rw [← z]; exact hnT)
  have st2 : B'.StaysIn h2 := fun b o e => by
    obtain ⟨e1, e2⟩ := gB b o e
    exact (sb.2 b e2).trans (b1 b o e1)
  have fr2 : h2.FunFrames B' (X.env :: X.outer) := frames_sub (h := h1) (B := B) gN (fun b o e hBn _ => ⟨o, (sb.2 b (fun z => hC (by rw [← z]; exact hBn))).trans e, rfl⟩) b2
  have tr2 : HandSPX.TracedZ h2 B' a (Zc cls d) (rawInt X.env.locals) := ⟨oe, vs, T, oT, ts, (sb.2 a aC).trans he, hz, hd, ht1, gN T hnT, hTe, (sb.2 T TC).trans hT, hdT, h3⟩
  unfold PySem.passOn
  refine wpAny_bind (wpAny_field ((sb.2 a aC).trans he) hd ht1 ?_)
  have some_tb : (Value.ref T == Value.none) = false := by simp
  rw [some_tb, if_neg Bool.false_ne_true]
  have fin : wpAny (model X.prog X.w) X.A (setFlight (.ref a) ce.frame) (fun _ s4 => wpAny (model X.prog X.w) X.A (throw (.ref a) : Sem Value) (fun _ _ => False) X.xe s4) X.xe { s' with heap := h2 } := by
    rw [hce, hf]
    refine HandSPX.setFlight_onZ (base := B') (l := X.env :: X.outer) (Z := Zc cls d) ⟨st2, gN a b0, fr2, tr2⟩ fun h4 hh4 up4 => wpAny_throw (tk _ _ ?_)
    have J : Inv X pins σ H' { sI with heap := G, toks := sI.toks } := I.turned (t' := sI.toks) (fun b o hb e => by
      rw [k1 b (by simp [hb])]
      exact e) f0 f1 f3 f4 f5
    refine ⟨a, B', _, pins, σ, H', cls, d, rfl, J, fun b o e hb => ?_, fun b o e hnf => ?_, .inr (.inr (by rw [hs]; exact hh4)), na, os, ag, w⟩
    · obtain ⟨e1, e2⟩ := kG b o e
      rw [g1 b (by simp [e2])]
      exact nb b o e1 hb
    · obtain ⟨e1, e2⟩ := kG b o e
      obtain ⟨sl, e3⟩ := up b o e1 hnf
      obtain ⟨sl2, e4⟩ := up1 b _ e3 hnf
      obtain ⟨sl3, e5⟩ := up4 b _ ((sb.2 b e2).trans e4) hnf
      exact ⟨sl3, e5⟩
  first | exact wpAny_bind fin | exact wpAny_bind (wpAny_pure (wpAny_bind fin))
/-! ### a comprehension's block -/
/-- the block starts at s H, over the def's context X; ce is its environment, its names lie at the first free place; fp are the objects that the walk is made of -/
structure Blk (X : Cx) (pins : List (Addr × Obj)) (σ : L2.St) (s : Shared) (H : Hp) (scope : Scope) (ce : Env) (fp : List Addr) : Prop where
  out : Inv X pins σ H s
  frame : ce.frame = X.env.frame
  place : ce.locals = s.heap.objs.size
  walk : ∀ b ∈ fp, FpOk X pins H b ∧ b < s.heap.objs.size
/-- between two turns: i are done, the measure is n -/
def Betw (X : Cx) (σ : L2.St) (s : Shared) (H : Hp) (scope : Scope) (ce : Env) (fp : List Addr) (vs : List Nat) (tn : Nat → Heap → Prop) (Wd : Nat → Nat → Hp → Prop) (i n : Nat) (s' : Shared) : Prop :=
  ∃ H', Inv (X.blk s H scope ce fp) [] (wipe σ vs) H' s' ∧ tn i s'.heap ∧ (∀ b ∈ fp, H' b = none) ∧ Wd i n H'
section
variable {X : Cx} {pins pb : List (Addr × Obj)} {σ σ' σ8 : L2.St} {s s' : Shared} {H H' : Hp} {scope : Scope} {ce : Env} {fp : List Addr} {vs : List Nat} {tn : Nat → Heap → Prop} {Wd : Nat → Nat → Hp → Prop} {W : WX} {E : XK} {m i : Nat}
/-- the walk's objects are out of the block's reach -/
theorem Blk.clear (I : Inv (X.blk s H scope ce fp) [] σ' H' s') (hn : ∀ b ∈ fp, H' b = none) (b : Addr) (hb : b ∈ fp) : FpOk (X.blk s H scope ce fp) [] H' b := by
  have free := I.ok.exf b hb
  refine ⟨hn b hb, free.1, I.ok.exfs b hb, .inl hb, free.2, ?_⟩
  intro p hp
  exact (List.not_mem_nil (show p ∈ ([] : List (Addr × Obj)) from hp)).elim
/-- out of the block again, by whatever way: the def's own context, and the place of the block's names -/
theorem Blk.back (k : Blk X pins σ s H scope ce fp) (I : Inv (X.blk s H scope ce fp) pb σ' H' s') : Inv X pins σ H' s' ∧ FpOk X pins H' s.heap.objs.size ∧ ∃ m, s'.heap.Ns s.heap.objs.size m := by
  have J : Inv X pins σ H' s' := by
    refine k.out.call' (ch := fp) I.os I.base I.hok I.bare ?_
    intro b hb
    obtain ⟨⟨-, q1, -, q2, q3, q4⟩, -⟩ := k.walk b hb
    exact ⟨q2, q1, q3, q4⟩
  have gone : H' ce.locals = none := I.free
  obtain ⟨m, (hm : s'.heap.Ns ce.locals m), -⟩ := I.loc
  rw [k.place] at gone hm
  exact ⟨J, k.out.fpOk Nat.le.refl gone, m, hm⟩
/-- a turn is over -/
theorem Betw.next {P : Program} {w : World} {K : PySem.W.Frag} {tg : Expr} {J : It} {it : Addr} {h7 : Heap} (T : Turn P w K tg J fp it tn) (st : tn i h7) (hw : wipe σ8 vs = wipe σ vs) (I : Inv (X.blk s H scope ce fp) ([] ++ pinsAt fp h7) σ8 H' s') (hd : Wd i m H') : Betw X σ s H scope ce fp vs tn Wd i m s' := by
  have stays : ∀ b ∈ fp, ∀ o, h7.get? b = some o → s'.heap.get? b = some o ∧ H' b = none := by
    intro b hb o ho
    have z := I.pin (b, o) (by
      refine List.mem_append.mpr (.inr ?_)
      exact List.mem_append.mpr (.inr (mem_pinsAt hb ho)))
    exact And.intro z.1 z.2.1
  have len : (wipe σ vs).length = σ8.length := hw ▸ wipe_length σ8 vs
  refine ⟨H', Inv.weak (Inv.unpinned (pins := []) I) len ?_, T.keep i h7 _ st fun b hb o ho => (stays b hb o ho).1, ?_, hd⟩
  · intro j v e
    exact (wipe_some (hw ▸ e)).1
  · intro b hb
    obtain ⟨o, ho, -⟩ := T.obj i h7 st b hb
    exact (stays b hb o ho).2
/-- what a call in the element lets out goes on in the def's frame -/
theorem Blk.lets (k : Blk X pins σ s H scope ce fp) (tk : Takes X W) (hW : ∀ cls d σ H, E cls d H → W cls d σ H) (hs : X.stack = X.env :: X.outer) (hf : X.env.frame = some X.env.locals) :
    Passes (L2.CX X.prog X.w) ((X.blk s H scope ce fp).wish (notedBy (model X.prog X.w) X.A ce (CompFails (model X.prog X.w) X.A X.xe ce))) E := by
  intro pb σb Hb s5 u s6 I5 c
  obtain ⟨a, B, sI, pi, σi, Hi, cls, d, rfl, Ii, nb, up, sky, na, os, ag, w⟩ := XE.of_call (W := fun cls d _ H => E cls d H) I5 (fun _ _ _ h => h) c
  obtain ⟨a', B0, H0, cls0, d0, ea, fl0, -⟩ := c
  cases ea
  obtain ⟨J, fC, m, hn⟩ := k.back Ii.unwish
  have there : ∃ o, sI.heap.get? s.heap.objs.size = some o := by
    obtain ⟨o, _, _, e, _⟩ := hn
    exact ⟨o, e⟩
  obtain ⟨o, ho⟩ := there
  have new : s.heap.objs.size ∉ frs X.stack := by
    intro z
    obtain ⟨_, _, e, _⟩ := k.out.stack.mem z
    exact absurd (Heap.lt_size e) (Nat.lt_irrefl _)
  refine comp_out tk hs hf k.frame k.place J fC nb up (sky_flying fl0.2.2.2 sky) (up.ns hn) na os ag (hW _ _ _ _ w) ?_
  rw [nb _ _ ho new]
  intro z
  cases z
end
section
variable {X : Cx} {pins : List (Addr × Obj)} {σ : L2.St} {s : Shared} {H : Hp} {scope : Scope} {ce : Env} {fp : List Addr} {vs : List Nat} {tn : Nat → Heap → Prop} {Wd : Nat → Nat → Hp → Prop} {J : It} {it D : Addr} {Q : VK} {elt tg iter : Expr} {pos : Pos} {g : TG} {te : TE}
/-- the block's loop: turn by turn, to the end -/
theorem Blk.loop (k : Blk X pins σ s H scope ce fp) (calm : X.calm = true) (T : Turn X.prog X.w X.K tg J fp it tn) (pg : PG (X.blk s H scope ce fp) tg g)
    (pe : PE ((X.blk s H scope ce fp).wish (notedBy (model X.prog X.w) X.A ce (CompFails (model X.prog X.w) X.A X.xe ce))) elt te)
    (turns : ∀ i n H', Wd i n H' → (J.stop i H' ∧ Q (.ref D) H') ∨ (J.go i H' ∧ ∃ Nx : Hp → Prop, (∀ H2, Nx H2 → ∃ m, m < n ∧ Wd (i + 1) m H2) ∧ ∀ x H2, J.yld i H' x H2 → g x (wipe σ vs) H2 fun σ3 H3 => wipe σ3 vs = wipe σ vs ∧ tYes σ3 H3 fun b H4 =>
      if b = true then te σ3 H4 fun y H5 => ∃ acc, H5 D = some (.lst acc) ∧ acc.length < sizeLine ∧ Nx (upd H5 D (.lst (acc ++ [y]))) else Nx H4))
    {n : Nat} {s4 : Shared} (start : Betw X σ s H scope ce fp vs tn Wd 0 n s4) :
    codeAny (model X.prog X.w) X.A (.compLoop (.ListComp elt [⟨tg, iter, [], 0⟩] scope pos) 0 (.ref it) (.ref D) ce) (compEnds (model X.prog X.w) X.A X.xe none (EP X pins σ Q) (.ref D) ce) s4 := by
  refine compLoop_any (fun n s' => ∃ i, Betw X σ s H scope ce fp vs tn Wd i n s') ?_ n ⟨0, start⟩
  intro n s5 ⟨i, H5, I5, st5, n5, w5⟩
  have clr := Blk.clear I5 n5
  cases turns i n H5 w5 with
  | inl z =>
    refine thnF (T.done (X.blk s H scope ce fp) rfl rfl rfl calm i [] s5 _ H5 _ I5 clr st5 z.1) ?_
    intro r s6 ⟨er, I6⟩
    obtain ⟨J6, fC, m, hm⟩ := k.back I6
    rw [er]
    refine ⟨m, k.place ▸ hm, ?_⟩
    intro h2 sb
    rw [k.place] at sb
    exact ⟨.ref D, H5, J6.turned (t' := s6.toks) (fun b o hb e => (sb.2 b hb).trans e) fC.1 fC.2.1 fC.2.2.2.1 fC.2.2.2.2.1 fC.2.2.2.2.2, rfl, z.2⟩
  | inr z =>
    obtain ⟨go, Nx, less, step⟩ := z
    refine thnF (T.item (X.blk s H scope ce fp) rfl rfl rfl calm i [] s5 _ H5 _ I5 clr st5 go) ?_
    rintro r s6 ⟨u, rfl, h6⟩
    refine thnF h6 ?_
    rintro _ s7 ⟨x, H7, I7, r7, y7, st7, n7⟩
    have P7 := I7.pinned (Blk.clear I7 n7) (T.obj (i + 1) s7.heap st7)
    refine thnF (pg.run _ s7 _ H7 x u _ P7 r7 (step x H7 y7)) ?_
    rintro _ s8 ⟨σ8, H8, I8, hw, q8⟩
    refine thnF ((pts_nil (X := X.blk s H scope ce fp)).run _ s8 σ8 H8 _ I8 q8) ?_
    rintro b s9 ⟨H9, I9, q9⟩
    have over : ∀ {s' : Shared} {H' : Hp}, Inv (X.blk s H scope ce fp) ([] ++ pinsAt fp s7.heap) σ8 H' s' → Nx H' → ∃ m, m < n ∧ ∃ i, Betw X σ s H scope ce fp vs tn Wd i m s' := by
      intro s' H' I' nx
      obtain ⟨m, lt, wd⟩ := less H' nx
      exact ⟨m, lt, i + 1, Betw.next T st7 hw I' wd⟩
    by_cases hb : b = true
    · rw [if_pos hb] at q9 ⊢
      refine thn (pe.run _ s9 σ8 H9 _ (I9.wish _) q9) ?_
      rintro z s10 ⟨yv, H10, I10, r10, acc, hD, hz, nx⟩
      exact app_ok (X := X.blk s H scope ce fp) I10.unwish hD hz r10 fun s11 I11 => over I11 nx
    · rw [if_neg hb] at q9 ⊢
      exact over I9 q9
/-- [e for x in xs], where a call in e may let an exception out: E is what it may let out, W takes it -/
theorem pe_lcX {W : WX} {E : XK} {own : List (Str × Nat)} {wi : TI} (hc : X.calm = true) (hN : X.N.Nodup) (tk : Takes X W) (hW : ∀ cls d σ H, E cls d H → W cls d σ H) (hs0 : X.stack = X.env :: X.outer) (hf : X.env.frame = some X.env.locals)
    (hi : PI X tg iter wi) (ok : BlkOk X.N X.env.scope scope own)
    (hg : ∀ (s : Shared) (H : Hp) (C : Addr) (cl : List (Str × Addr)) (fp : List Addr), PG (X.blk s H scope (compEnvC scope cl C X.env) fp) tg g)
    (he : ∀ (s : Shared) (H : Hp) (C : Addr) (cl : List (Str × Addr)) (fp : List Addr) (xe : Value → Shared → Prop), Passes (L2.CX X.prog X.w) ((X.blk s H scope (compEnvC scope cl C X.env) fp).wish xe) E → PE ((X.blk s H scope (compEnvC scope cl C X.env) fp).wish xe) elt te)
    (hs : ∀ x, foldedSetIterable iter X.env x = pure x := by intro _; rfl) : PE X (.ListComp elt [⟨tg, iter, [], 0⟩] scope pos) (tLc wi g tYes te (own.map (·.2))) := by
  constructor
  intro pins s σ H Q I h
  have clos := closure_ok (scope := scope) (env := X.env) fun y hy e => I.ok.has y.1 (ok.free y hy e)
  rw [eval_ListComp]
  apply comprehension_at (use := none) rfl hs clos ok.kind
  · intro y hy e
    exact (ok.uniq y hy).trans (congrArg some e)
  refine thn (hi.run pins s σ H _ I h) fun xv s1 hx => thn hx ?_
  rintro itv s2 ⟨it, fp, tn, J, H2, rfl, I2, T, st2, f2, q⟩
  have free2 : H2 s2.heap.objs.size = none := I2.hok.fresh Nat.le.refl
  obtain ⟨Wd, ⟨m0, w0⟩, turns⟩ := q _ free2
  refine wpAny_newObj_type (newEnv_comp ?_) (Nat.zero_le _)
  -- the new list lies there
  have low : ∀ b ∈ fp, b < s2.heap.objs.size := by
    intro b hb
    obtain ⟨_, e, -⟩ := T.obj 0 _ st2 b hb
    exact Heap.lt_size e
  obtain ⟨s3, es3⟩ : ∃ s3 : Shared, s3 = { s2 with heap := s2.heap.push { cls := .type "list", data := .seq ([] : List Value).toArray } } := ⟨_, rfl⟩
  have kept : ∀ b o, s2.heap.get? b = some o → s3.heap.get? b = some o := by
    intro b o e
    rw [es3]
    exact Heap.get?_push_of_some _ e
  have I3 : Inv X pins σ (upd H2 s2.heap.objs.size (.lst [])) s3 := by
    have z := I2.laid (t' := s2.toks) (a := s2.heap.objs.size) (o := .lst []) kept Nat.le.refl ⟨Nat.zero_le _, [], 0, .nil, by rw [es3]; exact Heap.get?_push_size _ rfl⟩
    rw [es3] at z ⊢
    exact z
  have k : Blk X pins σ s3 (upd H2 s2.heap.objs.size (.lst [])) scope (compEnvC scope (cellsFrom (s3.heap.objs.size + 1) scope.names (cloFrom X.env.cells scope.names [])) s3.heap.objs.size X.env) fp := by
    refine ⟨I3, rfl, rfl, fun b hb => ?_⟩
    have lt := low b hb
    constructor
    · refine ⟨?_, (f2 b hb).2⟩
      exact (upd_ne (Nat.ne_of_lt lt)).trans (f2 b hb).1
    · rw [es3, Heap.size_push]
      exact Nat.lt_succ_of_lt lt
  have I4 := block_start I3 ok hN k.walk
  have pe := he _ _ _ _ _ _ (k.lets tk hW hs0 hf)
  have loop := fun {n : Nat} {s4 : Shared} => k.loop (pos := pos) (iter := iter) hc T (hg _ _ _ _ _) pe turns (n := n) (s4 := s4)
  have st4 : tn 0 (pushCells (s3.heap.push { cls := .type "dict", data := .dict #[] }) scope.names) := by
    refine T.keep 0 _ _ st2 fun b _ o e => ?_
    exact pushCells_keeps _ _ _ _ (Heap.get?_push_of_some _ (kept b o e))
  have go := loop ⟨_, I4, st4, fun b hb => (k.walk b hb).1.1, w0⟩
  rw [es3] at go
  exact codeAny_compStart_list go (T.self X.A 0 _ _ _ (es3 ▸ st4) go)
end
end Sh

/-! An own rule of the layer: sep.join(reversed(xs)), xs a list of texts. -/
namespace Sh
open PySem PySem.W PySem.Calls PyProof.Rows MpR
section
variable {prog : Program} {w : World}
theorem join_rev {A : Around} {s : Shared} {E : Value → Shared → Prop} {x : Str} {t : Tok} {it l : Addr} {items : Array Value} {ys : List Str} {Q : Value → Shared → Prop} (hh : A.handled = none) (hit : s.heap.IsRevIter it l ((items.size : Int) - 1)) (hl : s.heap.IsList l items) (hne : l ≠ it) (hn : items.size ≤ sizeLine)
    (hP : ∀ acc : Array Value, ItemsOf (fun i v => items[items.size - 1 - i]? = some v) acc items.size → StrsAre acc.toList ys) (hok : (ys.map (·.length)).sum + ys.length * x.length ≤ 16777216)
    (hq : ∀ (h' : Heap) (t' : Tok) (tk : Nat), (∀ b o, b ≠ it → s.heap.get? b = some o → h'.get? b = some o) → Q (.str (Txt.join x ys) t') { s with heap := h', toks := tk }) :
    wpAny (model prog w) A (call (.builtin "str.join") [.str x t, .ref it]) Q E s := by
  apply wpAny_call
  refine codeAny_call_builtin F.slot_str_join.plain F.entry_str_join (F.slot_str_join.check _ _ _ _ _ _ _ _ (typeIs_str _ _ _) (F.args_str_join_2 _ _) ?_)
  rw [join_tree_other]
  refine wpAny_bind (wpAny_typeOf hit.typeIs ?_)
  show wpAny _ A.in1 ((pyIter (.ref it)).tryCatch _ >>= fun i => collect i >>= fun vs => joinTail x vs) _ _ s
  refine wpAny_bind (wpAny_tryCatch (wpAny_pyIter_revIter hit (wpAny_bind (RT.collect_rev (A := A.in1) hh hit hl hne hn ?_))))
  intro h2 tk acc keeps all
  obtain ⟨ls, elems, rfl⟩ := strsAre_values (hP acc all)
  have short := joinOk_of hok
  have gives : Gives (joinTail x (strValues ls)) (joinMade x ls) := by
    have z := gives_joinTail x ls (by
      have y := short
      unfold JoinOk at y
      simpa using y)
    rcases ls with _ | ⟨_, _ | _⟩ <;> exact z
  rw [elems]
  exact gives prog w A (wants Q E) _ (post_join ls ⟨joinFit_length (by
    have y := short
    unfold JoinOk at y
    simpa using y), fun t2 k => hq h2 t2 k keeps⟩)
end
end Sh
namespace Sh
open PySem PySem.Spec PyProof.Rows L2
/-- sep.join(reversed(xs)) -/
def tJoinRev (K : PySem.W.Frag) (to te : TE) : TE := fun σ H Q => to σ H fun x H1 => (∃ a, x = .str a) ∧ te σ H1 fun v H2 => ∃ (a : Str) (q : Addr) (ys : List Str), x = .str a ∧ v = .ref q ∧ SqL K H2 q (ys.map V.str) ∧
  (ys.map (·.length)).sum + ys.length * a.length ≤ 16777216 ∧ Q (.str (Txt.join a ys.reverse)) H2
section
variable {X : Cx}
theorem strsAre_rev {its : List Value} : ∀ {ys : List Str}, Vals (ys.map V.str) its → ∀ {l : List Value}, l = its → StrsAre l ys
  | [], r, l, e => by
    subst e
    cases r
    exact .nil
  | y :: ys, r, l, e => by
    subst e
    cases r with
    | cons r1 r2 =>
      obtain ⟨t, rfl⟩ := r1
      exact .cons y t (strsAre_rev r2 rfl)
theorem pe_joinRev {o e : Expr} {to te : TE} {apos pos p pos2 : Pos} (hc : X.calm = true) (ho : PE X o to) (hg : Gl X "reversed") (hm : X.mg "reversed" = none) (he : PE X e te)
    (hs1 : starEach [.Call (.Name "reversed" p) [e] [] pos2] X.env = [(false, eval (.Call (.Name "reversed" p) [e] [] pos2) X.env)] := by rfl)
    (star : starEach [e] X.env = (false, eval e X.env) :: starEach [] X.env := by rfl) (base : attributeBase o "join" X.env (eval o X.env) = eval o X.env := by rfl) (line : (apos.endLine == pos.line) = true := by rfl) :
    PE X (.Call (.Attribute o "join" apos) [.Call (.Name "reversed" p) [e] [] pos2] [] pos) (tJoinRev X.K to te) := by
  constructor
  intro pins s σ H Q I h
  refine PySem.Call_method1 base hs1 line (thn (ho.run pins s σ H _ I h) ?_)
  rintro v s1 ⟨x, H1, I1, rel, ⟨a, rfl⟩, h1⟩
  have text : ∃ t, v = Value.str a t := rel
  obtain ⟨t, rfl⟩ := text
  refine ⟨"str", _, F.plainAttrs_str, F.slot_str_join, F.type_str_join, typeIs_str _ _ _, ?_, ?_⟩
  · intro _ z
    cases z
  refine Calls.callWith_builtin rfl (Calls.evalArgs_plain (Calls.spliced_cons (Call_ (ld_blt I1 hg hm PyProof.Rows.boot_reversed (PyProof.Rows.callWith_type1 (args_cons (thn (he.run pins s1 σ H1 _ I1 h1) ?_) star) star rfl)))))
  rintro u s2 ⟨w, H2, I2, r2, b, q, ys, eb, rfl, hq, hz, fin⟩
  cases eb
  cases (show u = Value.ref q from r2)
  obtain ⟨its, rv, pl, _⟩ := I2.list hq
  refine args_nil (call_reversed_list pl.isList (Calls.spliced_nil ?_))
  have lies := pl.isList
  obtain ⟨ol, hol, _⟩ := id lies
  have old := Heap.lt_size hol
  refine join_rev (s := { s2 with heap := s2.heap.push (revObj q ((its.toArray.size : Int) - 1)) }) (ys := ys.reverse) (I2.ok.hd hc) ⟨_, Heap.get?_push_size _ rfl, rfl, rfl⟩ (lies.push _) (Nat.ne_of_lt old) ?_ ?_ ?_ ?_
  · rw [List.size_toArray]
    have := rv.length
    omega
  · intro acc all
    have z := RT.vals_rev rv all
    rw [← List.map_reverse] at z
    exact strsAre_rev z rfl
  · rw [List.map_reverse, List.sum_reverse, List.length_reverse]
    exact hz
  · intro h2 t2 tk keeps
    refine ⟨.str _, H2, I2.kept (t' := tk) ?_, ⟨t2, rfl⟩, fin⟩
    intro b o e
    exact keeps b o (Nat.ne_of_lt (Heap.lt_size e)) (Heap.get?_push_of_some _ e)
end
end Sh

/-! Own words for k10: the text of a number. -/
namespace Sh
open PySem PySem.Spec PyProof.Rows L2
def sgn (b : Int) : Nat := if b = 1 then 111 else 46
theorem t_o : ("o" : Str) = tx [111] := by decide +kernel
theorem t_do : (".o" : Str) = tx [46, 111] := by decide +kernel
theorem t_d : ("." : Str) = tx [46] := by decide +kernel
theorem t_e : ("" : Str) = tx [] := by decide +kernel
theorem atI_sgn {b : Int} (h : b = 0 ∨ b = 1) : atI [46, 111] b = some (sgn b) := by
  rcases h with rfl | rfl <;> decide
theorem flat_sgn (l : List Int) : (l.map fun b => [sgn b]).flatten = l.map sgn := by
  induction l with
  | nil => rfl
  | cons a r ih =>
    rw [List.map_cons, List.flatten_cons, ih]
    rfl
def shownT (n : Int) : List Nat := (rowOf n).map sgn ++ [111]
theorem shownT_len {n : Int} (h1 : n < W 1000) : (shownT n).length ≤ 1001 := by
  unfold shownT
  rw [List.length_append, List.length_map, List.length_singleton]
  exact Nat.succ_le_succ (rowOf_len h1)
section
variable {σ : L2.St} {H H0 : Hp} {K : PySem.W.Frag} {ta tb tc te tl : TE} {D : Ends} {ts tz tu : TS} {to th : TO} {x y v : V}
/-- the kinds of things that are handed to be written -/
def Th (K : PySem.W.Frag) (H : Hp) (x : V) : Prop := (∃ n, x = .int n) ∨ (∃ b, x = .bl b) ∨ (∃ s, x = .str s) ∨ x = .non ∨ ∃ a xs, x = .ref a ∧ SqL K H a xs
theorem Th.same {H' : Hp} (e : Same H H') (h : Th K H x) : Th K H' x := by
  rcases h with h | h | h | h | ⟨a, xs, h, hs⟩
  · exact .inl h
  · exact .inr (.inl h)
  · exact .inr (.inr (.inl h))
  · exact .inr (.inr (.inr (.inl h)))
  · exact .inr (.inr (.inr (.inr ⟨a, xs, h, Same.seq e hs⟩)))
theorem Th.kd (h : Th K H x) : Kd K H x := by
  rcases h with ⟨n, rfl⟩ | ⟨n, rfl⟩ | ⟨n, rfl⟩ | rfl | ⟨a, xs, rfl, hs⟩
  · exact .int
  · exact .bl
  · exact .str
  · exact .non
  · exact .lst hs
/-- is it a number from 1 to below 10 ** 60 -/
def posB : V → Bool
  | .int n => decide (0 < n) && decide (n < T60)
  | _ => false
theorem posB_bad (h : posB x = false) : numB x = false ∨ x = .int 0 := by
  cases x with
  | int n =>
    by_cases h0 : n = 0
    · exact .inr (congrArg V.int h0)
    · left
      have h : (decide (0 < n) && decide (n < T60)) = false := h
      show (decide (0 ≤ n) && decide (n < T60)) = false
      have e : decide (0 ≤ n) = decide (0 < n) := decide_eq_decide.mpr (by omega)
      rw [e, h]
  | _ => exact .inl rfl
theorem posB_good (h : posB x = true) : ∃ n, x = .int n ∧ 0 < n ∧ n < T60 := by
  cases x with
  | int n =>
    have h : (decide (0 < n) && decide (n < T60)) = true := h
    rw [Bool.and_eq_true, decide_eq_true_eq, decide_eq_true_eq] at h
    exact ⟨n, rfl, h.1, h.2⟩
  | _ => exact nomatch h
/-- the text of a thing that is a number -/
def txt1 : V → List Nat
  | .int n => shownT n
  | _ => []
theorem txt1_len : ∀ {xs : List V}, xs.all posB = true → ∀ y ∈ xs.map txt1, y.length ≤ 1001 := fun {xs} h y hy => by
  obtain ⟨x, hx, rfl⟩ := List.mem_map.mp hy
  obtain ⟨n, rfl, _, h2⟩ := posB_good (List.all_eq_true.mp h x hx)
  exact shownT_len (Int.lt_trans h2 T60_W)
/-- [text of x for x in a new list of ints] -/
theorem el_lcF {ms : List Int} {F : Int → List Nat} {j : Nat} {ws : List Nat} (h : Evl.EvL tl σ H (ms.map V.int)) (hz : ms.length ≤ 40000) (hw : ∀ x, wipe ((wipe σ ws).set j (some x)) ws = wipe σ ws)
    (he : ∀ x H1, Same H H1 → x ∈ ms → Val te ((wipe σ ws).set j (some (.int x))) H1 (.str (tx (F x)))) : Evl.EvL (tLc (iList K tl) (gName j) tYes te ws) σ H ((ms.map F).map fun l => V.str (tx l)) := fun H0 e0 Q q => by
  refine h H0 e0 _ fun a H1 na e1 h1 => ⟨a, rfl, ⟨_, SqL.of h1⟩, fun Dl hD => ?_⟩
  refine lc_list (xs := ms.map V.int) (fun i H' => Same H1 H' ∧ H' Dl = some (.lst (((ms.take i).map F).map fun l => V.str (tx l)))) ⟨Evl.Ex.new hD, upd_same⟩ (fun i H' _ p => Same.seq p.1 (SqL.of h1)) (fun i x H' hi p => ⟨hw x, ?_⟩) (fun H' p => ?_)
  · obtain ⟨p1, p2⟩ := p
    rw [List.getElem?_map] at hi
    obtain ⟨m, hm, rfl⟩ := Option.map_eq_some_iff.mp hi
    show te _ H' _
    have hil := (List.getElem?_eq_some_iff.mp hm).1
    refine he m H' (Same.trans e0 (Same.trans e1 p1)) (List.mem_of_getElem? hm) _ ⟨_, p2, Evl.sz_lt (by rw [List.length_map, List.length_map, List.length_take]; omega), same_mut p1 hD, ?_⟩
    have htk : ms.take (i + 1) = ms.take i ++ [m] := take_more hm
    rw [upd_same, htk, List.map_append, List.map_append]
    rfl
  · obtain ⟨p1, p2⟩ := p
    rw [List.length_map, List.take_length] at p2
    exact q Dl H' (Same.free e1 hD) (Same.trans e1 p1) p2
/-- [text of x for x in a list], where an element may raise: behind it every element is a good one -/
theorem xr_lcV {a : Addr} {xs : List V} {Gd : V → Prop} {G : V → List Nat} {j : Nat} {ws : List Nat} (hv : Val tl σ H (.ref a)) (hS : SqL K H a xs) (hz : xs.length ≤ 40000) (hw : ∀ x, wipe ((wipe σ ws).set j (some x)) ws = wipe σ ws) {Q : VK}
    (he : ∀ x H1, Same H H1 → x ∈ xs → ∀ R : VK, (Gd x → ∀ H2, Same H1 H2 → R (.str (tx (G x))) H2) → te ((wipe σ ws).set j (some x)) H1 R) (q : (∀ x ∈ xs, Gd x) → ∀ p H', Same H H' → H' p = some (.lst ((xs.map G).map fun l => V.str (tx l))) → Q (.ref p) H') : tLc (iList K tl) (gName j) tYes te ws σ H Q := by
  refine hv _ ⟨a, rfl, ⟨_, hS⟩, fun Dl hD => ?_⟩
  refine lc_list (xs := xs) (fun i H' => Same H H' ∧ H' Dl = some (.lst (((xs.take i).map G).map fun l => V.str (tx l))) ∧ ∀ x ∈ xs.take i, Gd x) ⟨Evl.Ex.new hD, upd_same, fun _ h => (nomatch h)⟩ (fun i H' _ p => Same.seq p.1 hS) (fun i x H' hi p => ⟨hw x, ?_⟩) (fun H' p => ?_)
  · obtain ⟨p1, p2, p3⟩ := p
    have hil := (List.getElem?_eq_some_iff.mp hi).1
    have htk : xs.take (i + 1) = xs.take i ++ [x] := take_more hi
    show te _ H' _
    refine he x H' p1 (List.mem_of_getElem? hi) _ fun hg H2 e2 => ?_
    refine ⟨_, e2 Dl _ p2, Evl.sz_lt (by rw [List.length_map, List.length_map, List.length_take]; omega), same_mut (p1.trans e2) hD, ?_, fun y hy => ?_⟩
    · rw [upd_same, htk, List.map_append, List.map_append]
      rfl
    · rw [htk] at hy
      rcases List.mem_append.mp hy with h | h
      · exact p3 y h
      · rw [List.mem_singleton.mp h]
        exact hg
  · obtain ⟨p1, p2, p3⟩ := p
    rw [List.take_length] at p2 p3
    exact q p3 Dl H' p1 p2
/-- ''.join(a list of texts), however it came about -/
theorem to_joinQ {Q : VK} {s : Str} (h1 : Val tc σ H (.str s)) (h : te σ H fun y H2 => ∃ a p, ∃ ys : List Str, V.str s = .str a ∧ [y] = [.ref p] ∧ (SqL K H2 p (ys.map V.str) ∨ SqT K H2 p (ys.map V.str)) ∧
      (ys.map (·.length)).sum + ys.length * a.length ≤ 16777216 ∧ Q (.str (Txt.join a ys)) H2) :
    tM1 (fun x xs H Q => ∃ a p, ∃ ys : List Str, x = .str a ∧ xs = [.ref p] ∧ (SqL K H p (ys.map V.str) ∨ SqT K H p (ys.map V.str)) ∧
      (ys.map (·.length)).sum + ys.length * a.length ≤ 16777216 ∧ Q (.str (Txt.join a ys)) H) tc te σ H Q :=
  h1 _ ⟨⟨_, rfl⟩, h⟩
/-- ''.join(a new list of texts) -/
theorem to_join {ys : List (List Nat)} {Q : VK} (h1 : Val tc σ H (.str "")) (h : Evl.EvL te σ H (ys.map fun l => V.str (tx l))) (hz : ys.flatten.length ≤ 1000000) (q : ∀ H', Same H H' → Q (.str (tx ys.flatten)) H') :
    tM1 (fun x xs H Q => ∃ a p, ∃ ys : List Str, x = .str a ∧ xs = [.ref p] ∧ (SqL K H p (ys.map V.str) ∨ SqT K H p (ys.map V.str)) ∧
      (ys.map (·.length)).sum + ys.length * a.length ≤ 16777216 ∧ Q (.str (Txt.join a ys)) H) tc te σ H Q :=
  h1 _ ⟨⟨_, rfl⟩, h H (Evl.Ex.refl H) _ fun p H1 np e1 hp => ⟨_, p, ys.map tx, rfl, rfl, .inl (join_sq (SqL.of hp)), join_sz t_e hz, by
    rw [join_txt t_e]
    exact q H1 e1⟩⟩
theorem flat_one (l : List Nat) : (l.map fun c => [c]).flatten = l := by
  induction l with
  | nil => rfl
  | cons a r ih =>
    rw [List.map_cons, List.flatten_cons, ih]
    rfl
/-- ''.join(reversed(a list of signs)) -/
theorem to_joinRev {a : Addr} {zs : List Nat} {Q : VK} (h1 : Val tc σ H (.str "")) (h : Val te σ H (.ref a)) (hS : SqL K H a (zs.map fun c => V.str (tx [c]))) (hz : zs.length ≤ 1000000) (q : Q (.str (tx zs.reverse)) H) : tJoinRev K tc te σ H Q := by
  have hz2 : (zs.map fun c => [c]).flatten.length ≤ 1000000 := by
    rw [flat_one]
    exact hz
  refine h1 _ ⟨⟨_, rfl⟩, h _ ⟨_, a, (zs.map fun c => [c]).map tx, rfl, rfl, ?_, join_sz t_e hz2, ?_⟩⟩
  · rw [List.map_map, List.map_map]
    exact hS
  · rw [← List.map_reverse, join_txt t_e, ← List.map_reverse, flat_one]
    exact q
end
end Sh

/-! Own rules of the layer: o.m(e) in a try's body, where it may raise; a def that runs whatever is handled, and o.m() of it in an except suite. -/
namespace Sh
open PySem PySem.Spec PyProof.Rows L2
/-- how a method's call is evaluated, on one row -/
abbrev callsM (o : Expr) (m : Str) (apos pos : Pos) (es : List Expr) (env : Env) (pl : Sem Bool) : Sem Value :=
  eval o env >>= fun ov => standAt apos.atName >>= fun _ => holding [ov] (getMethod ov m pl) >>= fun fx => callWith pos fx.1 fx.2 (backTo pos (starEach es env)) (backToKw pos (keywordEach [] env))
section
variable {X : Cx} {Y : CXT} {k : Nat} {f C : Addr} {fd : FuncData} {ps : List Str} {sp : Sp} {m : Str} {pos apos : Pos} {e o : Expr} {es : List Expr} {ta : TE} {t : TA}
/-- o.m(e, ..), what it may let out told at the slots -/
theorem pe_methT {E : L2.St → XK} {pl : Sem Bool} (ho : PE X o ta) (c : Cls X.K C) (hm : Meth X.K C m f) (F : FnOk X.prog X.w X.K X.mg X.base Y k f fd ps sp) (hr : Room k X.A) (hb : Binds X.K fd ps []) (hx : ∀ σ, PassesAt Y X σ (E σ)) (ha : PA X (e :: es) t)
    (h1 : starEach (e :: es) X.env = (false, eval e X.env) :: starEach es X.env := by rfl) (h2 : (backTo pos (starEach es X.env)).any (·.1) = false := by rfl)
    (ht : eval (.Call (.Attribute o m apos) (e :: es) [] pos) X.env = callsM o m apos pos (e :: es) X.env pl := by rfl) : PE X (.Call (.Attribute o m apos) (e :: es) [] pos) (L2H.tMethH C m sp E ta t) := by
  constructor
  intro pins s σ H Q I h
  apply PySem.W.methodCall_KW (pl := pl) (he := ht)
  refine thn (ho.run pins s σ H _ I h) ?_
  rintro u s1 ⟨x, H1, I1, rx, a, dx, fs, rfl, ea, hl, q⟩
  cases (show u = Value.ref a from rx)
  refine getmeth_ok I1 ea c hm hl (PySem.W.callWith_K (first := [.ref a]) (h₀ := X.base) I.ok.mod.kin hm.kp (thn (ha.run pos pins s1 σ H1 _ I1 q) ?_) h1 h2)
  rintro us s2 ⟨vs, H2, I2, r, q2⟩
  exact ⟨I2.kIn, run_fnS (us := .ref a :: us) (vs := .ref a :: vs) F hr hb (hx σ) I2 (.cons rfl r) q2⟩
end
/-! ### a def that runs whatever is handled -/
structure FnQ (P : Program) (w : World) (K : PySem.W.Frag) (mg : Str → Option Value) (base : Heap) (Y : CXT) (k : Nat) (f : Addr) (fd : FuncData) (ps : List Str) (sp : Sp) : Prop where
  ln : ∀ vs H Q E, sp vs H Q E → vs.length = ps.length
  go : ∀ (A : Around) (outer : List Env) (s : Shared) (H : Hp) (args : Args) (us : List Value) (vs : List V) (Q : VK) (E : XK), L2H.RoomH k A → Env0 P w K mg base A outer s H → BindsTo s fd args (ps.zip us) → Vals vs us → sp vs H Q E →
    codeAny (model P w) A (.call (.ref f) args) (CR Y outer P w H s Q E) s
/-- its body's context: nothing is known of what is handled -/
def cxQ (Y : CXT) (P : Program) (w : World) (K : PySem.W.Frag) (mg : Str → Option Value) (base : Heap) (N : List Str) (qual : Str) (scope : Scope) (f : Addr) (cd : Value) (A : Around) (outer : List Env) (s : Shared) (H : Hp) (E : XK) : Cx :=
  { cxOf Y P w K mg base N qual scope f cd A outer s H E with calm := false }
section
variable {Y : CXT} {P : Program} {w : World} {K : PySem.W.Frag} {mg : Str → Option Value} {base : Heap} {N ps : List Str} {qual : Str} {scope : Scope} {f : Addr} {cd : Value} {A : Around} {outer : List Env} {s s1 : Shared} {H : Hp} {E : XK} {σ : L2.St}
theorem inv_q (hf : A.frames = some outer) (I : Inv (cxOf Y P w K mg base N qual scope f cd { A with handled := none } outer s H E) [] σ H s1) : Inv (cxQ Y P w K mg base N qual scope f cd A outer s H E) [] σ H s1 :=
  have k := I.ok
  ⟨⟨k.mod, k.kind, k.glob, k.blt, k.above, k.inj, k.has, k.cab, (fun z => nomatch (show false = true from z)), Around.frames_deeper hf, k.stk, k.exf, k.bs, k.bsz, k.noex, k.exfs, k.funs, k.frf⟩, I.os, I.bare, I.base, I.loc, I.cell, I.free, I.freeC, I.pin, I.hok, I.len⟩
theorem okQ {x : Str} {st : Stmt} {fd : FuncData} {k : Nat} {sp : Sp} (F : L2.Fun K x qual st f fd) (S : FnScope N ps (defScope st)) (ln : ∀ vs H Q E, sp vs H Q E → vs.length = ps.length)
    (hbody : ∀ (cd : Value) (A : Around) (outer : List Env) (s : Shared) (H : Hp) (vs : List V) (Q : VK) (E : XK), sp vs H Q E → ∃ t, PSs (cxQ Y P w K mg base N qual (defScope st) f cd A outer s H E) (defBody st) t ∧ t { nx := fun _ H' => Q .non H', rt := Q } (L2.start N vs) H) :
    FnQ P w K mg base Y (k + 1) f fd ps sp := by
  rcases F.ex with ⟨_, _, _, _, _, _, cdv, _, _, rfl, lk, hcd⟩
  constructor
  · exact ln
  intro A outer s H args us vs Q E hr e0 hb r h
  have kin : K.In s.heap := e0.mod.kin.keeps fun b o z => (e0.bs b o z).1
  have nol : s.heap.NoLimit := e0.mod.nolimit.keeps fun b o z => (e0.bs b o z).1
  have kinds : ∀ y ∈ ps.zip us, (defScope st).names.lookup y.1 = some .local ∨ ((defScope st).names.lookup y.1 = some .cell ∧ ((cellsFrom (s.heap.objs.size + 1) (defScope st).names []).lookup y.1).isSome = true) := by
    rintro ⟨n, v⟩ hy
    have z := S.par n (List.of_mem_zip hy).1
    exact z.imp (fun a => a) fun a => ⟨a, PySem.W.cellsFrom_some _ _ _ (.inl a)⟩
  refine codeAny_call_function hr.depth (kin _ _ lk) rfl S.co S.gen rfl (PySem.W.codeRec_of kin hcd) (hb _ _ _ _ (wpAny_newFunctionEnv_cells S.kind kinds ?_))
  rintro env rfl s1 x
  refine ⟨nol.keeps x.toInCall.keep, codeAny_func ?_⟩
  obtain ⟨t, ht, hq⟩ := hbody cdv A outer s H vs Q E h
  have J := inv_q e0.frames (inv_start (CX := Y) (E := E) (cd := cdv) (f := f) (qual := qual) (A := { A with handled := none }) S rfl ⟨e0.frames, e0.mod, e0.bs, e0.bsz, e0.funs, e0.frf, e0.hok, e0.bare⟩ (ln _ _ _ _ h) r x)
  refine wpAny_mono (ht.run [] s1 (L2.start N vs) H _ J hq) ?_ fun _ _ z => z
  intro fl s2 z
  cases fl with
  | next =>
    obtain ⟨σ2, H2, J2, q2⟩ := z
    exact ⟨.non, H2, J2.os, J2.bare, J2.base, J2.hok, rfl, q2⟩
  | ret u =>
    obtain ⟨v, σ2, H2, J2, rv, q2⟩ := z
    exact ⟨v, H2, J2.os, J2.bare, J2.base, J2.hok, rv, q2⟩
  | brk => exact z.elim fun _ z => z.elim fun _ z => z.2.elim
  | cont => exact z.elim fun _ z => z.elim fun _ z => z.2.elim
end
section
variable {X : Cx} {k : Nat} {f C : Addr} {fd : FuncData} {ps : List Str} {sp : Sp} {m : Str} {pos apos : Pos} {o : Expr} {ta : TE}
/-- o.m(), whatever is handled -/
theorem pe_methQ {pl : Sem Bool} (ho : PE X o ta) (c : Cls X.K C) (hm : Meth X.K C m f) (F : FnQ X.prog X.w X.K X.mg X.base CX0 k f fd ps sp) (hr : L2H.RoomH k X.A) (hb : Binds X.K fd ps [])
    (ht : eval (.Call (.Attribute o m apos) [] [] pos) X.env = callsM o m apos pos [] X.env pl := by rfl) : PE X (.Call (.Attribute o m apos) [] [] pos) (tMeth C m sp [] E0 ta tNil) := by
  constructor
  intro pins s σ H Q I h
  apply PySem.W.methodCall_KW (pl := pl) (he := ht)
  refine thn (ho.run pins s σ H _ I h) ?_
  rintro u s1 ⟨x, H1, I1, rx, a, dx, fs, rfl, ea, hl, q⟩
  cases (show u = Value.ref a from rx)
  refine getmeth_ok I1 ea c hm hl (PySem.W.callWith_K0 (first := [.ref a]) I1.kIn hm.kp ?_)
  have hlen := F.ln _ _ _ _ q
  have b := hb s1 [.ref a] I1.kIn hlen
  refine wpAny_call (codeAny_mono (F.go X.A X.stack s1 H1 ⟨[.ref a], []⟩ [.ref a] [.ref a] Q E0 hr I1.env0 b (.cons rfl .nil) q) ?_)
  intro r s2 z
  cases r with
  | error e => exact False.elim z
  | ok fl =>
    cases fl with
    | ret u => exact I1.after z
    | _ => exact False.elim z
end
theorem roomQ {k j : Nat} {A B : Around} (hr : Room k A) (hd : B.depth = A.depth := by rfl) (hu : B.units = A.units := by rfl) (h : j ≤ k := by decide) : L2H.RoomH j B := by
  have r := hr.mono h
  exact ⟨by rw [hd]; exact r.dp, by rw [hu]; exact r.un⟩
/-- o.m(e), where it may raise, in a try with two clauses -/
theorem xq_twoM {σ : L2.St} {H : Hp} {D : Ends} {tz : TS} {C : Addr} {m : Str} {sp : Sp} {ta : TE} {tr : TA} {a dx : Addr} {fs : List (Str × V)} {vs : List V} {ww : Ends → WX} (h : Val ta σ H (.ref a)) (ho : H a = some (.ins C dx fs)) (hm : fs.lookup m = none) (hg : Arg tr σ H vs)
    (q : sp (.ref a :: vs) H (fun _ H1 => tz D σ H1) (fun cls d H' => ww { D with nx := tz D } cls d σ H')) : tSeq (fun D σ H => tDrop (L2H.tMethH C m sp (WE (ww D)) ta tr) D σ H) tz D σ H :=
  h _ ⟨a, dx, fs, rfl, ho, hm, hg _ q⟩
end Sh

namespace Sh
/-! Texts of numbers: where they end, what is read of a piece. No program in sight. -/
theorem rstep_yes {a : List Int} {k : List Nat} {c : Nat} (h : (decide ([c] = [111]) && full k) = true) : rstep (a, k) c = (a ++ [wt (bits k)], []) := if_pos h
theorem rstep_no {a : List Int} {k : List Nat} {c : Nat} (h : (decide ([c] = [111]) && full k) = false) : rstep (a, k) c = (a, k ++ [c]) := if_neg (by
  show ¬ (decide ([c] = [111]) && full k) = true
  rw [h]
  decide)
theorem rd_cons (k : List Nat) (c : Nat) (r : List Nat) : rd k (c :: r) = r.foldl rstep (rstep ([], k) c) := rfl
theorem rd_from : ∀ (b : List Nat) (a : List Int) (k : List Nat), b.foldl rstep (a, k) = (a ++ (rd k b).1, (rd k b).2)
  | [], a, k => by
    show (a, k) = (a ++ [], k)
    rw [List.append_nil]
  | c :: r, a, k => by
    rw [rd_cons, List.foldl_cons]
    cases h : (decide ([c] = [111]) && full k) with
    | true =>
      rw [rstep_yes h, rstep_yes h, rd_from r, rd_from r ([] ++ [wt (bits k)]), List.append_assoc, List.nil_append]
    | false =>
      rw [rstep_no h, rstep_no h, rd_from r, rd_from r [], List.nil_append]
theorem rd_two (k a b : List Nat) : rd k (a ++ b) = ((rd k a).1 ++ (rd (rd k a).2 b).1, (rd (rd k a).2 b).2) := by
  have h : rd k (a ++ b) = b.foldl rstep (rd k a) := List.foldl_append
  rw [h, ← rd_from]
/-- what is left, the numbers told, the ends, of the first i signs -/
def Kp (l : List Nat) (i : Nat) : List Nat := (rd [] (l.take i)).2
def Nm (l : List Nat) (i : Nat) : List Int := (rd [] (l.take i)).1
def En (l : List Nat) (i : Nat) : List Nat := ((List.range i).map (· + 1)).filter fun j => decide (Kp l j = [])
section
variable {l : List Nat} {i j c : Nat}
theorem st_more (h : l[i]? = some c) : (Nm l (i + 1), Kp l (i + 1)) = rstep (Nm l i, Kp l i) c := fold_take h ([], [])
theorem Nm_zero : Nm l 0 = [] := rfl
theorem Kp_zero : Kp l 0 = [] := rfl
theorem En_zero : En l 0 = [] := rfl
theorem En_more : En l (i + 1) = En l i ++ (if Kp l (i + 1) = [] then [i + 1] else []) := by
  unfold En
  rw [List.range_succ, List.map_append, List.filter_append]
  congr 1
  show [i + 1].filter _ = _
  rw [List.filter_cons]
  by_cases h : Kp l (i + 1) = []
  · rw [if_pos (decide_eq_true h), if_pos h]
    rfl
  · rw [if_neg (by simpa using h), if_neg h]
    rfl
theorem more_yes (h : l[i]? = some c) (hb : (decide ([c] = [111]) && full (Kp l i)) = true) : Kp l (i + 1) = [] ∧ Nm l (i + 1) = Nm l i ++ [wt (bits (Kp l i))] ∧ En l (i + 1) = En l i ++ [i + 1] := by
  have e := st_more h
  rw [rstep_yes hb] at e
  have e1 := congrArg Prod.fst e
  have e2 : Kp l (i + 1) = [] := congrArg Prod.snd e
  exact ⟨e2, e1, by rw [En_more, if_pos e2]⟩
theorem more_no (h : l[i]? = some c) (hb : (decide ([c] = [111]) && full (Kp l i)) = false) : Kp l (i + 1) = Kp l i ++ [c] ∧ Nm l (i + 1) = Nm l i ∧ En l (i + 1) = En l i := by
  have e := st_more h
  rw [rstep_no hb] at e
  have e1 := congrArg Prod.fst e
  have e2 : Kp l (i + 1) = Kp l i ++ [c] := congrArg Prod.snd e
  exact ⟨e2, e1, by rw [En_more, if_neg (by rw [e2]; simp), List.append_nil]⟩
theorem En_le (h : j ∈ En l i) : j ≤ i := by
  obtain ⟨h, _⟩ := List.mem_filter.mp h
  obtain ⟨k, hk, rfl⟩ := List.mem_map.mp h
  have := List.mem_range.mp hk
  omega
theorem En_len : ∀ i, i ≤ l.length → (En l i).length = (Nm l i).length
  | 0, _ => rfl
  | i + 1, h => by
    have hc : l[i]? = some l[i] := List.getElem?_eq_getElem (by omega)
    have ih := En_len i (by omega)
    cases hb : (decide ([l[i]] = [111]) && full (Kp l i)) with
    | true =>
      obtain ⟨_, e2, e3⟩ := more_yes hc hb
      rw [e2, e3, List.length_append, List.length_append, ih]
      rfl
    | false =>
      obtain ⟨_, e2, e3⟩ := more_no hc hb
      rw [e2, e3, ih]
theorem En_mono (i : Nat) : ∀ n, ∃ R, En l (i + n) = En l i ++ R ∧ ∀ x ∈ R, i < x
  | 0 => ⟨[], by rw [List.append_nil]; rfl, fun _ h => nomatch h⟩
  | n + 1 => by
    obtain ⟨R, h1, h2⟩ := En_mono i n
    refine ⟨R ++ (if Kp l (i + n + 1) = [] then [i + n + 1] else []), ?_, fun x hx => ?_⟩
    · rw [← List.append_assoc, ← h1]
      exact En_more
    · rcases List.mem_append.mp hx with h | h
      · exact h2 x h
      · split at h
        · rw [List.mem_singleton.mp h]
          omega
        · cases h
theorem En_split (h : i ≤ j) : ∃ R, En l j = En l i ++ R ∧ ∀ x ∈ R, i < x := by
  obtain ⟨n, rfl⟩ := Nat.le.dest h
  exact En_mono i n
theorem Nm_split (h : i ≤ j) : ∃ R, Nm l j = Nm l i ++ R := by
  have e : l.take j = l.take i ++ (l.take j).drop i := by
    have h2 : l.take i = (l.take j).take i := by rw [List.take_take, Nat.min_eq_left h]
    rw [h2, List.take_append_drop]
  refine ⟨(rd (Kp l i) ((l.take j).drop i)).1, ?_⟩
  have h2 := rd_two [] (l.take i) ((l.take j).drop i)
  rw [← e] at h2
  exact congrArg Prod.fst h2
/-- which ends stand before i -/
theorem En_at {m : Nat} (h : i ≤ l.length) (hm : m < (En l l.length).length) : (En l l.length).getD m 0 ≤ i ↔ m < (En l i).length := by
  obtain ⟨R, h1, h2⟩ := En_split (l := l) h
  rw [h1] at hm ⊢
  rw [List.getD_eq_getElem?_getD]
  by_cases hc : m < (En l i).length
  · rw [List.getElem?_append_left hc, List.getElem?_eq_getElem hc]
    exact ⟨fun _ => hc, fun _ => En_le (List.getElem_mem hc)⟩
  · have hr : m - (En l i).length < R.length := by
      rw [List.length_append] at hm
      omega
    rw [List.getElem?_append_right (by omega), List.getElem?_eq_getElem hr]
    have := h2 _ (List.getElem_mem hr)
    exact ⟨fun z => absurd (show R[m - (En l i).length] ≤ i from z) (by omega), fun z => absurd z hc⟩
theorem En_cnt (h : i ≤ j) : (En l i).length ≤ (En l j).length := by
  obtain ⟨R, h1, _⟩ := En_split (l := l) h
  rw [h1, List.length_append]
  omega
/-- the last end: what is left stands behind it -/
theorem Kp_end : ∀ i, i ≤ l.length → (0 :: En l i).getD (En l i).length 0 ≤ i ∧ Kp l i = (l.take i).drop ((0 :: En l i).getD (En l i).length 0)
  | 0, _ => ⟨Nat.le_refl _, rfl⟩
  | i + 1, h => by
    have hc : l[i]? = some l[i] := List.getElem?_eq_getElem (by omega)
    have htl : (l.take i).length = i := by rw [List.length_take]; omega
    obtain ⟨h1, h2⟩ := Kp_end i (by omega)
    cases hb : (decide ([l[i]] = [111]) && full (Kp l i)) with
    | true =>
      obtain ⟨e1, _, e3⟩ := more_yes hc hb
      have e4 : (0 :: En l (i + 1)).getD (En l (i + 1)).length 0 = i + 1 := by
        rw [e3, List.getD_eq_getElem?_getD, ← List.cons_append, List.length_append, List.getElem?_append_right (by simp)]
        simp
      rw [e4, e1]
      refine ⟨Nat.le_refl _, ?_⟩
      rw [List.drop_of_length_le]
      rw [List.length_take]
      omega
    | false =>
      obtain ⟨e1, _, e3⟩ := more_no hc hb
      rw [e3]
      refine ⟨by omega, ?_⟩
      rw [e1, take_more hc, h2, List.drop_append_of_le_length (by omega)]
theorem last_same (h : i ≤ j) : (0 :: En l j).getD (En l i).length 0 = (0 :: En l i).getD (En l i).length 0 := by
  obtain ⟨R, h1, _⟩ := En_split (l := l) h
  rw [h1, List.getD_eq_getElem?_getD, List.getD_eq_getElem?_getD, ← List.cons_append, List.getElem?_append_left (by rw [List.length_cons]; omega)]
end
/-- a piece: from i to j -/
theorem piece_rd (a b r : List Nat) : rd (Kp (a ++ b ++ r) a.length) b = ((Nm (a ++ b ++ r) (a ++ b).length).drop (Nm (a ++ b ++ r) a.length).length, Kp (a ++ b ++ r) (a ++ b).length) := by
  have h1 : (a ++ b ++ r).take a.length = a := by rw [List.append_assoc, List.take_left]
  have h2 : (a ++ b ++ r).take (a ++ b).length = a ++ b := by rw [List.take_left]
  unfold Kp Nm
  rw [h1, h2, rd_two, List.drop_left]
/-! ### a number's text is read to it -/
theorem sgn_111 (b : Int) : decide ([sgn b] = [111]) = decide (b = 1) := by
  unfold sgn
  by_cases h : b = 1
  · rw [if_pos h, decide_eq_true h, decide_eq_true rfl]
  · rw [if_neg h, decide_eq_false h]
    decide
theorem full_sgn {xs : List Int} : ∀ i, i ≤ xs.length → full ((xs.take i).map sgn) = decide (prev xs i = 1)
  | 0, _ => by
    rw [prev_zero]
    rfl
  | i + 1, h => by
    have hc : xs[i]? = some xs[i] := List.getElem?_eq_getElem (by omega)
    rw [take_more hc, List.map_append, prev_succ hc]
    show full (_ ++ [sgn xs[i]]) = _
    rw [full_snoc, sgn_111]
theorem row_rd {xs : List Int} (hR : Rw xs) : ∀ i, i ≤ xs.length → rd [] ((xs.take i).map sgn) = ([], (xs.take i).map sgn)
  | 0, _ => rfl
  | i + 1, h => by
    have hc : xs[i]? = some xs[i] := List.getElem?_eq_getElem (by omega)
    have ih := row_rd hR i (by omega)
    obtain ⟨h1, h2, h3⟩ := hR.at hc
    rw [take_more hc, List.map_append, rd_app, ih]
    show rstep ([], _) (sgn xs[i]) = _
    refine rstep_no ?_
    rw [sgn_111, full_sgn i (by omega)]
    by_cases e : xs[i] = 1
    · rw [decide_eq_false (p := prev xs i = 1) (by omega), Bool.and_false]
    · rw [decide_eq_false e, Bool.false_and]
theorem bits_sgn {xs : List Int} (h : ∀ x ∈ xs, x = 0 ∨ x = 1) : bits (xs.map sgn) = xs := by
  unfold bits
  rw [List.map_map]
  refine (List.map_congr_left fun x hx => ?_).trans (List.map_id xs)
  show bitF (sgn x) = x
  unfold bitF
  rw [sgn_111]
  rcases h x hx with e | e
  · rw [e]
    rfl
  · rw [e]
    rfl
theorem row_ne {n : Int} (h0 : 0 < n) (h1 : n < W 1000) : prev (rowOf n) (rowOf n).length = 1 := by
  rcases (rowOf_rw (Int.le_of_lt h0) h1).end with e | e
  · have h := rowOf_wt (Int.le_of_lt h0) h1
    rw [e] at h
    have h : (0 : Int) = n := h
    omega
  · exact e
theorem shown_rd {n : Int} (h0 : 0 < n) (h1 : n < W 1000) : rd [] (shownT n) = ([n], []) := by
  have hR := rowOf_rw (Int.le_of_lt h0) h1
  have h := row_rd hR (rowOf n).length (Nat.le_refl _)
  have hf := full_sgn (xs := rowOf n) (rowOf n).length (Nat.le_refl _)
  rw [List.take_length] at h hf
  unfold shownT
  rw [rd_app, h]
  show rstep ([], _) 111 = _
  rw [rstep_yes (by rw [hf, row_ne h0 h1]; rfl), bits_sgn hR.zo]
  show ([S W 0 (rowOf n)], _) = _
  rw [rowOf_wt (Int.le_of_lt h0) h1]
/-- the text of numbers -/
def wrT (ns : List Int) : List Nat := (ns.map shownT).flatten
theorem wr_rd : ∀ ns : List Int, (∀ n ∈ ns, 0 < n ∧ n < W 1000) → rd [] (wrT ns) = (ns, [])
  | [], _ => rfl
  | n :: r, h => by
    have e : wrT (n :: r) = shownT n ++ wrT r := rfl
    obtain ⟨a, b⟩ := h n List.mem_cons_self
    rw [e, rd_two, shown_rd a b, wr_rd r fun m hm => h m (List.mem_cons_of_mem _ hm)]
    rfl
theorem sgn_odd (b : Int) : oddC (sgn b) = false := by
  unfold sgn
  split <;> decide
theorem wr_odd (ns : List Int) : oddB (wrT ns) = false := by
  have hs : ∀ n, oddB (shownT n) = false := fun n => by
    unfold shownT
    rw [odd_app, show oddB [111] = false by decide, Bool.or_false]
    unfold oddB
    rw [List.any_map]
    exact List.any_eq_false.mpr fun x _ => by
      show ¬ oddC (sgn x) = true
      rw [sgn_odd]
      decide
  unfold wrT oddB
  rw [List.any_flatten, List.any_map]
  exact List.any_eq_false.mpr fun x _ => by
    show ¬ oddB (shownT x) = true
    rw [hs]
    decide
theorem odd_sub {a l : List Nat} (h : oddB l = false) (hs : ∀ x ∈ a, x ∈ l) : oddB a = false := by
  unfold oddB at *
  rw [List.any_eq_false] at *
  exact fun x hx => h x (hs x hx)
theorem wr_Nm {ns : List Int} (h : ∀ n ∈ ns, 0 < n ∧ n < W 1000) : Nm (wrT ns) (wrT ns).length = ns := by
  unfold Nm
  rw [List.take_length, wr_rd ns h]
theorem wr_Kp {ns : List Int} (h : ∀ n ∈ ns, 0 < n ∧ n < W 1000) : Kp (wrT ns) (wrT ns).length = [] := by
  unfold Kp
  rw [List.take_length, wr_rd ns h]
theorem wr_En {ns : List Int} (h : ∀ n ∈ ns, 0 < n ∧ n < W 1000) : (En (wrT ns) (wrT ns).length).length = ns.length := by
  rw [En_len _ (Nat.le_refl _), wr_Nm h]
/-! ### the first .oo -/
def ooB (l : List Nat) (a : Nat) : Bool := decide ((l.drop a).take 3 = [46, 111, 111])
def fstB (f : Nat → Bool) : Nat → Nat → Option Nat
  | _, 0 => none
  | s, k + 1 => if f s = true then some s else fstB f (s + 1) k
/-- the first .oo from p on, the n places from there -/
def ooF (l : List Nat) (p n : Nat) : Option Nat := fstB (ooB l) p n
theorem fst_some {f : Nat → Bool} : ∀ {s n a : Nat}, fstB f s n = some a → f a = true ∧ s ≤ a ∧ a < s + n
  | _, 0, _, h => nomatch h
  | s, n + 1, a, h => by
    unfold fstB at h
    split at h
    · rename_i hf
      have e := Option.some.inj h
      subst e
      exact ⟨hf, Nat.le_refl _, by omega⟩
    · obtain ⟨x, y, z⟩ := fst_some h
      exact ⟨x, by omega, by omega⟩
/-- behind an .oo there is an end -/
theorem oo_end {l : List Nat} {a : Nat} (h : ooB l a = true) : a + 3 ≤ l.length ∧ Kp l (a + 3) = [] := by
  have h : (l.drop a).take 3 = [46, 111, 111] := of_decide_eq_true h
  have hl := congrArg List.length h
  rw [List.length_take, List.length_drop] at hl
  have hl : min 3 (l.length - a) = 3 := hl
  refine ⟨by omega, ?_⟩
  have e : l.take (a + 3) = l.take a ++ [46, 111, 111] := by
    rw [← h, List.take_add]
  unfold Kp
  rw [e, rd_two]
  show (rd (rd [] (l.take a)).2 [46, 111, 111]).2 = []
  generalize (rd [] (l.take a)).2 = k
  rw [rd_cons, rstep_no (by rfl), List.foldl_cons, rstep_no (by rw [full_snoc]; rfl), List.foldl_cons, rstep_yes (by rw [full_snoc]; rfl)]
  rfl
/-- read from an end on -/
theorem rd_drop {l : List Nat} {i : Nat} (hi : i ≤ l.length) (hk : Kp l i = []) : (rd [] (l.drop i)).1 = (Nm l l.length).drop (Nm l i).length ∧ (rd [] (l.drop i)).2 = Kp l l.length := by
  have h := rd_two [] (l.take i) (l.drop i)
  have hk : (rd [] (l.take i)).2 = [] := hk
  rw [List.take_append_drop, hk] at h
  unfold Nm Kp
  rw [List.take_length, h]
  exact ⟨(List.drop_left).symm, rfl⟩
theorem cnt_ge (c : Nat) : ∀ n, ((List.range n).filter fun i => decide (c ≤ i)).length = n - c
  | 0 => by simp
  | n + 1 => by
    rw [List.range_succ, List.filter_append, List.length_append, cnt_ge c n, List.filter_cons]
    by_cases h : c ≤ n
    · rw [if_pos (decide_eq_true h)]
      show n - c + 1 = _
      omega
    · rw [if_neg (by simpa using h)]
      show n - c + 0 = _
      omega
end Sh

/-! An own rule of the layer: list(reversed(xs)), xs a list. -/
namespace Sh
open PySem PySem.W PySem.Calls PyProof.Rows RT
section
variable {prog : Program} {w : World} {A : Around} {E : Value → Shared → Prop} {s : Shared} {R : Result → Shared → Prop} {it l S : Addr} {items : Array Value} {c0 : Nat}
/-- where such a run of the list's filling goes on -/
abbrev goesOn (prog : Program) (w : World) (A : Around) (R : Result → Shared → Prop) : Fin → Shared → Prop
  | .done f, s2 => R (.ok f) s2
  | .again c, s2 => c.quiet = true ∧ codeAny (model prog w) A c R s2
/-- what the list S holds in the end, the rest as it was but for the iterator -/
def Filled (S it : Addr) (items : Array Value) (h h2 : Heap) (acc : Array Value) (c : Nat) : Prop :=
  (∀ b o, b ≠ S → b ≠ it → h.get? b = some o → h2.get? b = some o) ∧ h2.get? S = some { cls := .type "list", dict := none, data := .seq acc c, slots := #[] } ∧ ItemsOf (fun i v => items[items.size - 1 - i]? = some v) acc items.size
theorem fill_rev (res : Value) (hh : A.handled = none) (hit : s.heap.IsRevIter it l ((items.size : Int) - 1)) (hl : s.heap.IsList l items) (hne : l ≠ it) (hSi : S ≠ it) (hSl : S ≠ l) (hn : items.size ≤ sizeLine) (hS : s.heap.get? S = some { cls := .type "list", data := .seq #[] c0 })
    (hR : ∀ (h2 : Heap) (tk : Nat) (acc : Array Value) (c : Nat), Filled S it items s.heap h2 acc c → R (.ok (.ret res)) { s with heap := h2, toks := tk }) :
    wpAny (model prog w) A.in1 (Builtin.List.listExtendWith (.ref S) (.ref it) res) (goesOn prog w A R) (fun e s2 => R (.error e) s2) s := by
  have walk := (Walks.listRev (A := A.in1) (prog := prog) (w := w) hh it l hne items).toS
  have apart : S ∉ [it, l] := by
    intro z
    cases List.mem_cons.mp z with
    | inl z => exact hSi z
    | inr z => exact hSl (List.mem_singleton.mp z)
  have kind := hit.typeIs
  have other : Builtin.List.listSameRef (.ref S) (.ref it) = false := by simp [Builtin.List.listSameRef, hSi]
  -- the filling itself
  have turns : codeAny (model prog w) A (.builtin "list.extend.loop" ⟨[.ref S, .ref it, res], []⟩) R s := by
    refine codeAny_extend_loopS walk hn S apart res items.size 0 s #[] c0 rfl (Nat.zero_le _) ⟨Nat.zero_le _, ?_, hl⟩ hS (ItemsOf.nil _) ?_
    · have z : ((items.size : Nat) : Int) - 1 - ((0 : Nat) : Int) = (items.size : Int) - 1 := Int.sub_zero _
      rw [z]
      exact hit
    · intro s2 acc c moved at_ all
      have z := hR s2.heap s2.toks acc c ⟨?_, at_, all⟩
      · rw [Moved.eq_with moved]
        exact z
      · intro b o nS nI e
        refine moved.heap b o ?_ e
        simp [nS, nI]
  -- how it is come to: no hint of a length
  unfold Builtin.List.listExtendWith
  apply wpAny_bind
  refine wpAny_typeOf kind ?_
  rw [other, if_neg (by decide)]
  refine wpAny_bind (wpAny_pyIter_revIter hit (wpAny_bind (wpAny_holding ?_)))
  delta Builtin.List.listLengthHint
  refine wpAny_bind (wpAny_specialOf kind nolen_lri (wpAny_bind (wpAny_specialOf kind hint_lri ?_)))
  generalize name_is : ("list_reverseiterator.__length_hint__" : String) = nm
  wp_delta
  have parts : splitId nm = some ("list_reverseiterator", "__length_hint__") := by
    rw [← name_is]
    decide +kernel
  rw [parts]
  subst name_is
  refine wpAny_bind (wpAny_isInstance (b := true) kind (by rw [isSubtype_type]; kernel_rfl) (wpAny_pure ?_))
  rw [if_neg (by decide)]
  exact wpAny_pure ⟨plainId_quiet F.plain_extend_loop _, turns⟩
theorem made_rev (hh : A.handled = none) (hit : s.heap.IsRevIter it l ((items.size : Int) - 1)) (hl : s.heap.IsList l items) (hne : l ≠ it) (hSi : S ≠ it) (hSl : S ≠ l) (hn : items.size ≤ sizeLine) (hS : s.heap.get? S = some { cls := .type "list", data := .seq #[] })
    (hR : ∀ (h2 : Heap) (tk : Nat) (acc : Array Value) (c : Nat), Filled S it items s.heap h2 acc c → R (.ok (.ret .none)) { s with heap := h2, toks := tk }) :
    wpAny (model prog w) A.in1 (Builtin.«list.__init__» ⟨[.ref S, .ref it], []⟩) (goesOn prog w A R) (fun e s2 => R (.error e) s2) s := by
  show wpAny _ _ (Builtin.List.listItems (.ref S) >>= fun old => Builtin.List.listUpdate (.ref S) (fun _ => #[]) >>= fun _ => letGo old.toList.reverse >>= fun _ => Builtin.List.listExtendWith (.ref S) (.ref it) .none) _ _ s
  have keep : ∀ b o, b ≠ S → s.heap.get? b = some o → (s.heap.update S (Obj.mapSeq (fun _ => (#[] : Array Value)))).get? b = some o := by
    intro b o nS e
    rw [Heap.get?_update_other _ _ (Ne.symm nS)]
    exact e
  obtain ⟨ol, hol, hlr⟩ := id hl
  apply wpAny_bind
  delta Builtin.List.listItems
  refine wpAny_bind (wpAny_seqItems hS rfl (wpAny_pure (wpAny_bind (m := updateSeq S fun _ => #[]) (wpAny_updateSeq hS rfl (wpAny_bind (wpAny_letGo ?_))))))
  refine fill_rev .none hh (hit.at fun o e => keep it o (Ne.symm hSi) e) ⟨ol, keep l ol (Ne.symm hSl) hol, hlr⟩ hne hSi hSl hn (Heap.get?_update_self (Obj.mapSeq fun _ => (#[] : Array Value)) hS rfl) ?_
  exact fun h2 tk acc c f => hR h2 tk acc c ⟨fun b o nS nI e => f.1 b o nS nI (keep b o nS e), f.2⟩
theorem call_listRev {Q : Value → Shared → Prop} (hh : A.handled = none) (hit : s.heap.IsRevIter it l ((items.size : Int) - 1)) (hl : s.heap.IsList l items) (hne : l ≠ it) (hn : items.size ≤ sizeLine)
    (hQ : ∀ (h2 : Heap) (tk : Nat) (acc : Array Value) (c : Nat), Filled s.heap.objs.size it items s.heap h2 acc c → Q (.ref s.heap.objs.size) { s with heap := h2, toks := tk }) : wpAny (model prog w) A (call (.type "list") [.ref it]) Q E s := by
  obtain ⟨s1, es1⟩ : ∃ s1 : Shared, s1 = { s with heap := s.heap.push { cls := .type "list", data := .seq #[] } } := ⟨_, rfl⟩
  refine callType_codes (Q₁ := fun v s2 => v = .ref s.heap.objs.size ∧ s2 = s1) F.called_list (F.typeCall_list_1 _) F.entry_list_init (code_list_new _ ⟨rfl, es1.symm⟩) ?_
  rintro v s2 ⟨rfl, e2⟩
  rw [e2]
  have more : ∀ b o, s.heap.get? b = some o → s1.heap.get? b = some o := fun b o e => by
    rw [es1]
    exact Heap.get?_push_of_some _ e
  have at_ : s1.heap.get? s.heap.objs.size = some { cls := .type "list", data := .seq #[] } := by
    rw [es1]
    exact Heap.get?_push_size _ rfl
  obtain ⟨oi, hoi, _⟩ := id hit
  obtain ⟨ol, hol, hlr⟩ := id hl
  refine ⟨⟨_, at_, rfl⟩, F.args_list_init_2 _ _, wpAny_mono (made_rev (A := A.in1) (s := s1) (prog := prog) (w := w) (R := wants (fun r s3 => r = .none ∧ Q (.ref s.heap.objs.size) s3) E) hh (hit.at fun o e => more it o e) ⟨ol, more l ol hol, hlr⟩ hne (Nat.ne_of_gt (Heap.lt_size hoi)) (Nat.ne_of_gt (Heap.lt_size hol)) hn at_ ?_) (fun fin s3 z => by
    cases fin
    all_goals exact z) fun _ _ z => z⟩
  intro h2 tk acc c f
  have z := hQ h2 tk acc c ⟨fun b o nS nI e => f.1 b o nS nI (more b o e), f.2⟩
  rw [es1]
  exact ⟨rfl, z⟩
end
end Sh
namespace Sh
open PySem PySem.Spec PyProof.Rows
open L2
theorem pe_listRev {X : Cx} {e : Expr} {te : TE} {p p2 pos pos2 : Pos} (hc : X.calm = true) (hg : Gl X "list") (hm : X.mg "list" = none) (hg2 : Gl X "reversed") (hm2 : X.mg "reversed" = none) (he : PE X e te)
    (star : starEach [e] X.env = (false, eval e X.env) :: starEach [] X.env := by rfl) (star2 : starEach [.Call (.Name "reversed" p2) [e] [] pos2] X.env = (false, eval (.Call (.Name "reversed" p2) [e] [] pos2) X.env) :: starEach [] X.env := by rfl) :
    PE X (.Call (.Name "list" p) [.Call (.Name "reversed" p2) [e] [] pos2] [] pos) (tRevL X.K te) := by
  constructor
  intro pins s σ H Q I h
  refine Call_ (ld_blt I hg hm (PyProof.Rows.boot_list) (PyProof.Rows.callWith_type1 (args_cons (Call_ (ld_blt I hg2 hm2 PyProof.Rows.boot_reversed (PyProof.Rows.callWith_type1 (args_cons (thn (he.run pins s σ H _ I h) ?_) star) star rfl))) star2) star2 rfl))
  rintro u s1 ⟨v, H1, I1, r1, a, xs, rfl, hq, q⟩
  have eu : u = Value.ref a := r1
  subst eu
  obtain ⟨its, rv, pl, hz⟩ := I1.list hq
  refine args_nil (call_reversed_list pl.isList (args_nil ?_))
  have few : its.toArray.size ≤ sizeLine := by
    rw [List.size_toArray, ← rv.length]
    exact hz
  have lies := pl.isList
  obtain ⟨ol, hol, _⟩ := id lies
  have old := Heap.lt_size hol
  refine call_listRev (s := { s1 with heap := s1.heap.push (revObj a ((its.toArray.size : Int) - 1)) }) (I1.ok.hd hc) ⟨_, Heap.get?_push_size _ rfl, rfl, rfl⟩ (lies.push _) (Nat.ne_of_lt old) few ?_
  rintro h2 tk acc c ⟨k, at_, all⟩
  have up : s1.heap.objs.size ≤ (s1.heap.push (revObj a ((its.toArray.size : Int) - 1))).objs.size := Nat.le_of_lt (Heap.lt_size (Heap.get?_push_size _ rfl))
  have lt : ∀ {b : Addr} {o : Obj}, s1.heap.get? b = some o → b < s1.heap.objs.size := fun e => Heap.lt_size e
  refine ⟨.ref _, upd H1 _ (.lst xs.reverse), I1.laid (t' := tk) (fun b o e => k b o (Nat.ne_of_lt (Nat.lt_of_lt_of_le (lt e) up)) (Nat.ne_of_lt (lt e)) (Heap.get?_push_of_some _ e)) up (show ObjOk X.prog X.w _ h2 _ (.lst xs.reverse) from ⟨by rw [List.length_reverse]; exact hz, acc.toList, c, RT.vals_rev rv all, ?_⟩), rfl, q _ (I1.hok.fresh up)⟩
  rw [Array.toArray_toList]
  exact at_
end Sh

namespace K12
open PySem PySem.Spec PyProof.Rows L2 Sh
def topS (i : Nat) : Stmt := PySem.Challenge.pw_shellstair_k12_whole_in_pieces.main.body.getD i (.Pass ⟨0, 0, 0, 0⟩)
abbrev st_weight : Stmt := topS 6
theorem sc_weight : FnScope ["heap", "total", "here", "above", "many"] ["heap"] (defScope st_weight) := ⟨rfl, rfl, rfl, by decide +kernel, rfl, by decide +kernel, by decide +kernel⟩
abbrev st_is_number : Stmt := topS 8
theorem sc_is_number : FnScope ["thing"] ["thing"] (defScope st_is_number) := ⟨rfl, rfl, rfl, by decide +kernel, rfl, by decide +kernel, by decide +kernel⟩
abbrev st_still_heap : Stmt := topS 9
theorem sc_still_heap : FnScope ["number", "worths", "here", "above", "heap", "left", "each"] ["number"] (defScope st_still_heap) := ⟨rfl, rfl, rfl, by decide +kernel, rfl, by decide +kernel, by decide +kernel⟩
abbrev st_row_of : Stmt := topS 10
theorem sc_row_of : FnScope ["number"] ["number"] (defScope st_row_of) := ⟨rfl, rfl, rfl, by decide +kernel, rfl, by decide +kernel, by decide +kernel⟩
abbrev st_shown : Stmt := topS 12
theorem sc_shown : FnScope ["number", "many"] ["number"] (defScope st_shown) := ⟨rfl, rfl, rfl, by decide +kernel, rfl, by decide +kernel, by decide +kernel⟩
abbrev st_written : Stmt := topS 13
theorem sc_written : FnScope ["numbers", "number"] ["numbers"] (defScope st_written) := ⟨rfl, rfl, rfl, by decide +kernel, rfl, by decide +kernel, by decide +kernel⟩
abbrev st_look_at : Stmt := topS 14
theorem sc_look_at : FnScope ["text", "sign"] ["text"] (defScope st_look_at) := ⟨rfl, rfl, rfl, by decide +kernel, rfl, by decide +kernel, by decide +kernel⟩
abbrev st_read_on : Stmt := topS 15
theorem sc_read_on : FnScope ["kept", "piece", "numbers", "sign", "one"] ["kept", "piece"] (defScope st_read_on) := ⟨rfl, rfl, rfl, by decide +kernel, rfl, by decide +kernel, by decide +kernel⟩
abbrev st_read : Stmt := topS 16
theorem sc_read : FnScope ["text", "numbers", "kept"] ["text"] (defScope st_read) := ⟨rfl, rfl, rfl, by decide +kernel, rfl, by decide +kernel, by decide +kernel⟩
abbrev st_in_step : Stmt := topS 17
theorem sc_in_step : FnScope ["text", "place", "at"] ["text", "place"] (defScope st_in_step) := ⟨rfl, rfl, rfl, by decide +kernel, rfl, by decide +kernel, by decide +kernel⟩
abbrev st_Reader___init : Stmt := inClass (topS 18) 0
theorem sc_Reader___init : FnScope ["self"] ["self"] (defScope st_Reader___init) := ⟨rfl, rfl, rfl, by decide +kernel, rfl, by decide +kernel, by decide +kernel⟩
abbrev st_Reader_feed : Stmt := inClass (topS 18) 1
theorem sc_Reader_feed : FnScope ["self", "piece", "numbers", "kept"] ["self", "piece"] (defScope st_Reader_feed) := ⟨rfl, rfl, rfl, by decide +kernel, rfl, by decide +kernel, by decide +kernel⟩
abbrev st_Reader_left : Stmt := inClass (topS 18) 2
theorem sc_Reader_left : FnScope ["self"] ["self"] (defScope st_Reader_left) := ⟨rfl, rfl, rfl, by decide +kernel, rfl, by decide +kernel, by decide +kernel⟩
abbrev st_l_cell : Stmt := topS 20
theorem sc_l_cell : FnScope ["_law_script", "_law_k"] ["_law_script", "_law_k"] (defScope st_l_cell) := ⟨rfl, rfl, rfl, by decide +kernel, rfl, by decide +kernel, by decide +kernel⟩
abbrev st_l_whole : Stmt := topS 21
theorem sc_l_whole : FnScope ["_law_found"] ["_law_found"] (defScope st_l_whole) := ⟨rfl, rfl, rfl, by decide +kernel, rfl, by decide +kernel, by decide +kernel⟩
abbrev st_l_alike : Stmt := topS 22
theorem sc_l_alike : FnScope ["_law_found", "_law_due", "_law_k"] ["_law_found", "_law_due"] (defScope st_l_alike) := ⟨rfl, rfl, rfl, by decide +kernel, rfl, by decide +kernel, by decide +kernel⟩
abbrev st_l_ends : Stmt := topS 23
theorem sc_l_ends : FnScope ["_law_text", "_law_ends_here", "_law_full", "_law_at"] ["_law_text"] (defScope st_l_ends) := ⟨rfl, rfl, rfl, by decide +kernel, rfl, by decide +kernel, by decide +kernel⟩
abbrev st_l_pieces : Stmt := topS 24
theorem sc_l_pieces : FnScope ["_law_script", "_law_text", "_law_pieces_here", "_law_place", "_law_cell_here", "_law_many"] ["_law_script", "_law_text"] (defScope st_l_pieces) := ⟨rfl, rfl, rfl, by decide +kernel, rfl, by decide +kernel, by decide +kernel⟩
abbrev st_l_refused : Stmt := topS 25
theorem sc_l_refused : FnScope ["_law_reader", "_law_piece", "_law_script", "_law_place", "_law_sign", "_law_ahead", "e"] ["_law_reader", "_law_piece", "_law_script"] (defScope st_l_refused) := ⟨rfl, rfl, rfl, by decide +kernel, rfl, by decide +kernel, by decide +kernel⟩
abbrev st_l_fed : Stmt := topS 26
theorem sc_l_fed : FnScope ["_law_script", "_law_text", "_law_numbers", "_law_reader", "_law_ends_here", "_law_pieces_here", "_law_odd", "_law_held_here", "_law_place", "_law_many", "_law_k", "_law_first", "_law_told", "_law_left", "_law_again"] ["_law_script", "_law_text", "_law_numbers"] (defScope st_l_fed) := ⟨rfl, rfl, rfl, by decide +kernel, rfl, by decide +kernel, by decide +kernel⟩
abbrev st_l_held : Stmt := topS 27
theorem sc_l_held : FnScope ["_law_held_here", "_law_numbers", "_law_told", "_law_k"] ["_law_held_here", "_law_numbers"] (defScope st_l_held) := ⟨rfl, rfl, rfl, by decide +kernel, rfl, by decide +kernel, by decide +kernel⟩
abbrev st_l_behind : Stmt := topS 28
theorem sc_l_behind : FnScope ["_law_text", "_law_place", "_law_due", "_law_at"] ["_law_text", "_law_place"] (defScope st_l_behind) := ⟨rfl, rfl, rfl, by decide +kernel, rfl, by decide +kernel, by decide +kernel⟩
abbrev st_l_in_step : Stmt := topS 29
theorem sc_l_in_step : FnScope ["_law_text", "_law_place", "_law_due", "_law_found"] ["_law_text", "_law_place"] (defScope st_l_in_step) := ⟨rfl, rfl, rfl, by decide +kernel, rfl, by decide +kernel, by decide +kernel⟩
abbrev st_l_stepped : Stmt := topS 30
theorem sc_l_stepped : FnScope ["_law_text", "_law_numbers", "_law_place", "_law_due", "_law_many", "_law_end"] ["_law_text", "_law_numbers", "_law_place"] (defScope st_l_stepped) := ⟨rfl, rfl, rfl, by decide +kernel, rfl, by decide +kernel, by decide +kernel⟩
abbrev st_law : Stmt := topS 31
theorem sc_law : FnScope ["_law_script", "_law_size", "_law_numbers", "_law_turned", "_law_text", "_law_held_here", "_law_other", "_law_place", "_law_loose", "_law_cell_here"] ["_law_script"] (defScope st_law) := ⟨rfl, rfl, rfl, by decide +kernel, rfl, by decide +kernel, by decide +kernel⟩
/-- what the top has written -/
structure Txt (K : PySem.W.Frag) (mg : Str → Option Value) where
  C_StairError : Addr
  g_StairError : mg "StairError" = some (.ref C_StairError)
  k_StairError : PySem.W.keepIn K (.ref C_StairError) = true
  x_StairError : PySem.W.excIn K C_StairError [.type "ValueError", .type "Exception", .type "BaseException", .type "object"] "ValueError.__new__" = true
  xb_StairError : PySem.W.subIn K (.ref C_StairError) (.type "BaseException") = some true
  xt_StairError : PySem.W.typeIn K (.ref C_StairError) = some (.type "type")
  C_NoNumber : Addr
  g_NoNumber : mg "NoNumber" = some (.ref C_NoNumber)
  k_NoNumber : PySem.W.keepIn K (.ref C_NoNumber) = true
  x_NoNumber : PySem.W.excIn K C_NoNumber [.type "ValueError", .type "Exception", .type "BaseException", .type "object"] "ValueError.__new__" = true
  xb_NoNumber : PySem.W.subIn K (.ref C_NoNumber) (.type "BaseException") = some true
  xt_NoNumber : PySem.W.typeIn K (.ref C_NoNumber) = some (.type "type")
  C_NoSign : Addr
  g_NoSign : mg "NoSign" = some (.ref C_NoSign)
  k_NoSign : PySem.W.keepIn K (.ref C_NoSign) = true
  x_NoSign : PySem.W.excIn K C_NoSign [.type "ValueError", .type "Exception", .type "BaseException", .type "object"] "ValueError.__new__" = true
  xb_NoSign : PySem.W.subIn K (.ref C_NoSign) (.type "BaseException") = some true
  xt_NoSign : PySem.W.typeIn K (.ref C_NoSign) = some (.type "type")
  C_NoEnd : Addr
  g_NoEnd : mg "NoEnd" = some (.ref C_NoEnd)
  k_NoEnd : PySem.W.keepIn K (.ref C_NoEnd) = true
  x_NoEnd : PySem.W.excIn K C_NoEnd [.type "ValueError", .type "Exception", .type "BaseException", .type "object"] "ValueError.__new__" = true
  xb_NoEnd : PySem.W.subIn K (.ref C_NoEnd) (.type "BaseException") = some true
  xt_NoEnd : PySem.W.typeIn K (.ref C_NoEnd) = some (.type "type")
  C_Reader : Addr
  g_Reader : mg "Reader" = some (.ref C_Reader)
  f_weight : Addr
  d_weight : FuncData
  F_weight : Fun K "weight" "weight" st_weight f_weight d_weight
  g_weight : mg "weight" = some (.ref f_weight)
  b_weight : Binds K d_weight ["heap"] []
  f_is_number : Addr
  d_is_number : FuncData
  F_is_number : Fun K "is_number" "is_number" st_is_number f_is_number d_is_number
  g_is_number : mg "is_number" = some (.ref f_is_number)
  b_is_number : Binds K d_is_number ["thing"] []
  f_still_heap : Addr
  d_still_heap : FuncData
  F_still_heap : Fun K "still_heap" "still_heap" st_still_heap f_still_heap d_still_heap
  g_still_heap : mg "still_heap" = some (.ref f_still_heap)
  b_still_heap : Binds K d_still_heap ["number"] []
  f_row_of : Addr
  d_row_of : FuncData
  F_row_of : Fun K "row_of" "row_of" st_row_of f_row_of d_row_of
  g_row_of : mg "row_of" = some (.ref f_row_of)
  b_row_of : Binds K d_row_of ["number"] []
  f_shown : Addr
  d_shown : FuncData
  F_shown : Fun K "shown" "shown" st_shown f_shown d_shown
  g_shown : mg "shown" = some (.ref f_shown)
  b_shown : Binds K d_shown ["number"] []
  f_written : Addr
  d_written : FuncData
  F_written : Fun K "written" "written" st_written f_written d_written
  g_written : mg "written" = some (.ref f_written)
  b_written : Binds K d_written ["numbers"] []
  f_look_at : Addr
  d_look_at : FuncData
  F_look_at : Fun K "look_at" "look_at" st_look_at f_look_at d_look_at
  g_look_at : mg "look_at" = some (.ref f_look_at)
  b_look_at : Binds K d_look_at ["text"] []
  f_read_on : Addr
  d_read_on : FuncData
  F_read_on : Fun K "read_on" "read_on" st_read_on f_read_on d_read_on
  g_read_on : mg "read_on" = some (.ref f_read_on)
  b_read_on : Binds K d_read_on ["kept", "piece"] []
  f_read : Addr
  d_read : FuncData
  F_read : Fun K "read" "read" st_read f_read d_read
  g_read : mg "read" = some (.ref f_read)
  b_read : Binds K d_read ["text"] []
  f_in_step : Addr
  d_in_step : FuncData
  F_in_step : Fun K "in_step" "in_step" st_in_step f_in_step d_in_step
  g_in_step : mg "in_step" = some (.ref f_in_step)
  b_in_step : Binds K d_in_step ["text", "place"] []
  f_Reader___init : Addr
  d_Reader___init : FuncData
  F_Reader___init : Fun K "__init__" "Reader.__init__" st_Reader___init f_Reader___init d_Reader___init
  b_Reader___init : Binds K d_Reader___init ["self"] []
  f_Reader_feed : Addr
  d_Reader_feed : FuncData
  F_Reader_feed : Fun K "feed" "Reader.feed" st_Reader_feed f_Reader_feed d_Reader_feed
  b_Reader_feed : Binds K d_Reader_feed ["self", "piece"] []
  f_Reader_left : Addr
  d_Reader_left : FuncData
  F_Reader_left : Fun K "left" "Reader.left" st_Reader_left f_Reader_left d_Reader_left
  b_Reader_left : Binds K d_Reader_left ["self"] []
  f_l_cell : Addr
  d_l_cell : FuncData
  F_l_cell : Fun K "_law_cell" "_law_cell" st_l_cell f_l_cell d_l_cell
  g_l_cell : mg "_law_cell" = some (.ref f_l_cell)
  b_l_cell : Binds K d_l_cell ["_law_script", "_law_k"] []
  f_l_whole : Addr
  d_l_whole : FuncData
  F_l_whole : Fun K "_law_whole" "_law_whole" st_l_whole f_l_whole d_l_whole
  g_l_whole : mg "_law_whole" = some (.ref f_l_whole)
  b_l_whole : Binds K d_l_whole ["_law_found"] []
  f_l_alike : Addr
  d_l_alike : FuncData
  F_l_alike : Fun K "_law_alike" "_law_alike" st_l_alike f_l_alike d_l_alike
  g_l_alike : mg "_law_alike" = some (.ref f_l_alike)
  b_l_alike : Binds K d_l_alike ["_law_found", "_law_due"] []
  f_l_ends : Addr
  d_l_ends : FuncData
  F_l_ends : Fun K "_law_ends" "_law_ends" st_l_ends f_l_ends d_l_ends
  g_l_ends : mg "_law_ends" = some (.ref f_l_ends)
  b_l_ends : Binds K d_l_ends ["_law_text"] []
  f_l_pieces : Addr
  d_l_pieces : FuncData
  F_l_pieces : Fun K "_law_pieces" "_law_pieces" st_l_pieces f_l_pieces d_l_pieces
  g_l_pieces : mg "_law_pieces" = some (.ref f_l_pieces)
  b_l_pieces : Binds K d_l_pieces ["_law_script", "_law_text"] []
  f_l_refused : Addr
  d_l_refused : FuncData
  F_l_refused : Fun K "_law_refused" "_law_refused" st_l_refused f_l_refused d_l_refused
  g_l_refused : mg "_law_refused" = some (.ref f_l_refused)
  b_l_refused : Binds K d_l_refused ["_law_reader", "_law_piece", "_law_script"] []
  f_l_fed : Addr
  d_l_fed : FuncData
  F_l_fed : Fun K "_law_fed" "_law_fed" st_l_fed f_l_fed d_l_fed
  g_l_fed : mg "_law_fed" = some (.ref f_l_fed)
  b_l_fed : Binds K d_l_fed ["_law_script", "_law_text", "_law_numbers"] []
  f_l_held : Addr
  d_l_held : FuncData
  F_l_held : Fun K "_law_held" "_law_held" st_l_held f_l_held d_l_held
  g_l_held : mg "_law_held" = some (.ref f_l_held)
  b_l_held : Binds K d_l_held ["_law_held_here", "_law_numbers"] []
  f_l_behind : Addr
  d_l_behind : FuncData
  F_l_behind : Fun K "_law_behind" "_law_behind" st_l_behind f_l_behind d_l_behind
  g_l_behind : mg "_law_behind" = some (.ref f_l_behind)
  b_l_behind : Binds K d_l_behind ["_law_text", "_law_place"] []
  f_l_in_step : Addr
  d_l_in_step : FuncData
  F_l_in_step : Fun K "_law_in_step" "_law_in_step" st_l_in_step f_l_in_step d_l_in_step
  g_l_in_step : mg "_law_in_step" = some (.ref f_l_in_step)
  b_l_in_step : Binds K d_l_in_step ["_law_text", "_law_place"] []
  f_l_stepped : Addr
  d_l_stepped : FuncData
  F_l_stepped : Fun K "_law_stepped" "_law_stepped" st_l_stepped f_l_stepped d_l_stepped
  g_l_stepped : mg "_law_stepped" = some (.ref f_l_stepped)
  b_l_stepped : Binds K d_l_stepped ["_law_text", "_law_numbers", "_law_place"] []
  f_law : Addr
  d_law : FuncData
  F_law : Fun K "law" "law" st_law f_law d_law
  g_law : mg "law" = some (.ref f_law)
  b_law : Binds K d_law ["_law_script"] []
  c_Reader : Cls K C_Reader
  M_Reader : Mk K C_Reader f_Reader___init
  me_Reader_feed : Meth K C_Reader "feed" f_Reader_feed
  me_Reader_left : Meth K C_Reader "left" f_Reader_left
  n_Reader_kept : NoAttr K C_Reader "kept"
  eg_NoNumber : PySem.W.findIn K (.ref C_NoNumber) "__getattribute__" = some (some (.builtin "BaseException.__getattribute__"))
  ek_NoNumber : PySem.W.findIn K (.ref C_NoNumber) "__getattr__" = some none
  ea_NoNumber : PySem.W.findIn K (.ref C_NoNumber) "__class__" = some (some (.builtin "object.__class__"))
  ed_NoNumber : PySem.W.hasDictIn K C_NoNumber = true
  em_NoNumber : PySem.W.mroIn K C_NoNumber (.type "object") = some true
  i_NoNumber_StairError : PySem.W.kitOne K (.ref C_NoNumber) (.ref C_StairError) = some true
  i_NoNumber_NoNumber : PySem.W.kitOne K (.ref C_NoNumber) (.ref C_NoNumber) = some true
  i_NoNumber_NoSign : PySem.W.kitOne K (.ref C_NoNumber) (.ref C_NoSign) = some false
  i_NoNumber_NoEnd : PySem.W.kitOne K (.ref C_NoNumber) (.ref C_NoEnd) = some false
  i_NoNumber_VE : PySem.W.kitOne K (.ref C_NoNumber) (.type "ValueError") = some true
  x_NoNumber_NoEnd : PySem.W.exmOne K (.ref C_NoNumber) (.ref C_NoEnd) = some false
  x_NoNumber_NoNumber : PySem.W.exmOne K (.ref C_NoNumber) (.ref C_NoNumber) = some true
  x_NoNumber_NoSign : PySem.W.exmOne K (.ref C_NoNumber) (.ref C_NoSign) = some false
  eg_NoSign : PySem.W.findIn K (.ref C_NoSign) "__getattribute__" = some (some (.builtin "BaseException.__getattribute__"))
  ek_NoSign : PySem.W.findIn K (.ref C_NoSign) "__getattr__" = some none
  ea_NoSign : PySem.W.findIn K (.ref C_NoSign) "__class__" = some (some (.builtin "object.__class__"))
  ed_NoSign : PySem.W.hasDictIn K C_NoSign = true
  em_NoSign : PySem.W.mroIn K C_NoSign (.type "object") = some true
  i_NoSign_StairError : PySem.W.kitOne K (.ref C_NoSign) (.ref C_StairError) = some true
  i_NoSign_NoNumber : PySem.W.kitOne K (.ref C_NoSign) (.ref C_NoNumber) = some false
  i_NoSign_NoSign : PySem.W.kitOne K (.ref C_NoSign) (.ref C_NoSign) = some true
  i_NoSign_NoEnd : PySem.W.kitOne K (.ref C_NoSign) (.ref C_NoEnd) = some false
  i_NoSign_VE : PySem.W.kitOne K (.ref C_NoSign) (.type "ValueError") = some true
  x_NoSign_NoEnd : PySem.W.exmOne K (.ref C_NoSign) (.ref C_NoEnd) = some false
  x_NoSign_NoNumber : PySem.W.exmOne K (.ref C_NoSign) (.ref C_NoNumber) = some false
  x_NoSign_NoSign : PySem.W.exmOne K (.ref C_NoSign) (.ref C_NoSign) = some true
  eg_NoEnd : PySem.W.findIn K (.ref C_NoEnd) "__getattribute__" = some (some (.builtin "BaseException.__getattribute__"))
  ek_NoEnd : PySem.W.findIn K (.ref C_NoEnd) "__getattr__" = some none
  ea_NoEnd : PySem.W.findIn K (.ref C_NoEnd) "__class__" = some (some (.builtin "object.__class__"))
  ed_NoEnd : PySem.W.hasDictIn K C_NoEnd = true
  em_NoEnd : PySem.W.mroIn K C_NoEnd (.type "object") = some true
  i_NoEnd_StairError : PySem.W.kitOne K (.ref C_NoEnd) (.ref C_StairError) = some true
  i_NoEnd_NoNumber : PySem.W.kitOne K (.ref C_NoEnd) (.ref C_NoNumber) = some false
  i_NoEnd_NoSign : PySem.W.kitOne K (.ref C_NoEnd) (.ref C_NoSign) = some false
  i_NoEnd_NoEnd : PySem.W.kitOne K (.ref C_NoEnd) (.ref C_NoEnd) = some true
  i_NoEnd_VE : PySem.W.kitOne K (.ref C_NoEnd) (.type "ValueError") = some true
  x_NoEnd_NoEnd : PySem.W.exmOne K (.ref C_NoEnd) (.ref C_NoEnd) = some true
  x_NoEnd_NoNumber : PySem.W.exmOne K (.ref C_NoEnd) (.ref C_NoNumber) = some false
  x_NoEnd_NoSign : PySem.W.exmOne K (.ref C_NoEnd) (.ref C_NoSign) = some false
  en_ : PySem.W.specialIn K (.builtin "object.__class__") "__get__" = some (some (.builtin "getset_descriptor.__get__"))
  et_ : PySem.W.takesIn K (.builtin "object.__class__") = some true
  m_isinstance : mg "isinstance" = none
  m_int : mg "int" = none
  m_bool : mg "bool" = none
  m_reversed : mg "reversed" = none
  m_range : mg "range" = none
  m_len : mg "len" = none
  m_list : mg "list" = none
  m_min : mg "min" = none
  m_str : mg "str" = none
theorem Txt.E_NoNumber {K : PySem.W.Frag} {mg : Str → Option Value} (T : Txt K mg) : ExcC K T.C_NoNumber := ⟨T.eg_NoNumber, T.ek_NoNumber, T.xb_NoNumber, T.ed_NoNumber, T.ea_NoNumber, T.en_, T.et_, T.em_NoNumber⟩
theorem Txt.E_NoSign {K : PySem.W.Frag} {mg : Str → Option Value} (T : Txt K mg) : ExcC K T.C_NoSign := ⟨T.eg_NoSign, T.ek_NoSign, T.xb_NoSign, T.ed_NoSign, T.ea_NoSign, T.en_, T.et_, T.em_NoSign⟩
theorem Txt.E_NoEnd {K : PySem.W.Frag} {mg : Str → Option Value} (T : Txt K mg) : ExcC K T.C_NoEnd := ⟨T.eg_NoEnd, T.ek_NoEnd, T.xb_NoEnd, T.ed_NoEnd, T.ea_NoEnd, T.en_, T.et_, T.em_NoEnd⟩
local macro_rules | `(tactic| walk_at "side") => `(tactic| first | assumption | omega | exact ⟨by decide, by decide⟩ | exact ⟨by decide, by decide, by decide⟩ | (show (0 : Int) < _; first | omega | decide | exact T60_pos | exact T60_pos1 | decide +kernel))
local macro_rules | `(tactic| walk_at "sq") => `(tactic| first | assumption | exact SqL.of (by assumption))
local macro_rules | `(tactic| walk_at "val") => `(tactic| first
  | with_reducible exact val_c
  | ((with_reducible apply xv_c) <;> exact rfl)
  | ((with_reducible apply val_var) <;> rfl)
  | with_reducible exact xv_p60
  | ((with_reducible apply xv_I0) <;> walk_at "val")
  | ((with_reducible apply xv_I) <;> first | walk_at "val" | walk_at "side")
  | ((with_reducible apply xv_eq) <;> first | walk_at "val" | rfl)
  | ((with_reducible apply xv_ne) <;> first | walk_at "val" | rfl)
  | ((with_reducible apply xv_U) <;> walk_at "val")
  | ((with_reducible apply xv_lenI) <;> first | walk_at "val" | walk_at "sq")
  | ((with_reducible apply xv_ix) <;> first | walk_at "val" | walk_at "sq" | walk_at "side")
  | ((with_reducible apply xv_and) <;> first | walk_at "val" | (intro hc; (try replace hc := of_decide_eq_true hc); walk_at "val"))
  | ((with_reducible apply xv_or) <;> first | walk_at "val" | (intro hc; (try replace hc := of_decide_eq_false hc); walk_at "val"))
  | ((with_reducible apply xv_not) <;> walk_at "val")
  | walk_at "val+")
local macro_rules | `(tactic| walk_at "val+") => `(tactic| fail "val")
local macro_rules | `(tactic| walk_at "arg") => `(tactic| first | with_reducible exact xg_nil | ((with_reducible apply xg_cons) <;> first | walk_at "val" | walk_at "arg"))
local macro_rules | `(tactic| walk_at "ans") => `(tactic| first
  | ((with_reducible apply xa_T) <;> walk_at "val")
  | ((with_reducible apply xa_B) <;> walk_at "val")
  | ((with_reducible apply xa_not) <;> walk_at "ans")
  | ((with_reducible apply xa_and) <;> first | walk_at "ans" | (intro hc; (try replace hc := of_decide_eq_true hc); walk_at "ans"))
  | ((with_reducible apply xa_or) <;> first | walk_at "ans" | (intro hc; (try replace hc := of_decide_eq_false hc); walk_at "ans")))

section
variable {P : Program} {w : World} {K : PySem.W.Frag} {mg : Str → Option Value} {base : Heap}
/-! ### a cell of the script -/
def sp_cell (K : PySem.W.Frag) : Sp := fun vs H Q _ => ∃ (a : Addr) (ns : List Int) (j : Nat), vs = [.ref a, .int (j : Int)] ∧ SqL K H a (ns.map V.int) ∧ Q (.int (ns.getD j 0)) H
theorem ok_l_cell (T : Txt K mg) : FnOk P w K mg base CX0 1 T.f_l_cell T.d_l_cell ["_law_script", "_law_k"] (sp_cell K) := by
  refine T.F_l_cell.ok sc_l_cell (fun vs H Q E h => ?_) (fun cdv A outer s H vs Q E hr h => ?_)
  · obtain ⟨a, ns, j, rfl, _⟩ := h
    rfl
  · obtain ⟨a, ns, j, rfl, hS, q⟩ := h
    refine ⟨_, (pss_cons (ps_if (pt_cmpR op_lt (pv 1) (pe_callB call_len_seq (by rfl) T.m_len PySem.boot_len (pa_cons (pv 0) pa_nil)) (nomark _)) (pss_one (ps_ret (pe_ix ix_list (pv 0) (pv 1) (fun _ _ => rfl)))) pss_nil)
      (pss_one (ps_ret pe_int))), ?_⟩
    refine xs_when (xa_T (xv_I0 (val_var rfl) (xv_lenI (val_var rfl) hS))) (fun hc => ?_) (fun hc => ?_)
    · have hj : (j : Int) < ns.length := of_decide_eq_true hc
      exact st_ret (xv_ix (val_var rfl) (val_var rfl) hS (by omega) hj) q
    · have hj : ¬ (j : Int) < ns.length := of_decide_eq_false hc
      refine st_ret val_c ?_
      rw [List.getD_eq_getElem?_getD, List.getElem?_eq_none (by omega)] at q
      exact q
theorem xv_cell {σ : L2.St} {H : Hp} {ta tb : TE} {a : Addr} {ns : List Int} {j : Nat} (h : Val ta σ H (.ref a)) (h2 : Val tb σ H (.int (j : Int))) (hS : SqL K H a (ns.map V.int)) : Val (tCall (sp_cell K) [] E0 (tCons ta (tCons tb tNil))) σ H (.int (ns.getD j 0)) :=
  xv_call (xg_cons h (xg_cons h2 xg_nil)) fun Q q => ⟨a, ns, j, rfl, hS, q⟩
local macro_rules | `(tactic| walk_at "val+") => `(tactic| ((with_reducible apply xv_cell) <;> first | walk_at "val" | walk_at "sq"))
/-! ### whole numbers -/
def sp_whole : Sp := fun vs H Q _ => ∃ i : Int, vs = [.int i] ∧ Q (.bl true) H
theorem ok_l_whole (T : Txt K mg) : FnOk P w K mg base CX0 1 T.f_l_whole T.d_l_whole ["_law_found"] sp_whole := by
  refine T.F_l_whole.ok sc_l_whole (fun vs H Q E h => ?_) (fun cdv A outer s H vs Q E hr h => ?_)
  · obtain ⟨i, rfl, _⟩ := h
    rfl
  · obtain ⟨i, rfl, q⟩ := h
    refine ⟨_, (pss_one (ps_ret (pe_and (pe_callB call_isi (by rfl) T.m_isinstance (by decide +kernel) (pa_cons (pv 0) (pa_cons (pe_bltn (v := .ty "int") (by rfl) T.m_int (by decide +kernel) rfl) pa_nil))) (pe_one (pe_not (pe_callB call_isi (by rfl) T.m_isinstance (by decide +kernel) (pa_cons (pv 0) (pa_cons (pe_bltn (v := .ty "bool") (by rfl) T.m_bool (by decide +kernel) rfl) pa_nil)))))))), ?_⟩
    exact st_ret (xv_and (xv_isi (val_var rfl) (.base (.int i)) (b := true) (by decide +kernel)) fun _ => xv_not (xv_isi (val_var rfl) (.base (.int i)) (b := false) (by decide +kernel))) q
theorem xv_whole {σ : L2.St} {H : Hp} {ta : TE} {i : Int} (h : Val ta σ H (.int i)) : Val (tCall sp_whole [] E0 (tCons ta tNil)) σ H (.bl true) :=
  xv_call (xg_cons h xg_nil) fun Q q => ⟨i, rfl, q⟩
local macro_rules | `(tactic| walk_at "val+") => `(tactic| ((with_reducible apply xv_whole) <;> walk_at "val"))
/-! ### weight of a list -/
def sp_weight (K : PySem.W.Frag) : Sp := fun vs H Q _ => ∃ (a : Addr) (ns : List Int), vs = [.ref a] ∧ SqL K H a (ns.map V.int) ∧ Sm ns ∧ Q (.int (wt ns)) H
theorem ok_weight (T : Txt K mg) : FnOk P w K mg base CX0 1 T.f_weight T.d_weight ["heap"] (sp_weight K) := by
  refine T.F_weight.ok sc_weight (fun vs H Q E h => ?_) (fun cdv A outer s H vs Q E hr h => ?_)
  · obtain ⟨a, ns, rfl, _⟩ := h
    rfl
  · obtain ⟨a, ns, rfl, hS, hz, q⟩ := h
    refine ⟨_, (pss_cons (ps_set (i := 1) sc_weight.nd rfl (Or.inl rfl) pe_int)
      (pss_cons (ps_set (i := 2) sc_weight.nd rfl (Or.inl rfl) pe_int)
      (pss_cons (ps_set (i := 3) sc_weight.nd rfl (Or.inl rfl) pe_int)
      (pss_cons (ps_for PassesOwn.never rfl (pi_list (pv 0)) (pg_name (i := 4) sc_weight.nd rfl (Or.inl rfl)) (pss_cons (ps_set (i := 1) sc_weight.nd rfl (Or.inl rfl) (pe_op op_add (pv 1) (pe_op op_mulW (pv 4) (pv 2))))
      (pss_one (ps_par (i := 2) (j := 3) (by rfl) sc_weight.nd rfl rfl (by decide) rfl rfl (pa_cons (pv 3) (pa_cons (pe_op op_add (pv 2) (pv 3)) pa_nil)) (by rfl)))))
      (pss_one (ps_ret (pv 1))))))), ?_⟩
    refine xq_set val_c ?_
    refine xq_set val_c ?_
    refine xq_set val_c ?_
    refine xq_forI (ns := ns) (val_var rfl) (Same.refl H) hS (fun i σ H' => ∃ y, σ = [some (.ref a), some (.int (S W 0 (ns.take i))), some (.int (W i)), some (.int (W (i + 1))), y] ∧ H' = H) ⟨_, rfl, rfl⟩ ?_ ?_
    · rintro i n σ H' e hn ⟨y, rfl, rfl⟩
      have hi : i < ns.length := (List.getElem?_eq_some_iff.mp hn).1
      have hc : CMulW n (W i) := wide_mul (hz.mag n (List.mem_of_getElem? hn)) (W_bitsN i) (by decide) (by omega) (by have := hz.len; omega)
      refine xq_set (xv_I0 (val_var rfl) (xv_I (val_var rfl) (val_var rfl) hc)) ?_
      refine xs_par (xg_cons (val_var rfl) (xg_cons (xv_I0 (val_var rfl) (val_var rfl)) xg_nil)) ⟨e, some (.int n), ?_, rfl⟩
      rw [S_take hn, Nat.zero_add]
      rfl
    · rintro σ H' e ⟨y, rfl, rfl⟩
      rw [List.take_length]
      exact st_ret (val_var rfl) q
theorem xv_weight {σ : L2.St} {H : Hp} {ta : TE} {a : Addr} {ns : List Int} (h : Val ta σ H (.ref a)) (hS : SqL K H a (ns.map V.int)) (hz : Sm ns) : Val (tCall (sp_weight K) [] E0 (tCons ta tNil)) σ H (.int (wt ns)) :=
  xv_call (xg_cons h xg_nil) fun Q q => ⟨a, ns, rfl, hS, hz, q⟩
local macro_rules | `(tactic| walk_at "val+") => `(tactic| ((with_reducible apply xv_weight) <;> first | walk_at "val" | walk_at "sq" | walk_at "side"))
/-! ### lists of ints alike -/
def sp_alike (K : PySem.W.Frag) : Sp := fun vs H Q _ => ∃ (a b : Addr) (ns : List Int), vs = [.ref a, .ref b] ∧ SqL K H a (ns.map V.int) ∧ SqL K H b (ns.map V.int) ∧ ns.length ≤ 100000 ∧ Q (.bl true) H
theorem ok_l_alike (T : Txt K mg) : FnOk P w K mg base CX0 2 T.f_l_alike T.d_l_alike ["_law_found", "_law_due"] (sp_alike K) := by
  refine T.F_l_alike.ok sc_l_alike (fun vs H Q E h => ?_) (fun cdv A outer s H vs Q E hr h => ?_)
  · obtain ⟨a, b, ns, rfl, _⟩ := h
    rfl
  · obtain ⟨a, b, ns, rfl, hS, hB, hz, q⟩ := h
    refine ⟨_, (pss_cons (ps_if (PW.pt (pw_or (pt_not (pt_val (pe_callB call_isi (by rfl) T.m_isinstance (by decide +kernel) (pa_cons (pv 0) (pa_cons (pe_bltn (v := .ty "list") (by rfl) T.m_list (by decide +kernel) rfl) pa_nil))))) (pw_or1 (pt_cmpR op_ne (pe_callB call_len_seq (by rfl) T.m_len PySem.boot_len (pa_cons (pv 0) pa_nil)) (pe_callB call_len_seq (by rfl) T.m_len PySem.boot_len (pa_cons (pv 1) pa_nil)) (nomark _))))) (pss_one (ps_ret pe_bl)) pss_nil)
      (pss_cons (ps_for PassesOwn.never rfl (pi_range1 (by rfl) T.m_range (pa_cons (pe_callB call_len_seq (by rfl) T.m_len PySem.boot_len (pa_cons (pv 1) pa_nil)) pa_nil)) (pg_name (i := 2) sc_l_alike.nd rfl (Or.inl rfl)) (pss_one (ps_if (PW.pt (pw_or (pt_not (pt_val (pe_call (ok_l_whole T) (hr.mono (by decide)) (by rfl) T.g_l_whole T.F_l_whole.kp T.b_l_whole .nil pass0 (pa_cons (pe_ix ix_list (pv 0) (pv 2) (fun _ _ => rfl)) pa_nil)))) (pw_or1 (pt_cmpR op_ne (pe_ix ix_list (pv 0) (pv 2) (fun _ _ => rfl)) (pe_ix ix_list (pv 1) (pv 2) (fun _ _ => rfl)) (nomark _))))) (pss_one (ps_ret pe_bl)) pss_nil)))
      (pss_one (ps_ret pe_bl)))), ?_⟩
    refine xs_when (b := false) (xa_or (a := false) (xa_not (a := true) (xa_B (xv_isi (val_var rfl) (tyx_L hS) (by decide +kernel)))) fun _ => xa_T (xv_to (xv_ne (xv_lenI (val_var rfl) hS) (xv_lenI (val_var rfl) hB) rfl) (by rw [decide_eq_true rfl]; rfl))) (fun z => (nomatch z)) (fun _ => ?_)
    refine xq_forR (n := ns.length) (by walk_at "arg") (by omega) (fun i σ H' => ∃ y, σ = [some (.ref a), some (.ref b), y] ∧ H' = H) ⟨none, rfl, rfl⟩ ?_ ?_
    · rintro i σ H' hi ⟨y, rfl, rfl⟩
      refine xs_if (b := false) (xa_or (a := false) (xa_not (a := true) (xa_B (xv_whole (xv_ix (i := (i : Int)) (val_var rfl) (val_var rfl) hS (by omega) (by omega))))) fun _ => xa_T (xv_to (xv_ne (xv_ix (i := (i : Int)) (val_var rfl) (val_var rfl) hS (by omega) (by omega)) (xv_ix (i := (i : Int)) (val_var rfl) (val_var rfl) hB (by omega) (by omega)) rfl) (by rw [decide_eq_true rfl]; rfl))) (fun z => (nomatch z)) (fun _ => ?_)
      exact ⟨_, rfl, rfl⟩
    · rintro σ H' ⟨y, rfl, rfl⟩
      exact st_ret val_c q
/-! ### the signs looked at -/
theorem s_o : ("o" : Str) = tx [111] := by decide +kernel
theorem s_d : ("." : Str) = tx [46] := by decide +kernel
theorem s_e : ("" : Str) = tx [] := by decide +kernel
def sp_look (C : Addr) : Sp := fun vs H Q E => ∃ l : List Nat, vs = [.str (tx l)] ∧ (oddB l = false → Q .non H) ∧ (oddB l = true → E (.ref C) none H)
theorem ok_look_at (T : Txt K mg) : FnOk P w K mg base (L2.CX P w) 1 T.f_look_at T.d_look_at ["text"] (sp_look T.C_NoSign) := by
  refine T.F_look_at.okX sc_look_at (fun vs H Q E h => ?_) (fun cdv A outer s H vs Q E hr h => ?_)
  · obtain ⟨l, rfl, _⟩ := h
    rfl
  · obtain ⟨l, rfl, q1, q2⟩ := h
    refine ⟨_, (pss_one (ps_for (passes_of rfl) rfl (pi_str (pv 0)) (pg_name (i := 1) sc_look_at.nd rfl (Or.inl rfl)) (pss_one (ps_if (PW.pt (pw_and (pt_cmpR op_ne (pv 1) pe_str (nomark _)) (pw_and1 (pt_cmpR op_ne (pv 1) pe_str (nomark _))))) (pss_one (ps_raise rfl (takes_of rfl rfl rfl rfl) (pmk_own PySem.F.excBase_ValueError T.x_NoSign T.g_NoSign T.k_NoSign (raises_own T.xb_NoSign T.xt_NoSign) rfl))) pss_nil)))), ?_⟩
    refine xs_forS (l := l) (val_var rfl) (fun i σ H' => ∃ y, σ = [some (.str (tx l)), y] ∧ H' = H ∧ oddB (l.take i) = false) ⟨none, rfl, rfl, rfl⟩ ?_ ?_
    · rintro i c σ H' hc ⟨y, rfl, rfl, ho⟩
      have hod := odd_take hc
      rw [ho, Bool.false_or] at hod
      refine xs_if (b := oddC c) (xa_and (xa_T (xv_neS (val_var (i := 1) rfl) (xv_cS s_o))) fun _ => xa_T (xv_neS (val_var (i := 1) rfl) (xv_cS s_d))) (fun h => ?_) (fun h => ?_)
      · exact q2 (odd_stop (i + 1) (hod.trans h))
      · exact ⟨_, rfl, rfl, hod.trans h⟩
    · rintro σ H' ⟨y, rfl, rfl, ho⟩
      rw [List.take_length] at ho
      exact q1 ho
/-! ### read_on -/
def sp_read_on : Sp := fun vs H Q _ => ∃ kept piece : List Nat, vs = [.str (tx kept), .str (tx piece)] ∧ kept.length ≤ 20000 ∧ piece.length ≤ 20000 ∧
  ∀ H' p l, Same H H' → H' p = some (.tup [.ref l, .str (tx (rd kept piece).2)]) → H l = none → H' l = some (.lst ((rd kept piece).1.map V.int)) → Q (.ref p) H'
theorem cut_last (kept : List Nat) : cutS (tx kept) (some (-1)) none = tx (kept.drop (kept.length - 1)) := by
  rw [cut_tx]
  have e : HT.sIx kept.length 0 (some (-1)) = kept.length - 1 := by
    show (if (-1 : Int) < 0 then (-1 + (kept.length : Int)).toNat else min (-1 : Int).toNat kept.length) = _
    rw [if_pos (by decide)]
    omega
  rw [e, HT.sIx_none, List.take_of_length_le (by rw [List.length_drop]; omega)]
theorem ok_read_on (T : Txt K mg) : FnOk P w K mg base CX0 2 T.f_read_on T.d_read_on ["kept", "piece"] sp_read_on := by
  refine T.F_read_on.ok sc_read_on (fun vs H Q E h => ?_) (fun cdv A outer s H vs Q E hr h => ?_)
  · obtain ⟨kept, piece, rfl, _⟩ := h
    rfl
  · obtain ⟨kept, piece, rfl, hk, hp, q⟩ := h
    refine ⟨_, (pss_cons (ps_set (i := 2) sc_read_on.nd rfl (Or.inl rfl) (pe_lst pa_nil))
      (pss_cons (ps_for PassesOwn.never rfl (pi_str (pv 1)) (pg_name (i := 3) sc_read_on.nd rfl (Or.inl rfl)) (pss_one (ps_if (PW.pt (pw_and (pt_cmpR op_eq (pv 3) pe_str (nomark _)) (pw_and1 (pt_cmpR op_eq (pe_slice sl_str (pv 0) (po_some (pe_un un_neg pe_int)) po_none) pe_str (nomark _))))) (pss_cons (ps_expr (pe_bm PySem.F.plainAttrs_list PySem.F.slot_list_append PySem.F.type_list_append mt_append (pv 2) (pa_cons (pe_call (ok_weight T) (hr.mono (by decide)) (by rfl) T.g_weight T.F_weight.kp T.b_weight .nil pass0 (pa_cons (pe_lc (own := [("one", 4)]) (g := gName 4) (tt := tYes) rfl sc_read_on.nd (pi_str (pv 0)) (blkOk_by (N := ["kept", "piece", "numbers", "sign", "one"]) (sc := defScope st_read_on) (by decide +kernel)) (fun _ _ _ _ _ => pg_name (i := 4) sc_read_on.nd rfl (Or.inl rfl)) (fun _ _ _ _ _ => pts_nil) (fun _ _ _ _ _ => (pe_callTy call_int1 (by rfl) T.m_int (by decide +kernel) (pa_cons (pe_cmpR op_eq (pv 4) pe_str (nomark _)) pa_nil)))) pa_nil)) pa_nil)))
      (pss_one (ps_set (i := 0) sc_read_on.nd rfl (Or.inl rfl) pe_str))) (pss_one (ps_set (i := 0) sc_read_on.nd rfl (Or.inl rfl) (pe_op op_add_str (pv 0) (pv 3)))))))
      (pss_one (ps_ret (pe_tup (pa_cons (pv 2) (pa_cons (pv 0) pa_nil))))))), ?_⟩
    refine Evl.q_asgL (Evl.el_lst Evl.ea_nil (by decide)) fun l H1 nl e1 h1 => ?_
    refine xq_forS (l := piece) (val_var (i := 1) rfl) (fun i σ H' => ∃ y, σ = [some (.str (tx ((piece.take i).foldl rstep ([], kept)).2)), some (.str (tx piece)), some (.ref l), y, none] ∧ Same H H' ∧ H' l = some (.lst (((piece.take i).foldl rstep ([], kept)).1.map V.int))) ⟨none, rfl, e1, h1⟩ ?_ ?_
    · rintro i c σ H2 hc ⟨y, rfl, e2, h2⟩
      have hi : i < piece.length := (List.getElem?_eq_some_iff.mp hc).1
      have hf := fold_take hc ([], kept)
      have hlen := fold_len (piece.take i) ([], kept)
      have htl : (piece.take i).length ≤ i := by
        rw [List.length_take]
        omega
      generalize (piece.take i).foldl rstep ([], kept) = s at h2 hf hlen
      obtain ⟨ns, kp⟩ := s
      have hn1 : ns.length ≤ 0 + (piece.take i).length := hlen.1
      have hk1 : kp.length ≤ kept.length + (piece.take i).length := hlen.2
      have hneg : Bnd (tPart (tUn (rU fun i => .int (-i)) (tC (.int 1)))) [some (.str (tx kp)), some (.str (tx piece)), some (.ref l), some (.str (tx [c])), none] H2 (some (-1)) := fun Q q => ⟨1, rfl, ⟨-1, rfl, q⟩⟩
      refine xs_if (b := decide ([c] = [111]) && full kp) (xa_and (xa_T (xv_eqS (val_var (i := 3) rfl) (xv_cS s_o))) fun _ => xa_T (xv_eqS (xv_to (xv_slS (l := kp) (val_var (i := 0) rfl) hneg (fun Q q => q) (by omega)) (congrArg V.str (cut_last kp))) (xv_cS s_o))) (fun hb => ?_) (fun hb => ?_)
      · have hst : rstep (ns, kp) c = (ns ++ [wt (bits kp)], []) := by
          unfold rstep
          rw [if_pos hb]
        refine Evl.q_app (l := l) h2 (Evl.ev_var (i := 2) rfl) (v := .int (wt (bits kp))) (fun H3 e3 Q q => ?_) (by rw [List.length_map]; show ns.length < 100000; omega) fun H3 e3 => ?_
        · refine xr_callT (xr_consT ?_)
          refine el_lcS (j := 4) (ws := [4]) (l := kp) (F := bitF) (fun H4 e4 => val_var (i := 0) rfl) (by omega) (fun _ => rfl) (fun d H4 e4 hd => xv_cb (xg_cons (xv_eqS (val_var (i := 4) rfl) (xv_cS s_o)) xg_nil) fun Q q => .inr ⟨_, rfl, q⟩) H3 (Evl.Ex.refl H3) _ fun r H4 nr e4 h4 => ?_
          exact ⟨r, bits kp, rfl, SqL.of h4, bits_sm (by omega), q H4 e4⟩
        · refine st_set (xv_cS s_e) ⟨some (.str (tx [c])), ?_, same_mut (Same.trans e2 e3) nl, ?_⟩
          · rw [hf, hst]
            rfl
          · rw [hf, hst, upd_same, List.map_append]
            rfl
      · have hst : rstep (ns, kp) c = (ns, kp ++ [c]) := by
          unfold rstep
          rw [if_neg (by rw [hb]; decide)]
        refine st_set (xv_addS (val_var (i := 0) rfl) (val_var (i := 3) rfl) (by show kp.length + 1 ≤ _; omega)) ⟨some (.str (tx [c])), ?_, e2, ?_⟩
        · rw [hf, hst]
          rfl
        · rw [hf, hst]
          exact h2
    · rintro σ H2 ⟨y, rfl, e2, h2⟩
      rw [List.take_length] at h2 ⊢
      refine Evl.s_retU (Evl.eu_tup (Evl.ea_cons (Evl.ev_var (i := 2) rfl) (Evl.ea_cons (Evl.ev_var (i := 0) rfl) Evl.ea_nil)) (by show 2 ≤ 100000; omega)) fun p H3 np e3 h3 => ?_
      exact q H3 p l (e2.trans e3) h3 nl (e3 l _ h2)
/-! ### read -/
def sp_read (C D : Addr) : Sp := fun vs H Q E => ∃ l : List Nat, vs = [.str (tx l)] ∧ l.length ≤ 20000 ∧ (oddB l = true → E (.ref C) none H) ∧ (oddB l = false → (rd [] l).2 ≠ [] → ∀ H', Same H H' → E (.ref D) none H') ∧
  (oddB l = false → (rd [] l).2 = [] → ∀ H' p, Same H H' → H p = none → H' p = some (.lst ((rd [] l).1.map V.int)) → Q (.ref p) H')
theorem ok_read (T : Txt K mg) : FnOk P w K mg base (L2.CX P w) 3 T.f_read T.d_read ["text"] (sp_read T.C_NoSign T.C_NoEnd) := by
  refine T.F_read.okX sc_read (fun vs H Q E h => ?_) (fun cdv A outer s H vs Q E hr h => ?_)
  · obtain ⟨l, rfl, _⟩ := h
    rfl
  · obtain ⟨l, rfl, hl, q1, q2, q3⟩ := h
    refine ⟨_, (pss_cons (ps_expr (pe_call (ok_look_at T) (hr.mono (by decide)) (by rfl) T.g_look_at T.F_look_at.kp T.b_look_at .nil (passes_call (takes_of rfl rfl rfl rfl) (fun _ _ _ _ z => z)) (pa_cons (pv 0) pa_nil)))
      (pss_cons (ps_asg (pe_call (ok_read_on T) (hr.mono (by decide)) (by rfl) T.g_read_on T.F_read_on.kp T.b_read_on .nil pass0 (pa_cons pe_str (pa_cons (pv 0) pa_nil))) (pg_tup rfl (pgs_cons (pg_name (i := 1) sc_read.nd rfl (Or.inl rfl)) (pgs_cons (pg_name (i := 2) sc_read.nd rfl (Or.inl rfl)) pgs_nil))))
      (pss_cons (ps_if (pt_cmpR op_ne (pv 2) pe_str (nomark _)) (pss_one (ps_raise rfl (takes_of rfl rfl rfl rfl) (pmk_own PySem.F.excBase_ValueError T.x_NoEnd T.g_NoEnd T.k_NoEnd (raises_own T.xb_NoEnd T.xt_NoEnd) rfl))) pss_nil)
      (pss_one (ps_ret (pv 1)))))), ?_⟩
    refine xq_drop (xr_callT (xg_go (xg_cons (val_var (i := 0) rfl) xg_nil) ⟨l, rfl, fun ho => ?_, fun ho => q1 ho⟩))
    refine xq_asgT (xr_callT (xg_go (xg_cons (xv_cS s_e) (xg_cons (val_var (i := 0) rfl) xg_nil)) ⟨[], l, rfl, by show 0 ≤ 20000; omega, hl, fun H1 p n e1 hp nn hn => ?_⟩))
    refine ⟨p, _, rfl, SqT.of hp, rfl, _, _, rfl, _, _, rfl, rfl, ?_⟩
    refine xs_when (xa_T (xv_neS (val_var (i := 2) rfl) (xv_cS s_e))) (fun hc => ?_) (fun hc => ?_)
    · exact q2 ho (by simpa using hc) H1 e1
    · exact st_ret (val_var (i := 1) rfl) (q3 ho (by simpa using hc) H1 n e1 nn hn)
/-! ### is_number -/
def sp_is_number (K : PySem.W.Frag) : Sp := fun vs H Q _ => ∃ x : V, vs = [x] ∧ Kd K H x ∧ Q (.bl (numB x)) H
theorem ok_is_number (T : Txt K mg) : FnOk P w K mg base CX0 1 T.f_is_number T.d_is_number ["thing"] (sp_is_number K) := by
  refine T.F_is_number.ok sc_is_number (fun vs H Q E h => ?_) (fun cdv A outer s H vs Q E hr h => ?_)
  · obtain ⟨x, rfl, _⟩ := h
    rfl
  · obtain ⟨x, rfl, hk, q⟩ := h
    refine ⟨_, (pss_cons (ps_if (PW.pt (pw_or (pt_not (pt_val (pe_callB call_isi (by rfl) T.m_isinstance (by decide +kernel) (pa_cons (pv 0) (pa_cons (pe_bltn (v := .ty "int") (by rfl) T.m_int (by decide +kernel) rfl) pa_nil))))) (pw_or1 (pt_val (pe_callB call_isi (by rfl) T.m_isinstance (by decide +kernel) (pa_cons (pv 0) (pa_cons (pe_bltn (v := .ty "bool") (by rfl) T.m_bool (by decide +kernel) rfl) pa_nil))))))) (pss_one (ps_ret pe_bl)) pss_nil)
      (pss_one (ps_ret (pe_chain op_le op_lt pe_int (pv 0) (pe_op op_pow pe_int pe_int))))), ?_⟩
    rcases hk with ⟨n, rfl⟩ | ⟨hn, ht | ⟨t, ht, hi⟩⟩
    · refine xs_when (b := false) (xa_or (a := false) (xa_not (a := true) (xa_B (xv_isi (val_var rfl) (.base (.int n)) (by decide +kernel)))) fun _ => xa_B (xv_isi (val_var rfl) (.base (.int n)) (by decide +kernel))) (fun z => (nomatch z)) (fun _ => ?_)
      exact st_ret (xv_chain (a := decide (0 ≤ n)) (b := decide (n < T60)) val_c (val_var rfl) (fun Q q => ⟨_, _, rfl, rfl, q⟩) fun _ => ⟨xv_p60, fun Q q => ⟨_, _, rfl, rfl, q⟩⟩) q
    · refine xs_when (b := true) (xa_or (a := false) (xa_not (a := true) (xa_B (xv_isi (val_var rfl) ht (by decide +kernel)))) fun _ => xa_B (xv_isi (val_var rfl) ht (by decide +kernel))) (fun _ => ?_) (fun z => (nomatch z))
      rw [hn] at q
      exact st_ret val_c q
    · refine xs_when (b := true) (xa_or (a := true) (b := true) (xa_not (a := false) (xa_B (xv_isi (val_var rfl) ht hi))) fun z => (nomatch z)) (fun _ => ?_) (fun z => (nomatch z))
      rw [hn] at q
      exact st_ret val_c q
/-! ### still_heap: the row of a number -/
def sp_still_heap : Sp := fun vs H Q _ => ∃ n : Int, vs = [.int n] ∧ 0 ≤ n ∧ n < W 1000 ∧ ∀ H' p (xs : List Int), Same H H' → H p = none → H' p = some (.lst (xs.map V.int)) → Rw xs → S W 0 xs = n → xs.length ≤ 1000 → Q (.ref p) H'
theorem ok_still_heap (T : Txt K mg) : FnOk P w K mg base CX0 1 T.f_still_heap T.d_still_heap ["number"] sp_still_heap := by
  refine T.F_still_heap.ok sc_still_heap (fun vs H Q E h => ?_) (fun cdv A outer s H vs Q E hr h => ?_)
  · obtain ⟨n, rfl, _⟩ := h
    rfl
  · obtain ⟨n, rfl, hn0, hn1, q⟩ := h
    refine ⟨_, (pss_cons (ps_set (i := 1) sc_still_heap.nd rfl (Or.inl rfl) (pe_lst pa_nil))
      (pss_cons (ps_set (i := 2) sc_still_heap.nd rfl (Or.inl rfl) pe_int)
      (pss_cons (ps_set (i := 3) sc_still_heap.nd rfl (Or.inl rfl) pe_int)
      (pss_cons (ps_while PassesOwn.never (pt_cmpR op_le (pv 2) (pv 0) (nomark _)) (pss_cons (ps_expr (pe_bm PySem.F.plainAttrs_list PySem.F.slot_list_append PySem.F.type_list_append mt_append (pv 1) (pa_cons (pv 2) pa_nil)))
      (pss_one (ps_par (i := 2) (j := 3) (by rfl) sc_still_heap.nd rfl rfl (by decide) rfl rfl (pa_cons (pv 3) (pa_cons (pe_op op_add (pv 2) (pv 3)) pa_nil)) (by rfl)))))
      (pss_cons (ps_set (i := 4) sc_still_heap.nd rfl (Or.inl rfl) (pe_lst pa_nil))
      (pss_cons (ps_set (i := 5) sc_still_heap.nd rfl (Or.inl rfl) (pv 0))
      (pss_cons (ps_for PassesOwn.never rfl (pi_reversed (by rfl) T.m_reversed (pa_cons (pv 1) pa_nil)) (pg_name (i := 6) sc_still_heap.nd rfl (Or.inl rfl)) (pss_one (ps_if (pt_cmpR op_le (pv 6) (pv 5) (nomark _)) (pss_cons (ps_expr (pe_bm PySem.F.plainAttrs_list PySem.F.slot_list_append PySem.F.type_list_append mt_append (pv 4) (pa_cons pe_int pa_nil)))
      (pss_one (ps_set (i := 5) sc_still_heap.nd rfl (Or.inl rfl) (pe_op op_sub (pv 5) (pv 6))))) (pss_one (ps_expr (pe_bm PySem.F.plainAttrs_list PySem.F.slot_list_append PySem.F.type_list_append mt_append (pv 4) (pa_cons pe_int pa_nil)))))))
      (pss_one (ps_ret (pe_revL (pv 4))))))))))), ?_⟩
    refine Evl.q_asgL (Evl.el_lst Evl.ea_nil (by decide)) fun l H1 nl e1 h1 => ?_
    refine xq_set val_c ?_
    refine xq_set val_c ?_
    refine xq_while (fun m σ H' => ∃ k : Nat, σ = [some (.int n), some (.ref l), some (.int (W k)), some (.int (W (k + 1))), none, none, none] ∧ Same H H' ∧ H' l = some (.lst (((List.range k).map W).map V.int)) ∧ (0 < k → W (k - 1) ≤ n) ∧ k ≤ 1000 ∧ m = 1000 - k) 1000 ⟨0, rfl, e1, h1, fun z => (nomatch z), by omega, rfl⟩ ?_
    rintro m σ H2 ⟨k, rfl, e2, h2, hk, hk2, rfl⟩
    refine ⟨_, by walk_at "ans", fun hc => ?_, fun hc => ?_⟩
    · have hc : W k ≤ n := of_decide_eq_true hc
      have hlt : k < 1000 := by
        by_cases h : k < 1000
        · exact h
        · have := W_mono (i := 1000) (j := k) (by omega)
          omega
      refine Evl.q_app (l := l) h2 (Evl.ev_var rfl) (Evl.ev_var rfl) (by rw [List.length_map, List.length_map, List.length_range]; omega) fun H3 e3 => ?_
      refine xs_par (xg_cons (val_var rfl) (xg_cons (xv_I0 (val_var rfl) (val_var rfl)) xg_nil)) ⟨1000 - (k + 1), by omega, k + 1, rfl, same_mut (e2.trans e3) nl, ?_, fun _ => hc, by omega, rfl⟩
      rw [upd_same, List.range_succ, List.map_append, List.map_append]
      rfl
    · have hc : n < W k := by
        have := of_decide_eq_false hc
        omega
      refine Evl.q_asgL (Evl.el_lst Evl.ea_nil (by decide)) fun b H3 nb e3 h3 => ?_
      refine xq_set (val_var rfl) ?_
      have hbl : l ≠ b := ne_of_none h2 nb
      have nb0 : H b = none := Same.free e2 nb
      have hlen : (((List.range k).map W).map V.int).length = k := by rw [List.length_map, List.length_map, List.length_range]
      refine xq_forRev (xs := ((List.range k).map W).map V.int) (xg_cons (val_var rfl) xg_nil) (SqL.of (e3 l _ h2)) (fun i σ H' => ∃ (hs : List Int) (left : Int) (y : Option V), σ = [some (.int n), some (.ref l), some (.int (W k)), some (.int (W (k + 1))), some (.ref b), some (.int left), y] ∧ Same H H' ∧ H' l = some (.lst (((List.range k).map W).map V.int)) ∧ H' b = some (.lst (hs.map V.int)) ∧ hs ++ gr (k - i) left = gr k n ∧ hs.length = i)
        ⟨[], n, none, rfl, Same.trans e2 e3, e3 l _ h2, h3, rfl, rfl⟩ (fun i σ H h => by
          obtain ⟨hs, left, y, _, _, h, _⟩ := h
          exact SqL.of h) ?_ ?_
      · rintro i x σ H4 hi hx ⟨hs, left, y, rfl, e4, hl4, hb4, hg, hlen2⟩
        rw [hlen] at hi hx
        obtain ⟨j, hj⟩ : ∃ j, k - i = j + 1 := ⟨k - i - 1, by omega⟩
        have hj2 : k - 1 - i = j := by omega
        have hj3 : k - (i + 1) = j := by omega
        rw [hj2, List.getElem?_map, List.getElem?_map, List.getElem?_range (by omega)] at hx
        obtain rfl : V.int (W j) = x := Option.some.inj hx
        rw [hj] at hg
        refine xs_if (by walk_at "ans") (fun hc => ?_) (fun hc => ?_)
        · have hc := of_decide_eq_true hc
          refine Evl.q_app (l := b) hb4 (Evl.ev_var rfl) Evl.ev_c (by rw [List.length_map]; omega) fun H5 e5 => ?_
          refine st_set (xv_I0 (val_var rfl) (val_var rfl)) ⟨hs ++ [1], left - W j, _, rfl, same_mut (e4.trans e5) nb0, ?_, ?_, ?_, by rw [List.length_append, List.length_singleton, hlen2]⟩
          · rw [upd_ne hbl]
            exact e5 l _ hl4
          · rw [upd_same, List.map_append]
            rfl
          · rw [hj3, ← hg, List.append_assoc]
            congr 1
            show _ = gr (j + 1) left
            conv => rhs; unfold gr
            rw [if_pos hc]
            rfl
        · have hc := of_decide_eq_false hc
          refine Evl.s_app (l := b) hb4 (Evl.ev_var rfl) Evl.ev_c (by rw [List.length_map]; omega) fun H5 e5 => ?_
          refine ⟨hs ++ [0], left, _, rfl, same_mut (e4.trans e5) nb0, ?_, ?_, ?_, by rw [List.length_append, List.length_singleton, hlen2]⟩
          · rw [upd_ne hbl]
            exact e5 l _ hl4
          · rw [upd_same, List.map_append]
            rfl
          · rw [hj3, ← hg, List.append_assoc]
            congr 1
            show _ = gr (j + 1) left
            conv => rhs; unfold gr
            rw [if_neg hc]
            rfl
      · rintro σ H4 ⟨hs, left, y, rfl, e4, hl4, hb4, hg, hlen2⟩
        rw [hlen, Nat.sub_self] at hg
        have hg : hs = gr k n := by
          rw [← hg]
          show hs = hs ++ []
          rw [List.append_nil]
        obtain ⟨r1, r2⟩ := gr_rw hn0 hc hk
        refine Evl.s_retL (xl_revL (Evl.ev_var rfl) (SqL.of hb4)) fun p H5 np e5 h5 => ?_
        rw [← List.map_reverse, hg] at h5
        exact q H5 p _ (e4.trans e5) (Same.free e4 np) h5 r1 r2 (by rw [List.length_reverse, gr_len]; exact hk2)
/-! ### row_of -/
def sp_row_of (K : PySem.W.Frag) (C : Addr) : Sp := fun vs H Q E => ∃ x : V, vs = [x] ∧ Kd K H x ∧
  (∀ n : Int, x = .int n → 0 ≤ n → n < T60 → ∀ H' p (xs : List Int), Same H H' → H p = none → H' p = some (.lst (xs.map V.int)) → Rw xs → S W 0 xs = n → xs.length ≤ 1000 → Q (.ref p) H') ∧ (numB x = false → E (.ref C) none H)
theorem ok_row_of (T : Txt K mg) : FnOk P w K mg base (L2.CX P w) 2 T.f_row_of T.d_row_of ["number"] (sp_row_of K T.C_NoNumber) := by
  refine T.F_row_of.okX sc_row_of (fun vs H Q E h => ?_) (fun cdv A outer s H vs Q E hr h => ?_)
  · obtain ⟨x, rfl, _⟩ := h
    rfl
  · obtain ⟨x, rfl, hk, q1, q2⟩ := h
    refine ⟨_, (pss_cons (ps_if (pt_not (pt_val (pe_call (ok_is_number T) (hr.mono (by decide)) (by rfl) T.g_is_number T.F_is_number.kp T.b_is_number .nil pass0 (pa_cons (pv 0) pa_nil)))) (pss_one (ps_raise rfl (takes_of rfl rfl rfl rfl) (pmk_own PySem.F.excBase_ValueError T.x_NoNumber T.g_NoNumber T.k_NoNumber (raises_own T.xb_NoNumber T.xt_NoNumber) rfl))) pss_nil)
      (pss_one (ps_ret (pe_call (ok_still_heap T) (hr.mono (by decide)) (by rfl) T.g_still_heap T.F_still_heap.kp T.b_still_heap .nil pass0 (pa_cons (pv 0) pa_nil))))), ?_⟩
    refine xs_when (xa_not (xa_B (xv_call (xg_cons (val_var rfl) xg_nil) fun Q q => ⟨x, rfl, hk, q⟩))) (fun hc => ?_) (fun hc => ?_)
    · exact q2 (by simpa using hc)
    · have hc : numB x = true := by simpa using hc
      have hx : ∃ n, x = .int n ∧ 0 ≤ n ∧ n < T60 := by
        rcases hk with ⟨n, rfl⟩ | ⟨hn, _⟩
        · have hc : (decide (0 ≤ n) && decide (n < T60)) = true := hc
          rw [Bool.and_eq_true, decide_eq_true_eq, decide_eq_true_eq] at hc
          exact ⟨n, rfl, hc.1, hc.2⟩
        · rw [hn] at hc
          cases hc
      obtain ⟨n, rfl, h0, h1⟩ := hx
      refine xr_ret (xr_call (xg_go (xg_cons (val_var (i := 0) rfl) xg_nil) ?_))
      exact ⟨n, rfl, h0, Int.lt_trans h1 T60_W, q1 n rfl h0 h1⟩
/-! ### shown -/
def sp_shown (K : PySem.W.Frag) (C : Addr) : Sp := fun vs H Q E => ∃ x : V, vs = [x] ∧ Kd K H x ∧ (∀ n : Int, x = .int n → 0 < n → n < T60 → ∀ H', Same H H' → Q (.str (tx (shownT n))) H') ∧ (numB x = false ∨ x = .int 0 → E (.ref C) none H)
theorem ok_shown (T : Txt K mg) : FnOk P w K mg base (L2.CX P w) 3 T.f_shown T.d_shown ["number"] (sp_shown K T.C_NoNumber) := by
  refine T.F_shown.okX sc_shown (fun vs H Q E h => ?_) (fun cdv A outer s H vs Q E hr h => ?_)
  · obtain ⟨x, rfl, _⟩ := h
    rfl
  · obtain ⟨x, rfl, hk, q1, q2⟩ := h
    refine ⟨_, (pss_cons (ps_if (PW.pt (pw_or (pt_not (pt_val (pe_call (ok_is_number T) (hr.mono (by decide)) (by rfl) T.g_is_number T.F_is_number.kp T.b_is_number .nil pass0 (pa_cons (pv 0) pa_nil)))) (pw_or1 (pt_cmpR op_eq (pv 0) pe_int (nomark _))))) (pss_one (ps_raise rfl (takes_of rfl rfl rfl rfl) (pmk_own PySem.F.excBase_ValueError T.x_NoNumber T.g_NoNumber T.k_NoNumber (raises_own T.xb_NoNumber T.xt_NoNumber) rfl))) pss_nil)
      (pss_one (ps_ret (pe_op op_add_str (pe_join pe_str (pe_lc (own := [("many", 1)]) (g := gName 1) (tt := tYes) rfl sc_shown.nd (pi_list (pe_call (ok_row_of T) (hr.mono (by decide)) (by rfl) T.g_row_of T.F_row_of.kp T.b_row_of .nil (passes_call (takes_of rfl rfl rfl rfl) (fun _ _ _ _ z => z)) (pa_cons (pv 0) pa_nil))) (blkOk_by (N := ["number", "many"]) (sc := defScope st_shown) (by decide +kernel)) (fun _ _ _ _ _ => pg_name (i := 1) sc_shown.nd rfl (Or.inl rfl)) (fun _ _ _ _ _ => pts_nil) (fun _ _ _ _ _ => (pe_ix ix_str pe_str (pv 1) (fun _ _ => rfl))))) pe_str)))), ?_⟩
    by_cases hb : numB x = true
    · have hx : ∃ n, x = .int n ∧ 0 ≤ n ∧ n < T60 := by
        rcases hk with ⟨n, rfl⟩ | ⟨hn, _⟩
        · have hc : (decide (0 ≤ n) && decide (n < T60)) = true := hb
          rw [Bool.and_eq_true, decide_eq_true_eq, decide_eq_true_eq] at hc
          exact ⟨n, rfl, hc.1, hc.2⟩
        · rw [hn] at hb
          cases hb
      obtain ⟨n, rfl, h0, h1⟩ := hx
      refine xs_when (b := decide (V.int n = V.int 0)) (xa_or (a := false) (xa_not (a := true) (xa_B (xv_call (xg_cons (val_var rfl) xg_nil) fun Q q => ⟨.int n, rfl, hk, by rw [hb]; exact q⟩))) fun _ => xa_T (xv_eq (val_var rfl) val_c rfl)) (fun hc => ?_) (fun hc => ?_)
      · exact q2 (.inr (of_decide_eq_true hc))
      · have hn0 : 0 < n := by
          have hc := of_decide_eq_false hc
          have : n ≠ 0 := fun z => hc (congrArg V.int z)
          omega
        have hW : n < W 1000 := Int.lt_trans h1 T60_W
        refine xr_ret (xr_opT (to_join (ys := (rowOf n).map fun b => [sgn b]) (xv_c rfl) ?_ (by rw [flat_sgn, List.length_map]; have := rowOf_len hW; omega) fun H1 e1 => xv_cS (l := [111]) t_o _ ?_))
        · refine el_lcF (ms := rowOf n) (F := fun b => [sgn b]) (fun H1 e1 Q q => ?_) (by have := rowOf_len hW; omega) (fun _ => rfl) fun b H1 e1 hm => xv_ixS (xv_cS t_do) (val_var rfl) (by decide) (atI_sgn ((rowOf_rw h0 hW).zo b hm))
          exact xr_call (xg_go (xg_cons (val_var (i := 0) rfl) xg_nil) ⟨.int n, rfl, .int, fun m hm z0 z1 H' p xs e np hp hR hw hl => by
            cases hm
            rw [rowOf_is h0 hW hR hw] at hp
            exact q p H' np e hp, fun z => (nomatch hb.symm.trans z)⟩)
        · refine ⟨_, _, rfl, rfl, ?_, ?_⟩
          · rw [tx_len, tx_len, flat_sgn, List.length_map]
            have := rowOf_len hW
            exact Nat.le_trans (show (rowOf n).length + 1 ≤ 1001 by omega) (by decide)
          · rw [tx_app, flat_sgn]
            exact q1 n rfl hn0 h1 H1 e1
    · have hb : numB x = false := by simpa using hb
      refine xs_when (b := true) (xa_or (a := true) (b := true) (xa_not (a := false) (xa_B (xv_call (xg_cons (val_var rfl) xg_nil) fun Q q => ⟨x, rfl, hk, by rw [hb]; exact q⟩))) fun z => (nomatch z)) (fun _ => q2 (.inl hb)) (fun z => (nomatch z))
/-! ### written -/
def sp_writ (K : PySem.W.Frag) (C : Addr) : Sp := fun vs H Q E => ∃ (a : Addr) (xs : List V), vs = [.ref a] ∧ SqL K H a xs ∧ (∀ x ∈ xs, Th K H x) ∧ xs.length ≤ 900 ∧
  (xs.all posB = true → ∀ H', Same H H' → Q (.str (tx (xs.map txt1).flatten)) H') ∧ (xs.all posB = false → ∀ H', Same H H' → E (.ref C) none H')
theorem ok_written (T : Txt K mg) : FnOk P w K mg base (L2.CX P w) 4 T.f_written T.d_written ["numbers"] (sp_writ K T.C_NoNumber) := by
  refine T.F_written.okX sc_written (fun vs H Q E h => ?_) (fun cdv A outer s H vs Q E hr h => ?_)
  · obtain ⟨a, xs, rfl, _⟩ := h
    rfl
  · obtain ⟨a, xs, rfl, hS, hT, hl, q1, q2⟩ := h
    refine ⟨_, (pss_one (ps_ret (pe_join pe_str (pe_lcX (own := [("number", 1)]) (g := gName 1) rfl sc_written.nd (takes_of rfl rfl rfl rfl) (fun _ _ _ _ h => h) rfl rfl (pi_list (pv 0)) (blkOk_by (N := ["numbers", "number"]) (sc := defScope st_written) (by decide +kernel)) (fun _ _ _ _ _ => pg_name (i := 1) sc_written.nd rfl (Or.inl rfl)) (fun _ _ _ _ _ xe ps => (pe_call (ok_shown T) (hr.mono (by decide)) (by rfl) T.g_shown T.F_shown.kp T.b_shown .nil ps (pa_cons (pv 1) pa_nil))))))), ?_⟩
    refine xr_ret (to_joinQ (xv_c rfl) (xr_lcV (xs := xs) (Gd := fun x => posB x = true) (G := txt1) (val_var (i := 0) rfl) hS (by omega) (fun _ => rfl) (fun x H1 e1 hx R r => ?_) fun hg p H1 e1 hp => ?_))
    · refine xr_call (xg_go (xg_cons (val_var (i := 1) rfl) xg_nil) ⟨x, rfl, ((hT x hx).same e1).kd, ?_, ?_⟩)
      · rintro n rfl h0 h1 H2 e2
        refine r ?_ H2 e2
        show (decide (0 < n) && decide (n < T60)) = true
        rw [decide_eq_true h0, decide_eq_true h1]
        rfl
      · intro hb
        refine q2 ?_ H1 e1
        by_cases h : xs.all posB = true
        · obtain ⟨n, e, h0, h1⟩ := posB_good (List.all_eq_true.mp h x hx)
          rcases hb with hb | hb
          · rw [e, numB_int (by omega) h1] at hb
            cases hb
          · rw [e] at hb
            have := V.int.inj hb
            omega
        · simpa using h
    · have p3 : xs.all posB = true := List.all_eq_true.mpr hg
      have hfl := flat_len _ (txt1_len p3)
      rw [List.length_map] at hfl
      have hm : xs.length * 1001 ≤ 900 * 1001 := Nat.mul_le_mul_right _ hl
      refine ⟨_, p, (xs.map txt1).map tx, rfl, rfl, .inl (join_sq (SqL.of hp)), join_sz t_e (by omega), ?_⟩
      rw [join_txt t_e]
      exact q1 p3 H1 e1
/-! ### the reader: what it keeps -/
def spR (C : Addr) (H : Hp) (p : Addr) (kept : List Nat) : Prop := ∃ dx, H p = some (.ins C dx [("kept", .str (tx kept))])
theorem flds_kept (kept : List Nat) : ([("kept", V.str (tx kept))] : List (Str × V)).lookup ("kept" : Str) = some (.str (tx kept)) := by
  simp [List.lookup]
theorem flds_put (kept : List Nat) (v : V) : putF "kept" v ([("kept", V.str (tx kept))] : List (Str × V)) = ([("kept", v)] : List (Str × V)) := by
  simp [putF]
theorem flds_no (kept : List Nat) {m : Str} (h : (m == ("kept" : Str)) = false) : ([("kept", V.str (tx kept))] : List (Str × V)).lookup m = none := by
  show (match m == ("kept" : Str) with | true => some (V.str (tx kept)) | false => List.lookup m []) = none
  rw [h]
  rfl
theorem flds_left (kept : List Nat) : ([("kept", V.str (tx kept))] : List (Str × V)).lookup ("left" : Str) = none := flds_no kept (by decide +kernel)
theorem flds_feed (kept : List Nat) : ([("kept", V.str (tx kept))] : List (Str × V)).lookup ("feed" : Str) = none := flds_no kept (by decide +kernel)
def sp_init (C : Addr) : Sp := fun vs H Q _ => ∃ (p dx : Addr), vs = [.ref p] ∧ H p = some (.ins C dx []) ∧ ∀ H', spR C H' p [] → (∀ b o, H b = some o → b ≠ p → H' b = some o) → Q .non H'
theorem ok_Reader___init (T : Txt K mg) : FnOk P w K mg base CX0 1 T.f_Reader___init T.d_Reader___init ["self"] (sp_init T.C_Reader) := by
  refine T.F_Reader___init.ok sc_Reader___init (fun vs H Q E h => ?_) (fun cdv A outer s H vs Q E hr h => ?_)
  · obtain ⟨p, dx, rfl, _⟩ := h
    rfl
  · obtain ⟨p, dx, rfl, hp, q⟩ := h
    refine ⟨_, (pss_one (ps_fld (pv 0) pe_str rfl)), ?_⟩
    refine ⟨_, rfl, p, T.C_Reader, dx, [], rfl, hp, T.c_Reader, T.n_Reader_kept, (by show 0 < 1000; decide), ?_⟩
    refine q _ ⟨dx, ?_⟩ fun b o e hb => ?_
    · rw [upd_same, t_e]
      rfl
    · rw [upd_ne hb]
      exact e
def sp_left (C : Addr) : Sp := fun vs H Q _ => ∃ (p : Addr) (kept : List Nat), vs = [.ref p] ∧ spR C H p kept ∧ Q (.str (tx kept)) H
theorem ok_Reader_left (T : Txt K mg) : FnOk P w K mg base CX0 1 T.f_Reader_left T.d_Reader_left ["self"] (sp_left T.C_Reader) := by
  refine T.F_Reader_left.ok sc_Reader_left (fun vs H Q E h => ?_) (fun cdv A outer s H vs Q E hr h => ?_)
  · obtain ⟨p, kept, rfl, _⟩ := h
    rfl
  · obtain ⟨p, kept, rfl, ⟨dx, hp⟩, q⟩ := h
    refine ⟨_, (pss_one (ps_ret (pe_fld (pv 0) rfl))), ?_⟩
    exact ⟨_, rfl, p, T.C_Reader, dx, _, _, rfl, hp, T.c_Reader, T.n_Reader_kept, flds_kept kept, q⟩
theorem okQ_Reader_left (T : Txt K mg) : FnQ P w K mg base CX0 1 T.f_Reader_left T.d_Reader_left ["self"] (sp_left T.C_Reader) := by
  refine okQ T.F_Reader_left sc_Reader_left (fun vs H Q E h => ?_) (fun cdv A outer s H vs Q E h => ?_)
  · obtain ⟨p, kept, rfl, _⟩ := h
    rfl
  · obtain ⟨p, kept, rfl, ⟨dx, hp⟩, q⟩ := h
    refine ⟨_, (pss_one (ps_ret (pe_fld (pv 0) rfl))), ?_⟩
    exact ⟨_, rfl, p, T.C_Reader, dx, _, _, rfl, hp, T.c_Reader, T.n_Reader_kept, flds_kept kept, q⟩
/-- feed: the numbers in a new list, the reader changed, what else was tracked stays; refused: nothing changes -/
def sp_feed (C D : Addr) : Sp := fun vs H Q E => ∃ (p : Addr) (kept piece : List Nat), vs = [.ref p, .str (tx piece)] ∧ spR C H p kept ∧ kept.length ≤ 20000 ∧ piece.length ≤ 20000 ∧ (oddB piece = true → E (.ref D) none H) ∧
  (oddB piece = false → ∀ H' l, H l = none → H' l = some (.lst ((rd kept piece).1.map V.int)) → spR C H' p (rd kept piece).2 → (∀ b o, H b = some o → b ≠ p → H' b = some o) → Q (.ref l) H')
theorem ok_Reader_feed (T : Txt K mg) : FnOk P w K mg base (L2.CX P w) 3 T.f_Reader_feed T.d_Reader_feed ["self", "piece"] (sp_feed T.C_Reader T.C_NoSign) := by
  refine T.F_Reader_feed.okX sc_Reader_feed (fun vs H Q E h => ?_) (fun cdv A outer s H vs Q E hr h => ?_)
  · obtain ⟨p, kept, piece, rfl, _⟩ := h
    rfl
  · obtain ⟨p, kept, piece, rfl, ⟨dx, hp⟩, hk, hl, q1, q2⟩ := h
    refine ⟨_, (pss_cons (ps_expr (pe_call (ok_look_at T) (hr.mono (by decide)) (by rfl) T.g_look_at T.F_look_at.kp T.b_look_at .nil (passes_call (takes_of rfl rfl rfl rfl) (fun _ _ _ _ z => z)) (pa_cons (pv 1) pa_nil)))
      (pss_cons (ps_asg (pe_call (ok_read_on T) (hr.mono (by decide)) (by rfl) T.g_read_on T.F_read_on.kp T.b_read_on .nil pass0 (pa_cons (pe_fld (pv 0) rfl) (pa_cons (pv 1) pa_nil))) (pg_tup rfl (pgs_cons (pg_name (i := 2) sc_Reader_feed.nd rfl (Or.inl rfl)) (pgs_cons (pg_name (i := 3) sc_Reader_feed.nd rfl (Or.inl rfl)) pgs_nil))))
      (pss_cons (ps_fld (pv 0) (pv 3) rfl)
      (pss_one (ps_ret (pv 2)))))), ?_⟩
    refine xq_drop (xr_callT (xg_go (xg_cons (val_var (i := 1) rfl) xg_nil) ⟨piece, rfl, fun ho => ?_, fun ho => q1 ho⟩))
    have hfld : ∀ {σ : L2.St}, σ[0]? = some (some (.ref p)) → Val (tFld K (tVar 0) "kept") σ H (.str (tx kept)) := fun hσ Q q => ⟨_, hσ, p, T.C_Reader, dx, _, _, rfl, hp, T.c_Reader, T.n_Reader_kept, flds_kept kept, q⟩
    refine xq_asgT (xr_callT (xg_go (xg_cons (hfld rfl) (xg_cons (val_var (i := 1) rfl) xg_nil)) ⟨kept, piece, rfl, hk, hl, fun H1 t n e1 ht nn hn => ?_⟩))
    refine ⟨t, _, rfl, SqT.of ht, rfl, _, _, rfl, _, _, rfl, rfl, ?_⟩
    refine ⟨_, rfl, _, rfl, p, T.C_Reader, dx, _, rfl, e1 p _ hp, T.c_Reader, T.n_Reader_kept, (by show 1 < 1000; decide), ?_⟩
    have hnp : n ≠ p := fun z => by
      rw [z, hp] at nn
      cases nn
    refine st_ret (val_var (i := 2) rfl) (q2 ho _ n nn (by rw [upd_ne hnp]; exact hn) ⟨dx, by rw [upd_same, flds_put]⟩ fun b o e hb => ?_)
    rw [upd_ne hb]
    exact e1 b o e
/-! ### the first .oo from a place on -/
section
variable {σ : L2.St} {H : Hp} {D : Ends} {ts tz : TS} {ta : TA} {j : Nat}
/-- for over range(a, b), over range(a, b, -1): the heap as the word says -/
theorem xq_forR2 {lo n : Int} (h : Arg ta σ H [.int lo, .int n]) (hb : -(2 ^ 62) ≤ lo ∧ lo < 2 ^ 62 ∧ -(2 ^ 62) ≤ n ∧ n < 2 ^ 62) (Pv : Nat → L2.St → Hp → Prop) (h0 : Pv 0 σ H)
    (hs : ∀ (i : Nat) σ' H', i < (n - lo).toNat → Pv i σ' H' → ts { D with nx := Pv (i + 1), ct := Pv (i + 1), bk := tz D } (σ'.set j (some (.int (lo + (i : Int))))) H') (hd : ∀ σ' H', Pv (n - lo).toNat σ' H' → tz D σ' H') : tSeq (tFor (iRng2 ta) (gName j) ts) tz D σ H :=
  h _ ⟨lo, n, rfl, hb, for_range (lo := lo) (n := (n - lo).toNat) (D := { D with nx := tz D }) Pv h0 (fun i σ' H' hi p => hs i σ' H' hi p) hd⟩
theorem xq_forRB {hi lo : Int} (h : Arg ta σ H [.int hi, .int lo, .int (-1)]) (hb : -(2 ^ 62) ≤ hi ∧ hi < 2 ^ 62 ∧ -(2 ^ 62) ≤ lo ∧ lo < 2 ^ 62) (Pv : Nat → L2.St → Hp → Prop) (h0 : Pv 0 σ H)
    (hs : ∀ (i : Nat) σ' H', i < (hi - lo).toNat → Pv i σ' H' → ts { D with nx := Pv (i + 1), ct := Pv (i + 1), bk := tz D } (σ'.set j (some (.int (hi - (i : Int))))) H') (hd : ∀ σ' H', Pv (hi - lo).toNat σ' H' → tz D σ' H') : tSeq (tFor (iRng3 ta) (gName j) ts) tz D σ H :=
  h _ ⟨hi, lo, -1, (hi - lo).toNat, rfl, RgC.neg hb.1 hb.2.1 hb.2.2.1 hb.2.2.2, for_rangeC (lo := hi) (c := -1) (n := (hi - lo).toNat) (D := { D with nx := tz D }) Pv h0 (fun i σ' H' hi' p => by
    have e : hi + ((i : Nat) : Int) * (-1) = hi - (i : Int) := by omega
    show ts { D with nx := Pv (i + 1), ct := Pv (i + 1), bk := tz D } (σ'.set j (some (.int (hi + ((i : Nat) : Int) * (-1))))) H'
    rw [e]
    exact hs i σ' H' hi' p) hd⟩
end
def optV : Option Nat → V
  | none => .non
  | some a => .int ((a : Int) + 3)
theorem cut_at {l : List Nat} {a : Nat} (h : a + 3 ≤ l.length) : cutS (tx l) (some (a : Int)) (some ((a : Int) + 3)) = tx ((l.drop a).take 3) := by
  have h1 : min a l.length = a := by omega
  have h2 : min (a + 3) l.length = a + 3 := by omega
  rw [cut_tx, show ((a : Int) + 3) = ((a + 3 : Nat) : Int) by omega, HT.sIx_nat, HT.sIx_nat, h1, h2, Nat.add_sub_cancel_left]
theorem xv_isN {σ : L2.St} {H : Hp} {ta : TE} {x : V} (h : Val ta σ H x) : Val (tOp rIsN ta (tC .non)) σ H (.bl (decide (x = .non))) := val_op h val_c fun Q q => ⟨rfl, q⟩
theorem s_doo : (".oo" : Str) = tx [46, 111, 111] := by decide +kernel
theorem xv_oo {σ : L2.St} {H : Hp} {l : List Nat} {a i j : Nat} (h0 : σ[i]? = some (some (.str (tx l)))) (h1 : σ[j]? = some (some (.int (a : Int)))) (h : a + 3 ≤ l.length) (hz : l.length ≤ 1000000) :
    Val (tOp rEq (tSl rSlS (tVar i) (tPart (tVar j)) (tPart (tOp (rI0 fun i j => .int (i + j)) (tVar j) (tC (.int 3))))) (tC (.str ".oo"))) σ H (.bl (ooB l a)) :=
  xv_eqS (xv_to (xv_slS (val_var h0) (bnd_some (val_var h1)) (bnd_some (xv_I0 (g := fun i j => .int (i + j)) (val_var h1) val_c)) hz) (congrArg V.str (cut_at h))) (xv_cS s_doo)
def sp_step : Sp := fun vs H Q _ => ∃ (l : List Nat) (p : Nat), vs = [.str (tx l), .int (p : Int)] ∧ p ≤ l.length ∧ l.length ≤ 60000 ∧ Q (optV (ooF l p (l.length - 2 - p))) H
theorem ok_in_step (T : Txt K mg) : FnOk P w K mg base CX0 1 T.f_in_step T.d_in_step ["text", "place"] sp_step := by
  refine T.F_in_step.ok sc_in_step (fun vs H Q E h => ?_) (fun cdv A outer s H vs Q E hr h => ?_)
  · obtain ⟨l, p, rfl, _⟩ := h
    rfl
  · obtain ⟨l, p, rfl, hp, hl, q⟩ := h
    refine ⟨_, (pss_cons (ps_for PassesOwn.never rfl (pi_range2 (by rfl) T.m_range (pa_cons (pv 1) (pa_cons (pe_op op_sub (pe_callB call_len (by rfl) T.m_len PySem.boot_len (pa_cons (pv 0) pa_nil)) pe_int) pa_nil))) (pg_name (i := 2) sc_in_step.nd rfl (Or.inl rfl)) (pss_one (ps_if (pt_cmpR op_eq (pe_slice sl_str (pv 0) (po_some (pv 2)) (po_some (pe_op op_add (pv 2) pe_int))) pe_str (nomark _)) (pss_one (ps_ret (pe_op op_add (pv 2) pe_int))) pss_nil)))
      (pss_one (ps_ret pe_non))), ?_⟩
    have hcnt : ((l.length : Int) - 2 - (p : Int)).toNat = l.length - 2 - p := by omega
    refine xq_forR2 (lo := (p : Int)) (n := (l.length : Int) - 2) (xg_cons (val_var (i := 1) rfl) (xg_cons (xv_I0 (g := fun i j => .int (i - j)) (xv_lenS (val_var (i := 0) rfl) (by omega)) val_c) xg_nil)) (by omega)
      (fun i σ H' => ∃ y, σ = [some (.str (tx l)), some (.int (p : Int)), y] ∧ H' = H ∧ ooF l p (l.length - 2 - p) = ooF l (p + i) (l.length - 2 - p - i)) ⟨none, rfl, rfl, rfl⟩ ?_ ?_
    · rintro i σ H' hi ⟨y, rfl, rfl, ho⟩
      rw [hcnt] at hi
      obtain ⟨m, hm⟩ : ∃ m, l.length - 2 - p - i = m + 1 := ⟨l.length - 2 - p - i - 1, by omega⟩
      have hm2 : l.length - 2 - p - (i + 1) = m := by omega
      rw [hm] at ho
      have e : ((p : Int) + (i : Int)) = ((p + i : Nat) : Int) := by omega
      rw [e]
      refine xs_if (b := ooB l (p + i)) (xa_T (xv_oo (a := p + i) rfl rfl (by omega) (by omega))) (fun hb => ?_) (fun hb => ?_)
      · have hs : ooF l (p + i) (m + 1) = some (p + i) := if_pos hb
        rw [ho, hs] at q
        exact st_ret (xv_I0 (g := fun i j => .int (i + j)) (val_var (i := 2) rfl) val_c) q
      · have hs : ooF l (p + i) (m + 1) = ooF l (p + i + 1) m := if_neg (by rw [hb]; decide)
        refine ⟨_, rfl, rfl, ?_⟩
        rw [ho, hs, hm2]
        rfl
    · rintro σ H' ⟨y, rfl, rfl, ho⟩
      rw [hcnt, Nat.sub_self] at ho
      have hs : ooF l (p + (l.length - 2 - p)) 0 = none := rfl
      rw [ho, hs] at q
      exact st_ret val_c q
theorem ok_l_behind (T : Txt K mg) : FnOk P w K mg base CX0 1 T.f_l_behind T.d_l_behind ["_law_text", "_law_place"] sp_step := by
  refine T.F_l_behind.ok sc_l_behind (fun vs H Q E h => ?_) (fun cdv A outer s H vs Q E hr h => ?_)
  · obtain ⟨l, p, rfl, _⟩ := h
    rfl
  · obtain ⟨l, p, rfl, hp, hl, q⟩ := h
    refine ⟨_, (pss_cons (ps_set (i := 2) sc_l_behind.nd rfl (Or.inl rfl) pe_non)
      (pss_cons (ps_for PassesOwn.never rfl (pi_range3 (by rfl) T.m_range (pa_cons (pe_op op_sub (pe_callB call_len (by rfl) T.m_len PySem.boot_len (pa_cons (pv 0) pa_nil)) pe_int) (pa_cons (pe_op op_sub (pv 1) pe_int) (pa_cons (pe_un un_neg pe_int) pa_nil)))) (pg_name (i := 3) sc_l_behind.nd rfl (Or.inl rfl)) (pss_one (ps_if (pt_cmpR op_eq (pe_slice sl_str (pv 0) (po_some (pv 3)) (po_some (pe_op op_add (pv 3) pe_int))) pe_str (nomark _)) (pss_one (ps_set (i := 2) sc_l_behind.nd rfl (Or.inl rfl) (pe_op op_add (pv 3) pe_int))) pss_nil)))
      (pss_one (ps_ret (pv 2))))), ?_⟩
    refine xq_set val_c ?_
    have hcnt : ((l.length : Int) - 3 - ((p : Int) - 1)).toNat = l.length - 2 - p := by omega
    refine xq_forRB (hi := (l.length : Int) - 3) (lo := (p : Int) - 1) (xg_cons (xv_I0 (g := fun i j => .int (i - j)) (xv_lenS (val_var (i := 0) rfl) (by omega)) val_c) (xg_cons (xv_I0 (g := fun i j => .int (i - j)) (val_var (i := 1) rfl) val_c) (xg_cons (xv_U (g := fun i => .int (-i)) val_c) xg_nil))) (by omega)
      (fun i σ H' => ∃ y, σ = [some (.str (tx l)), some (.int (p : Int)), some (optV (ooF l (p + (l.length - 2 - p - i)) i)), y] ∧ H' = H) ⟨none, rfl, rfl⟩ ?_ ?_
    · rintro i σ H' hi ⟨y, rfl, rfl⟩
      rw [hcnt] at hi
      obtain ⟨m, hm⟩ : ∃ m, l.length - 2 - p - i = m + 1 := ⟨l.length - 2 - p - i - 1, by omega⟩
      have hm2 : l.length - 2 - p - (i + 1) = m := by omega
      have e : ((l.length : Int) - 3 - (i : Int)) = ((p + m : Nat) : Int) := by omega
      rw [e, hm, hm2]
      refine xs_if (b := ooB l (p + m)) (xa_T (xv_oo (a := p + m) rfl rfl (by omega) (by omega))) (fun hb => ?_) (fun hb => ?_)
      · have hs : ooF l (p + m) (i + 1) = some (p + m) := if_pos hb
        refine st_set (xv_I0 (g := fun i j => .int (i + j)) (val_var (i := 3) rfl) val_c) ⟨some (.int ((p + m : Nat) : Int)), ?_, rfl⟩
        rw [hs]
        rfl
      · have hs : ooF l (p + m) (i + 1) = ooF l (p + m + 1) i := if_neg (by rw [hb]; decide)
        refine ⟨some (.int ((p + m : Nat) : Int)), ?_, rfl⟩
        rw [hs]
        rfl
    · rintro σ H' ⟨y, rfl, rfl⟩
      rw [hcnt, Nat.sub_self, Nat.add_zero]
      exact st_ret (val_var (i := 2) rfl) q
def sp_lstep : Sp := fun vs H Q _ => ∃ (l : List Nat) (p : Nat), vs = [.str (tx l), .int (p : Int)] ∧ p ≤ l.length ∧ l.length ≤ 60000 ∧ Q (.bl true) H
theorem ok_l_in_step (T : Txt K mg) : FnOk P w K mg base CX0 2 T.f_l_in_step T.d_l_in_step ["_law_text", "_law_place"] sp_lstep := by
  refine T.F_l_in_step.ok sc_l_in_step (fun vs H Q E h => ?_) (fun cdv A outer s H vs Q E hr h => ?_)
  · obtain ⟨l, p, rfl, _⟩ := h
    rfl
  · obtain ⟨l, p, rfl, hp, hl, q⟩ := h
    refine ⟨_, (pss_cons (ps_set (i := 2) sc_l_in_step.nd rfl (Or.inl rfl) (pe_call (ok_l_behind T) (hr.mono (by decide)) (by rfl) T.g_l_behind T.F_l_behind.kp T.b_l_behind .nil pass0 (pa_cons (pv 0) (pa_cons (pv 1) pa_nil))))
      (pss_cons (ps_set (i := 3) sc_l_in_step.nd rfl (Or.inl rfl) (pe_call (ok_in_step T) (hr.mono (by decide)) (by rfl) T.g_in_step T.F_in_step.kp T.b_in_step .nil pass0 (pa_cons (pv 0) (pa_cons (pv 1) pa_nil))))
      (pss_cons (ps_if (pt_cmpR op_isN (pv 2) pe_non (nomark _)) (pss_one (ps_ret (pe_cmpR op_isN (pv 3) pe_non (nomark _)))) pss_nil)
      (pss_one (ps_ret (pe_and (pe_call (ok_l_whole T) (hr.mono (by decide)) (by rfl) T.g_l_whole T.F_l_whole.kp T.b_l_whole .nil pass0 (pa_cons (pv 3) pa_nil)) (pe_one (pe_cmpR op_eq (pv 3) (pv 2) (nomark _))))))))), ?_⟩
    refine xq_set (xv_call (xg_cons (val_var (i := 0) rfl) (xg_cons (val_var (i := 1) rfl) xg_nil)) fun Q q => ⟨l, p, rfl, hp, hl, q⟩) ?_
    refine xq_set (xv_call (xg_cons (val_var (i := 0) rfl) (xg_cons (val_var (i := 1) rfl) xg_nil)) fun Q q => ⟨l, p, rfl, hp, hl, q⟩) ?_
    cases ooF l p (l.length - 2 - p) with
    | none =>
      refine xs_when (b := true) (ans_isN (val_var (i := 2) rfl) rfl) (fun _ => ?_) (fun z => nomatch z)
      exact st_ret (xv_isN (val_var (i := 3) rfl)) q
    | some a =>
      refine xs_when (b := false) (ans_isN (val_var (i := 2) rfl) rfl) (fun z => nomatch z) (fun _ => ?_)
      exact st_ret (xv_and (a := true) (xv_whole (i := (a : Int) + 3) (val_var (i := 3) rfl)) fun _ => xv_to (xv_eq (val_var (i := 3) rfl) (val_var (i := 2) rfl) rfl) (by rw [decide_eq_true rfl])) q
/-! ### the ends of a text, by the law -/
def enI (l : List Nat) (i : Nat) : List Int := (En l i).map fun j => ((j : Nat) : Int)
theorem enI_len (l : List Nat) (i : Nat) : (enI l i).length = (En l i).length := List.length_map _
theorem En_len_le (l : List Nat) (i : Nat) : (En l i).length ≤ i := by
  unfold En
  have h := List.length_filter_le (fun j => decide (Kp l j = [])) ((List.range i).map (· + 1))
  rw [List.length_map, List.length_range] at h
  exact h
def sp_ends : Sp := fun vs H Q _ => ∃ l : List Nat, vs = [.str (tx l)] ∧ l.length ≤ 60000 ∧ ∀ H' p, Same H H' → H p = none → H' p = some (.lst ((enI l l.length).map V.int)) → Q (.ref p) H'
theorem ok_l_ends (T : Txt K mg) : FnOk P w K mg base CX0 1 T.f_l_ends T.d_l_ends ["_law_text"] sp_ends := by
  refine T.F_l_ends.ok sc_l_ends (fun vs H Q E h => ?_) (fun cdv A outer s H vs Q E hr h => ?_)
  · obtain ⟨l, rfl, _⟩ := h
    rfl
  · obtain ⟨l, rfl, hl, q⟩ := h
    refine ⟨_, (pss_cons (ps_set (i := 1) sc_l_ends.nd rfl (Or.inl rfl) (pe_lst pa_nil))
      (pss_cons (ps_set (i := 2) sc_l_ends.nd rfl (Or.inl rfl) pe_bl)
      (pss_cons (ps_for PassesOwn.never rfl (pi_range1 (by rfl) T.m_range (pa_cons (pe_callB call_len (by rfl) T.m_len PySem.boot_len (pa_cons (pv 0) pa_nil)) pa_nil)) (pg_name (i := 3) sc_l_ends.nd rfl (Or.inl rfl)) (pss_one (ps_if (PW.pt (pw_and (pt_val (pv 2)) (pw_and1 (pt_cmpR op_eq (pe_ix ix_str (pv 0) (pv 3) (fun _ _ => rfl)) pe_str (nomark _))))) (pss_cons (ps_expr (pe_bm PySem.F.plainAttrs_list PySem.F.slot_list_append PySem.F.type_list_append mt_append (pv 1) (pa_cons (pe_op op_add (pv 3) pe_int) pa_nil)))
      (pss_one (ps_set (i := 2) sc_l_ends.nd rfl (Or.inl rfl) pe_bl))) (pss_one (ps_set (i := 2) sc_l_ends.nd rfl (Or.inl rfl) (pe_cmpR op_eq (pe_ix ix_str (pv 0) (pv 3) (fun _ _ => rfl)) pe_str (nomark _)))))))
      (pss_one (ps_ret (pv 1)))))), ?_⟩
    refine Evl.q_asgL (Evl.el_lst Evl.ea_nil (by decide)) fun e H1 ne e1 h1 => ?_
    refine xq_set val_c ?_
    refine xq_forR (n := l.length) (xg_cons (xv_lenS (val_var (i := 0) rfl) (by omega)) xg_nil) (by omega) (fun i σ H' => ∃ y, σ = [some (.str (tx l)), some (.ref e), some (.bl (full (Kp l i))), y] ∧ Same H H' ∧ H' e = some (.lst ((enI l i).map V.int))) ⟨none, rfl, e1, h1⟩ ?_ ?_
    · rintro i σ H2 hi ⟨y, rfl, e2, h2⟩
      have hc : l[i]? = some l[i] := List.getElem?_eq_getElem hi
      refine xs_if (b := full (Kp l i) && decide ([l[i]] = [111])) (xa_and (xa_B (val_var (i := 2) rfl)) fun _ => xa_T (xv_eqS (xv_ixS (val_var (i := 0) rfl) (val_var (i := 3) rfl) (by omega) (atI_nat hc)) (xv_cS t_o))) (fun hb => ?_) (fun hb => ?_)
      · rw [Bool.and_comm] at hb
        obtain ⟨m1, _, m3⟩ := more_yes hc hb
        have hle := En_len_le l i
        refine Evl.q_app (l := e) h2 (Evl.ev_var (i := 1) rfl) (v := .int ((i : Int) + 1)) (fun H3 e3 Q q => xv_I0 (g := fun i j => .int (i + j)) (val_var (i := 3) rfl) val_c _ (q H3 (Evl.Ex.refl H3))) (by rw [List.length_map, enI_len]; omega) fun H3 e3 => ?_
        refine st_set val_c ⟨some (.int (i : Int)), ?_, same_mut (Same.trans e2 e3) ne, ?_⟩
        · rw [m1]
          rfl
        · unfold enI
          rw [upd_same, m3, List.map_append, List.map_append]
          rfl
      · rw [Bool.and_comm] at hb
        obtain ⟨m1, _, m3⟩ := more_no hc hb
        refine st_set (xv_eqS (xv_ixS (val_var (i := 0) rfl) (val_var (i := 3) rfl) (by omega) (atI_nat hc)) (xv_cS t_o)) ⟨some (.int (i : Int)), ?_, e2, ?_⟩
        · rw [m1, full_snoc]
          rfl
        · unfold enI
          rw [m3]
          exact h2
    · rintro σ H2 ⟨y, rfl, e2, h2⟩
      exact st_ret (val_var (i := 1) rfl) (q H2 e e2 ne h2)
/-! ### the pieces of a text -/
theorem cut_mid (l : List Nat) (a b : Nat) : cutS (tx l) (some (a : Int)) (some ((a : Int) + (b : Int))) = tx ((l.take (a + b)).drop a) := by
  rw [cut_tx, show ((a : Int) + (b : Int)) = ((a + b : Nat) : Int) by omega, HT.sIx_nat, HT.sIx_nat, List.drop_take, Nat.add_sub_cancel_left]
  congr 1
  by_cases ha : a ≤ l.length
  · have h1 : min a l.length = a := by omega
    rw [h1]
    by_cases hb : a + b ≤ l.length
    · have h2 : min (a + b) l.length = a + b := by omega
      rw [h2, Nat.add_sub_cancel_left]
    · have h2 : min (a + b) l.length = l.length := by omega
      rw [h2, List.take_of_length_le (by rw [List.length_drop]; omega), List.take_of_length_le (by rw [List.length_drop]; omega)]
  · have h1 : min a l.length = l.length := by omega
    rw [h1, List.drop_length, List.drop_of_length_le (by omega)]
    simp
theorem cut_from (l : List Nat) (a : Nat) : cutS (tx l) (some (a : Int)) none = tx (l.drop a) := by
  rw [cut_tx, HT.sIx_nat, HT.sIx_none]
  by_cases ha : a ≤ l.length
  · have h1 : min a l.length = a := by omega
    rw [h1, List.take_of_length_le (by rw [List.length_drop]; omega)]
  · have h1 : min a l.length = l.length := by omega
    rw [h1, List.drop_length, List.drop_of_length_le (by omega)]
    simp
theorem take_two (l : List Nat) (a b : Nat) : l.take a ++ (l.take (a + b)).drop a = l.take (a + b) := by
  have h : l.take a = (l.take (a + b)).take a := by rw [List.take_take, Nat.min_eq_left (by omega)]
  rw [h, List.take_append_drop]
def sp_pieces (K : PySem.W.Frag) : Sp := fun vs H Q _ => ∃ (a : Addr) (ns : List Int) (l : List Nat), vs = [.ref a, .str (tx l)] ∧ SqL K H a (ns.map V.int) ∧ l.length ≤ 60000 ∧
  ∀ H' p (ps : List (List Nat)), Same H H' → H p = none → H' p = some (.lst (ps.map fun l => V.str (tx l))) → ps.flatten = l → 0 < ps.length → ps.length ≤ 41 → Q (.ref p) H'
theorem ok_l_pieces (T : Txt K mg) : FnOk P w K mg base CX0 1 T.f_l_pieces T.d_l_pieces ["_law_script", "_law_text"] (sp_pieces K) := by
  refine T.F_l_pieces.ok sc_l_pieces (fun vs H Q E h => ?_) (fun cdv A outer s H vs Q E hr h => ?_)
  · obtain ⟨a, ns, l, rfl, _⟩ := h
    rfl
  · obtain ⟨a, ns, l, rfl, hS, hl, q⟩ := h
    refine ⟨_, (pss_cons (ps_set (i := 2) sc_l_pieces.nd rfl (Or.inl rfl) (pe_lst pa_nil))
      (pss_cons (ps_set (i := 3) sc_l_pieces.nd rfl (Or.inl rfl) pe_int)
      (pss_cons (ps_for PassesOwn.never rfl (pi_list (pe_slice sl_list (pv 0) (po_some pe_int) (po_some pe_int))) (pg_name (i := 4) sc_l_pieces.nd rfl (Or.inl rfl)) (pss_cons (ps_set (i := 5) sc_l_pieces.nd rfl (Or.inl rfl) (pe_ix ix_list (pe_lst (pa_cons pe_int (pa_cons pe_int (pa_cons pe_int (pa_cons pe_int (pa_cons pe_int (pa_cons pe_int (pa_cons pe_int (pa_cons pe_int pa_nil))))))))) (pe_op op_mod (pe_op op_mod (pv 4) pe_int) pe_int) (fun _ _ => rfl)))
      (pss_cons (ps_expr (pe_bm PySem.F.plainAttrs_list PySem.F.slot_list_append PySem.F.type_list_append mt_append (pv 2) (pa_cons (pe_slice sl_str (pv 1) (po_some (pv 3)) (po_some (pe_op op_add (pv 3) (pv 5)))) pa_nil)))
      (pss_one (ps_set (i := 3) sc_l_pieces.nd rfl (Or.inl rfl) (pe_op op_add (pv 3) (pv 5)))))))
      (pss_one (ps_ret (pe_op op_cat (pv 2) (pe_lst (pa_cons (pe_slice sl_str (pv 1) (po_some (pv 3)) po_none) pa_nil)))))))), ?_⟩
    refine Evl.q_asgL (Evl.el_lst Evl.ea_nil (by decide)) fun h H1 nh e1 h1 => ?_
    refine xq_set val_c ?_
    have hsl := Evl.el_sl (σ := [some (.ref a), some (.str (tx l)), some (.ref h), some (.int 0), none, none]) (Evl.ev_var (i := 0) rfl) (Evl.eo_some (Evl.ev_c (v := V.int 1))) (Evl.eo_some (Evl.ev_c (v := V.int 41))) (Same.seq e1 hS)
    rw [cut_int (by decide) (by decide)] at hsl
    have hcl : ((ns.take (41 : Int).toNat).drop (1 : Int).toNat).length ≤ 40 := by
      rw [List.length_drop, List.length_take]
      show min 41 _ - 1 ≤ 40
      omega
    generalize (ns.take (41 : Int).toNat).drop (1 : Int).toNat = cs at hsl hcl
    refine Evl.q_forNLn (xs := cs.map V.int) hsl (fun p i σ H' => ∃ (ps : List (List Nat)) (pl : Nat) (y z : Option V), σ = [some (.ref a), some (.str (tx l)), some (.ref h), some (.int (pl : Int)), y, z] ∧ Same H H' ∧ H' h = some (.lst (ps.map fun l => V.str (tx l))) ∧ ps.flatten = l.take pl ∧ ps.length = i ∧ H' p = some (.lst (cs.map V.int)) ∧ p ≠ h)
      (fun p H2 np e2 h2 => ⟨[], 0, none, none, rfl, Same.trans e1 e2, e2 h _ h1, rfl, rfl, h2, fun z => by
        rw [z, h1] at np
        cases np⟩) (fun p i σ H' hi hv => by
        obtain ⟨_, _, _, _, _, _, _, _, _, z, _⟩ := hv
        exact SqL.of z) ?_ ?_
    · rintro p i x σ H2 hx ⟨ps, pl, y, z, rfl, e2, h2, hf, hpl, hp, hne⟩
      have hil := (List.getElem?_eq_some_iff.mp hx).1
      rw [List.length_map] at hil
      rw [List.getElem?_map] at hx
      obtain ⟨c, _, rfl⟩ := Option.map_eq_some_iff.mp hx
      refine xq_run (xr_opR (xr_lst ?_))
      refine xr_cons (xv_go val_c (xr_cons (xv_go val_c (xr_cons (xv_go val_c (xr_cons (xv_go val_c (xr_cons (xv_go val_c (xr_cons (xv_go val_c (xr_cons (xv_go val_c (xr_cons (xv_go val_c (xr_nil ⟨Evl.sz_of (by show 8 ≤ 100000; omega), fun p3 np3 => ?_⟩))))))))))))))))
      have e4 : Same H2 (upd H2 p3 (.lst [.int 1, .int 0, .int 2, .int 3, .int 5, .int 9, .int 40, .int 300])) := Evl.Ex.new np3
      have h4 : (upd H2 p3 (.lst [.int 1, .int 0, .int 2, .int 3, .int 5, .int 9, .int 40, .int 300])) p3 = some (.lst [.int 1, .int 0, .int 2, .int 3, .int 5, .int 9, .int 40, .int 300]) := upd_same
      generalize upd H2 p3 (.lst [.int 1, .int 0, .int 2, .int 3, .int 5, .int 9, .int 40, .int 300]) = H4 at h4 e4
      refine xv_go (xv_I (C := fun _ j => 0 < j) (g := fun i j => .int (i % j)) (xv_I (C := fun _ j => 0 < j) (g := fun i j => .int (i % j)) (val_var (i := 4) rfl) val_c (by decide)) val_c (by decide)) ?_
      have hm : ∃ m : Nat, atI [V.int 1, .int 0, .int 2, .int 3, .int 5, .int 9, .int 40, .int 300] (c % 23 % 8) = some (.int (m : Int)) := by
        generalize c % 23 = d
        rcases (show d % 8 = 0 ∨ d % 8 = 1 ∨ d % 8 = 2 ∨ d % 8 = 3 ∨ d % 8 = 4 ∨ d % 8 = 5 ∨ d % 8 = 6 ∨ d % 8 = 7 by omega) with h | h | h | h | h | h | h | h <;> rw [h]
        · exact ⟨1, rfl⟩
        · exact ⟨0, rfl⟩
        · exact ⟨2, rfl⟩
        · exact ⟨3, rfl⟩
        · exact ⟨5, rfl⟩
        · exact ⟨9, rfl⟩
        · exact ⟨40, rfl⟩
        · exact ⟨300, rfl⟩
      obtain ⟨m, hm⟩ := hm
      refine ⟨p3, _, _, .int (m : Int), rfl, rfl, SqL.of h4, hm, ?_⟩
      refine Evl.q_app (l := h) (e4 h _ h2) (Evl.ev_var (i := 2) rfl) (v := .str (tx ((l.take (pl + m)).drop pl))) (fun H5 e5 Q q => xv_to (xv_slS (val_var (i := 1) rfl) (bnd_some (val_var (i := 3) rfl)) (bnd_some (xv_I0 (g := fun i j => .int (i + j)) (val_var (i := 3) rfl) (val_var (i := 5) rfl))) (by omega)) (congrArg V.str (cut_mid l pl m)) _ (q H5 (Evl.Ex.refl H5))) (by rw [List.length_map]; omega) fun H5 e5 => ?_
      refine st_set (xv_I0 (g := fun i j => .int (i + j)) (val_var (i := 3) rfl) (val_var (i := 5) rfl)) ⟨ps ++ [(l.take (pl + m)).drop pl], pl + m, some (.int c), some (.int (m : Int)), ?_, same_mut (Same.trans e2 (Same.trans e4 e5)) nh, ?_, ?_, by rw [List.length_append, List.length_singleton, hpl], ?_, hne⟩
      · have e : ((pl + m : Nat) : Int) = (pl : Int) + (m : Int) := by omega
        rw [e]
        rfl
      · rw [upd_same, List.map_append]
        rfl
      · rw [List.flatten_append, hf, List.flatten_singleton, take_two]
      · rw [upd_ne hne]
        exact e5 p _ (e4 p _ hp)
    · rintro p σ H2 ⟨ps, pl, y, z, rfl, e2, h2, hf, hpl, hp, hne⟩
      rw [List.length_map] at hpl
      refine Evl.s_retL (xl_cat (Evl.ev_var (i := 2) rfl) h2 (Evl.el_lst (Evl.ea_cons (x := V.str (tx (l.drop pl))) (fun H5 e5 Q q => xv_to (xv_slS (val_var (i := 1) rfl) (bnd_some (val_var (i := 3) rfl)) (fun Q q => q) (by omega)) (congrArg V.str (cut_from l pl)) _ (q H5 (Evl.Ex.refl H5))) Evl.ea_nil) (by show 1 ≤ 100000; omega)) (by rw [List.length_map]; show _ + 1 ≤ _; omega)) fun r H5 nr e5 h5 => ?_
      refine q H5 r (ps ++ [l.drop pl]) (Same.trans e2 e5) (Same.free e2 nr) (by rw [h5, List.map_append]; rfl) ?_ (by rw [List.length_append]; show 0 < _ + 1; omega) (by rw [List.length_append]; show _ + 1 ≤ 41; omega)
      rw [List.flatten_append, hf, List.flatten_singleton, List.take_append_drop]
/-! ### a refusal -/
theorem xv_left {σ : L2.St} {H : Hp} {C p : Addr} {kept : List Nat} {ta : TE} (h : Val ta σ H (.ref p)) (hp : spR C H p kept) : Val (tMeth C "left" (sp_left C) [] E0 ta tNil) σ H (.str (tx kept)) := fun Q q => h _ (by
  obtain ⟨dx, hp⟩ := hp
  exact ⟨p, dx, _, rfl, hp, flds_left kept, p, kept, rfl, ⟨dx, hp⟩, q⟩)
theorem odd_mid {a b : List Nat} {c : Nat} (h : oddC c = true) : oddB (a ++ [c] ++ b) = true := by
  rw [odd_app, odd_app, show oddB [c] = true by unfold oddB; simp [h], Bool.or_true, Bool.true_or]
def sp_lref (K : PySem.W.Frag) (C : Addr) : Sp := fun vs H Q _ => ∃ (p a : Addr) (kept piece : List Nat) (ns : List Int), vs = [.ref p, .str (tx piece), .ref a] ∧ spR C H p kept ∧ SqL K H a (ns.map V.int) ∧ kept.length ≤ 20000 ∧ piece.length ≤ 15000 ∧ ∀ H', Same H H' → Q (.bl true) H'
theorem ok_l_refused (T : Txt K mg) : FnOk P w K mg base CX0 4 T.f_l_refused T.d_l_refused ["_law_reader", "_law_piece", "_law_script"] (sp_lref K T.C_Reader) := by
  refine T.F_l_refused.ok sc_l_refused (fun vs H Q E h => ?_) (fun cdv A outer s H vs Q E hr h => ?_)
  · obtain ⟨p, a, kept, piece, ns, rfl, _⟩ := h
    rfl
  · obtain ⟨p, a, kept, piece, ns, rfl, hR, hS, hk, hl, q⟩ := h
    refine ⟨_, (pss_cons (ps_set (i := 3) sc_l_refused.nd rfl (Or.inl rfl) (pe_op op_mod (pe_call (ok_l_cell T) (hr.mono (by decide)) (by rfl) T.g_l_cell T.F_l_cell.kp T.b_l_cell .nil pass0 (pa_cons (pv 2) (pa_cons pe_int pa_nil))) (pe_op op_add (pe_callB (call_min2 rfl) (by rfl) T.m_min (by decide +kernel) (pa_cons (pe_callB call_len (by rfl) T.m_len PySem.boot_len (pa_cons (pv 1) pa_nil)) (pa_cons pe_int pa_nil))) pe_int)))
      (pss_cons (ps_set (i := 4) sc_l_refused.nd rfl (Or.inl rfl) (pe_ix ix_list (pe_lst (pa_cons pe_str (pa_cons pe_str (pa_cons pe_str (pa_cons pe_str (pa_cons pe_str (pa_cons pe_str (pa_cons pe_str (pa_cons pe_str pa_nil))))))))) (pe_op op_mod (pe_call (ok_l_cell T) (hr.mono (by decide)) (by rfl) T.g_l_cell T.F_l_cell.kp T.b_l_cell .nil pass0 (pa_cons (pv 2) (pa_cons pe_int pa_nil))) pe_int) (fun _ _ => rfl)))
      (pss_cons (ps_set (i := 5) sc_l_refused.nd rfl (Or.inl rfl) (pe_meth0 (pv 0) T.c_Reader T.me_Reader_left (ok_Reader_left T) (hr.mono (by decide)) T.b_Reader_left .nil pass0))
      (pss_cons (ps_try_two (i := 6) rfl rfl sc_l_refused.nd rfl rfl (.cons ⟨rfl, by decide, Or.inl T.g_NoEnd⟩ (.cons ⟨rfl, by decide, Or.inl T.g_NoNumber⟩ .nil)) told2 (by show 2 ≤ 1000; decide) ⟨rfl, by decide, Or.inl T.g_NoSign⟩ takes0 (fun W pn xe tk _ => (pss_one (ps_expr (by exact (pe_methT (pv 0) T.c_Reader T.me_Reader_feed (ok_Reader_feed T) (hr.mono (by decide)) T.b_Reader_feed (fun σ => passAt tk σ) (by exact (pa_cons (pe_op op_add_str (pe_op op_add_str (pe_slice sl_str (pv 1) po_none (po_some (pv 3))) (pv 4)) (pe_slice sl_str (pv 1) (po_some (pv 3)) (po_some (pe_op op_add (pv 3) pe_int)))) pa_nil))))))) (fun a oe cls d pn hz hf => (pss_one (ps_ret (pe_and (pe_callB (call_isX rfl hz hf) (by rfl) T.m_isinstance (by decide +kernel) (pa_cons (pv 6) (pa_cons (pe_glob (v := .ref T.C_StairError) (by rfl) T.g_StairError rfl) pa_nil))) (pe_one (pe_cmpR op_eq (pe_methQ (pv 0) T.c_Reader T.me_Reader_left (okQ_Reader_left T) (roomQ hr) T.b_Reader_left) (pv 5) (nomark _))))))))
      (pss_one (ps_ret pe_bl)))))), ?_⟩
    obtain ⟨n, hn, hn2⟩ : ∃ n : Nat, (if (60 : Int) < (piece.length : Int) then (60 : Int) else piece.length) = (n : Int) ∧ n ≤ piece.length := by
      by_cases h : (60 : Int) < (piece.length : Int)
      · exact ⟨60, by rw [if_pos h]; rfl, by omega⟩
      · exact ⟨piece.length, by rw [if_neg h], Nat.le_refl _⟩
    have hpos : (0 : Int) < (n : Int) + 1 := by omega
    refine xq_set (xv_I (C := fun _ j => 0 < j) (g := fun i j => .int (i % j)) (xv_cell (j := 42) (val_var (i := 2) rfl) val_c hS) (xv_I0 (g := fun i j => .int (i + j)) (xv_to (xv_cb (v := .int (if (60 : Int) < (piece.length : Int) then (60 : Int) else piece.length)) (xg_cons (xv_lenS (val_var (i := 1) rfl) (by omega)) (xg_cons val_c xg_nil)) fun Q q => ⟨_, _, rfl, q⟩) (congrArg V.int hn)) val_c) hpos) ?_
    obtain ⟨k, hk2⟩ : ∃ k : Nat, ns.getD 42 0 % ((n : Int) + 1) = (k : Int) := ⟨_, (Int.toNat_of_nonneg (Int.emod_nonneg _ (by omega))).symm⟩
    rw [hk2]
    refine xq_run (xr_opR (xr_lst ?_))
    refine xr_cons (xv_go val_c (xr_cons (xv_go val_c (xr_cons (xv_go val_c (xr_cons (xv_go val_c (xr_cons (xv_go val_c (xr_cons (xv_go val_c (xr_cons (xv_go val_c (xr_cons (xv_go val_c (xr_nil ⟨Evl.sz_of (by show 8 ≤ 100000; omega), fun p3 np3 => ?_⟩))))))))))))))))
    have e4 : Same H (upd H p3 (.lst [.str "O", .str "0", .str " ", .str ",", .str "\n", .str "x", .str ":", .str "1"])) := Evl.Ex.new np3
    have h4 : (upd H p3 (.lst [.str "O", .str "0", .str " ", .str ",", .str "\n", .str "x", .str ":", .str "1"])) p3 = some (.lst [.str "O", .str "0", .str " ", .str ",", .str "\n", .str "x", .str ":", .str "1"]) := upd_same
    generalize upd H p3 (.lst [.str "O", .str "0", .str " ", .str ",", .str "\n", .str "x", .str ":", .str "1"]) = H4 at h4 e4
    have hS4 := Same.seq e4 hS
    have hR4 : spR T.C_Reader H4 p kept := by
      obtain ⟨dx, hp⟩ := hR
      exact ⟨dx, e4 p _ hp⟩
    refine xv_go (xv_I (C := fun _ j => 0 < j) (g := fun i j => .int (i % j)) (xv_cell (j := 43) (val_var (i := 2) rfl) val_c hS4) val_c (by decide)) ?_
    have hc : ∃ c : Nat, atI [V.str "O", .str "0", .str " ", .str ",", .str "\n", .str "x", .str ":", .str "1"] (ns.getD 43 0 % 8) = some (.str (tx [c])) ∧ oddC c = true := by
      generalize ns.getD 43 0 = d
      rcases (show d % 8 = 0 ∨ d % 8 = 1 ∨ d % 8 = 2 ∨ d % 8 = 3 ∨ d % 8 = 4 ∨ d % 8 = 5 ∨ d % 8 = 6 ∨ d % 8 = 7 by omega) with h | h | h | h | h | h | h | h <;> rw [h]
      · exact ⟨79, congrArg (fun z => some (V.str z)) (show ("O" : Str) = tx [79] by decide +kernel), by decide⟩
      · exact ⟨48, congrArg (fun z => some (V.str z)) (show ("0" : Str) = tx [48] by decide +kernel), by decide⟩
      · exact ⟨32, congrArg (fun z => some (V.str z)) (show (" " : Str) = tx [32] by decide +kernel), by decide⟩
      · exact ⟨44, congrArg (fun z => some (V.str z)) (show ("," : Str) = tx [44] by decide +kernel), by decide⟩
      · exact ⟨10, congrArg (fun z => some (V.str z)) (show ("\n" : Str) = tx [10] by decide +kernel), by decide⟩
      · exact ⟨120, congrArg (fun z => some (V.str z)) (show ("x" : Str) = tx [120] by decide +kernel), by decide⟩
      · exact ⟨58, congrArg (fun z => some (V.str z)) (show (":" : Str) = tx [58] by decide +kernel), by decide⟩
      · exact ⟨49, congrArg (fun z => some (V.str z)) (show ("1" : Str) = tx [49] by decide +kernel), by decide⟩
    obtain ⟨c, hc, ho⟩ := hc
    refine ⟨p3, _, _, .str (tx [c]), rfl, rfl, SqL.of h4, hc, ?_⟩
    refine xq_set (xv_left (val_var (i := 0) rfl) hR4) ?_
    obtain ⟨dx, hp4⟩ := id hR4
    have h30 : (k : Int) + 30 = (k : Int) + ((30 : Nat) : Int) := rfl
    have hl1 : (piece.take k).length ≤ piece.length := by
      rw [List.length_take]
      omega
    have hl2 : ((piece.take (k + 30)).drop k).length ≤ 30 := by
      rw [List.length_drop, List.length_take]
      omega
    have hhi : ∀ {σ : L2.St}, σ[1]? = some (some (.str (tx piece))) → σ[3]? = some (some (.int (k : Int))) → Val (tSl rSlS (tVar 1) tNoPart (tPart (tVar 3))) σ H4 (.str (tx (piece.take k))) := fun h1 h3 =>
      xv_to (xv_slS (val_var h1) (fun Q q => q) (bnd_some (val_var h3)) (by omega)) (congrArg V.str (by
        rw [cut_tx, HT.sIx_none, HT.sIx_nat]
        by_cases hkl : k ≤ piece.length
        · have h1 : min k piece.length = k := by omega
          rw [h1]
          rfl
        · have h1 : min k piece.length = piece.length := by omega
          rw [h1, List.take_of_length_le (l := piece) (i := k) (by omega)]
          show tx (piece.take piece.length) = _
          rw [List.take_length]))
    have hmi : ∀ {σ : L2.St}, σ[1]? = some (some (.str (tx piece))) → σ[3]? = some (some (.int (k : Int))) → Val (tSl rSlS (tVar 1) (tPart (tVar 3)) (tPart (tOp (rI0 fun i j => .int (i + j)) (tVar 3) (tC (.int 30))))) σ H4 (.str (tx ((piece.take (k + 30)).drop k))) := fun h1 h3 =>
      xv_to (xv_slS (val_var h1) (bnd_some (val_var h3)) (bnd_some (xv_I0 (g := fun i j => .int (i + j)) (val_var h3) val_c)) (by omega)) (congrArg V.str (cut_mid piece k 30))
    refine xq_twoM (val_var (i := 0) rfl) hp4 (flds_feed kept) (xg_cons (xv_addS (xv_addS (hhi rfl rfl) (val_var (i := 4) rfl) (by show _ + 1 ≤ _; omega)) (hmi rfl rfl) (by rw [List.length_append]; show _ + 1 + _ ≤ _; omega)) xg_nil) ?_
    refine ⟨p, kept, _, rfl, hR4, hk, by rw [List.length_append, List.length_append]; show _ + 1 + _ ≤ _; omega, fun _ => ?_, fun z => (nomatch (odd_mid ho).symm.trans z)⟩
    refine ⟨any_no T.x_NoSign_NoEnd (any_no T.x_NoSign_NoNumber rfl), true, T.x_NoSign_NoSign, fun _ e he => ?_, fun z => (nomatch z)⟩
    exact st_ret (xv_and (a := true) (xv_isC (val_var (i := 6) rfl) T.E_NoSign T.i_NoSign_StairError) fun _ => xv_to (xv_eqS (xv_left (val_var (i := 0) rfl) hR4) (val_var (i := 5) rfl)) (by rw [decide_eq_true rfl])) (q H4 e4)
/-! ### a reader fed piece by piece -/
theorem enI_get (l : List Nat) (n m : Nat) : (enI l n).getD m 0 = (((En l n).getD m 0 : Nat) : Int) := by
  unfold enI
  rw [List.getD_eq_getElem?_getD, List.getD_eq_getElem?_getD, List.getElem?_map]
  cases (En l n)[m]? <;> rfl
theorem ends_at {l : List Nat} {n m : Nat} (h : m ≤ (En l n).length) : atI ([V.int 0] ++ (enI l n).map V.int) (m : Int) = some (.int (((0 :: En l n).getD m 0 : Nat) : Int)) := by
  refine atI_nat ?_
  have e : [V.int 0] ++ (enI l n).map V.int = (0 :: En l n).map fun j => V.int ((j : Nat) : Int) := by
    unfold enI
    rw [List.map_map]
    rfl
  rw [e, List.getElem?_map, List.getD_eq_getElem?_getD, List.getElem?_eq_getElem (by rw [List.length_cons]; omega)]
  rfl
/-- the told lists as they lie: each third one has a 7 behind -/
def told7 (k : Nat) (xs : List Int) : List Int := if k % 3 = 1 then xs ++ [7] else xs
def Hold (H : Hp) (as : List Addr) (xss : List (List Int)) : Prop := as.length = xss.length ∧ ∀ (k : Nat) (a : Addr), as[k]? = some a → ∃ xs, xss[k]? = some xs ∧ H a = some (.lst ((told7 k xs).map V.int))
theorem Hold.keep {H H' : Hp} {as : List Addr} {xss : List (List Int)} (h : Hold H as xss) (e : ∀ a ∈ as, ∀ o, H a = some o → H' a = some o) : Hold H' as xss := ⟨h.1, fun k a ha => by
  obtain ⟨xs, h1, h2⟩ := h.2 k a ha
  exact ⟨xs, h1, e a (List.mem_of_getElem? ha) _ h2⟩⟩
theorem Hold.more {H : Hp} {as : List Addr} {xss : List (List Int)} {t : Addr} {xs : List Int} (h : Hold H as xss) (ht : H t = some (.lst ((told7 as.length xs).map V.int))) : Hold H (as ++ [t]) (xss ++ [xs]) := ⟨by rw [List.length_append, List.length_append, h.1]; rfl, fun k a ha => by
  by_cases hk : k < as.length
  · rw [List.getElem?_append_left hk] at ha
    obtain ⟨ys, h1, h2⟩ := h.2 k a ha
    exact ⟨ys, by rw [List.getElem?_append_left (by rw [← h.1]; exact hk)]; exact h1, h2⟩
  · rw [List.getElem?_append_right (by omega)] at ha
    have h0 : k - as.length = 0 := by
      have := (List.getElem?_eq_some_iff.mp ha).1
      rw [List.length_singleton] at this
      omega
    rw [h0] at ha
    have e : t = a := Option.some.inj ha
    subst e
    have hk2 : k = as.length := by omega
    subst hk2
    exact ⟨xs, by rw [List.getElem?_append_right (by rw [← h.1]; omega), ← h.1, Nat.sub_self]; rfl, ht⟩⟩
theorem Hold.some {H : Hp} {as : List Addr} {xss : List (List Int)} (h : Hold H as xss) {a : Addr} (ha : a ∈ as) : ∃ o, H a = some o := by
  obtain ⟨k, hk⟩ := List.mem_iff_getElem?.mp ha
  obtain ⟨xs, _, h2⟩ := h.2 k a hk
  exact ⟨_, h2⟩
theorem ev_alikeR {σ : L2.St} {H : Hp} {ta tb : TE} {t : Addr} {xs : List Int} (ha : Evl.Ev ta σ H (.ref t)) (ht : H t = some (.lst (xs.map V.int))) (hb : Evl.EvL tb σ H (xs.map V.int)) (hz : xs.length ≤ 100000) : Evl.Ev (tCall (sp_alike K) [] E0 (tCons ta (tCons tb tNil))) σ H (.bl true) :=
  fun H1 e Q q => xr_call (xr_cons (ha H1 e _ fun H2 e2 => xr_cons (hb H2 (e.trans e2) _ fun p H3 np e3 h3 => xr_nil ⟨t, p, xs, rfl, SqL.of (e3 t _ (e2 t _ (e t _ ht))), SqL.of h3, hz, q H3 (e2.trans e3)⟩)))
theorem xr_sl {σ : L2.St} {H : Hp} {te : TE} {tl th : TO} {r : V → Option Int → Option Int → Hp → VK → Prop} {Q : VK} (h : te σ H fun x H1 => tl σ H1 fun lo H2 => th σ H2 fun u H3 => r x lo u H3 Q) : tSl r te tl th σ H Q := h
theorem xr_part {σ : L2.St} {H : Hp} {te : TE} {Q : Option Int → Hp → Prop} (h : te σ H fun x H1 => ∃ i, x = .int i ∧ Q (some i) H1) : tPart te σ H Q := h
def sp_fed (K : PySem.W.Frag) : Sp := fun vs H Q _ => ∃ (a b : Addr) (ns ms : List Int) (l : List Nat), vs = [.ref a, .str (tx l), .ref b] ∧ SqL K H a (ns.map V.int) ∧ SqL K H b (ms.map V.int) ∧ l.length ≤ 15000 ∧ oddB l = false ∧ Nm l l.length = ms ∧
  ∀ H' hd (as : List Addr) (xss : List (List Int)), Same H H' → H hd = none → H' hd = some (.lst (as.map V.ref)) → Hold H' as xss → xss.flatten = ms → as.length ≤ 41 → Q (.ref hd) H'
theorem ok_l_fed (T : Txt K mg) : FnOk P w K mg base CX0 5 T.f_l_fed T.d_l_fed ["_law_script", "_law_text", "_law_numbers"] (sp_fed K) := by
  refine T.F_l_fed.ok sc_l_fed (fun vs H Q E h => ?_) (fun cdv A outer s H vs Q E hr h => ?_)
  · obtain ⟨a, b, ns, ms, l, rfl, _⟩ := h
    rfl
  · obtain ⟨a, b, ns, ms, l, rfl, hS, hM, hl, ho, hnm, q⟩ := h
    refine ⟨_, (pss_cons (ps_set (i := 3) sc_l_fed.nd rfl (Or.inl rfl) (pe_make0 T.M_Reader (ok_Reader___init T) (hr.mono (by decide)) (by rfl) T.g_Reader T.b_Reader___init .nil pass0))
      (pss_cons (ps_if (pt_cmpR op_ne (pe_meth0 (pv 3) T.c_Reader T.me_Reader_left (ok_Reader_left T) (hr.mono (by decide)) T.b_Reader_left .nil pass0) pe_str (nomark _)) (pss_one (ps_ret pe_non)) pss_nil)
      (pss_cons (ps_set (i := 4) sc_l_fed.nd rfl (Or.inl rfl) (pe_call (ok_l_ends T) (hr.mono (by decide)) (by rfl) T.g_l_ends T.F_l_ends.kp T.b_l_ends .nil pass0 (pa_cons (pv 1) pa_nil)))
      (pss_cons (ps_set (i := 5) sc_l_fed.nd rfl (Or.inl rfl) (pe_call (ok_l_pieces T) (hr.mono (by decide)) (by rfl) T.g_l_pieces T.F_l_pieces.kp T.b_l_pieces .nil pass0 (pa_cons (pv 0) (pa_cons (pv 1) pa_nil))))
      (pss_cons (ps_set (i := 6) sc_l_fed.nd rfl (Or.inl rfl) (pe_op op_mod (pe_call (ok_l_cell T) (hr.mono (by decide)) (by rfl) T.g_l_cell T.F_l_cell.kp T.b_l_cell .nil pass0 (pa_cons (pv 0) (pa_cons pe_int pa_nil))) (pe_callB call_len_seq (by rfl) T.m_len PySem.boot_len (pa_cons (pv 5) pa_nil))))
      (pss_cons (ps_set (i := 7) sc_l_fed.nd rfl (Or.inl rfl) (pe_lst pa_nil))
      (pss_cons (ps_set (i := 8) sc_l_fed.nd rfl (Or.inl rfl) pe_int)
      (pss_cons (ps_set (i := 9) sc_l_fed.nd rfl (Or.inl rfl) pe_int)
      (pss_cons (ps_for PassesOwn.never rfl (pi_range1 (by rfl) T.m_range (pa_cons (pe_callB call_len_seq (by rfl) T.m_len PySem.boot_len (pa_cons (pv 5) pa_nil)) pa_nil)) (pg_name (i := 10) sc_l_fed.nd rfl (Or.inl rfl)) (pss_cons (ps_if (PW.pt (pw_and (pt_cmpR op_eq (pv 10) (pv 6) (nomark _)) (pw_and1 (pt_not (pt_val (pe_call (ok_l_refused T) (hr.mono (by decide)) (by rfl) T.g_l_refused T.F_l_refused.kp T.b_l_refused .nil pass0 (pa_cons (pv 3) (pa_cons (pe_ix ix_list (pv 5) (pv 10) (fun _ _ => rfl)) (pa_cons (pv 0) pa_nil))))))))) (pss_one (ps_ret pe_non)) pss_nil)
      (pss_cons (ps_set (i := 8) sc_l_fed.nd rfl (Or.inl rfl) (pe_op op_add (pv 8) (pe_callB call_len (by rfl) T.m_len PySem.boot_len (pa_cons (pe_ix ix_list (pv 5) (pv 10) (fun _ _ => rfl)) pa_nil))))
      (pss_cons (ps_set (i := 11) sc_l_fed.nd rfl (Or.inl rfl) (pv 9))
      (pss_cons (ps_while PassesOwn.never (PW.pt (pw_and (pt_cmpR op_lt (pv 9) (pe_callB call_len_seq (by rfl) T.m_len PySem.boot_len (pa_cons (pv 4) pa_nil)) (nomark _)) (pw_and1 (pt_cmpR op_le (pe_ix ix_list (pv 4) (pv 9) (fun _ _ => rfl)) (pv 8) (nomark _))))) (pss_one (ps_set (i := 9) sc_l_fed.nd rfl (Or.inl rfl) (pe_op op_add (pv 9) pe_int))))
      (pss_cons (ps_set (i := 12) sc_l_fed.nd rfl (Or.inl rfl) (pe_meth (pv 3) T.c_Reader T.me_Reader_feed (ok_Reader_feed T) (hr.mono (by decide)) T.b_Reader_feed .nil passL (pa_cons (pe_ix ix_list (pv 5) (pv 10) (fun _ _ => rfl)) pa_nil)))
      (pss_cons (ps_if (pt_not (pt_val (pe_call (ok_l_alike T) (hr.mono (by decide)) (by rfl) T.g_l_alike T.F_l_alike.kp T.b_l_alike .nil pass0 (pa_cons (pv 12) (pa_cons (pe_slice sl_list (pv 2) (po_some (pv 11)) (po_some (pv 9))) pa_nil))))) (pss_one (ps_ret pe_non)) pss_nil)
      (pss_cons (ps_expr (pe_bm PySem.F.plainAttrs_list PySem.F.slot_list_append PySem.F.type_list_append mt_append (pv 7) (pa_cons (pv 12) pa_nil)))
      (Evl.pss_cut (ps_if (pt_cmpR op_eq (pe_op op_mod (pv 10) pe_int) pe_int (nomark _)) (pss_one (ps_expr (pe_bm PySem.F.plainAttrs_list PySem.F.slot_list_append PySem.F.type_list_append mt_append (pv 12) (pa_cons pe_int pa_nil)))) pss_nil)
      (pss_cons (ps_set (i := 13) sc_l_fed.nd rfl (Or.inl rfl) (pe_slice sl_str (pv 1) (po_some (pe_ix ix_list (pe_op op_cat (pe_lst (pa_cons pe_int pa_nil)) (pv 4)) (pv 9) (fun _ _ => rfl))) (po_some (pv 8))))
      (pss_one (ps_for PassesOwn.never rfl (pi_range1 (by rfl) T.m_range (pa_cons (pe_op op_add pe_int (pe_op op_mod (pv 10) pe_int)) pa_nil)) (pg_name (i := 14) sc_l_fed.nd rfl (Or.inl rfl)) (pss_one (ps_if (PW.pt (pw_or (pt_not (pt_val (pe_callB call_isi (by rfl) T.m_isinstance (by decide +kernel) (pa_cons (pe_meth0 (pv 3) T.c_Reader T.me_Reader_left (ok_Reader_left T) (hr.mono (by decide)) T.b_Reader_left .nil pass0) (pa_cons (pe_bltn (v := .ty "str") (by rfl) T.m_str (by decide +kernel) rfl) pa_nil))))) (pw_or1 (pt_cmpR op_ne (pe_meth0 (pv 3) T.c_Reader T.me_Reader_left (ok_Reader_left T) (hr.mono (by decide)) T.b_Reader_left .nil pass0) (pv 13) (nomark _))))) (pss_one (ps_ret pe_non)) pss_nil))))))))))))))
      (pss_one (ps_ret (pv 7)))))))))))), ?_⟩
    -- the reader
    refine xq_run ?_
    intro r dx nr ndx ndr
    refine ⟨r, dx, rfl, upd_same, fun H1 hR hk => ⟨rfl, ?_⟩⟩
    have s1 : Same H H1 := fun x o e => hk x o (by
      rw [upd_ne (ne_of_none e nr), upd_ne (ne_of_none e ndx)]
      exact e) (ne_of_none e nr)
    clear hk
    refine xs_when (b := false) (xa_T (xv_to (xv_neS (xv_left (val_var (i := 3) rfl) hR) (xv_cS t_e)) (by rw [decide_eq_true rfl]; rfl))) (fun z => nomatch z) (fun _ => ?_)
    -- ends, pieces
    refine xq_run (xr_call (xg_go (xg_cons (val_var (i := 1) rfl) xg_nil) ⟨l, rfl, by omega, fun H2 en e2 nen hen => ?_⟩))
    refine xq_run (xr_call (xg_go (xg_cons (val_var (i := 0) rfl) (xg_cons (val_var (i := 1) rfl) xg_nil)) ⟨a, ns, l, rfl, Same.seq (Same.trans s1 e2) hS, by omega, fun H3 pc ps e3 npc hpc hfl hp0 hp41 => ?_⟩))
    have hS3 := Same.seq (Same.trans s1 (Same.trans e2 e3)) hS
    refine xq_set (xv_I (C := fun _ j => 0 < j) (g := fun i j => .int (i % j)) (xv_cell (j := 44) (val_var (i := 0) rfl) val_c hS3) (xv_len (val_var (i := 5) rfl) (SqL.of hpc)) (by rw [List.length_map]; omega)) ?_
    generalize ns.getD 44 0 % ((ps.map fun l => V.str (tx l)).length : Int) = odd
    refine Evl.q_asgL (Evl.el_lst Evl.ea_nil (by decide)) fun hd H4 nhd e4 h4 => ?_
    refine xq_set val_c ?_
    refine xq_set val_c ?_
    have hen4 := e4 en _ (e3 en _ hen)
    have hpc4 := e4 pc _ hpc
    have hR4 : spR T.C_Reader H4 r [] := by
      obtain ⟨dx, hR⟩ := hR
      exact ⟨dx, e4 r _ (e3 r _ (e2 r _ hR))⟩
    have s4 : Same H H4 := Same.trans s1 (Same.trans e2 (Same.trans e3 e4))
    have hde : en ≠ hd := ne_of_none (e3 en _ hen) nhd
    have hdp : pc ≠ hd := ne_of_none hpc nhd
    have nhd0 : H hd = none := Same.free (Same.trans s1 (Same.trans e2 e3)) nhd
    clear e4 e3 e2 s1 hen hpc hR hS3 nen npc nhd ndx ndr
    refine xq_forR (n := ps.length) (xg_cons (xv_to (xv_len (val_var (i := 5) rfl) (SqL.of hpc4)) (by rw [List.length_map])) xg_nil) (by omega)
      (fun k σ G => ∃ (as : List Addr) (xss : List (List Int)) (y10 y11 y12 y13 y14 : Option V), σ = [some (.ref a), some (.str (tx l)), some (.ref b), some (.ref r), some (.ref en), some (.ref pc), some (.int odd), some (.ref hd), some (.int (((ps.take k).flatten.length : Nat) : Int)), some (.int (((En l (ps.take k).flatten.length).length : Nat) : Int)), y10, y11, y12, y13, y14] ∧
        Same H G ∧ spR T.C_Reader G r (Kp l (ps.take k).flatten.length) ∧ G en = some (.lst ((enI l l.length).map V.int)) ∧ G pc = some (.lst (ps.map fun l => V.str (tx l))) ∧ G hd = some (.lst (as.map V.ref)) ∧ Hold G as xss ∧ xss.flatten = Nm l (ps.take k).flatten.length ∧ as.length = k ∧ ∀ x ∈ as, x ≠ hd)
      ⟨[], [], none, none, none, none, none, rfl, s4, hR4, hen4, hpc4, h4, ⟨rfl, fun _ _ h => by simp at h⟩, rfl, rfl, fun _ h => nomatch h⟩ ?_ ?_
    · rintro k σ G hk ⟨as, xss, y10, y11, y12, y13, y14, rfl, sG, hR, hen, hpc, hhd, hH, hx, has, hne⟩
      obtain ⟨c, hc⟩ : ∃ c, ps[k]? = some c := ⟨ps[k], List.getElem?_eq_getElem hk⟩
      have hat : atI (ps.map fun l => V.str (tx l)) (k : Int) = some (.str (tx c)) := atI_nat (by rw [List.getElem?_map, hc]; rfl)
      have htk : (ps.take (k + 1)).flatten = (ps.take k).flatten ++ c := by rw [take_more hc, List.flatten_append, List.flatten_singleton]
      obtain ⟨rest, hrest⟩ : ∃ rest, l = (ps.take k).flatten ++ c ++ rest := ⟨(ps.drop (k + 1)).flatten, by rw [← htk, ← List.flatten_append, List.take_append_drop, hfl]⟩
      rw [htk]
      generalize (ps.take k).flatten = pk at hR hx hrest ⊢
      have hlen : pk.length + c.length ≤ l.length := by
        rw [hrest, List.length_append, List.length_append]
        omega
      have hcl : (pk ++ c).length = pk.length + c.length := List.length_append
      have hle1 : (pk ++ c).length ≤ l.length := by omega
      have hoc : oddB c = false := odd_sub ho fun x hx => by
        rw [hrest]
        exact List.mem_append_left _ (List.mem_append_right _ hx)
      have hrd := piece_rd pk c rest
      rw [← hrest] at hrd
      have hkp : (Kp l pk.length).length ≤ l.length := by
        rw [(Kp_end pk.length (by omega)).2, List.length_drop, List.length_take]
        omega
      have hcnt := En_cnt (l := l) (show pk.length ≤ (pk ++ c).length by omega)
      have htot := En_cnt (l := l) hle1
      have hN1 := En_len (l := l) pk.length (by omega)
      have hN2 := En_len (l := l) (pk ++ c).length hle1
      -- the refusal
      refine Evl.q_when (b := false) (Evl.et_is (Evl.et_and (a := decide (V.int (k : Int) = V.int odd)) (b := false) (Evl.et_test (fun G1 e Q q => xv_eq (val_var (i := 10) rfl) (val_var (i := 6) rfl) rfl _ (q G1 (Evl.Ex.refl G1)))) fun _ => Evl.et_not (a := true) (Evl.et_B (Evl.ev_call (Evl.ea_cons (Evl.ev_var (i := 3) rfl) (Evl.ea_cons (Evl.ev_op (Evl.ev_var (i := 5) rfl) (Evl.ev_var (i := 10) rfl) (Evl.rv_ixL (SqL.of hpc) hat)) (Evl.ea_cons (Evl.ev_var (i := 0) rfl) Evl.ea_nil))) fun G1 e Q q E => ?_))) (Bool.and_false _)) (fun z => nomatch z) (fun _ G1 e1 => ?_)
      · obtain ⟨dx, hR⟩ := hR
        exact ⟨r, a, Kp l pk.length, c, ns, rfl, ⟨dx, e r _ hR⟩, Same.seq e (Same.seq sG hS), by omega, by omega, fun H' e' => q H' e'⟩
      have hpc1 := e1 pc _ hpc
      have hen1 := e1 en _ hen
      have hhd1 := e1 hd _ hhd
      have hH1 : Hold G1 as xss := hH.keep fun x _ o h => e1 x o h
      have sG1 := Same.trans sG e1
      obtain ⟨dx1, hR1⟩ : spR T.C_Reader G1 r (Kp l pk.length) := by
        obtain ⟨dx, hR⟩ := hR
        exact ⟨dx, e1 r _ hR⟩
      clear hpc hen hhd hH hR e1 sG
      refine xq_set (v := .int (((pk ++ c).length : Nat) : Int)) (xv_to (xv_I0 (g := fun i j => .int (i + j)) (val_var (i := 8) rfl) (xv_lenS (xv_ixV (val_var (i := 5) rfl) (val_var (i := 10) rfl) (SqL.of hpc1) hat) (by omega))) (congrArg V.int (by rw [hcl]; omega))) ?_
      refine xq_set (val_var (i := 9) rfl) ?_
      -- how many ends
      refine xq_while (fun m σ G' => ∃ j : Nat, σ = [some (.ref a), some (.str (tx l)), some (.ref b), some (.ref r), some (.ref en), some (.ref pc), some (.int odd), some (.ref hd), some (.int (((pk ++ c).length : Nat) : Int)), some (.int (j : Int)), some (.int (k : Int)), some (.int (((En l pk.length).length : Nat) : Int)), y12, y13, y14] ∧ G' = G1 ∧ j ≤ (En l (pk ++ c).length).length ∧ m = (En l (pk ++ c).length).length - j)
        _ ⟨(En l pk.length).length, rfl, rfl, hcnt, rfl⟩ ?_
      rintro m σ G' ⟨j, rfl, rfl, hj, rfl⟩
      have hel := enI_len l l.length
      refine ⟨_, xa_and (xa_T (xv_I0 (g := fun i j => .bl (decide (i < j))) (val_var (i := 9) rfl) (xv_lenI (val_var (i := 4) rfl) (SqL.of hen1)))) fun hcj => xa_T (xv_I0 (g := fun i j => .bl (decide (i ≤ j))) (xv_ix (val_var (i := 4) rfl) (val_var (i := 9) rfl) (SqL.of hen1) (by omega) (of_decide_eq_true hcj)) (val_var (i := 8) rfl)), fun hb => ?_, fun hb => ?_⟩
      · rw [Bool.and_eq_true] at hb
        have b1 := of_decide_eq_true hb.1
        have b2 := of_decide_eq_true hb.2
        rw [Int.toNat_natCast, enI_get] at b2
        have b3 := (En_at (l := l) (m := j) hle1 (by omega)).mp (by omega)
        refine st_set (xv_I0 (g := fun i j => .int (i + j)) (val_var (i := 9) rfl) val_c) ⟨(En l (pk ++ c).length).length - (j + 1), by omega, j + 1, rfl, rfl, by omega, rfl⟩
      have hjj : j = (En l (pk ++ c).length).length := by
        by_cases hlt : j < (En l (pk ++ c).length).length
        · have b3 := (En_at (l := l) (m := j) hle1 (by omega)).mpr hlt
          have h1 : decide ((j : Int) < ((enI l l.length).length : Int)) = true := decide_eq_true (by omega)
          have h2 : decide ((enI l l.length).getD (j : Int).toNat 0 ≤ (((pk ++ c).length : Nat) : Int)) = true := decide_eq_true (by
            rw [Int.toNat_natCast, enI_get]
            omega)
          rw [h1, h2] at hb
          cases hb
        · omega
      subst hjj
      -- told
      refine xq_run ⟨_, rfl, r, dx1, _, rfl, hR1, flds_feed _, xg_go (xg_cons (xv_ixV (val_var (i := 5) rfl) (val_var (i := 10) rfl) (SqL.of hpc1) hat) xg_nil) ?_⟩
      refine ⟨r, Kp l pk.length, c, rfl, ⟨dx1, hR1⟩, by omega, by omega, fun z => (nomatch hoc.symm.trans z), fun _ G2 t nt ht hR2 hk2 => ?_⟩
      rw [hrd] at ht hR2
      dsimp only at ht hR2
      have hrk : ∀ {x : Addr} {xs : List V}, G' x = some (.lst xs) → x ≠ r := fun h => ne_of h hR1 (by intro z; cases z)
      have hpc2 := hk2 pc _ hpc1 (hrk hpc1)
      have hen2 := hk2 en _ hen1 (hrk hen1)
      have hhd2 := hk2 hd _ hhd1 (hrk hhd1)
      have hH2 : Hold G2 as xss := hH1.keep fun x hx o h => by
        obtain ⟨k', hk'⟩ := List.mem_iff_getElem?.mp hx
        obtain ⟨xs, _, h2⟩ := hH1.2 k' x hk'
        exact hk2 x o h (hrk h2)
      have sG2 : Same H G2 := fun x o h => hk2 x o (sG1 x o h) (ne_of_none h nr)
      have nt0 : H t = none := Same.free sG1 nt
      have hthd : hd ≠ t := ne_of_none hhd1 nt
      have hten : en ≠ t := ne_of_none hen1 nt
      have htpc : pc ≠ t := ne_of_none hpc1 nt
      have htas : ∀ x ∈ as, x ≠ t := fun x hx => by
        obtain ⟨o, h⟩ := hH1.some hx
        exact ne_of_none h nt
      have htr : t ≠ r := fun z => by
        rw [z, hR1] at nt
        cases nt
      clear hk2 hH1 hpc1 hen1 hhd1 sG1 hR1 hrk nt
      -- alike
      have hms : (ms.take (En l (pk ++ c).length).length).drop (En l pk.length).length = (Nm l (pk ++ c).length).drop (Nm l pk.length).length := by
        obtain ⟨R, hR⟩ := Nm_split (l := l) hle1
        rw [← hnm, hR, hN2, List.take_left, hN1]
      have hsl := Evl.el_sl (σ := [some (.ref a), some (.str (tx l)), some (.ref b), some (.ref r), some (.ref en), some (.ref pc), some (.int odd), some (.ref hd), some (.int (((pk ++ c).length : Nat) : Int)), some (.int (((En l (pk ++ c).length).length : Nat) : Int)), some (.int (k : Int)), some (.int (((En l pk.length).length : Nat) : Int)), some (.ref t), y13, y14]) (Evl.ev_var (i := 2) rfl) (Evl.eo_some (Evl.ev_var (i := 11) rfl)) (Evl.eo_some (Evl.ev_var (i := 9) rfl)) (Same.seq sG2 hM)
      rw [cut_int (by omega) (by omega), Int.toNat_natCast, Int.toNat_natCast, hms] at hsl
      have htl : ((Nm l (pk ++ c).length).drop (Nm l pk.length).length).length ≤ 20000 := by
        rw [List.length_drop]
        have := En_len_le l (pk ++ c).length
        omega
      have hjn : (Nm l pk.length) ++ ((Nm l (pk ++ c).length).drop (Nm l pk.length).length) = Nm l (pk ++ c).length := by
        obtain ⟨R, hR⟩ := Nm_split (l := l) (show pk.length ≤ (pk ++ c).length by omega)
        rw [hR, List.drop_left]
      generalize (Nm l (pk ++ c).length).drop (Nm l pk.length).length = told at ht hsl htl hjn
      refine Evl.q_when (b := false) (Evl.et_not (a := true) (Evl.et_B (ev_alikeR (Evl.ev_var (i := 12) rfl) ht hsl (by omega)))) (fun z => nomatch z) (fun _ G3 e3 => ?_)
      refine Evl.q_app (l := hd) (e3 hd _ hhd2) (Evl.ev_var (i := 7) rfl) (Evl.ev_var (i := 12) rfl) (by rw [List.length_map]; omega) fun G4 e4 => ?_
      have e34 := Same.trans e3 e4
      have keep : ∀ x o, x ≠ hd → G2 x = some o → (upd G4 hd (.lst (as.map V.ref ++ [V.ref t]))) x = some o := fun x o hx h => by
        rw [upd_ne hx]
        exact e34 x o h
      have hhd5 : (upd G4 hd (.lst (as.map V.ref ++ [V.ref t]))) hd = some (.lst ((as ++ [t]).map V.ref)) := by
        rw [upd_same, List.map_append]
        rfl
      have s5 : Same H (upd G4 hd (.lst (as.map V.ref ++ [V.ref t]))) := same_mut (Same.trans sG2 e34) nhd0
      generalize upd G4 hd (.lst (as.map V.ref ++ [V.ref t])) = G5 at keep hhd5 s5
      clear e34 e4 e3 G4 G3
      have ht5 := keep t _ (Ne.symm hthd) ht
      have hen5 := keep en _ hde hen2
      have hpc5 := keep pc _ hdp hpc2
      obtain ⟨dx5, hR5⟩ : spR T.C_Reader G5 r (Kp l (pk ++ c).length) := by
        obtain ⟨dx, hR⟩ := hR2
        exact ⟨dx, keep r _ (ne_of hR hhd2 (by intro z; cases z)) hR⟩
      have hH5 : Hold G5 as xss := hH2.keep fun x hx o h => keep x o (hne x hx) h
      clear keep hhd2 hen2 hpc2 hR2 hH2 sG2 ht
      refine xs_cut (Mid := fun σ' G' => σ' = [some (.ref a), some (.str (tx l)), some (.ref b), some (.ref r), some (.ref en), some (.ref pc), some (.int odd), some (.ref hd), some (.int (((pk ++ c).length : Nat) : Int)), some (.int (((En l (pk ++ c).length).length : Nat) : Int)), some (.int (k : Int)), some (.int (((En l pk.length).length : Nat) : Int)), some (.ref t), y13, y14] ∧ G' t = some (.lst ((told7 k told).map V.int)) ∧ (∀ x o, x ≠ t → G5 x = some o → G' x = some o)) ?_ ?_
      · refine xs_if (b := decide (V.int ((k : Int) % 3) = V.int 1)) (xa_T (xv_eq (xv_I (C := fun _ j => 0 < j) (g := fun i j => .int (i % j)) (val_var (i := 10) rfl) val_c (by decide)) val_c rfl)) (fun hb => ?_) (fun hb => ?_)
        · have hk3 : k % 3 = 1 := by
            have := V.int.inj (of_decide_eq_true hb)
            omega
          refine Evl.s_app (l := t) ht5 (Evl.ev_var (i := 12) rfl) (Evl.ev_c (v := V.int 7)) (by rw [List.length_map]; omega) fun G6 e6 => ⟨rfl, ?_, fun x o hx h => by rw [upd_ne hx]; exact e6 x o h⟩
          unfold told7
          rw [upd_same, if_pos hk3, List.map_append]
          rfl
        · have hk3 : ¬ k % 3 = 1 := fun z => of_decide_eq_false hb (congrArg V.int (by omega))
          refine ⟨rfl, ?_, fun _ _ _ h => h⟩
          unfold told7
          rw [if_neg hk3]
          exact ht5
      rintro σ' G6 ⟨rfl, ht6, hk6⟩
      have hen6 := hk6 en _ hten hen5
      have hpc6 := hk6 pc _ htpc hpc5
      have hhd6 := hk6 hd _ hthd hhd5
      have hR6 := hk6 r _ (Ne.symm htr) hR5
      have hH6 : Hold G6 as xss := hH5.keep fun x hx o h => hk6 x o (htas x hx) h
      have s6 : Same H G6 := fun x o h => hk6 x o (ne_of_none h nt0) (s5 x o h)
      clear hk6 hen5 hpc5 hhd5 hR5 hH5 s5 ht5
      -- what is left
      obtain ⟨hk1, hk2⟩ := Kp_end (l := l) (pk ++ c).length hle1
      have hls := last_same (l := l) hle1
      refine xq_run (xr_sl (xv_go (val_var (i := 1) rfl) (xr_part (xr_opT ?_))))
      refine (xl_catR (Evl.el_lst (Evl.ea_cons (Evl.ev_c (v := V.int 0)) Evl.ea_nil) (by decide)) (Evl.ev_var (i := 4) rfl) hen6 (by rw [List.length_map, enI_len]; have := En_len_le l l.length; show 1 + _ ≤ _; omega)) G6 (Evl.Ex.refl G6) _ fun p7 G7 np7 e7 h7 => ?_
      refine xv_go (val_var (i := 9) rfl) ⟨p7, _, _, .int (((0 :: En l l.length).getD (En l (pk ++ c).length).length 0 : Nat) : Int), rfl, rfl, SqL.of h7, ends_at htot, _, rfl, ?_⟩
      refine xr_part (xv_go (val_var (i := 8) rfl) ⟨_, rfl, _, rfl, by rw [tx_len]; exact Nat.le_trans (show l.length ≤ 15000 from hl) (by decide), ?_⟩)
      have hcut : cutS (tx l) (some (((0 :: En l l.length).getD (En l (pk ++ c).length).length 0 : Nat) : Int)) (some (((pk ++ c).length : Nat) : Int)) = tx (Kp l (pk ++ c).length) := by
        rw [hls, hk2]
        generalize (0 :: En l (pk ++ c).length).getD (En l (pk ++ c).length).length 0 = u at hk1
        have h := cut_mid l u ((pk ++ c).length - u)
        rw [show u + ((pk ++ c).length - u) = (pk ++ c).length by omega, show ((u : Int) + (((pk ++ c).length - u : Nat) : Int)) = (((pk ++ c).length : Nat) : Int) by omega] at h
        exact h
      rw [hcut]
      have hR7 : spR T.C_Reader G7 r (Kp l (pk ++ c).length) := ⟨dx5, e7 r _ hR6⟩
      refine xs_forR (n := 1 + k % 2) (xg_cons (xv_to (xv_I0 (g := fun i j => .int (i + j)) val_c (xv_I (C := fun _ j => 0 < j) (g := fun i j => .int (i % j)) (val_var (i := 10) rfl) val_c (by decide))) (congrArg V.int (by omega))) xg_nil) (by omega)
        (fun i σ' G' => ∃ y : Option V, σ' = [some (.ref a), some (.str (tx l)), some (.ref b), some (.ref r), some (.ref en), some (.ref pc), some (.int odd), some (.ref hd), some (.int (((pk ++ c).length : Nat) : Int)), some (.int (((En l (pk ++ c).length).length : Nat) : Int)), some (.int (k : Int)), some (.int (((En l pk.length).length : Nat) : Int)), some (.ref t), some (.str (tx (Kp l (pk ++ c).length))), y] ∧ G' = G7) ⟨_, rfl, rfl⟩ ?_ ?_
      · rintro i σ' G' hi ⟨y, rfl, rfl⟩
        refine xs_if (b := false) (xa_or (a := false) (b := false) (xa_not (a := true) (xa_B (xv_isi (xv_left (val_var (i := 3) rfl) hR7) (.base (.str _)) (by decide +kernel)))) fun _ => xa_T (xv_to (xv_neS (xv_left (val_var (i := 3) rfl) hR7) (val_var (i := 13) rfl)) (by rw [decide_eq_true rfl]; rfl))) (fun z => nomatch z) (fun _ => ⟨_, rfl, rfl⟩)
      · rintro σ' G' ⟨y, rfl, rfl⟩
        refine ⟨as ++ [t], xss ++ [told], _, _, _, _, y, rfl, Same.trans s6 e7, hR7, e7 en _ hen6, e7 pc _ hpc6, e7 hd _ hhd6, ?_, ?_, by rw [List.length_append, has]; rfl, fun x hx => ?_⟩
        · refine (hH6.keep fun x _ o h => e7 x o h).more ?_
          rw [has]
          exact e7 t _ ht6
        · rw [List.flatten_append, hx, List.flatten_singleton, hjn]
        · rcases List.mem_append.mp hx with h | h
          · exact hne x h
          · rw [List.mem_singleton.mp h]
            exact Ne.symm hthd
    · rintro σ G ⟨as, xss, y10, y11, y12, y13, y14, rfl, sG, hR, hen, hpc, hhd, hH, hx, has, hne⟩
      rw [List.take_length, hfl, hnm] at hx
      exact st_ret (val_var (i := 7) rfl) (q G hd as xss sG nhd0 hhd hH hx (by omega))
/-! ### what is held -/
section
variable {σ : L2.St} {H : Hp} {ta tb : TE}
theorem ev_neLL {xs ys : List Int} (ha : Evl.EvL ta σ H (xs.map V.int)) (hb : Evl.EvL tb σ H (ys.map V.int)) : Evl.Ev (tOp (rNeD K) ta tb) σ H (.bl (!decide (xs = ys))) :=
  Evl.ev_opLL ha hb fun p q H1 hp hq e => fun H2 e2 Q k => ⟨_, _, .lst (SqL.of (e2 p _ hp)) (dpAll_int xs), .lst (SqL.of (e2 q _ hq)) (dpAll_int ys), shaped_int xs, shaped_int ys, by rw [eqv_int]; exact k H2 (Evl.Ex.refl H2)⟩
end
def sp_held (K : PySem.W.Frag) : Sp := fun vs H Q _ => ∃ (hd b : Addr) (as : List Addr) (xss : List (List Int)), vs = [.ref hd, .ref b] ∧ H hd = some (.lst (as.map V.ref)) ∧ Hold H as xss ∧ SqL K H b (xss.flatten.map V.int) ∧ xss.flatten.length ≤ 20000 ∧ as.length ≤ 41 ∧ ∀ H', Same H H' → Q (.bl true) H'
theorem sub_len (xss : List (List Int)) (k : Nat) : (xss.take k).flatten.length ≤ xss.flatten.length := by
  have h : xss.flatten = (xss.take k).flatten ++ (xss.drop k).flatten := by rw [← List.flatten_append, List.take_append_drop]
  rw [h, List.length_append]
  omega
theorem ok_l_held (T : Txt K mg) : FnOk P w K mg base CX0 3 T.f_l_held T.d_l_held ["_law_held_here", "_law_numbers"] (sp_held K) := by
  refine T.F_l_held.ok sc_l_held (fun vs H Q E h => ?_) (fun cdv A outer s H vs Q E hr h => ?_)
  · obtain ⟨hd, b, as, xss, rfl, _⟩ := h
    rfl
  · obtain ⟨hd, b, as, xss, rfl, hhd, hH, hB, hl, h41, q⟩ := h
    refine ⟨_, (pss_cons (ps_set (i := 2) sc_l_held.nd rfl (Or.inl rfl) (pe_lst pa_nil))
      (pss_cons (ps_for PassesOwn.never rfl (pi_range1 (by rfl) T.m_range (pa_cons (pe_callB call_len_seq (by rfl) T.m_len PySem.boot_len (pa_cons (pv 0) pa_nil)) pa_nil)) (pg_name (i := 3) sc_l_held.nd rfl (Or.inl rfl)) (pss_one (ps_if (pt_cmpR op_eq (pe_op op_mod (pv 3) pe_int) pe_int (nomark _)) (pss_cons (ps_if (pt_cmpR (op_neD hr.units) (pe_slice sl_list (pe_ix ix_list (pv 0) (pv 3) (fun _ _ => rfl)) (po_some (pe_op op_sub (pe_callB call_len_seq (by rfl) T.m_len PySem.boot_len (pa_cons (pe_ix ix_list (pv 0) (pv 3) (fun _ _ => rfl)) pa_nil)) pe_int)) po_none) (pe_lst (pa_cons pe_int pa_nil)) (nomark _)) (pss_one (ps_ret pe_bl)) pss_nil)
      (pss_one (ps_set (i := 2) sc_l_held.nd rfl (Or.inl rfl) (pe_op op_cat (pv 2) (pe_slice sl_list (pe_ix ix_list (pv 0) (pv 3) (fun _ _ => rfl)) po_none (po_some (pe_op op_sub (pe_callB call_len_seq (by rfl) T.m_len PySem.boot_len (pa_cons (pe_ix ix_list (pv 0) (pv 3) (fun _ _ => rfl)) pa_nil)) pe_int))))))) (pss_one (ps_set (i := 2) sc_l_held.nd rfl (Or.inl rfl) (pe_op op_cat (pv 2) (pe_ix ix_list (pv 0) (pv 3) (fun _ _ => rfl))))))))
      (pss_one (ps_ret (pe_call (ok_l_alike T) (hr.mono (by decide)) (by rfl) T.g_l_alike T.F_l_alike.kp T.b_l_alike .nil pass0 (pa_cons (pv 2) (pa_cons (pv 1) pa_nil))))))), ?_⟩
    refine Evl.q_asgL (Evl.el_lst Evl.ea_nil (by decide)) fun td H1 ntd e1 h1 => ?_
    refine xq_forR (n := as.length) (xg_cons (xv_to (xv_len (val_var (i := 0) rfl) (SqL.of (e1 hd _ hhd))) (by rw [List.length_map])) xg_nil) (by omega)
      (fun k σ G => ∃ (td : Addr) (y : Option V), σ = [some (.ref hd), some (.ref b), some (.ref td), y] ∧ Same H G ∧ G td = some (.lst ((xss.take k).flatten.map V.int))) ⟨td, none, rfl, e1, h1⟩ ?_ ?_
    · rintro k σ G hk ⟨td, y, rfl, sG, htd⟩
      obtain ⟨a, ha⟩ : ∃ a, as[k]? = some a := ⟨as[k], List.getElem?_eq_getElem hk⟩
      obtain ⟨xs, hxs, hax⟩ := hH.2 k a ha
      have hax := sG a _ hax
      have hhd := sG hd _ hhd
      have hat : atI (as.map V.ref) (k : Int) = some (.ref a) := atI_nat (by rw [List.getElem?_map, ha]; rfl)
      have htk : (xss.take (k + 1)).flatten = (xss.take k).flatten ++ xs := by rw [take_more hxs, List.flatten_append, List.flatten_singleton]
      have hsl := sub_len xss (k + 1)
      rw [htk, List.length_append] at hsl
      have ix : ∀ {σ : L2.St}, σ[0]? = some (some (.ref hd)) → σ[3]? = some (some (.int (k : Int))) → Evl.Ev (tOp (rIxL K) (tVar 0) (tVar 3)) σ G (.ref a) := fun h0 h3 => Evl.ev_op (Evl.ev_var h0) (Evl.ev_var h3) (Evl.rv_ixL (SqL.of hhd) hat)
      refine xs_if (b := decide (V.int ((k : Int) % 3) = V.int 1)) (xa_T (xv_eq (xv_I (C := fun _ j => 0 < j) (g := fun i j => .int (i % j)) (val_var (i := 3) rfl) val_c (by decide)) val_c rfl)) (fun hb => ?_) (fun hb => ?_)
      · have hk3 : k % 3 = 1 := by
          have := V.int.inj (of_decide_eq_true hb)
          omega
        unfold told7 at hax
        rw [if_pos hk3] at hax
        have lenE : ∀ {σ : L2.St}, σ[0]? = some (some (.ref hd)) → σ[3]? = some (some (.int (k : Int))) → Evl.Ev (tOp (rI0 fun i j => .int (i - j)) (tCB (rLenQ K) (tCons (tOp (rIxL K) (tVar 0) (tVar 3)) tNil)) (tC (.int 1))) σ G (.int (xs.length : Int)) := fun h0 h3 =>
          Evl.ev_is (xe_I0 (xe_len (ix h0 h3) (SqL.of hax)) Evl.ev_c) (congrArg V.int (by rw [List.length_map, List.length_append]; show ((xs.length + 1 : Nat) : Int) - 1 = _; omega))
        have s1 : ∀ {σ : L2.St}, σ[0]? = some (some (.ref hd)) → σ[3]? = some (some (.int (k : Int))) → Evl.EvL (tSl (rSlL K) (tOp (rIxL K) (tVar 0) (tVar 3)) (tPart (tOp (rI0 fun i j => .int (i - j)) (tCB (rLenQ K) (tCons (tOp (rIxL K) (tVar 0) (tVar 3)) tNil)) (tC (.int 1)))) tNoPart) σ G (([7] : List Int).map V.int) := fun h0 h3 => by
          have r := Evl.el_sl (K := K) (ix h0 h3) (Evl.eo_some (lenE h0 h3)) Evl.eo_none (SqL.of hax)
          rw [cut_lo, List.map_append, List.drop_left' (List.length_map _)] at r
          exact r
        have s2 : ∀ {σ : L2.St}, σ[0]? = some (some (.ref hd)) → σ[3]? = some (some (.int (k : Int))) → Evl.EvL (tSl (rSlL K) (tOp (rIxL K) (tVar 0) (tVar 3)) tNoPart (tPart (tOp (rI0 fun i j => .int (i - j)) (tCB (rLenQ K) (tCons (tOp (rIxL K) (tVar 0) (tVar 3)) tNil)) (tC (.int 1))))) σ G (xs.map V.int) := fun h0 h3 => by
          have r := Evl.el_sl (K := K) (ix h0 h3) Evl.eo_none (Evl.eo_some (lenE h0 h3)) (SqL.of hax)
          rw [cut_hi, List.map_append, List.take_left' (List.length_map _)] at r
          exact r
        refine Evl.q_when (b := false) (Evl.et_test (Evl.ev_is (ev_neLL (s1 rfl rfl) (ys := [7]) (Evl.el_lst (Evl.ea_cons Evl.ev_c Evl.ea_nil) (by decide))) (by rw [decide_eq_true rfl]; rfl))) (fun z => nomatch z) (fun _ G1 e1 => ?_)
        refine Evl.s_asgL (Evl.EvL.mono e1 (xl_cat (Evl.ev_var (i := 2) rfl) htd (s2 rfl rfl) (by rw [List.length_map, List.length_map]; omega))) fun p G2 np e2 h2 => ⟨p, some (.int (k : Int)), rfl, Same.trans sG (Same.trans e1 e2), ?_⟩
        rw [h2, htk, List.map_append]
      · have hk3 : ¬ k % 3 = 1 := fun z => of_decide_eq_false hb (congrArg V.int (by omega))
        unfold told7 at hax
        rw [if_neg hk3] at hax
        refine Evl.s_asgL (xl_catV (Evl.ev_var (i := 2) rfl) htd (ix rfl rfl) hax (by rw [List.length_map, List.length_map]; omega)) fun p G2 np e2 h2 => ⟨p, some (.int (k : Int)), rfl, Same.trans sG e2, ?_⟩
        rw [h2, htk, List.map_append]
    · rintro σ G ⟨td, y, rfl, sG, htd⟩
      rw [hH.1, List.take_length] at htd
      exact xr_ret (xr_call (xg_go (xg_cons (val_var (i := 2) rfl) (xg_cons (val_var (i := 1) rfl) xg_nil)) ⟨td, b, xss.flatten, rfl, SqL.of htd, Same.seq sG hB, by omega, q G sG⟩))
/-! ### in step, and on from there -/
theorem ev_ends {σ : L2.St} {H : Hp} {ta : TE} {l : List Nat} (h : Evl.Ev ta σ H (.str (tx l))) (hl : l.length ≤ 60000) : Evl.EvL (tCall sp_ends [] E0 (tCons ta tNil)) σ H ((enI l l.length).map V.int) :=
  Evl.el_call (Evl.ea_cons h Evl.ea_nil) fun H1 e Q q E => ⟨l, rfl, hl, fun H2 p e2 np hp => q p H2 np e2 hp⟩
def sp_stepped (K : PySem.W.Frag) : Sp := fun vs H Q _ => ∃ (b : Addr) (ms : List Int) (l : List Nat) (p : Nat), vs = [.str (tx l), .ref b, .int (p : Int)] ∧ p ≤ l.length ∧ l.length ≤ 15000 ∧ oddB l = false ∧ SqL K H b (ms.map V.int) ∧ Nm l l.length = ms ∧ Kp l l.length = [] ∧ ∀ H', Same H H' → Q (.bl true) H'
theorem ok_l_stepped (T : Txt K mg) : FnOk P w K mg base CX0 4 T.f_l_stepped T.d_l_stepped ["_law_text", "_law_numbers", "_law_place"] (sp_stepped K) := by
  refine T.F_l_stepped.ok sc_l_stepped (fun vs H Q E h => ?_) (fun cdv A outer s H vs Q E hr h => ?_)
  · obtain ⟨b, ms, l, p, rfl, _⟩ := h
    rfl
  · obtain ⟨b, ms, l, p, rfl, hp, hl, ho, hB, hnm, hkp, q⟩ := h
    refine ⟨_, (pss_cons (ps_if (pt_not (pt_val (pe_call (ok_l_in_step T) (hr.mono (by decide)) (by rfl) T.g_l_in_step T.F_l_in_step.kp T.b_l_in_step .nil pass0 (pa_cons (pv 0) (pa_cons (pv 2) pa_nil))))) (pss_one (ps_ret pe_bl)) pss_nil)
      (pss_cons (ps_set (i := 3) sc_l_stepped.nd rfl (Or.inr rfl) (pe_call (ok_l_behind T) (hr.mono (by decide)) (by rfl) T.g_l_behind T.F_l_behind.kp T.b_l_behind .nil pass0 (pa_cons (pv 0) (pa_cons (pv 2) pa_nil))))
      (pss_cons (ps_if (pt_cmpR op_isN (pv 3) pe_non (nomark _)) (pss_one (ps_ret pe_bl)) pss_nil)
      (pss_cons (ps_set (i := 4) sc_l_stepped.nd rfl (Or.inl rfl) (pe_callB call_len_seq (by rfl) T.m_len PySem.boot_len (pa_cons (pe_lc (own := [("_law_end", 5)]) (g := gName 5) rfl sc_l_stepped.nd (pi_list (pe_call (ok_l_ends T) (hr.mono (by decide)) (by rfl) T.g_l_ends T.F_l_ends.kp T.b_l_ends .nil pass0 (pa_cons (pv 0) pa_nil))) (blkOk_by (N := ["_law_text", "_law_numbers", "_law_place", "_law_due", "_law_many", "_law_end"]) (sc := defScope st_l_stepped) (by decide +kernel)) (fun _ _ _ _ _ => pg_name (i := 5) sc_l_stepped.nd rfl (Or.inl rfl)) (fun _ _ _ _ _ => (pts_one (pt_cmpR op_gt (pv 5) (pv 3) (nomark _)))) (fun _ _ _ _ _ => (pv 5))) pa_nil)))
      (pss_one (ps_ret (pe_call (ok_l_alike T) (hr.mono (by decide)) (by rfl) T.g_l_alike T.F_l_alike.kp T.b_l_alike .nil pass0 (pa_cons (pe_call (ok_read T) (hr.mono (by decide)) (by rfl) T.g_read T.F_read.kp T.b_read .nil passL (pa_cons (pe_slice sl_str (pv 0) (po_some (pv 3)) po_none) pa_nil)) (pa_cons (pe_slice sl_list (pv 1) (po_some (pe_op op_sub (pe_callB call_len_seq (by rfl) T.m_len PySem.boot_len (pa_cons (pv 1) pa_nil)) (pv 4))) po_none) pa_nil))))))))), ?_⟩
    refine xs_when (b := false) (xa_not (a := true) (xa_B (xv_call (xg_cons (val_var (i := 0) rfl) (xg_cons (val_var (i := 2) rfl) xg_nil)) fun Q q => ⟨l, p, rfl, hp, by omega, q⟩))) (fun z => nomatch z) (fun _ => ?_)
    refine xq_set (xv_call (xg_cons (val_var (i := 0) rfl) (xg_cons (val_var (i := 2) rfl) xg_nil)) fun Q q => ⟨l, p, rfl, hp, by omega, q⟩) ?_
    cases hoo : ooF l p (l.length - 2 - p) with
    | none =>
      refine xs_when (b := true) (ans_isN (val_var (i := 3) rfl) rfl) (fun _ => ?_) (fun z => nomatch z)
      exact st_ret val_c (q H (Same.refl H))
    | some a =>
      obtain ⟨ha1, ha2, ha3⟩ := fst_some hoo
      obtain ⟨hle, hk0⟩ := oo_end ha1
      refine xs_when (b := false) (ans_isN (val_var (i := 3) rfl) rfl) (fun z => nomatch z) (fun _ => ?_)
      have hv : optV (some a) = .int (((a + 3 : Nat) : Int)) := congrArg V.int (by omega)
      rw [hv]
      have hcn := En_cnt (l := l) hle
      have htot := En_len (l := l) l.length (Nat.le_refl _)
      have hNa := En_len (l := l) (a + 3) hle
      rw [hnm] at htot
      have hel := enI_len l l.length
      have hlen : (Evl.given ((enI l l.length).map V.int).length (fun i => decide ((En l (a + 3)).length ≤ i)) (fun i => .int ((enI l l.length).getD i 0))).length = (En l l.length).length - (En l (a + 3)).length := by
        unfold Evl.given
        rw [List.length_map, cnt_ge, List.length_map, hel]
      have hEl := En_len_le l l.length
      refine Evl.q_asg (v := .int (((En l l.length).length - (En l (a + 3)).length : Nat) : Int)) (Evl.ev_is (Evl.ev_lenN (K := K) (Evl.el_lcNL (j := 5) (vs := [5]) (fun i => decide ((En l (a + 3)).length ≤ i)) (fun i => .int ((enI l l.length).getD i 0)) (ev_ends (Evl.ev_var (i := 0) rfl) (by omega)) (by rw [List.length_map, hel]; omega) (fun _ => rfl) (fun i x H1 e1 hx => ?_) (fun i x H1 e1 hx _ => ?_))) (congrArg V.int (by rw [hlen]))) fun H1 e1 => ?_
      · have hil := (List.getElem?_eq_some_iff.mp hx).1
        rw [List.length_map, hel] at hil
        rw [List.getElem?_map] at hx
        obtain ⟨n, hn, rfl⟩ := Option.map_eq_some_iff.mp hx
        have hn2 : n = (((En l l.length).getD i 0 : Nat) : Int) := by
          rw [← enI_get, List.getD_eq_getElem?_getD, hn]
          rfl
        have hat := En_at (l := l) (m := i) hle hil
        refine Evl.et_is (Evl.et_test (fun H2 e2 Q q => xv_I0 (g := fun i j => .bl (decide (j < i))) (val_var (i := 5) rfl) (val_var (i := 3) rfl) _ (q H2 (Evl.Ex.refl H2)))) ?_
        rw [hn2]
        refine decide_eq_decide.mpr ?_
        constructor
        · intro z
          have : ¬ i < (En l (a + 3)).length := fun y => by
            have := hat.mpr y
            omega
          omega
        · intro z
          have : ¬ (En l l.length).getD i 0 ≤ a + 3 := fun y => by
            have := hat.mp y
            omega
          omega
      · rw [List.getElem?_map] at hx
        obtain ⟨n, hn, rfl⟩ := Option.map_eq_some_iff.mp hx
        have hn2 : (enI l l.length).getD i 0 = n := by
          rw [List.getD_eq_getElem?_getD, hn]
          rfl
        rw [hn2]
        exact Evl.ev_var rfl
      obtain ⟨rd1, rd2⟩ := rd_drop hle hk0
      rw [hnm] at rd1
      rw [hkp] at rd2
      have hod : oddB (l.drop (a + 3)) = false := odd_sub ho fun x hx => List.mem_of_mem_drop hx
      have hdl : (l.drop (a + 3)).length ≤ l.length := by
        rw [List.length_drop]
        omega
      refine xr_ret (xr_call (xr_cons (xr_call (xg_go (xg_cons (xv_to (xv_slS (val_var (i := 0) rfl) (bnd_some (val_var (i := 3) rfl)) (fun Q q => q) (by omega)) (congrArg V.str (cut_from l (a + 3)))) xg_nil) ?_))))
      refine ⟨l.drop (a + 3), rfl, by omega, fun z => (nomatch hod.symm.trans z), fun _ z => absurd rd2 z, fun _ _ H2 r e2 nr hr2 => ?_⟩
      rw [rd1] at hr2
      have hml : ms.length ≤ 15000 := by omega
      have hB2 := Same.seq (Same.trans e1 e2) hB
      refine xr_cons ?_
      have hsl := Evl.el_sl (K := K) (σ := [some (.str (tx l)), some (.ref b), some (.int (p : Int)), some (.int ((a + 3 : Nat) : Int)), some (.int (((En l l.length).length - (En l (a + 3)).length : Nat) : Int)), none]) (Evl.ev_var (i := 1) rfl) (Evl.eo_some (i := (((Nm l (a + 3)).length : Nat) : Int)) (Evl.ev_is (xe_I0 (g := fun i j => .int (i - j)) (xe_len (K := K) (Evl.ev_var (i := 1) rfl) hB2) (Evl.ev_var (i := 4) rfl)) (congrArg V.int (by rw [List.length_map]; omega)))) Evl.eo_none hB2
      rw [cut_lo, ← List.map_drop] at hsl
      refine hsl H2 (Evl.Ex.refl H2) _ fun p3 H3 np3 e3 h3 => ?_
      exact xr_nil ⟨r, p3, _, rfl, SqL.of (e3 r _ hr2), SqL.of h3, by rw [List.length_drop]; omega, q H3 (Same.trans e1 (Same.trans e2 e3))⟩
/-! ### the law -/
def E20 : Int := 10 ^ 20
theorem E20_W : E20 < W 140 := by
  have h1 := W_two 70
  have h2 : E20 < (2 : Int) ^ 70 := by decide +kernel
  exact Int.lt_of_lt_of_le h2 h1
theorem E20_T : E20 < T60 := by decide +kernel
/-- the numbers of this law -/
def Fit (ms : List Int) : Prop := ms.length ≤ 40 ∧ ∀ m ∈ ms, 0 < m ∧ m ≤ E20
theorem Fit.rev {ms : List Int} (h : Fit ms) : Fit ms.reverse := ⟨by rw [List.length_reverse]; exact h.1, fun m hm => h.2 m (List.mem_reverse.mp hm)⟩
theorem Fit.lt {ms : List Int} (h : Fit ms) : ∀ m ∈ ms, 0 < m ∧ m < W 1000 := fun m hm => ⟨(h.2 m hm).1, Int.lt_of_le_of_lt (h.2 m hm).2 (Int.lt_of_lt_of_le E20_W (W_mono (by decide)))⟩
theorem shown_short {n : Int} (h : n ≤ E20) : (shownT n).length ≤ 141 := by
  have h1 : n < W 1000 := Int.lt_of_le_of_lt h (Int.lt_of_lt_of_le E20_W (W_mono (by decide)))
  obtain ⟨_, h2, _⟩ := top_ok 1000 h1
  have h3 : top n 1000 ≤ 140 := by
    by_cases hc : top n 1000 ≤ 140
    · exact hc
    · have h4 := h2 (by omega)
      have h5 : W 140 ≤ W (top n 1000 - 1) := W_mono (by omega)
      have h6 := E20_W
      omega
  unfold shownT rowOf
  rw [List.length_append, List.length_map, List.length_reverse, gr_len]
  show _ + 1 ≤ 141
  omega
theorem Fit.len {ms : List Int} (h : Fit ms) : (wrT ms).length ≤ 5640 := by
  have h1 := flat_len (B := 141) (ms.map shownT) fun y hy => by
    obtain ⟨m, hm, rfl⟩ := List.mem_map.mp hy
    exact shown_short (h.2 m hm).2
  rw [List.length_map] at h1
  have h2 : ms.length * 141 ≤ 40 * 141 := Nat.mul_le_mul_right _ h.1
  unfold wrT
  omega
theorem Fit.good {ms : List Int} (h : Fit ms) : (ms.map V.int).all posB = true := List.all_eq_true.mpr fun x hx => by
  obtain ⟨n, hn, rfl⟩ := List.mem_map.mp hx
  obtain ⟨a, b⟩ := h.2 n hn
  show (decide (0 < n) && decide (n < T60)) = true
  rw [decide_eq_true a, decide_eq_true (Int.lt_of_le_of_lt b E20_T)]
  rfl
theorem th_int {K : PySem.W.Frag} {H : Hp} {ns : List Int} : ∀ x ∈ ns.map V.int, Th K H x := fun x hx => by
  obtain ⟨n, hn, rfl⟩ := List.mem_map.mp hx
  exact .inl ⟨n, rfl⟩
theorem txt_wr (ms : List Int) : ((ms.map V.int).map txt1).flatten = wrT ms := by
  rw [List.map_map]
  rfl
section
variable {σ : L2.St} {H : Hp} {ta tb tc : TE}
/-- written of the numbers -/
theorem ev_wr {C : Addr} {p : Addr} {ms : List Int} (h : Evl.Ev ta σ H (.ref p)) (hS : SqL K H p (ms.map V.int)) (hf : Fit ms) : Evl.Ev (tCall (sp_writ K C) [] E0 (tCons ta tNil)) σ H (.str (tx (wrT ms))) :=
  Evl.ev_call (Evl.ea_cons h Evl.ea_nil) fun H1 e Q q E => ⟨p, _, rfl, Same.seq e hS, th_int, by rw [List.length_map]; have := hf.1; omega, fun _ H2 e2 => by
    rw [txt_wr]
    exact q H2 e2, fun z => (nomatch hf.good.symm.trans z)⟩
/-- read of the whole text -/
theorem el_rd {C D : Addr} {ms : List Int} (h : Evl.Ev ta σ H (.str (tx (wrT ms)))) (hf : Fit ms) : Evl.EvL (tCall (sp_read C D) [] E0 (tCons ta tNil)) σ H (ms.map V.int) :=
  Evl.el_call (Evl.ea_cons h Evl.ea_nil) fun H1 e Q q E => ⟨wrT ms, rfl, by have := hf.len; omega, fun z => (nomatch (wr_odd ms).symm.trans z), fun _ z => absurd (congrArg Prod.snd (wr_rd ms hf.lt)) z, fun _ _ H2 p e2 np hp => q p H2 np e2 (by
    rw [wr_rd ms hf.lt] at hp
    exact hp)⟩
/-- held of what was fed -/
theorem ev_hld {hd b : Addr} {as : List Addr} {xss : List (List Int)} {ms : List Int} (h1 : Evl.Ev ta σ H (.ref hd)) (h2 : Evl.Ev tb σ H (.ref b)) (hh : H hd = some (.lst (as.map V.ref))) (hH : Hold H as xss) (hx : xss.flatten = ms) (hB : SqL K H b (ms.map V.int)) (hf : Fit ms) (ha : as.length ≤ 41) :
    Evl.Ev (tCall (sp_held K) [] E0 (tCons ta (tCons tb tNil))) σ H (.bl true) :=
  Evl.ev_call (Evl.ea_cons h1 (Evl.ea_cons h2 Evl.ea_nil)) fun H1 e Q q E => ⟨hd, b, as, xss, rfl, e hd _ hh, hH.keep fun x _ o h => e x o h, by rw [hx]; exact Same.seq e hB, by rw [hx]; have := hf.1; omega, ha, fun H2 e2 => q H2 e2⟩
end
def sp_law (K : PySem.W.Frag) : Sp := fun vs H Q _ => ∃ (a : Addr) (ns : List Int), vs = [.ref a] ∧ SqL K H a (ns.map V.int) ∧ ns.length ≤ 63 ∧ ∀ H', Q (.bl true) H'
theorem ok_law (T : Txt K mg) : FnOk P w K mg base CX0 6 T.f_law T.d_law ["_law_script"] (sp_law K) := by
  refine T.F_law.ok sc_law (fun vs H Q E h => ?_) (fun cdv A outer s H vs Q E hr h => ?_)
  · obtain ⟨a, ns, rfl, _⟩ := h
    rfl
  · obtain ⟨a, ns, rfl, hS, hl, q⟩ := h
    refine ⟨_, (pss_cons (ps_set (i := 1) sc_law.nd rfl (Or.inr rfl) (pe_ix ix_list (pe_lst (pa_cons pe_int (pa_cons pe_int (pa_cons (pe_op op_pow pe_int pe_int) (pa_cons (pe_op op_pow pe_int pe_int) pa_nil))))) (pe_op op_mod (pe_call (ok_l_cell T) (hr.mono (by decide)) (by rfl) T.g_l_cell T.F_l_cell.kp T.b_l_cell .nil pass0 (pa_cons (pv 0) (pa_cons pe_int pa_nil))) pe_int) (fun _ _ => rfl)))
      (pss_cons (ps_setLc (i := 2) (own := [("_law_cell_here", 9)]) (g := gName 9) (tt := tYes) rfl sc_law.nd rfl rfl (sw_true rfl rfl rfl (by decide +kernel)) (pi_list (pe_slice sl_list (pv 0) (po_some pe_int) (po_some pe_int))) (blkOk_by (N := ["_law_script", "_law_size", "_law_numbers", "_law_turned", "_law_text", "_law_held_here", "_law_other", "_law_place", "_law_loose", "_law_cell_here"]) (sc := defScope st_law) (by decide +kernel)) (fun _ _ _ _ _ => pg_name (i := 9) sc_law.nd rfl (Or.inl rfl)) (fun _ _ _ _ _ => pts_nil) (fun _ _ _ _ _ => (pe_op op_add pe_int (pe_op op_mod (pe_op op_fdiv (pv 9) pe_int) (pv 1)))))
      (pss_cons (ps_set (i := 3) sc_law.nd rfl (Or.inl rfl) (pe_listRev rfl (by rfl) T.m_list (by rfl) T.m_reversed (pv 2)))
      (pss_cons (ps_set (i := 4) sc_law.nd rfl (Or.inl rfl) (pe_call (ok_written T) (hr.mono (by decide)) (by rfl) T.g_written T.F_written.kp T.b_written .nil passL (pa_cons (pv 2) pa_nil)))
      (pss_cons (ps_if (PW.pt (pw_or (pt_not (pt_val (pe_callB call_isi (by rfl) T.m_isinstance (by decide +kernel) (pa_cons (pv 4) (pa_cons (pe_bltn (v := .ty "str") (by rfl) T.m_str (by decide +kernel) rfl) pa_nil))))) (pw_or1 (pt_cmpR op_ne (pe_callB call_len_seq (by rfl) T.m_len PySem.boot_len (pa_cons (pe_call (ok_l_ends T) (hr.mono (by decide)) (by rfl) T.g_l_ends T.F_l_ends.kp T.b_l_ends .nil pass0 (pa_cons (pv 4) pa_nil)) pa_nil)) (pe_callB call_len_seq (by rfl) T.m_len PySem.boot_len (pa_cons (pv 2) pa_nil)) (nomark _))))) (pss_one (ps_ret pe_bl)) pss_nil)
      (pss_cons (ps_set (i := 5) sc_law.nd rfl (Or.inl rfl) (pe_call (ok_l_fed T) (hr.mono (by decide)) (by rfl) T.g_l_fed T.F_l_fed.kp T.b_l_fed .nil pass0 (pa_cons (pv 0) (pa_cons (pv 4) (pa_cons (pv 2) pa_nil)))))
      (pss_cons (ps_set (i := 6) sc_law.nd rfl (Or.inl rfl) (pe_call (ok_l_fed T) (hr.mono (by decide)) (by rfl) T.g_l_fed T.F_l_fed.kp T.b_l_fed .nil pass0 (pa_cons (pv 0) (pa_cons (pe_call (ok_written T) (hr.mono (by decide)) (by rfl) T.g_written T.F_written.kp T.b_written .nil passL (pa_cons (pv 3) pa_nil)) (pa_cons (pv 3) pa_nil)))))
      (pss_cons (ps_if (PW.pt (pw_or (pt_cmpR op_isN (pv 5) pe_non (nomark _)) (pw_or (pt_cmpR op_isN (pv 6) pe_non (nomark _)) (pw_or (pt_not (pt_val (pe_call (ok_l_held T) (hr.mono (by decide)) (by rfl) T.g_l_held T.F_l_held.kp T.b_l_held .nil pass0 (pa_cons (pv 5) (pa_cons (pv 2) pa_nil))))) (pw_or1 (pt_not (pt_val (pe_call (ok_l_held T) (hr.mono (by decide)) (by rfl) T.g_l_held T.F_l_held.kp T.b_l_held .nil pass0 (pa_cons (pv 6) (pa_cons (pv 3) pa_nil)))))))))) (pss_one (ps_ret pe_bl)) pss_nil)
      (pss_cons (ps_set (i := 7) sc_law.nd rfl (Or.inl rfl) (pe_op op_mod (pe_op op_fdiv (pe_call (ok_l_cell T) (hr.mono (by decide)) (by rfl) T.g_l_cell T.F_l_cell.kp T.b_l_cell .nil pass0 (pa_cons (pv 0) (pa_cons pe_int pa_nil))) pe_int) (pe_op op_add (pe_callB call_len (by rfl) T.m_len PySem.boot_len (pa_cons (pv 4) pa_nil)) pe_int)))
      (pss_cons (ps_set (i := 8) sc_law.nd rfl (Or.inl rfl) (pe_join pe_str (pe_lc (own := [("_law_cell_here", 9)]) (g := gName 9) (tt := tYes) rfl sc_law.nd (pi_list (pe_slice sl_list (pv 0) (po_some pe_int) (po_some pe_int))) (blkOk_by (N := ["_law_script", "_law_size", "_law_numbers", "_law_turned", "_law_text", "_law_held_here", "_law_other", "_law_place", "_law_loose", "_law_cell_here"]) (sc := defScope st_law) (by decide +kernel)) (fun _ _ _ _ _ => pg_name (i := 9) sc_law.nd rfl (Or.inl rfl)) (fun _ _ _ _ _ => pts_nil) (fun _ _ _ _ _ => (pe_ix ix_str pe_str (pe_op op_mod (pv 9) pe_int) (fun _ _ => rfl))))))
      (pss_cons (ps_if (pt_not (pt_val (pe_call (ok_l_in_step T) (hr.mono (by decide)) (by rfl) T.g_l_in_step T.F_l_in_step.kp T.b_l_in_step .nil pass0 (pa_cons (pv 8) (pa_cons (pe_op op_mod (pv 7) (pe_op op_add (pe_callB call_len (by rfl) T.m_len PySem.boot_len (pa_cons (pv 8) pa_nil)) pe_int)) pa_nil))))) (pss_one (ps_ret pe_bl)) pss_nil)
      (pss_one (ps_ret (pe_and (pe_call (ok_l_alike T) (hr.mono (by decide)) (by rfl) T.g_l_alike T.F_l_alike.kp T.b_l_alike .nil pass0 (pa_cons (pe_call (ok_read T) (hr.mono (by decide)) (by rfl) T.g_read T.F_read.kp T.b_read .nil passL (pa_cons (pv 4) pa_nil)) (pa_cons (pv 2) pa_nil))) (pe_one (pe_call (ok_l_stepped T) (hr.mono (by decide)) (by rfl) T.g_l_stepped T.F_l_stepped.kp T.b_l_stepped .nil pass0 (pa_cons (pv 4) (pa_cons (pv 2) (pa_cons (pv 7) pa_nil))))))))))))))))))), ?_⟩
    -- the size
    refine xq_run (xr_opR (xr_lst ?_))
    refine xr_cons (xv_go val_c (xr_cons (xv_go val_c (xr_cons (xv_go (by walk_at "val") (xr_cons (xv_go (by walk_at "val") (xr_nil ⟨Evl.sz_of (by show 4 ≤ 100000; omega), fun p3 np3 => ?_⟩))))))))
    have e0 : Same H (upd H p3 (.lst [.int 12, .int 1000, .int (10 ^ (9 : Int).toNat), .int (10 ^ (20 : Int).toNat)])) := Evl.Ex.new np3
    have h0 : (upd H p3 (.lst [.int 12, .int 1000, .int (10 ^ (9 : Int).toNat), .int (10 ^ (20 : Int).toNat)])) p3 = some (.lst [.int 12, .int 1000, .int (10 ^ (9 : Int).toNat), .int (10 ^ (20 : Int).toNat)]) := upd_same
    generalize upd H p3 (.lst [.int 12, .int 1000, .int (10 ^ (9 : Int).toNat), .int (10 ^ (20 : Int).toNat)]) = H0 at h0 e0
    have hS0 := Same.seq e0 hS
    refine xv_go (xv_I (C := fun _ j => 0 < j) (g := fun i j => .int (i % j)) (xv_cell (j := 0) (val_var (i := 0) rfl) val_c hS0) val_c (by decide)) ?_
    have hz : ∃ z : Int, atI [V.int 12, .int 1000, .int (10 ^ (9 : Int).toNat), .int (10 ^ (20 : Int).toNat)] (ns.getD 0 0 % 4) = some (.int z) ∧ 0 < z ∧ z ≤ E20 := by
      generalize ns.getD 0 0 = c
      rcases (show c % 4 = 0 ∨ c % 4 = 1 ∨ c % 4 = 2 ∨ c % 4 = 3 by omega) with h | h | h | h <;> rw [h]
      · exact ⟨_, rfl, by decide +kernel, by decide +kernel⟩
      · exact ⟨_, rfl, by decide +kernel, by decide +kernel⟩
      · exact ⟨_, rfl, by decide +kernel, by decide +kernel⟩
      · exact ⟨_, rfl, by decide +kernel, by decide +kernel⟩
    obtain ⟨z, hz, z0, z1⟩ := hz
    refine ⟨p3, _, _, .int z, rfl, rfl, SqL.of h0, hz, ?_⟩
    clear h0 hz np3
    -- the numbers
    have hsl := Evl.el_sl (K := K) (σ := wipe [some (.ref a), some (.int z), none, none, none, none, none, none, none, none] [9]) (Evl.ev_var (i := 0) rfl) (Evl.eo_some (Evl.ev_c (v := V.int 1))) (Evl.eo_some (Evl.ev_c (v := V.int 41))) hS0
    rw [cut_int (by decide) (by decide)] at hsl
    have hcl : ((ns.take (41 : Int).toNat).drop (1 : Int).toNat).length ≤ 40 := by
      rw [List.length_drop, List.length_take]
      show min 41 _ - 1 ≤ 40
      omega
    generalize hcs : (ns.take (41 : Int).toNat).drop (1 : Int).toNat = cs at hsl hcl
    refine Evl.q_asgL (xl_mapI (K := K) (j := 9) (ws := [9]) (cs := cs) (F := fun x => .int (1 + x / 23 % z)) hsl (by omega) (fun _ => rfl) fun x H1 e1 hx => xe_I0 (g := fun i j => .int (i + j)) Evl.ev_c (xe_I (C := fun _ j => 0 < j) (g := fun i j => .int (i % j)) (xe_I (C := CDiv) (g := fun i j => .int (i / j)) (Evl.ev_var (i := 9) rfl) Evl.ev_c (by exact ⟨by decide, by decide⟩)) (Evl.ev_var (i := 1) rfl) z0)) fun nu H1 nnu e1 hnu => ?_
    obtain ⟨ms, hms⟩ : ∃ ms : List Int, ms = cs.map fun x => 1 + x / 23 % z := ⟨_, rfl⟩
    have hnu : H1 nu = some (.lst (ms.map V.int)) := by
      rw [hnu, hms, List.map_map]
      rfl
    have hf : Fit ms := by
      rw [hms]
      refine ⟨by rw [List.length_map]; exact hcl, fun m hm => ?_⟩
      obtain ⟨x, _, rfl⟩ := List.mem_map.mp hm
      have h1 := Int.emod_nonneg (x / 23) (show z ≠ 0 by omega)
      have h2 := Int.emod_lt_of_pos (x / 23) z0
      omega
    clear hms
    have hS1 := Same.seq e1 hS0
    refine Evl.q_asgL (xl_revL (K := K) (Evl.ev_var (i := 2) rfl) (SqL.of hnu)) fun tu H2 ntu e2 htu => ?_
    rw [← List.map_reverse] at htu
    refine Evl.q_asg (ev_wr (Evl.ev_var (i := 2) rfl) (SqL.of (e2 nu _ hnu)) hf) fun H3 e3 => ?_
    have hnu3 := e3 nu _ (e2 nu _ hnu)
    have htu3 := e3 tu _ htu
    have hS3 := Same.seq (Same.trans e2 e3) hS1
    have hfl := hf.len
    have hel := enI_len (wrT ms) (wrT ms).length
    rw [wr_En hf.lt] at hel
    refine Evl.q_when (b := false) (Evl.et_or (a := false) (b := false) (Evl.et_not (a := true) (Evl.et_B (fun G e Q q => xv_isi (val_var (i := 4) rfl) (.base (.str _)) (by decide +kernel) _ (q G (Evl.Ex.refl G))))) fun _ => Evl.et_test (Evl.ev_is (Evl.ev_op (Evl.ev_lenN (K := K) (ev_ends (Evl.ev_var (i := 4) rfl) (by omega))) (xe_len (K := K) (Evl.ev_var (i := 2) rfl) (SqL.of hnu3)) (Evl.rv_ne rfl)) (by
      rw [List.length_map, List.length_map, hel, decide_eq_true rfl]
      rfl))) (fun z => nomatch z) (fun _ H4 e4 => ?_)
    have hS4 := Same.seq e4 hS3
    have hnu4 := e4 nu _ hnu3
    have htu4 := e4 tu _ htu3
    -- fed
    refine xq_run (xr_call (xg_go (xg_cons (val_var (i := 0) rfl) (xg_cons (val_var (i := 4) rfl) (xg_cons (val_var (i := 2) rfl) xg_nil))) ⟨a, nu, ns, ms, wrT ms, rfl, hS4, SqL.of hnu4, by omega, wr_odd ms, wr_Nm hf.lt, fun H5 h1 as1 xs1 e5 nh1 hh1 hH1 hx1 ha1 => ?_⟩))
    have hS5 := Same.seq e5 hS4
    have hnu5 := e5 nu _ hnu4
    have htu5 := e5 tu _ htu4
    have hfr := hf.rev
    have hflr := hfr.len
    refine xq_run (xr_call (xr_cons (xv_go (val_var (i := 0) rfl) (xr_cons (ev_wr (Evl.ev_var (i := 3) rfl) (SqL.of htu5) hfr H5 (Evl.Ex.refl H5) _ fun H6 e6 => xr_cons (xv_go (val_var (i := 3) rfl) (xr_nil ?_)))))))
    refine ⟨a, tu, ns, ms.reverse, wrT ms.reverse, rfl, Same.seq e6 hS5, SqL.of (e6 tu _ htu5), by omega, wr_odd _, wr_Nm hfr.lt, fun H7 h2 as2 xs2 e7 nh2 hh2 hH2 hx2 ha2 => ?_⟩
    have e57 := Same.trans e6 e7
    have hS7 := Same.seq e57 hS5
    have hnu7 := e57 nu _ hnu5
    have htu7 := e57 tu _ htu5
    have hh17 := e57 h1 _ hh1
    have hH17 : Hold H7 as1 xs1 := hH1.keep fun x _ o h => e57 x o h
    refine Evl.q_when (b := false) (Evl.et_or (a := false) (b := false) (fun G e Q q => ans_isN (b := false) (val_var (i := 5) rfl) rfl _ (q G (Evl.Ex.refl G))) fun _ => Evl.et_or (a := false) (b := false) (fun G e Q q => ans_isN (b := false) (val_var (i := 6) rfl) rfl _ (q G (Evl.Ex.refl G))) fun _ =>
      Evl.et_or (a := false) (b := false) (Evl.et_not (a := true) (Evl.et_B (ev_hld (Evl.ev_var (i := 5) rfl) (Evl.ev_var (i := 2) rfl) hh17 hH17 hx1 (SqL.of hnu7) hf ha1))) fun _ => Evl.et_not (a := true) (Evl.et_B (ev_hld (Evl.ev_var (i := 6) rfl) (Evl.ev_var (i := 3) rfl) hh2 hH2 hx2 (SqL.of htu7) hfr ha2))) (fun z => nomatch z) (fun _ H8 e8 => ?_)
    have hS8 := Same.seq e8 hS7
    have hnu8 := e8 nu _ hnu7
    -- the place
    have hp0 : (0 : Int) < ((wrT ms).length : Int) + 1 := by omega
    refine xq_set (xv_I (C := fun _ j => 0 < j) (g := fun i j => .int (i % j)) (xv_I (C := CDiv) (g := fun i j => .int (i / j)) (xv_cell (j := 0) (val_var (i := 0) rfl) val_c hS8) val_c (by exact ⟨by decide, by decide⟩)) (xv_I0 (g := fun i j => .int (i + j)) (xv_lenS (val_var (i := 4) rfl) (by omega)) val_c) hp0) ?_
    have hpm := Int.emod_lt_of_pos (ns.getD 0 0 / 4) hp0
    obtain ⟨pl, hpl⟩ : ∃ pl : Nat, ns.getD 0 0 / 4 % (((wrT ms).length : Int) + 1) = (pl : Int) := ⟨_, (Int.toNat_of_nonneg (Int.emod_nonneg _ (by omega))).symm⟩
    rw [hpl] at hpm ⊢
    -- a loose text
    have hsl8 := Evl.el_sl (K := K) (σ := wipe [some (.ref a), some (.int z), some (.ref nu), some (.ref tu), some (.str (tx (wrT ms))), some (.ref h1), some (.ref h2), some (.int (pl : Int)), none, none] [9]) (Evl.ev_var (i := 0) rfl) (Evl.eo_some (Evl.ev_c (v := V.int 1))) (Evl.eo_some (Evl.ev_c (v := V.int 41))) hS8
    rw [cut_int (by decide) (by decide), hcs] at hsl8
    have hlo : ((cs.map fun c => [if c % 3 = 0 then 46 else 111]).flatten).length ≤ 40 := by
      have h := flat_len (B := 1) (cs.map fun c => [if c % 3 = 0 then 46 else 111]) fun y hy => by
        obtain ⟨c, _, rfl⟩ := List.mem_map.mp hy
        exact Nat.le_refl 1
      rw [List.length_map] at h
      omega
    refine xq_run (to_join (ys := cs.map fun c => [if c % 3 = 0 then 46 else 111]) (xv_c rfl) (el_lcF (K := K) (j := 9) (ws := [9]) (ms := cs) (F := fun c => [if c % 3 = 0 then 46 else 111]) hsl8 (by omega) (fun _ => rfl) fun x G e hx => xv_ixS (xv_cS s_doo) (xv_I (C := fun _ j => 0 < j) (g := fun i j => .int (i % j)) (val_var (i := 9) rfl) val_c (by decide)) (by decide) ?_) (by omega) fun H9 e9 => ?_)
    · rcases (show x % 3 = 0 ∨ x % 3 = 1 ∨ x % 3 = 2 by omega) with h | h | h <;> rw [h] <;> rfl
    generalize (cs.map fun c => [if c % 3 = 0 then 46 else 111]).flatten = lo at hlo
    have hnu9 := e9 nu _ hnu8
    have hq0 : (0 : Int) < (lo.length : Int) + 1 := by omega
    have hqm := Int.emod_lt_of_pos (pl : Int) hq0
    obtain ⟨ql, hql⟩ : ∃ ql : Nat, (pl : Int) % ((lo.length : Int) + 1) = (ql : Int) := ⟨_, (Int.toNat_of_nonneg (Int.emod_nonneg _ (by omega))).symm⟩
    rw [hql] at hqm
    refine xs_when (b := false) (xa_not (a := true) (xa_B (xv_call (xg_cons (val_var (i := 8) rfl) (xg_cons (xv_to (xv_I (C := fun _ j => 0 < j) (g := fun i j => .int (i % j)) (val_var (i := 7) rfl) (xv_I0 (g := fun i j => .int (i + j)) (xv_lenS (val_var (i := 8) rfl) (by omega)) val_c) hq0) (congrArg V.int hql)) xg_nil)) fun Q q => ⟨lo, ql, rfl, by omega, by omega, q⟩))) (fun z => nomatch z) (fun _ => ?_)
    -- the end
    refine xr_ret (xr_and (xr_call (xr_cons (el_rd (Evl.ev_var (i := 4) rfl) hf H9 (Evl.Ex.refl H9) _ fun r H10 nr e10 hr10 => xr_cons (xv_go (val_var (i := 2) rfl) (xr_nil ⟨r, nu, ms, rfl, SqL.of hr10, SqL.of (e10 nu _ hnu9), by have := hf.1; omega, true, rfl, iteT ?_⟩))))))
    refine xr_call (xg_go (xg_cons (val_var (i := 4) rfl) (xg_cons (val_var (i := 2) rfl) (xg_cons (val_var (i := 7) rfl) xg_nil))) ⟨nu, ms, wrT ms, pl, rfl, by omega, by omega, wr_odd ms, SqL.of (e10 nu _ hnu9), wr_Nm hf.lt, wr_Kp hf.lt, fun H11 e11 => q H11⟩)
end
theorem all_mk {l : PySem.W.OpenLaw} {w : World} {K : PySem.W.Frag} {h : Heap} {mg : Str → Option Value} {fa : Addr} (X : K.In h) (G : h.Ns mainGlobals mg) (hfa : mg "law" = some (.ref fa))
    {C_StairError : Addr} (a_StairError : PySem.W.nsIn K mainGlobals "StairError" = some (some (.ref C_StairError)))
    (k_StairError : PySem.W.keepIn K (.ref C_StairError) = true) (x_StairError : PySem.W.excIn K C_StairError [.type "ValueError", .type "Exception", .type "BaseException", .type "object"] "ValueError.__new__" = true) (xb_StairError : PySem.W.subIn K (.ref C_StairError) (.type "BaseException") = some true) (xt_StairError : PySem.W.typeIn K (.ref C_StairError) = some (.type "type"))
    {C_NoNumber : Addr} (a_NoNumber : PySem.W.nsIn K mainGlobals "NoNumber" = some (some (.ref C_NoNumber)))
    (k_NoNumber : PySem.W.keepIn K (.ref C_NoNumber) = true) (x_NoNumber : PySem.W.excIn K C_NoNumber [.type "ValueError", .type "Exception", .type "BaseException", .type "object"] "ValueError.__new__" = true) (xb_NoNumber : PySem.W.subIn K (.ref C_NoNumber) (.type "BaseException") = some true) (xt_NoNumber : PySem.W.typeIn K (.ref C_NoNumber) = some (.type "type"))
    {C_NoSign : Addr} (a_NoSign : PySem.W.nsIn K mainGlobals "NoSign" = some (some (.ref C_NoSign)))
    (k_NoSign : PySem.W.keepIn K (.ref C_NoSign) = true) (x_NoSign : PySem.W.excIn K C_NoSign [.type "ValueError", .type "Exception", .type "BaseException", .type "object"] "ValueError.__new__" = true) (xb_NoSign : PySem.W.subIn K (.ref C_NoSign) (.type "BaseException") = some true) (xt_NoSign : PySem.W.typeIn K (.ref C_NoSign) = some (.type "type"))
    {C_NoEnd : Addr} (a_NoEnd : PySem.W.nsIn K mainGlobals "NoEnd" = some (some (.ref C_NoEnd)))
    (k_NoEnd : PySem.W.keepIn K (.ref C_NoEnd) = true) (x_NoEnd : PySem.W.excIn K C_NoEnd [.type "ValueError", .type "Exception", .type "BaseException", .type "object"] "ValueError.__new__" = true) (xb_NoEnd : PySem.W.subIn K (.ref C_NoEnd) (.type "BaseException") = some true) (xt_NoEnd : PySem.W.typeIn K (.ref C_NoEnd) = some (.type "type"))
    {C_Reader : Addr} (a_Reader : PySem.W.nsIn K mainGlobals "Reader" = some (some (.ref C_Reader)))
    {f_weight : Addr} (a_weight : PySem.W.nsIn K mainGlobals "weight" = some (some (.ref f_weight)))
    {od_weight an_weight : Option Addr} {sl_weight : Array (Option Value)} {oc_weight kV_weight dc_weight pm_weight cd_weight ct_weight : Value} (l_weight : K.lookup f_weight = some ⟨oc_weight, od_weight, .func (PySem.W.fnOf "weight" "weight" (defArgs st_weight) (defBody st_weight) (defScope st_weight) .none kV_weight dc_weight pm_weight an_weight cd_weight ct_weight), sl_weight⟩) (c_weight : PySem.W.codeIn K cd_weight "weight" = true) (k_weight : PySem.W.keepIn K (.ref f_weight) = true)
    {f_is_number : Addr} (a_is_number : PySem.W.nsIn K mainGlobals "is_number" = some (some (.ref f_is_number)))
    {od_is_number an_is_number : Option Addr} {sl_is_number : Array (Option Value)} {oc_is_number kV_is_number dc_is_number pm_is_number cd_is_number ct_is_number : Value} (l_is_number : K.lookup f_is_number = some ⟨oc_is_number, od_is_number, .func (PySem.W.fnOf "is_number" "is_number" (defArgs st_is_number) (defBody st_is_number) (defScope st_is_number) .none kV_is_number dc_is_number pm_is_number an_is_number cd_is_number ct_is_number), sl_is_number⟩) (c_is_number : PySem.W.codeIn K cd_is_number "is_number" = true) (k_is_number : PySem.W.keepIn K (.ref f_is_number) = true)
    {f_still_heap : Addr} (a_still_heap : PySem.W.nsIn K mainGlobals "still_heap" = some (some (.ref f_still_heap)))
    {od_still_heap an_still_heap : Option Addr} {sl_still_heap : Array (Option Value)} {oc_still_heap kV_still_heap dc_still_heap pm_still_heap cd_still_heap ct_still_heap : Value} (l_still_heap : K.lookup f_still_heap = some ⟨oc_still_heap, od_still_heap, .func (PySem.W.fnOf "still_heap" "still_heap" (defArgs st_still_heap) (defBody st_still_heap) (defScope st_still_heap) .none kV_still_heap dc_still_heap pm_still_heap an_still_heap cd_still_heap ct_still_heap), sl_still_heap⟩) (c_still_heap : PySem.W.codeIn K cd_still_heap "still_heap" = true) (k_still_heap : PySem.W.keepIn K (.ref f_still_heap) = true)
    {f_row_of : Addr} (a_row_of : PySem.W.nsIn K mainGlobals "row_of" = some (some (.ref f_row_of)))
    {od_row_of an_row_of : Option Addr} {sl_row_of : Array (Option Value)} {oc_row_of kV_row_of dc_row_of pm_row_of cd_row_of ct_row_of : Value} (l_row_of : K.lookup f_row_of = some ⟨oc_row_of, od_row_of, .func (PySem.W.fnOf "row_of" "row_of" (defArgs st_row_of) (defBody st_row_of) (defScope st_row_of) .none kV_row_of dc_row_of pm_row_of an_row_of cd_row_of ct_row_of), sl_row_of⟩) (c_row_of : PySem.W.codeIn K cd_row_of "row_of" = true) (k_row_of : PySem.W.keepIn K (.ref f_row_of) = true)
    {f_shown : Addr} (a_shown : PySem.W.nsIn K mainGlobals "shown" = some (some (.ref f_shown)))
    {od_shown an_shown : Option Addr} {sl_shown : Array (Option Value)} {oc_shown kV_shown dc_shown pm_shown cd_shown ct_shown : Value} (l_shown : K.lookup f_shown = some ⟨oc_shown, od_shown, .func (PySem.W.fnOf "shown" "shown" (defArgs st_shown) (defBody st_shown) (defScope st_shown) .none kV_shown dc_shown pm_shown an_shown cd_shown ct_shown), sl_shown⟩) (c_shown : PySem.W.codeIn K cd_shown "shown" = true) (k_shown : PySem.W.keepIn K (.ref f_shown) = true)
    {f_written : Addr} (a_written : PySem.W.nsIn K mainGlobals "written" = some (some (.ref f_written)))
    {od_written an_written : Option Addr} {sl_written : Array (Option Value)} {oc_written kV_written dc_written pm_written cd_written ct_written : Value} (l_written : K.lookup f_written = some ⟨oc_written, od_written, .func (PySem.W.fnOf "written" "written" (defArgs st_written) (defBody st_written) (defScope st_written) .none kV_written dc_written pm_written an_written cd_written ct_written), sl_written⟩) (c_written : PySem.W.codeIn K cd_written "written" = true) (k_written : PySem.W.keepIn K (.ref f_written) = true)
    {f_look_at : Addr} (a_look_at : PySem.W.nsIn K mainGlobals "look_at" = some (some (.ref f_look_at)))
    {od_look_at an_look_at : Option Addr} {sl_look_at : Array (Option Value)} {oc_look_at kV_look_at dc_look_at pm_look_at cd_look_at ct_look_at : Value} (l_look_at : K.lookup f_look_at = some ⟨oc_look_at, od_look_at, .func (PySem.W.fnOf "look_at" "look_at" (defArgs st_look_at) (defBody st_look_at) (defScope st_look_at) .none kV_look_at dc_look_at pm_look_at an_look_at cd_look_at ct_look_at), sl_look_at⟩) (c_look_at : PySem.W.codeIn K cd_look_at "look_at" = true) (k_look_at : PySem.W.keepIn K (.ref f_look_at) = true)
    {f_read_on : Addr} (a_read_on : PySem.W.nsIn K mainGlobals "read_on" = some (some (.ref f_read_on)))
    {od_read_on an_read_on : Option Addr} {sl_read_on : Array (Option Value)} {oc_read_on kV_read_on dc_read_on pm_read_on cd_read_on ct_read_on : Value} (l_read_on : K.lookup f_read_on = some ⟨oc_read_on, od_read_on, .func (PySem.W.fnOf "read_on" "read_on" (defArgs st_read_on) (defBody st_read_on) (defScope st_read_on) .none kV_read_on dc_read_on pm_read_on an_read_on cd_read_on ct_read_on), sl_read_on⟩) (c_read_on : PySem.W.codeIn K cd_read_on "read_on" = true) (k_read_on : PySem.W.keepIn K (.ref f_read_on) = true)
    {f_read : Addr} (a_read : PySem.W.nsIn K mainGlobals "read" = some (some (.ref f_read)))
    {od_read an_read : Option Addr} {sl_read : Array (Option Value)} {oc_read kV_read dc_read pm_read cd_read ct_read : Value} (l_read : K.lookup f_read = some ⟨oc_read, od_read, .func (PySem.W.fnOf "read" "read" (defArgs st_read) (defBody st_read) (defScope st_read) .none kV_read dc_read pm_read an_read cd_read ct_read), sl_read⟩) (c_read : PySem.W.codeIn K cd_read "read" = true) (k_read : PySem.W.keepIn K (.ref f_read) = true)
    {f_in_step : Addr} (a_in_step : PySem.W.nsIn K mainGlobals "in_step" = some (some (.ref f_in_step)))
    {od_in_step an_in_step : Option Addr} {sl_in_step : Array (Option Value)} {oc_in_step kV_in_step dc_in_step pm_in_step cd_in_step ct_in_step : Value} (l_in_step : K.lookup f_in_step = some ⟨oc_in_step, od_in_step, .func (PySem.W.fnOf "in_step" "in_step" (defArgs st_in_step) (defBody st_in_step) (defScope st_in_step) .none kV_in_step dc_in_step pm_in_step an_in_step cd_in_step ct_in_step), sl_in_step⟩) (c_in_step : PySem.W.codeIn K cd_in_step "in_step" = true) (k_in_step : PySem.W.keepIn K (.ref f_in_step) = true)
    {f_Reader___init : Addr} (a_Reader___init : PySem.W.findIn K (.ref C_Reader) "__init__" = some (some (.ref f_Reader___init))) (i_Reader___init : PySem.W.isFn K (.ref f_Reader___init) = true)
    {od_Reader___init an_Reader___init : Option Addr} {sl_Reader___init : Array (Option Value)} {oc_Reader___init kV_Reader___init dc_Reader___init pm_Reader___init cd_Reader___init ct_Reader___init : Value} (l_Reader___init : K.lookup f_Reader___init = some ⟨oc_Reader___init, od_Reader___init, .func (PySem.W.fnOf "__init__" "Reader.__init__" (defArgs st_Reader___init) (defBody st_Reader___init) (defScope st_Reader___init) .none kV_Reader___init dc_Reader___init pm_Reader___init an_Reader___init cd_Reader___init ct_Reader___init), sl_Reader___init⟩) (c_Reader___init : PySem.W.codeIn K cd_Reader___init "Reader.__init__" = true) (k_Reader___init : PySem.W.keepIn K (.ref f_Reader___init) = true)
    {f_Reader_feed : Addr} (a_Reader_feed : PySem.W.findIn K (.ref C_Reader) "feed" = some (some (.ref f_Reader_feed))) (i_Reader_feed : PySem.W.isFn K (.ref f_Reader_feed) = true)
    {od_Reader_feed an_Reader_feed : Option Addr} {sl_Reader_feed : Array (Option Value)} {oc_Reader_feed kV_Reader_feed dc_Reader_feed pm_Reader_feed cd_Reader_feed ct_Reader_feed : Value} (l_Reader_feed : K.lookup f_Reader_feed = some ⟨oc_Reader_feed, od_Reader_feed, .func (PySem.W.fnOf "feed" "Reader.feed" (defArgs st_Reader_feed) (defBody st_Reader_feed) (defScope st_Reader_feed) .none kV_Reader_feed dc_Reader_feed pm_Reader_feed an_Reader_feed cd_Reader_feed ct_Reader_feed), sl_Reader_feed⟩) (c_Reader_feed : PySem.W.codeIn K cd_Reader_feed "Reader.feed" = true) (k_Reader_feed : PySem.W.keepIn K (.ref f_Reader_feed) = true)
    {f_Reader_left : Addr} (a_Reader_left : PySem.W.findIn K (.ref C_Reader) "left" = some (some (.ref f_Reader_left))) (i_Reader_left : PySem.W.isFn K (.ref f_Reader_left) = true)
    {od_Reader_left an_Reader_left : Option Addr} {sl_Reader_left : Array (Option Value)} {oc_Reader_left kV_Reader_left dc_Reader_left pm_Reader_left cd_Reader_left ct_Reader_left : Value} (l_Reader_left : K.lookup f_Reader_left = some ⟨oc_Reader_left, od_Reader_left, .func (PySem.W.fnOf "left" "Reader.left" (defArgs st_Reader_left) (defBody st_Reader_left) (defScope st_Reader_left) .none kV_Reader_left dc_Reader_left pm_Reader_left an_Reader_left cd_Reader_left ct_Reader_left), sl_Reader_left⟩) (c_Reader_left : PySem.W.codeIn K cd_Reader_left "Reader.left" = true) (k_Reader_left : PySem.W.keepIn K (.ref f_Reader_left) = true)
    {f_l_cell : Addr} (a_l_cell : PySem.W.nsIn K mainGlobals "_law_cell" = some (some (.ref f_l_cell)))
    {od_l_cell an_l_cell : Option Addr} {sl_l_cell : Array (Option Value)} {oc_l_cell kV_l_cell dc_l_cell pm_l_cell cd_l_cell ct_l_cell : Value} (l_l_cell : K.lookup f_l_cell = some ⟨oc_l_cell, od_l_cell, .func (PySem.W.fnOf "_law_cell" "_law_cell" (defArgs st_l_cell) (defBody st_l_cell) (defScope st_l_cell) .none kV_l_cell dc_l_cell pm_l_cell an_l_cell cd_l_cell ct_l_cell), sl_l_cell⟩) (c_l_cell : PySem.W.codeIn K cd_l_cell "_law_cell" = true) (k_l_cell : PySem.W.keepIn K (.ref f_l_cell) = true)
    {f_l_whole : Addr} (a_l_whole : PySem.W.nsIn K mainGlobals "_law_whole" = some (some (.ref f_l_whole)))
    {od_l_whole an_l_whole : Option Addr} {sl_l_whole : Array (Option Value)} {oc_l_whole kV_l_whole dc_l_whole pm_l_whole cd_l_whole ct_l_whole : Value} (l_l_whole : K.lookup f_l_whole = some ⟨oc_l_whole, od_l_whole, .func (PySem.W.fnOf "_law_whole" "_law_whole" (defArgs st_l_whole) (defBody st_l_whole) (defScope st_l_whole) .none kV_l_whole dc_l_whole pm_l_whole an_l_whole cd_l_whole ct_l_whole), sl_l_whole⟩) (c_l_whole : PySem.W.codeIn K cd_l_whole "_law_whole" = true) (k_l_whole : PySem.W.keepIn K (.ref f_l_whole) = true)
    {f_l_alike : Addr} (a_l_alike : PySem.W.nsIn K mainGlobals "_law_alike" = some (some (.ref f_l_alike)))
    {od_l_alike an_l_alike : Option Addr} {sl_l_alike : Array (Option Value)} {oc_l_alike kV_l_alike dc_l_alike pm_l_alike cd_l_alike ct_l_alike : Value} (l_l_alike : K.lookup f_l_alike = some ⟨oc_l_alike, od_l_alike, .func (PySem.W.fnOf "_law_alike" "_law_alike" (defArgs st_l_alike) (defBody st_l_alike) (defScope st_l_alike) .none kV_l_alike dc_l_alike pm_l_alike an_l_alike cd_l_alike ct_l_alike), sl_l_alike⟩) (c_l_alike : PySem.W.codeIn K cd_l_alike "_law_alike" = true) (k_l_alike : PySem.W.keepIn K (.ref f_l_alike) = true)
    {f_l_ends : Addr} (a_l_ends : PySem.W.nsIn K mainGlobals "_law_ends" = some (some (.ref f_l_ends)))
    {od_l_ends an_l_ends : Option Addr} {sl_l_ends : Array (Option Value)} {oc_l_ends kV_l_ends dc_l_ends pm_l_ends cd_l_ends ct_l_ends : Value} (l_l_ends : K.lookup f_l_ends = some ⟨oc_l_ends, od_l_ends, .func (PySem.W.fnOf "_law_ends" "_law_ends" (defArgs st_l_ends) (defBody st_l_ends) (defScope st_l_ends) .none kV_l_ends dc_l_ends pm_l_ends an_l_ends cd_l_ends ct_l_ends), sl_l_ends⟩) (c_l_ends : PySem.W.codeIn K cd_l_ends "_law_ends" = true) (k_l_ends : PySem.W.keepIn K (.ref f_l_ends) = true)
    {f_l_pieces : Addr} (a_l_pieces : PySem.W.nsIn K mainGlobals "_law_pieces" = some (some (.ref f_l_pieces)))
    {od_l_pieces an_l_pieces : Option Addr} {sl_l_pieces : Array (Option Value)} {oc_l_pieces kV_l_pieces dc_l_pieces pm_l_pieces cd_l_pieces ct_l_pieces : Value} (l_l_pieces : K.lookup f_l_pieces = some ⟨oc_l_pieces, od_l_pieces, .func (PySem.W.fnOf "_law_pieces" "_law_pieces" (defArgs st_l_pieces) (defBody st_l_pieces) (defScope st_l_pieces) .none kV_l_pieces dc_l_pieces pm_l_pieces an_l_pieces cd_l_pieces ct_l_pieces), sl_l_pieces⟩) (c_l_pieces : PySem.W.codeIn K cd_l_pieces "_law_pieces" = true) (k_l_pieces : PySem.W.keepIn K (.ref f_l_pieces) = true)
    {f_l_refused : Addr} (a_l_refused : PySem.W.nsIn K mainGlobals "_law_refused" = some (some (.ref f_l_refused)))
    {od_l_refused an_l_refused : Option Addr} {sl_l_refused : Array (Option Value)} {oc_l_refused kV_l_refused dc_l_refused pm_l_refused cd_l_refused ct_l_refused : Value} (l_l_refused : K.lookup f_l_refused = some ⟨oc_l_refused, od_l_refused, .func (PySem.W.fnOf "_law_refused" "_law_refused" (defArgs st_l_refused) (defBody st_l_refused) (defScope st_l_refused) .none kV_l_refused dc_l_refused pm_l_refused an_l_refused cd_l_refused ct_l_refused), sl_l_refused⟩) (c_l_refused : PySem.W.codeIn K cd_l_refused "_law_refused" = true) (k_l_refused : PySem.W.keepIn K (.ref f_l_refused) = true)
    {f_l_fed : Addr} (a_l_fed : PySem.W.nsIn K mainGlobals "_law_fed" = some (some (.ref f_l_fed)))
    {od_l_fed an_l_fed : Option Addr} {sl_l_fed : Array (Option Value)} {oc_l_fed kV_l_fed dc_l_fed pm_l_fed cd_l_fed ct_l_fed : Value} (l_l_fed : K.lookup f_l_fed = some ⟨oc_l_fed, od_l_fed, .func (PySem.W.fnOf "_law_fed" "_law_fed" (defArgs st_l_fed) (defBody st_l_fed) (defScope st_l_fed) .none kV_l_fed dc_l_fed pm_l_fed an_l_fed cd_l_fed ct_l_fed), sl_l_fed⟩) (c_l_fed : PySem.W.codeIn K cd_l_fed "_law_fed" = true) (k_l_fed : PySem.W.keepIn K (.ref f_l_fed) = true)
    {f_l_held : Addr} (a_l_held : PySem.W.nsIn K mainGlobals "_law_held" = some (some (.ref f_l_held)))
    {od_l_held an_l_held : Option Addr} {sl_l_held : Array (Option Value)} {oc_l_held kV_l_held dc_l_held pm_l_held cd_l_held ct_l_held : Value} (l_l_held : K.lookup f_l_held = some ⟨oc_l_held, od_l_held, .func (PySem.W.fnOf "_law_held" "_law_held" (defArgs st_l_held) (defBody st_l_held) (defScope st_l_held) .none kV_l_held dc_l_held pm_l_held an_l_held cd_l_held ct_l_held), sl_l_held⟩) (c_l_held : PySem.W.codeIn K cd_l_held "_law_held" = true) (k_l_held : PySem.W.keepIn K (.ref f_l_held) = true)
    {f_l_behind : Addr} (a_l_behind : PySem.W.nsIn K mainGlobals "_law_behind" = some (some (.ref f_l_behind)))
    {od_l_behind an_l_behind : Option Addr} {sl_l_behind : Array (Option Value)} {oc_l_behind kV_l_behind dc_l_behind pm_l_behind cd_l_behind ct_l_behind : Value} (l_l_behind : K.lookup f_l_behind = some ⟨oc_l_behind, od_l_behind, .func (PySem.W.fnOf "_law_behind" "_law_behind" (defArgs st_l_behind) (defBody st_l_behind) (defScope st_l_behind) .none kV_l_behind dc_l_behind pm_l_behind an_l_behind cd_l_behind ct_l_behind), sl_l_behind⟩) (c_l_behind : PySem.W.codeIn K cd_l_behind "_law_behind" = true) (k_l_behind : PySem.W.keepIn K (.ref f_l_behind) = true)
    {f_l_in_step : Addr} (a_l_in_step : PySem.W.nsIn K mainGlobals "_law_in_step" = some (some (.ref f_l_in_step)))
    {od_l_in_step an_l_in_step : Option Addr} {sl_l_in_step : Array (Option Value)} {oc_l_in_step kV_l_in_step dc_l_in_step pm_l_in_step cd_l_in_step ct_l_in_step : Value} (l_l_in_step : K.lookup f_l_in_step = some ⟨oc_l_in_step, od_l_in_step, .func (PySem.W.fnOf "_law_in_step" "_law_in_step" (defArgs st_l_in_step) (defBody st_l_in_step) (defScope st_l_in_step) .none kV_l_in_step dc_l_in_step pm_l_in_step an_l_in_step cd_l_in_step ct_l_in_step), sl_l_in_step⟩) (c_l_in_step : PySem.W.codeIn K cd_l_in_step "_law_in_step" = true) (k_l_in_step : PySem.W.keepIn K (.ref f_l_in_step) = true)
    {f_l_stepped : Addr} (a_l_stepped : PySem.W.nsIn K mainGlobals "_law_stepped" = some (some (.ref f_l_stepped)))
    {od_l_stepped an_l_stepped : Option Addr} {sl_l_stepped : Array (Option Value)} {oc_l_stepped kV_l_stepped dc_l_stepped pm_l_stepped cd_l_stepped ct_l_stepped : Value} (l_l_stepped : K.lookup f_l_stepped = some ⟨oc_l_stepped, od_l_stepped, .func (PySem.W.fnOf "_law_stepped" "_law_stepped" (defArgs st_l_stepped) (defBody st_l_stepped) (defScope st_l_stepped) .none kV_l_stepped dc_l_stepped pm_l_stepped an_l_stepped cd_l_stepped ct_l_stepped), sl_l_stepped⟩) (c_l_stepped : PySem.W.codeIn K cd_l_stepped "_law_stepped" = true) (k_l_stepped : PySem.W.keepIn K (.ref f_l_stepped) = true)
    {f_law : Addr} (a_law : PySem.W.nsIn K mainGlobals "law" = some (some (.ref f_law)))
    {od_law an_law : Option Addr} {sl_law : Array (Option Value)} {oc_law kV_law dc_law pm_law cd_law ct_law : Value} (l_law : K.lookup f_law = some ⟨oc_law, od_law, .func (PySem.W.fnOf "law" "law" (defArgs st_law) (defBody st_law) (defScope st_law) .none kV_law dc_law pm_law an_law cd_law ct_law), sl_law⟩) (c_law : PySem.W.codeIn K cd_law "law" = true) (k_law : PySem.W.keepIn K (.ref f_law) = true)
    (pg_Reader : PySem.W.plainGet K C_Reader Str.empty = true) (hd_Reader : PySem.W.hasDictIn K C_Reader = true) (po_Reader : PySem.W.plainOver K C_Reader = true) (sa_Reader : PySem.W.findIn K (.ref C_Reader) "__setattr__" = some (some (.builtin "object.__setattr__"))) (mk_Reader : PySem.W.makesIn K C_Reader = true) (kc_Reader : PySem.W.keepIn K (.ref C_Reader) = true)
    (n_Reader_kept : PySem.W.findIn K (.ref C_Reader) "kept" = some none)
    (z_isinstance : PySem.W.nsIn K mainGlobals "isinstance" = some none)
    (z_int : PySem.W.nsIn K mainGlobals "int" = some none)
    (z_bool : PySem.W.nsIn K mainGlobals "bool" = some none)
    (z_reversed : PySem.W.nsIn K mainGlobals "reversed" = some none)
    (z_range : PySem.W.nsIn K mainGlobals "range" = some none)
    (z_len : PySem.W.nsIn K mainGlobals "len" = some none)
    (z_list : PySem.W.nsIn K mainGlobals "list" = some none)
    (z_min : PySem.W.nsIn K mainGlobals "min" = some none)
    (z_str : PySem.W.nsIn K mainGlobals "str" = some none)
    (cl_StairError : PySem.W.isClsIn K C_StairError = true)
    (hd_StairError : PySem.W.hasDictIn K C_StairError = true)
    (cl_NoNumber : PySem.W.isClsIn K C_NoNumber = true)
    (hd_NoNumber : PySem.W.hasDictIn K C_NoNumber = true)
    (cl_NoSign : PySem.W.isClsIn K C_NoSign = true)
    (hd_NoSign : PySem.W.hasDictIn K C_NoSign = true)
    (cl_NoEnd : PySem.W.isClsIn K C_NoEnd = true)
    (hd_NoEnd : PySem.W.hasDictIn K C_NoEnd = true)
    (s_NoNumber_StairError : PySem.W.subIn K (.ref C_NoNumber) (.ref C_StairError) = some true)
    (s_NoNumber_NoNumber : PySem.W.subIn K (.ref C_NoNumber) (.ref C_NoNumber) = some true)
    (s_NoNumber_NoSign : PySem.W.subIn K (.ref C_NoNumber) (.ref C_NoSign) = some false)
    (s_NoNumber_NoEnd : PySem.W.subIn K (.ref C_NoNumber) (.ref C_NoEnd) = some false)
    (s_NoNumber_VE : PySem.W.subIn K (.ref C_NoNumber) (.type "ValueError") = some true)
    (s_NoSign_StairError : PySem.W.subIn K (.ref C_NoSign) (.ref C_StairError) = some true)
    (s_NoSign_NoNumber : PySem.W.subIn K (.ref C_NoSign) (.ref C_NoNumber) = some false)
    (s_NoSign_NoSign : PySem.W.subIn K (.ref C_NoSign) (.ref C_NoSign) = some true)
    (s_NoSign_NoEnd : PySem.W.subIn K (.ref C_NoSign) (.ref C_NoEnd) = some false)
    (s_NoSign_VE : PySem.W.subIn K (.ref C_NoSign) (.type "ValueError") = some true)
    (s_NoEnd_StairError : PySem.W.subIn K (.ref C_NoEnd) (.ref C_StairError) = some true)
    (s_NoEnd_NoNumber : PySem.W.subIn K (.ref C_NoEnd) (.ref C_NoNumber) = some false)
    (s_NoEnd_NoSign : PySem.W.subIn K (.ref C_NoEnd) (.ref C_NoSign) = some false)
    (s_NoEnd_NoEnd : PySem.W.subIn K (.ref C_NoEnd) (.ref C_NoEnd) = some true)
    (s_NoEnd_VE : PySem.W.subIn K (.ref C_NoEnd) (.type "ValueError") = some true)
    (eg_NoNumber : PySem.W.findIn K (.ref C_NoNumber) "__getattribute__" = some (some (.builtin "BaseException.__getattribute__")))
    (ek_NoNumber : PySem.W.findIn K (.ref C_NoNumber) "__getattr__" = some none)
    (ea_NoNumber : PySem.W.findIn K (.ref C_NoNumber) "__class__" = some (some (.builtin "object.__class__")))
    (em_NoNumber : PySem.W.mroIn K C_NoNumber (.type "object") = some true)
    (eg_NoSign : PySem.W.findIn K (.ref C_NoSign) "__getattribute__" = some (some (.builtin "BaseException.__getattribute__")))
    (ek_NoSign : PySem.W.findIn K (.ref C_NoSign) "__getattr__" = some none)
    (ea_NoSign : PySem.W.findIn K (.ref C_NoSign) "__class__" = some (some (.builtin "object.__class__")))
    (em_NoSign : PySem.W.mroIn K C_NoSign (.type "object") = some true)
    (eg_NoEnd : PySem.W.findIn K (.ref C_NoEnd) "__getattribute__" = some (some (.builtin "BaseException.__getattribute__")))
    (ek_NoEnd : PySem.W.findIn K (.ref C_NoEnd) "__getattr__" = some none)
    (ea_NoEnd : PySem.W.findIn K (.ref C_NoEnd) "__class__" = some (some (.builtin "object.__class__")))
    (em_NoEnd : PySem.W.mroIn K C_NoEnd (.type "object") = some true)
    (en_ : PySem.W.specialIn K (.builtin "object.__class__") "__get__" = some (some (.builtin "getset_descriptor.__get__")))
    (et_ : PySem.W.takesIn K (.builtin "object.__class__") = some true) :
    ∃ fd : FuncData, (∀ (s : Shared) (v : Value), BindsTo s fd ⟨[v], []⟩ [("_law_script", v)]) ∧ ∀ base : Heap, K.In base → base.Ns mainGlobals mg → FnOk l.prog w K mg base CX0 6 fa fd ["_law_script"] (sp_law K) := by
  have e := hfa.symm.trans (PySem.W.mg_of X G a_law)
  cases e
  let T : Txt K mg := { C_StairError := C_StairError, g_StairError := PySem.W.mg_of X G a_StairError, k_StairError := k_StairError, x_StairError := x_StairError, xb_StairError := xb_StairError, xt_StairError := xt_StairError, C_NoNumber := C_NoNumber, g_NoNumber := PySem.W.mg_of X G a_NoNumber, k_NoNumber := k_NoNumber, x_NoNumber := x_NoNumber, xb_NoNumber := xb_NoNumber, xt_NoNumber := xt_NoNumber, C_NoSign := C_NoSign, g_NoSign := PySem.W.mg_of X G a_NoSign, k_NoSign := k_NoSign, x_NoSign := x_NoSign, xb_NoSign := xb_NoSign, xt_NoSign := xt_NoSign, C_NoEnd := C_NoEnd, g_NoEnd := PySem.W.mg_of X G a_NoEnd, k_NoEnd := k_NoEnd, x_NoEnd := x_NoEnd, xb_NoEnd := xb_NoEnd, xt_NoEnd := xt_NoEnd, C_Reader := C_Reader, g_Reader := PySem.W.mg_of X G a_Reader, f_weight := f_weight, d_weight := _, F_weight := fun_mk (st := st_weight) l_weight c_weight k_weight, g_weight := PySem.W.mg_of X G a_weight, b_weight := (fun_mk (st := st_weight) l_weight c_weight k_weight).binds (ps := ["heap"]) (fun _ _ _ _ _ _ us hl => match us, hl with | [_], _ => rfl), f_is_number := f_is_number, d_is_number := _, F_is_number := fun_mk (st := st_is_number) l_is_number c_is_number k_is_number, g_is_number := PySem.W.mg_of X G a_is_number, b_is_number := (fun_mk (st := st_is_number) l_is_number c_is_number k_is_number).binds (ps := ["thing"]) (fun _ _ _ _ _ _ us hl => match us, hl with | [_], _ => rfl), f_still_heap := f_still_heap, d_still_heap := _, F_still_heap := fun_mk (st := st_still_heap) l_still_heap c_still_heap k_still_heap, g_still_heap := PySem.W.mg_of X G a_still_heap, b_still_heap := (fun_mk (st := st_still_heap) l_still_heap c_still_heap k_still_heap).binds (ps := ["number"]) (fun _ _ _ _ _ _ us hl => match us, hl with | [_], _ => rfl), f_row_of := f_row_of, d_row_of := _, F_row_of := fun_mk (st := st_row_of) l_row_of c_row_of k_row_of, g_row_of := PySem.W.mg_of X G a_row_of, b_row_of := (fun_mk (st := st_row_of) l_row_of c_row_of k_row_of).binds (ps := ["number"]) (fun _ _ _ _ _ _ us hl => match us, hl with | [_], _ => rfl), f_shown := f_shown, d_shown := _, F_shown := fun_mk (st := st_shown) l_shown c_shown k_shown, g_shown := PySem.W.mg_of X G a_shown, b_shown := (fun_mk (st := st_shown) l_shown c_shown k_shown).binds (ps := ["number"]) (fun _ _ _ _ _ _ us hl => match us, hl with | [_], _ => rfl), f_written := f_written, d_written := _, F_written := fun_mk (st := st_written) l_written c_written k_written, g_written := PySem.W.mg_of X G a_written, b_written := (fun_mk (st := st_written) l_written c_written k_written).binds (ps := ["numbers"]) (fun _ _ _ _ _ _ us hl => match us, hl with | [_], _ => rfl), f_look_at := f_look_at, d_look_at := _, F_look_at := fun_mk (st := st_look_at) l_look_at c_look_at k_look_at, g_look_at := PySem.W.mg_of X G a_look_at, b_look_at := (fun_mk (st := st_look_at) l_look_at c_look_at k_look_at).binds (ps := ["text"]) (fun _ _ _ _ _ _ us hl => match us, hl with | [_], _ => rfl), f_read_on := f_read_on, d_read_on := _, F_read_on := fun_mk (st := st_read_on) l_read_on c_read_on k_read_on, g_read_on := PySem.W.mg_of X G a_read_on, b_read_on := (fun_mk (st := st_read_on) l_read_on c_read_on k_read_on).binds (ps := ["kept", "piece"]) (fun _ _ _ _ _ _ us hl => match us, hl with | [_, _], _ => rfl), f_read := f_read, d_read := _, F_read := fun_mk (st := st_read) l_read c_read k_read, g_read := PySem.W.mg_of X G a_read, b_read := (fun_mk (st := st_read) l_read c_read k_read).binds (ps := ["text"]) (fun _ _ _ _ _ _ us hl => match us, hl with | [_], _ => rfl), f_in_step := f_in_step, d_in_step := _, F_in_step := fun_mk (st := st_in_step) l_in_step c_in_step k_in_step, g_in_step := PySem.W.mg_of X G a_in_step, b_in_step := (fun_mk (st := st_in_step) l_in_step c_in_step k_in_step).binds (ps := ["text", "place"]) (fun _ _ _ _ _ _ us hl => match us, hl with | [_, _], _ => rfl), f_Reader___init := f_Reader___init, d_Reader___init := _, F_Reader___init := fun_mk (st := st_Reader___init) l_Reader___init c_Reader___init k_Reader___init, b_Reader___init := (fun_mk (st := st_Reader___init) l_Reader___init c_Reader___init k_Reader___init).binds (ps := ["self"]) (fun _ _ _ _ _ _ us hl => match us, hl with | [_], _ => rfl), f_Reader_feed := f_Reader_feed, d_Reader_feed := _, F_Reader_feed := fun_mk (st := st_Reader_feed) l_Reader_feed c_Reader_feed k_Reader_feed, b_Reader_feed := (fun_mk (st := st_Reader_feed) l_Reader_feed c_Reader_feed k_Reader_feed).binds (ps := ["self", "piece"]) (fun _ _ _ _ _ _ us hl => match us, hl with | [_, _], _ => rfl), f_Reader_left := f_Reader_left, d_Reader_left := _, F_Reader_left := fun_mk (st := st_Reader_left) l_Reader_left c_Reader_left k_Reader_left, b_Reader_left := (fun_mk (st := st_Reader_left) l_Reader_left c_Reader_left k_Reader_left).binds (ps := ["self"]) (fun _ _ _ _ _ _ us hl => match us, hl with | [_], _ => rfl), f_l_cell := f_l_cell, d_l_cell := _, F_l_cell := fun_mk (st := st_l_cell) l_l_cell c_l_cell k_l_cell, g_l_cell := PySem.W.mg_of X G a_l_cell, b_l_cell := (fun_mk (st := st_l_cell) l_l_cell c_l_cell k_l_cell).binds (ps := ["_law_script", "_law_k"]) (fun _ _ _ _ _ _ us hl => match us, hl with | [_, _], _ => rfl), f_l_whole := f_l_whole, d_l_whole := _, F_l_whole := fun_mk (st := st_l_whole) l_l_whole c_l_whole k_l_whole, g_l_whole := PySem.W.mg_of X G a_l_whole, b_l_whole := (fun_mk (st := st_l_whole) l_l_whole c_l_whole k_l_whole).binds (ps := ["_law_found"]) (fun _ _ _ _ _ _ us hl => match us, hl with | [_], _ => rfl), f_l_alike := f_l_alike, d_l_alike := _, F_l_alike := fun_mk (st := st_l_alike) l_l_alike c_l_alike k_l_alike, g_l_alike := PySem.W.mg_of X G a_l_alike, b_l_alike := (fun_mk (st := st_l_alike) l_l_alike c_l_alike k_l_alike).binds (ps := ["_law_found", "_law_due"]) (fun _ _ _ _ _ _ us hl => match us, hl with | [_, _], _ => rfl), f_l_ends := f_l_ends, d_l_ends := _, F_l_ends := fun_mk (st := st_l_ends) l_l_ends c_l_ends k_l_ends, g_l_ends := PySem.W.mg_of X G a_l_ends, b_l_ends := (fun_mk (st := st_l_ends) l_l_ends c_l_ends k_l_ends).binds (ps := ["_law_text"]) (fun _ _ _ _ _ _ us hl => match us, hl with | [_], _ => rfl), f_l_pieces := f_l_pieces, d_l_pieces := _, F_l_pieces := fun_mk (st := st_l_pieces) l_l_pieces c_l_pieces k_l_pieces, g_l_pieces := PySem.W.mg_of X G a_l_pieces, b_l_pieces := (fun_mk (st := st_l_pieces) l_l_pieces c_l_pieces k_l_pieces).binds (ps := ["_law_script", "_law_text"]) (fun _ _ _ _ _ _ us hl => match us, hl with | [_, _], _ => rfl), f_l_refused := f_l_refused, d_l_refused := _, F_l_refused := fun_mk (st := st_l_refused) l_l_refused c_l_refused k_l_refused, g_l_refused := PySem.W.mg_of X G a_l_refused, b_l_refused := (fun_mk (st := st_l_refused) l_l_refused c_l_refused k_l_refused).binds (ps := ["_law_reader", "_law_piece", "_law_script"]) (fun _ _ _ _ _ _ us hl => match us, hl with | [_, _, _], _ => rfl), f_l_fed := f_l_fed, d_l_fed := _, F_l_fed := fun_mk (st := st_l_fed) l_l_fed c_l_fed k_l_fed, g_l_fed := PySem.W.mg_of X G a_l_fed, b_l_fed := (fun_mk (st := st_l_fed) l_l_fed c_l_fed k_l_fed).binds (ps := ["_law_script", "_law_text", "_law_numbers"]) (fun _ _ _ _ _ _ us hl => match us, hl with | [_, _, _], _ => rfl), f_l_held := f_l_held, d_l_held := _, F_l_held := fun_mk (st := st_l_held) l_l_held c_l_held k_l_held, g_l_held := PySem.W.mg_of X G a_l_held, b_l_held := (fun_mk (st := st_l_held) l_l_held c_l_held k_l_held).binds (ps := ["_law_held_here", "_law_numbers"]) (fun _ _ _ _ _ _ us hl => match us, hl with | [_, _], _ => rfl), f_l_behind := f_l_behind, d_l_behind := _, F_l_behind := fun_mk (st := st_l_behind) l_l_behind c_l_behind k_l_behind, g_l_behind := PySem.W.mg_of X G a_l_behind, b_l_behind := (fun_mk (st := st_l_behind) l_l_behind c_l_behind k_l_behind).binds (ps := ["_law_text", "_law_place"]) (fun _ _ _ _ _ _ us hl => match us, hl with | [_, _], _ => rfl), f_l_in_step := f_l_in_step, d_l_in_step := _, F_l_in_step := fun_mk (st := st_l_in_step) l_l_in_step c_l_in_step k_l_in_step, g_l_in_step := PySem.W.mg_of X G a_l_in_step, b_l_in_step := (fun_mk (st := st_l_in_step) l_l_in_step c_l_in_step k_l_in_step).binds (ps := ["_law_text", "_law_place"]) (fun _ _ _ _ _ _ us hl => match us, hl with | [_, _], _ => rfl), f_l_stepped := f_l_stepped, d_l_stepped := _, F_l_stepped := fun_mk (st := st_l_stepped) l_l_stepped c_l_stepped k_l_stepped, g_l_stepped := PySem.W.mg_of X G a_l_stepped, b_l_stepped := (fun_mk (st := st_l_stepped) l_l_stepped c_l_stepped k_l_stepped).binds (ps := ["_law_text", "_law_numbers", "_law_place"]) (fun _ _ _ _ _ _ us hl => match us, hl with | [_, _, _], _ => rfl), f_law := _, d_law := _, F_law := fun_mk (st := st_law) l_law c_law k_law, g_law := PySem.W.mg_of X G a_law, b_law := (fun_mk (st := st_law) l_law c_law k_law).binds (ps := ["_law_script"]) (fun _ _ _ _ _ _ us hl => match us, hl with | [_], _ => rfl), c_Reader := ⟨pg_Reader, hd_Reader, po_Reader, sa_Reader⟩, M_Reader := ⟨mk_Reader, a_Reader___init, i_Reader___init, kc_Reader⟩, me_Reader_feed := ⟨a_Reader_feed, i_Reader_feed, k_Reader_feed⟩, me_Reader_left := ⟨a_Reader_left, i_Reader_left, k_Reader_left⟩, n_Reader_kept := n_Reader_kept, m_isinstance := PySem.W.mg_none_of X G z_isinstance, m_int := PySem.W.mg_none_of X G z_int, m_bool := PySem.W.mg_none_of X G z_bool, m_reversed := PySem.W.mg_none_of X G z_reversed, m_range := PySem.W.mg_none_of X G z_range, m_len := PySem.W.mg_none_of X G z_len, m_list := PySem.W.mg_none_of X G z_list, m_min := PySem.W.mg_none_of X G z_min, m_str := PySem.W.mg_none_of X G z_str, eg_NoNumber := eg_NoNumber, ek_NoNumber := ek_NoNumber, ea_NoNumber := ea_NoNumber, ed_NoNumber := hd_NoNumber, em_NoNumber := em_NoNumber, i_NoNumber_StairError := kit_yes cl_StairError xt_StairError s_NoNumber_StairError, i_NoNumber_NoNumber := kit_yes cl_NoNumber xt_NoNumber s_NoNumber_NoNumber, i_NoNumber_NoSign := kit_no cl_NoSign xt_NoSign s_NoNumber_NoNumber s_NoNumber_NoSign, i_NoNumber_NoEnd := kit_no cl_NoEnd xt_NoEnd s_NoNumber_NoNumber s_NoNumber_NoEnd, i_NoNumber_VE := kit_ve s_NoNumber_VE, x_NoNumber_NoEnd := PySem.W.exm_ref xb_NoEnd hd_NoEnd xt_NoEnd s_NoNumber_NoEnd, x_NoNumber_NoNumber := PySem.W.exm_ref xb_NoNumber hd_NoNumber xt_NoNumber s_NoNumber_NoNumber, x_NoNumber_NoSign := PySem.W.exm_ref xb_NoSign hd_NoSign xt_NoSign s_NoNumber_NoSign, eg_NoSign := eg_NoSign, ek_NoSign := ek_NoSign, ea_NoSign := ea_NoSign, ed_NoSign := hd_NoSign, em_NoSign := em_NoSign, i_NoSign_StairError := kit_yes cl_StairError xt_StairError s_NoSign_StairError, i_NoSign_NoNumber := kit_no cl_NoNumber xt_NoNumber s_NoSign_NoSign s_NoSign_NoNumber, i_NoSign_NoSign := kit_yes cl_NoSign xt_NoSign s_NoSign_NoSign, i_NoSign_NoEnd := kit_no cl_NoEnd xt_NoEnd s_NoSign_NoSign s_NoSign_NoEnd, i_NoSign_VE := kit_ve s_NoSign_VE, x_NoSign_NoEnd := PySem.W.exm_ref xb_NoEnd hd_NoEnd xt_NoEnd s_NoSign_NoEnd, x_NoSign_NoNumber := PySem.W.exm_ref xb_NoNumber hd_NoNumber xt_NoNumber s_NoSign_NoNumber, x_NoSign_NoSign := PySem.W.exm_ref xb_NoSign hd_NoSign xt_NoSign s_NoSign_NoSign, eg_NoEnd := eg_NoEnd, ek_NoEnd := ek_NoEnd, ea_NoEnd := ea_NoEnd, ed_NoEnd := hd_NoEnd, em_NoEnd := em_NoEnd, i_NoEnd_StairError := kit_yes cl_StairError xt_StairError s_NoEnd_StairError, i_NoEnd_NoNumber := kit_no cl_NoNumber xt_NoNumber s_NoEnd_NoEnd s_NoEnd_NoNumber, i_NoEnd_NoSign := kit_no cl_NoSign xt_NoSign s_NoEnd_NoEnd s_NoEnd_NoSign, i_NoEnd_NoEnd := kit_yes cl_NoEnd xt_NoEnd s_NoEnd_NoEnd, i_NoEnd_VE := kit_ve s_NoEnd_VE, x_NoEnd_NoEnd := PySem.W.exm_ref xb_NoEnd hd_NoEnd xt_NoEnd s_NoEnd_NoEnd, x_NoEnd_NoNumber := PySem.W.exm_ref xb_NoNumber hd_NoNumber xt_NoNumber s_NoEnd_NoNumber, x_NoEnd_NoSign := PySem.W.exm_ref xb_NoSign hd_NoSign xt_NoSign s_NoEnd_NoSign, en_ := en_, et_ := et_ }
  exact ⟨PySem.W.fnOf "law" "law" (defArgs st_law) (defBody st_law) (defScope st_law) .none kV_law dc_law pm_law an_law cd_law ct_law, fun s v => .of_eq rfl, fun base _ _ => ok_law T⟩
end K12
open PySem PySem.W PyProof.Rows
set_option maxHeartbeats 0 in
theorem PySem.Challenge.cw_shellstair_k12_whole_in_pieces_holds : PySem.Challenge.rw_shellstair_k12_whole_in_pieces.Holds := by
  w_on; o_law; k_head; (case hw => w_witness2)
  k_fill
  refine L2.walk_of (l := PySem.Challenge.rw_shellstair_k12_whole_in_pieces) (n := 63) (k := 6) (x := "_law_script") (CX := fun _ => L2.CX0) (sp := fun w => K12.sp_law _) rfl (by decide) rfl ⟨rfl, by decide, by decide⟩ (fun w h Y => PySem.W.kIn_of Y) ?F (fun _ _ a ns hl _ hS => ⟨a, ns, rfl, hS, hl, fun _ => rfl⟩) (fun _ _ _ _ _ h => h)
  case F =>
    intro w mg fa h KX G hmg
    refine' K12.all_mk KX G hmg ?a_StairError ?k_StairError ?x_StairError ?xb_StairError ?xt_StairError ?a_NoNumber ?k_NoNumber ?x_NoNumber ?xb_NoNumber ?xt_NoNumber ?a_NoSign ?k_NoSign ?x_NoSign ?xb_NoSign ?xt_NoSign ?a_NoEnd ?k_NoEnd ?x_NoEnd ?xb_NoEnd ?xt_NoEnd ?a_Reader ?a_weight ?l_weight ?c_weight ?k_weight ?a_is_number ?l_is_number ?c_is_number ?k_is_number ?a_still_heap ?l_still_heap ?c_still_heap ?k_still_heap ?a_row_of ?l_row_of ?c_row_of ?k_row_of ?a_shown ?l_shown ?c_shown ?k_shown ?a_written ?l_written ?c_written ?k_written ?a_look_at ?l_look_at ?c_look_at ?k_look_at ?a_read_on ?l_read_on ?c_read_on ?k_read_on ?a_read ?l_read ?c_read ?k_read ?a_in_step ?l_in_step ?c_in_step ?k_in_step ?a_Reader___init ?i_Reader___init ?l_Reader___init ?c_Reader___init ?k_Reader___init ?a_Reader_feed ?i_Reader_feed ?l_Reader_feed ?c_Reader_feed ?k_Reader_feed ?a_Reader_left ?i_Reader_left ?l_Reader_left ?c_Reader_left ?k_Reader_left ?a_l_cell ?l_l_cell ?c_l_cell ?k_l_cell ?a_l_whole ?l_l_whole ?c_l_whole ?k_l_whole ?a_l_alike ?l_l_alike ?c_l_alike ?k_l_alike ?a_l_ends ?l_l_ends ?c_l_ends ?k_l_ends ?a_l_pieces ?l_l_pieces ?c_l_pieces ?k_l_pieces ?a_l_refused ?l_l_refused ?c_l_refused ?k_l_refused ?a_l_fed ?l_l_fed ?c_l_fed ?k_l_fed ?a_l_held ?l_l_held ?c_l_held ?k_l_held ?a_l_behind ?l_l_behind ?c_l_behind ?k_l_behind ?a_l_in_step ?l_l_in_step ?c_l_in_step ?k_l_in_step ?a_l_stepped ?l_l_stepped ?c_l_stepped ?k_l_stepped ?a_law ?l_law ?c_law ?k_law ?pg_Reader ?hd_Reader ?po_Reader ?sa_Reader ?mk_Reader ?kc_Reader ?n_Reader_kept ?z_isinstance ?z_int ?z_bool ?z_reversed ?z_range ?z_len ?z_list ?z_min ?z_str ?cl_StairError ?hd_StairError ?cl_NoNumber ?hd_NoNumber ?cl_NoSign ?hd_NoSign ?cl_NoEnd ?hd_NoEnd ?s_NoNumber_StairError ?s_NoNumber_NoNumber ?s_NoNumber_NoSign ?s_NoNumber_NoEnd ?s_NoNumber_VE ?s_NoSign_StairError ?s_NoSign_NoNumber ?s_NoSign_NoSign ?s_NoSign_NoEnd ?s_NoSign_VE ?s_NoEnd_StairError ?s_NoEnd_NoNumber ?s_NoEnd_NoSign ?s_NoEnd_NoEnd ?s_NoEnd_VE ?eg_NoNumber ?ek_NoNumber ?ea_NoNumber ?em_NoNumber ?eg_NoSign ?ek_NoSign ?ea_NoSign ?em_NoSign ?eg_NoEnd ?ek_NoEnd ?ea_NoEnd ?em_NoEnd ?en_ ?et_
    (case a_StairError => k_is); (case k_StairError => k_is); (case x_StairError => k_exc); (case xb_StairError => k_is); (case xt_StairError => k_is); (case a_NoNumber => k_is)
    (case k_NoNumber => k_is); (case x_NoNumber => k_exc); (case xb_NoNumber => k_is); (case xt_NoNumber => k_is); (case a_NoSign => k_is); (case k_NoSign => k_is)
    (case x_NoSign => k_exc); (case xb_NoSign => k_is); (case xt_NoSign => k_is); (case a_NoEnd => k_is); (case k_NoEnd => k_is); (case x_NoEnd => k_exc)
    (case xb_NoEnd => k_is); (case xt_NoEnd => k_is); (case a_Reader => k_is); (case a_weight => k_is); (case l_weight => k_is); (case c_weight => k_is)
    (case k_weight => k_is); (case a_is_number => k_is); (case l_is_number => k_is); (case c_is_number => k_is); (case k_is_number => k_is); (case a_still_heap => k_is)
    (case l_still_heap => k_is); (case c_still_heap => k_is); (case k_still_heap => k_is); (case a_row_of => k_is); (case l_row_of => k_is); (case c_row_of => k_is)
    (case k_row_of => k_is); (case a_shown => k_is); (case l_shown => k_is); (case c_shown => k_is); (case k_shown => k_is); (case a_written => k_is)
    (case l_written => k_is); (case c_written => k_is); (case k_written => k_is); (case a_look_at => k_is); (case l_look_at => k_is); (case c_look_at => k_is)
    (case k_look_at => k_is); (case a_read_on => k_is); (case l_read_on => k_is); (case c_read_on => k_is); (case k_read_on => k_is); (case a_read => k_is)
    (case l_read => k_is); (case c_read => k_is); (case k_read => k_is); (case a_in_step => k_is); (case l_in_step => k_is); (case c_in_step => k_is)
    (case k_in_step => k_is); (case a_Reader___init => k_is); (case i_Reader___init => k_is); (case l_Reader___init => k_is); (case c_Reader___init => k_is); (case k_Reader___init => k_is)
    (case a_Reader_feed => k_is); (case i_Reader_feed => k_is); (case l_Reader_feed => k_is); (case c_Reader_feed => k_is); (case k_Reader_feed => k_is); (case a_Reader_left => k_is)
    (case i_Reader_left => k_is); (case l_Reader_left => k_is); (case c_Reader_left => k_is); (case k_Reader_left => k_is); (case a_l_cell => k_is); (case l_l_cell => k_is)
    (case c_l_cell => k_is); (case k_l_cell => k_is); (case a_l_whole => k_is); (case l_l_whole => k_is); (case c_l_whole => k_is); (case k_l_whole => k_is)
    (case a_l_alike => k_is); (case l_l_alike => k_is); (case c_l_alike => k_is); (case k_l_alike => k_is); (case a_l_ends => k_is); (case l_l_ends => k_is)
    (case c_l_ends => k_is); (case k_l_ends => k_is); (case a_l_pieces => k_is); (case l_l_pieces => k_is); (case c_l_pieces => k_is); (case k_l_pieces => k_is)
    (case a_l_refused => k_is); (case l_l_refused => k_is); (case c_l_refused => k_is); (case k_l_refused => k_is); (case a_l_fed => k_is); (case l_l_fed => k_is)
    (case c_l_fed => k_is); (case k_l_fed => k_is); (case a_l_held => k_is); (case l_l_held => k_is); (case c_l_held => k_is); (case k_l_held => k_is)
    (case a_l_behind => k_is); (case l_l_behind => k_is); (case c_l_behind => k_is); (case k_l_behind => k_is); (case a_l_in_step => k_is); (case l_l_in_step => k_is)
    (case c_l_in_step => k_is); (case k_l_in_step => k_is); (case a_l_stepped => k_is); (case l_l_stepped => k_is); (case c_l_stepped => k_is); (case k_l_stepped => k_is)
    (case a_law => k_is); (case l_law => k_is); (case c_law => k_is); (case k_law => k_is); (case pg_Reader => k_is); (case hd_Reader => k_is)
    (case po_Reader => k_is); (case sa_Reader => k_is); (case mk_Reader => k_is); (case kc_Reader => k_is); (case n_Reader_kept => k_is); (case z_isinstance => k_is)
    (case z_int => k_is); (case z_bool => k_is); (case z_reversed => k_is); (case z_range => k_is); (case z_len => k_is); (case z_list => k_is)
    (case z_min => k_is); (case z_str => k_is); (case cl_StairError => k_is); (case hd_StairError => k_is); (case cl_NoNumber => k_is); (case hd_NoNumber => k_is)
    (case cl_NoSign => k_is); (case hd_NoSign => k_is); (case cl_NoEnd => k_is); (case hd_NoEnd => k_is); (case s_NoNumber_StairError => k_is); (case s_NoNumber_NoNumber => k_is)
    (case s_NoNumber_NoSign => k_is); (case s_NoNumber_NoEnd => k_is); (case s_NoNumber_VE => k_is); (case s_NoSign_StairError => k_is); (case s_NoSign_NoNumber => k_is); (case s_NoSign_NoSign => k_is)
    (case s_NoSign_NoEnd => k_is); (case s_NoSign_VE => k_is); (case s_NoEnd_StairError => k_is); (case s_NoEnd_NoNumber => k_is); (case s_NoEnd_NoSign => k_is); (case s_NoEnd_NoEnd => k_is)
    (case s_NoEnd_VE => k_is); (case eg_NoNumber => k_is); (case ek_NoNumber => k_is); (case ea_NoNumber => k_is); (case em_NoNumber => k_is); (case eg_NoSign => k_is)
    (case ek_NoSign => k_is); (case ea_NoSign => k_is); (case em_NoSign => k_is); (case eg_NoEnd => k_is); (case ek_NoEnd => k_is); (case ea_NoEnd => k_is)
    (case em_NoEnd => k_is); (case en_ => k_is); (case et_ => k_is)
