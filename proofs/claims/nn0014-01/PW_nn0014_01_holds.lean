import PyProof.Rows.All
import Wide.All
import OpenK.AllK
import Wide.FinOn
import Lean
import PySem.Challenge.RW_nn0014_01
open PySem PySem.W PyProof.Rows PySem.Spec
set_option Elab.async false
set_option maxRecDepth 100000
set_option maxHeartbeats 8000000
namespace Mine
noncomputable def vw : Program := { PySem.Challenge.pw_nn0014_01 with main := { (PySem.Challenge.pw_nn0014_01).main with body := (PySem.Challenge.pw_nn0014_01.main.body.take 25).drop 1 ++ PySem.Challenge.pw_nn0014_01.main.body.drop 26 } }
local macro_rules | `(tactic| o_head $H) => `(tactic| (
 refine PySem.W.holds_open (q := vw) (loose := []) (Xt := fun s => xlAt vw [] s && recOk (RowW.records (OpenRow.toRowW PySem.Challenge.rw_nn0014_01.row)) s) (XP := XL vw []) (Yf := Hook.obs $H) (Ya := Hook.val $H) (YP := Hook.says $H) (N := 3442) ?hl (Hook.of $H) (Hook.keeps $H) (fun s e => xl_of s (Bool.and_eq_true_iff.mp e).1) XL.keeps (by rfl) (by rfl) (by rfl) (fun s e => recFacts_of (Bool.and_eq_true_iff.mp e).2) (by rfl) (by first | assumption | decide +kernel) (by decide +kernel) ⟨rfl, rfl, rfl, rfl, rfl, by decide +kernel⟩ ?hw ?hc
 case hl => (intro w; kernel_rfl)))
open_top hd for PySem.Challenge.rw_nn0014_01
/-- the number that a row of limbs of `w` bits is -/
def val (w : Nat) : List Int → Int
  | [] => 0
  | d :: r => d + 2 ^ w * val w r
/-- every limb lies below the base -/
def Dig (w : Nat) (xs : List Int) : Prop := ∀ d ∈ xs, 0 ≤ d ∧ d < 2 ^ w
/-- the row of a number: no nought at its end -/
def Row (w : Nat) (xs : List Int) (n : Int) : Prop := Dig w xs ∧ val w xs = n ∧ ∀ k, xs.length = k + 1 → 2 ^ (w * k) ≤ n
theorem le_mulR {a b : Int} (ha : 0 ≤ a) (hb : 1 ≤ b) : a ≤ a * b := by
  have := Int.mul_le_mul_of_nonneg_left hb ha
  rwa [Int.mul_one] at this
theorem getD_in {xs : List Int} {k : Nat} (h : k < xs.length) : xs.getD k 0 = xs[k] := by simp [List.getD, h]
theorem getD_out {xs : List Int} {k : Nat} (h : xs.length ≤ k) : xs.getD k 0 = 0 := by simp [List.getD, h]
theorem p2pos (k : Nat) : (0 : Int) < 2 ^ k := Int.pow_pos (by decide)
theorem p2ne (k : Nat) : (2 : Int) ^ k ≠ 0 := Int.ne_of_gt (p2pos k)
theorem p2add (a b : Nat) : (2 : Int) ^ (a + b) = 2 ^ a * 2 ^ b := Int.pow_add 2 a b
theorem p2succ (w k : Nat) : (2 : Int) ^ (w * (k + 1)) = 2 ^ (w * k) * 2 ^ w := by rw [Nat.mul_succ, p2add]
theorem p2mono {k l : Nat} (h : k ≤ l) : (2 : Int) ^ k ≤ 2 ^ l := by
  rw [← Nat.add_sub_cancel' h, p2add]
  exact le_mulR (Int.le_of_lt (p2pos k)) (p2pos _)
theorem p2two {w : Nat} (h : 1 ≤ w) : (2 : Int) ≤ 2 ^ w := p2mono h
theorem val_append (w : Nat) (xs ys : List Int) : val w (xs ++ ys) = val w xs + 2 ^ (w * xs.length) * val w ys := by
  induction xs with
  | nil => simp [val]
  | cons d r ih => simp only [List.cons_append, val, ih, List.length_cons, p2succ, Int.mul_add, Int.mul_assoc, Int.add_assoc, Int.mul_left_comm (2 ^ w)]
theorem val_snoc (w : Nat) (xs : List Int) (d : Int) : val w (xs ++ [d]) = val w xs + 2 ^ (w * xs.length) * d := by rw [val_append]; simp [val]
theorem val_split (w : Nat) (xs : List Int) (k : Nat) : val w xs = val w (xs.take k) + 2 ^ (w * k) * val w (xs.drop k) := by
  by_cases h : k ≤ xs.length
  · have e := val_append w (xs.take k) (xs.drop k)
    rwa [List.take_append_drop, List.length_take, Nat.min_eq_left h] at e
  · have h' := Nat.le_of_not_le h
    rw [List.take_of_length_le h', List.drop_of_length_le h']; simp [val]
theorem drop_cons (xs : List Int) (k : Nat) (h : k < xs.length) : xs.drop k = xs.getD k 0 :: xs.drop (k + 1) := by
  rw [List.drop_eq_getElem_cons h, getD_in h]
theorem val_drop (w : Nat) (xs : List Int) (k : Nat) : val w (xs.drop k) = xs.getD k 0 + 2 ^ w * val w (xs.drop (k + 1)) := by
  by_cases h : k < xs.length
  · rw [drop_cons xs k h]; rfl
  · have h' := Nat.le_of_not_lt h
    rw [List.drop_of_length_le h', List.drop_of_length_le (Nat.le_succ_of_le h'), getD_out h']; simp [val]
theorem val_take (w : Nat) (xs : List Int) (k : Nat) : val w (xs.take (k + 1)) = val w (xs.take k) + 2 ^ (w * k) * xs.getD k 0 := by
  have a := val_split w xs k
  have b := val_split w xs (k + 1)
  rw [val_drop, Int.mul_add, ← Int.mul_assoc, ← p2succ] at a
  omega
theorem Dig.nil {w : Nat} : Dig w [] := fun _ h => nomatch h
theorem Dig.append {w : Nat} {xs ys : List Int} (h : Dig w xs) (k : Dig w ys) : Dig w (xs ++ ys) := fun d hd => (List.mem_append.mp hd).elim (h d) (k d)
theorem Dig.one {w : Nat} {d : Int} (k : 0 ≤ d ∧ d < 2 ^ w) : Dig w [d] := fun e he => by rw [List.mem_singleton.mp he]; exact k
theorem Dig.cons {w : Nat} {d : Int} {xs : List Int} (k : 0 ≤ d ∧ d < 2 ^ w) (h : Dig w xs) : Dig w (d :: xs) := (Dig.one k).append h
theorem Dig.zeros {w : Nat} (k : Nat) : Dig w (List.replicate k 0) := fun e he => by rw [List.eq_of_mem_replicate he]; exact ⟨Int.le_refl _, p2pos w⟩
theorem Dig.getD {w : Nat} {xs : List Int} (h : Dig w xs) (k : Nat) : 0 ≤ xs.getD k 0 ∧ xs.getD k 0 < 2 ^ w := by
  by_cases hk : k < xs.length
  · rw [getD_in hk]; exact h _ (List.getElem_mem hk)
  · rw [getD_out (Nat.le_of_not_lt hk)]; exact ⟨Int.le_refl _, p2pos w⟩
theorem Dig.take {w : Nat} {xs : List Int} (h : Dig w xs) (k : Nat) : Dig w (xs.take k) := fun d hd => h d (List.mem_of_mem_take hd)
theorem Dig.drop {w : Nat} {xs : List Int} (h : Dig w xs) (k : Nat) : Dig w (xs.drop k) := fun d hd => h d (List.mem_of_mem_drop hd)
theorem Dig.bound {w : Nat} {xs : List Int} (h : Dig w xs) : 0 ≤ val w xs ∧ val w xs < 2 ^ (w * xs.length) := by
  induction xs with
  | nil => exact ⟨Int.le_refl _, by simp [val]⟩
  | cons d r ih =>
    obtain ⟨h1, h2⟩ := h d (.head _)
    obtain ⟨i1, i2⟩ := ih fun e he => h e (.tail _ he)
    have p := p2pos w
    have q := Int.mul_le_mul_of_nonneg_left (Int.add_one_le_of_lt i2) (Int.le_of_lt p)
    have q0 := Int.mul_nonneg (Int.le_of_lt p) i1
    simp only [val, List.length_cons, p2succ]
    rw [Int.mul_add, Int.mul_comm (2 ^ w) (2 ^ (w * r.length))] at q
    omega
theorem val_zeros (w k : Nat) : val w (List.replicate k 0) = 0 := by
  induction k with
  | zero => rfl
  | succ n ih => rw [List.replicate_succ, val, ih]; simp
/-- the quotient and the rest by a power of two -/
theorem divmod2 (x : Int) (w : Nat) : x % 2 ^ w + 2 ^ w * (x / 2 ^ w) = x ∧ 0 ≤ x % 2 ^ w ∧ x % 2 ^ w < 2 ^ w :=
  ⟨Int.emod_add_mul_ediv x _, Int.emod_nonneg _ (p2ne w), Int.emod_lt_of_pos _ (p2pos w)⟩
theorem div2nn {x : Int} (h : 0 ≤ x) (w : Nat) : 0 ≤ x / 2 ^ w := Int.ediv_nonneg h (Int.le_of_lt (p2pos w))
theorem divmodU {a b c : Int} {k : Nat} (h : a = b + 2 ^ k * c) (h0 : 0 ≤ b) (h1 : b < 2 ^ k) : a / 2 ^ k = c ∧ a % 2 ^ k = b := kbt_unique (kbt_pos k) h.symm h0 h1
theorem Row.dig {w : Nat} {xs : List Int} {n : Int} (h : Row w xs n) : Dig w xs := h.1
theorem Row.is {w : Nat} {xs : List Int} {n : Int} (h : Row w xs n) : val w xs = n := h.2.1
theorem Row.nn {w : Nat} {xs : List Int} {n : Int} (h : Row w xs n) : 0 ≤ n := h.is ▸ h.dig.bound.1
theorem Row.lt {w : Nat} {xs : List Int} {n : Int} (h : Row w xs n) : n < 2 ^ (w * xs.length) := h.is ▸ h.dig.bound.2
theorem Row.nil {w : Nat} : Row w [] 0 := ⟨.nil, rfl, fun k h => nomatch h⟩
/-- a row's length by its number -/
theorem Row.len {w : Nat} {xs : List Int} {n : Int} {k : Nat} (h : Row w xs n) (hw : 1 ≤ w) (hk : n < 2 ^ (w * k)) : xs.length ≤ k := by
  cases hl : xs.length with
  | zero => exact Nat.zero_le k
  | succ j =>
    have a := h.2.2 j hl
    refine Nat.lt_of_not_le fun q => ?_
    have b := p2mono (Nat.mul_le_mul_left w q)
    omega
theorem Row.last {w : Nat} {xs : List Int} {n : Int} (h : Row w xs n) (k : Nat) (hk : xs.length = k + 1) : 0 < xs.getD k 0 := by
  have b := (h.dig.take k).bound.2
  have g := (h.dig.getD k).1
  have q := val_take w xs k
  rw [List.take_of_length_le (Nat.le_of_eq hk), h.is] at q
  rw [List.length_take, Nat.min_eq_left (by omega)] at b
  have := h.2.2 k hk
  by_cases e : xs.getD k 0 = 0
  · rw [e] at q; omega
  · omega
theorem row_last {w : Nat} {xs : List Int} (h : Dig w xs) (hl : ∀ k, xs.length = k + 1 → xs.getD k 0 ≠ 0) : Row w xs (val w xs) := by
  refine ⟨h, rfl, fun k hk => ?_⟩
  have e := val_take w xs k
  rw [List.take_of_length_le (Nat.le_of_eq hk)] at e
  have h0 := (h.take k).bound.1
  have h1 := le_mulR (Int.le_of_lt (p2pos (w * k))) (show 1 ≤ xs.getD k 0 by have := (h.getD k).1; have := hl k hk; omega)
  omega
theorem Row.uncons {w : Nat} {d : Int} {r : List Int} {n : Int} (h : Row w (d :: r) n) : d = n % 2 ^ w ∧ Row w r (n / 2 ^ w) := by
  have hd := h.1 d (.head _)
  obtain ⟨e1, e2⟩ := divmodU (k := w) (h.is.symm : n = d + 2 ^ w * val w r) hd.1 hd.2
  refine ⟨e2.symm, fun e he => h.1 e (.tail _ he), e1.symm, fun k hk => ?_⟩
  refine (Int.le_ediv_iff_mul_le (p2pos w)).mpr ?_
  rw [← p2succ]
  exact h.2.2 (k + 1) (by rw [List.length_cons, hk])
theorem Row.cons {w : Nat} {r : List Int} {n : Int} (h : Row w r (n / 2 ^ w)) (h0 : 0 < n) : Row w (n % 2 ^ w :: r) n := by
  obtain ⟨e, b⟩ := divmod2 n w
  refine ⟨h.1.cons b, by rw [val, h.is]; exact e, fun k hk => ?_⟩
  cases k with
  | zero => simpa using Int.add_one_le_of_lt h0
  | succ j => rw [p2succ]; exact (Int.le_ediv_iff_mul_le (p2pos w)).mp (h.2.2 j (by simpa using hk))
theorem Row.zero {w : Nat} {xs : List Int} (h : Row w xs 0) : xs = [] := by
  cases hl : xs.length with
  | zero => exact List.eq_nil_of_length_eq_zero hl
  | succ k => exact absurd (h.2.2 k hl) (Int.not_le.mpr (p2pos _))
theorem Row.uniq {w : Nat} {xs : List Int} : ∀ {ys : List Int} {n : Int}, Row w xs n → Row w ys n → xs = ys := by
  induction xs with
  | nil =>
    intro ys n h k
    have e : n = 0 := h.is.symm
    subst e
    exact k.zero.symm
  | cons x xs ih =>
    intro ys n h k
    cases ys with
    | nil =>
      have e : n = 0 := k.is.symm
      subst e
      exact h.zero
    | cons y ys => rw [h.uncons.1, k.uncons.1, ih h.uncons.2 k.uncons.2]
theorem row_is (w : Nat) (hw : 1 ≤ w) : ∀ (f : Nat) (n : Int), 0 ≤ n → n < 2 ^ f → ∃ xs, Row w xs n
  | 0, n, h0, h1 => ⟨[], by rw [show n = 0 by rw [Int.pow_zero] at h1; omega]; exact .nil⟩
  | f + 1, n, h0, h1 => by
    by_cases h : n = 0
    · exact ⟨[], h ▸ .nil⟩
    · obtain ⟨xs, hx⟩ := row_is w hw f (n / 2 ^ w) (div2nn h0 w) (Int.ediv_lt_of_lt_mul (p2pos w) (Int.lt_of_lt_of_le h1 (by rw [← p2add]; exact p2mono (by omega))))
      exact ⟨_, hx.cons (by omega)⟩
theorem lt_p2 (n : Nat) : (n : Int) < 2 ^ n := by
  have h := Nat.lt_two_pow_self (n := n)
  rw [← kbt_cast]
  exact Int.ofNat_lt.mpr h
/-- the row of a number -/
noncomputable def row (w : Nat) (n : Int) : List Int := open Classical in if h : ∃ xs, Row w xs n then h.choose else []
theorem Row.eq {w : Nat} {xs : List Int} {n : Int} (h : Row w xs n) : xs = row w n := by
  have q : ∃ xs, Row w xs n := ⟨xs, h⟩
  rw [row, dif_pos q]
  exact h.uniq q.choose_spec
theorem row_spec {w : Nat} {n : Int} (hw : 1 ≤ w) (h0 : 0 ≤ n) : Row w (row w n) n := by
  obtain ⟨xs, h⟩ := row_is w hw n.toNat n h0 (by have := lt_p2 n.toNat; omega)
  exact h.eq ▸ h
/-! what a carrying loop keeps -/
def CInv (w k : Nat) (T c : Int) (ns : List Int) : Prop := ns.length = k ∧ Dig w ns ∧ 0 ≤ c ∧ val w ns + 2 ^ (w * k) * c = T
theorem cinv_zero {w : Nat} {c : Int} (h : 0 ≤ c) : CInv w 0 c c [] := ⟨rfl, .nil, h, by simp [val]⟩
theorem CInv.step {w k : Nat} {T T' c d x : Int} {ns : List Int} (h : CInv w k T c ns) (hd : 0 ≤ d) (hx : x = c + d) (hT : T' = T + 2 ^ (w * k) * d) : CInv w (k + 1) T' (x / 2 ^ w) (ns ++ [x % 2 ^ w]) := by
  obtain ⟨h1, h2, h3, h4⟩ := h
  subst hx
  obtain ⟨e, b⟩ := divmod2 (c + d) w
  refine ⟨by rw [List.length_append, h1]; rfl, h2.append (.one b), div2nn (Int.add_nonneg h3 hd) w, ?_⟩
  have q : 2 ^ (w * k) * ((c + d) % 2 ^ w) + 2 ^ (w * k) * (2 ^ w * ((c + d) / 2 ^ w)) = 2 ^ (w * k) * (c + d) := by rw [← Int.mul_add, e]
  rw [val_snoc, h1, p2succ, Int.mul_assoc]
  rw [Int.mul_add _ c d] at q
  omega
/-- how it ends -/
theorem CInv.row1 {w k : Nat} {T c : Int} {ns : List Int} (h : CInv w k T c ns) (hT : T < 2 ^ (w * (k + 1))) (hc : 0 < c) : ns ++ [c] = row w T := by
  obtain ⟨h1, h2, h3, h4⟩ := h
  have n0 := h2.bound.1
  refine Row.eq ⟨h2.append (.one ⟨h3, ?_⟩), by rw [val_snoc, h1]; exact h4, fun j hj => ?_⟩
  · refine Int.lt_of_mul_lt_mul_left (a := 2 ^ (w * k)) ?_ (Int.le_of_lt (p2pos _))
    rw [← p2succ]; omega
  · rw [List.length_append, h1] at hj
    have e : k = j := Nat.succ.inj hj
    rw [← e, ← h4]
    exact Int.le_trans (le_mulR (Int.le_of_lt (p2pos (w * k))) hc) (Int.le_add_of_nonneg_left n0)
theorem CInv.row0 {w k : Nat} {T c : Int} {ns : List Int} (h : CInv w k T c ns) (hl : ∀ j, k = j + 1 → 2 ^ (w * j) ≤ T) (hc : ¬ 0 < c) : ns = row w T := by
  obtain ⟨h1, h2, h3, h4⟩ := h
  have e : c = 0 := by omega
  subst e
  exact Row.eq ⟨h2, by rwa [Int.mul_zero, Int.add_zero] at h4, fun j hj => hl j (h1 ▸ hj)⟩
theorem CInv.over {w k : Nat} {T c : Int} {ns : List Int} (h : CInv w k T c ns) (hc : 0 < c) : 2 ^ (w * k) ≤ T :=
  h.2.2.2 ▸ Int.le_trans (le_mulR (Int.le_of_lt (p2pos (w * k))) hc) (Int.le_add_of_nonneg_left h.2.1.bound.1)
theorem CInv.small {w k : Nat} {T c : Int} {ns : List Int} {m : Nat} (h : CInv w k T c ns) (hc : 0 < c) (hw : 1 ≤ w) (hT : T < 2 ^ m) : k < m := by
  have a := h.over hc
  refine Nat.lt_of_not_le fun q => ?_
  have := p2mono (Nat.le_trans q (Nat.le_mul_of_pos_left k hw))
  omega
theorem mask_is (x : Int) (w : Nat) : Builtin.bitAnd x (1 * 2 ^ ((w : Int)).toNat - 1) = x % 2 ^ w := by rw [Int.one_mul, Int.toNat_natCast, kbt_mask]
theorem or_apart (k : Nat) : ∀ (x y : Int), 0 ≤ x → x < 2 ^ k → Builtin.bitOr x (y * 2 ^ k) = x + y * 2 ^ k := by
  have key : ∀ (k : Nat) (x y : Int), 0 ≤ x → x < 2 ^ k → Builtin.bitAnd x (y * 2 ^ k) = 0 := by
    intro k
    induction k with
    | zero =>
      intro x y h0 h1
      have e : x = 0 := by rw [Int.pow_zero] at h1; omega
      have := kbt_mask' (y * 2 ^ 0) 0
      rw [e]; simpa using this
    | succ n ih =>
      intro x y h0 h1
      have e : y * 2 ^ (n + 1) = y * 2 ^ n * 2 := by rw [Int.pow_succ, Int.mul_assoc]
      rw [Int.pow_succ] at h1
      rw [kbt_halves, e, Int.mul_ediv_cancel _ (by decide), ih (x / 2) y (by omega) (by omega), if_neg (by omega)]
      rfl
  intro x y h0 h1
  rw [bitOr_and, key k x y h0 h1, Int.sub_zero]
theorem add4 (a b c d : Int) : a + b + (c + d) = a + c + (b + d) := by omega
theorem sum_lt {w k : Nat} {x y : Int} (hw : 1 ≤ w) (hx : x < 2 ^ (w * k)) (hy : y ≤ 2 ^ (w * k)) : x + y < 2 ^ (w * (k + 1)) := by
  rw [p2succ]
  exact Int.lt_of_lt_of_le (Int.add_lt_add_of_lt_of_le hx hy) (by have := Int.mul_le_mul_of_nonneg_left (p2two hw) (Int.le_of_lt (p2pos (w * k))); rwa [Int.mul_comm _ 2, Int.two_mul] at this)
theorem le_addR {a b c : Int} (h : a ≤ b) (k : 0 ≤ c) : a ≤ b + c := Int.le_trans h (Int.le_add_of_nonneg_right k)
theorem take_all {A : List Int} : A.take A.length = A := List.take_length
theorem lt_of_get {A : List Int} {i : Nat} {d : Int} (h : A[i]? = some d) : i < A.length := (List.getElem?_eq_some_iff.mp h).1
theorem getD_of {A : List Int} {i : Nat} {d : Int} (h : A[i]? = some d) : A.getD i 0 = d := by rw [List.getD_eq_getElem?_getD, h]; rfl
theorem Dig.of {w : Nat} {A : List Int} {i : Nat} {d : Int} (h : Dig w A) (k : A[i]? = some d) : 0 ≤ d ∧ d < 2 ^ w := h d (List.mem_of_getElem? k)
theorem val_take' {w : Nat} {A : List Int} {i : Nat} {d : Int} (k : A[i]? = some d) : val w (A.take (i + 1)) = val w (A.take i) + 2 ^ (w * i) * d := by rw [val_take, getD_of k]
theorem abs_lt {x : Int} {w : Nat} (h : 0 ≤ x ∧ x < 2 ^ w) (hw : w ≤ 60) : x.natAbs < 2 ^ 62 := by
  have := p2mono hw
  have : (2 : Int) ^ 60 < 2 ^ 62 := by decide
  omega
abbrev Led := List (Addr × Obj)
/-- the contract of a def: called with `args` upon any ledger that fits, it gives back what `Post` says -/
def Does (w : World) (f : Addr) (lv : Nat) (args : List Value) (Pre : Led → Prop) (Post : Led → Value → Led → Prop) : Prop :=
  ∀ (dp un : Nat) (gd : Option (List Code)) (cn : Str) (cs : Scope) (a : Addr) (ccd : Value) (cl : List (Str × Addr)) (outer : List Env) (A₀ : Around) (base h₀ : Heap) (L : Addr) (m : Str → Option Value) (news : Led) (s : Shared)
    (p : Program) (loose : List Str) (mean : ExcName → Option Value) (mg mb : Str → Option Value) (Q E : Value → Shared → Prop),
    Below A₀ base outer h₀ → Fr h₀ L s.heap m → (hd.heap_39 w.params).In h₀ → News h₀ L s.heap news → Top p loose mean mg mb h₀ → cs.kind = .function → dp + lv < recursionLimit → un + 8 * lv < cLine →
    Pre news →
    (∀ r news' h' tk', Fr h₀ L h' m → News h₀ L h' news' → Post news r news' → Q r { s with heap := h', toks := tk' }) →
    wpAny (model PySem.Challenge.rw_nn0014_01.row.prog w) (ktrTop dp un gd cn cs L a ccd cl outer) (call (.ref f) args) Q E s
/-- a list of ints of the ledger -/
def Has (news : Led) (v : Value) (ns : List Int) : Prop := ∃ (l : Addr) (vs : List Value) (n : Nat), v = .ref l ∧ (l, W.listOf vs.toArray n) ∈ news ∧ IntsAre vs ns
theorem all_ne {d : Addr} : ∀ {l : Led}, AllLt d l → ∀ p ∈ l, p.1 ≠ d
  | [], _, _, hp => nomatch hp
  | q :: r, h, p, hp => by
    rcases List.mem_cons.mp hp with rfl | hp
    · exact Nat.ne_of_lt h.1
    · exact all_ne h.2 p hp
theorem led_sub {h₀ h : Heap} {L : Addr} {news news' : Led} (N : News h₀ L h news') (hs : ∀ p ∈ news, p ∈ news') : News h₀ L h news := fun p hp => N p (hs p hp)
theorem sub_head {p : Addr × Obj} {r r' : Led} (h : ∀ q ∈ r, q ∈ r') : ∀ q ∈ p :: r, q ∈ p :: r' := fun q hq => by
  rcases List.mem_cons.mp hq with rfl | hq
  · exact .head _
  · exact .tail _ (h q hq)
/-! a small program logic: what an expression gives, as data; every rule is shown once -/
set_option genSizeOfSpec false in
inductive AV where
  | undef
  | int (i : Int)
  | bool (b : Bool)
  | list (ns : List Int)
  | at (l : Addr) (ns : List Int)
  | pair (a b : AV)
  | raw (v : Value)
  | box (l l0 : Addr) (its : List (Addr × Obj))
  | boxV (l l0 : Addr) (st : Int) (ns : List Int) (its : List (Addr × Obj))
/-- a table of the codes made in a code: empty, or with this one -/
def TabOk (P : Addr) (line col : Int) (qual : Str) (led : Led) : Prop :=
  (P, tabObj #[]) ∈ led ∨ ∃ c' oc vs t, (P, tabObj #[rawInt line, rawInt col, .ref c']) ∈ led ∧ (c', oc) ∈ led ∧ oc.data = .fields vs ∧ vs[1]? = some (.str qual t)
theorem TabOk.mono {P : Addr} {line col : Int} {qual : Str} {led led' : Led} (hs : ∀ p ∈ led, (∃ vs, p.2.data = .fields vs) → p ∈ led') : TabOk P line col qual led → TabOk P line col qual led'
  | .inl h => .inl (hs _ h ⟨_, rfl⟩)
  | .inr ⟨c', oc, vs, t, h1, h2, h3⟩ => .inr ⟨c', oc, vs, t, hs _ h1 ⟨_, rfl⟩, hs _ h2 ⟨_, h3.1⟩, h3⟩
def Tabs (led : Led) : Prop := TabOk 242 185 35 "_law_sums_right.<locals>.<lambda>" led ∧ TabOk 249 196 28 "_law_limb_right.<locals>.<lambda>" led ∧ TabOk 256 215 28 "_law_bits_right.<locals>.<lambda>" led
/-- the law's box, what it holds told -/
def BoxV (l l0 : Addr) (st : Int) (ns : List Int) (led : Led) : Prop :=
  l ≠ l0 ∧ ∃ vs n t n2, (l, W.listOf #[.ref l0, .int st t] n2) ∈ led ∧ (l0, W.listOf vs.toArray n) ∈ led ∧ IntsAre vs ns ∧ ns.length ≤ 24 ∧ 0 ≤ st ∧ st < 2 ^ 20
/-- objects that stand beside the box -/
def Its (l l0 : Addr) (its led : Led) : Prop := ∀ p ∈ its, p ∈ led ∧ p.1 ≠ l ∧ p.1 ≠ l0 ∧ ((∃ xs n, p.2.data = .seq xs n) ∨ (p.2.cls = .type "range_iterator" ∧ ∃ vs, p.2.data = .fields vs))
abbrev tupObj (vs : List Value) (n : Nat) : Obj := { cls := .type "tuple", data := .seq vs.toArray n }
def VR (led : Led) : AV → Value → Prop
  | .undef, _ => True
  | .int i, v => ∃ t, v = .int i t
  | .bool b, v => v = .bool b
  | .list ns, v => Has led v ns
  | .at l ns, v => v = .ref l ∧ Has led v ns
  | .raw u, v => v = u
  | .box l l0 its, v => v = .ref l ∧ (∃ st ns, BoxV l l0 st ns led) ∧ Tabs led ∧ Its l l0 its led
  | .boxV l l0 st ns its, v => v = .ref l ∧ BoxV l l0 st ns led ∧ Tabs led ∧ Its l l0 its led
  | .pair a b, v => ∃ t va vb n, v = .ref t ∧ (t, tupObj [va, vb] n) ∈ led ∧ VR led a va ∧ VR led b vb
/-- what a ledger tells of values stands in that one too -/
structure Keep (led led' : Led) : Prop where
  seq : ∀ p ∈ led, (∃ xs n, p.2.data = .seq xs n) → p ∈ led'
  tabs : Tabs led → Tabs led'
  its : ∀ p ∈ led, (p.2.cls = .type "range_iterator" ∧ ∃ vs, p.2.data = .fields vs) → p ∈ led'
theorem Keep.of {led led' : Led} (hs : ∀ p ∈ led, p ∈ led') : Keep led led' := ⟨fun p h _ => hs p h, fun h => ⟨h.1.mono fun p h _ => hs p h, h.2.1.mono fun p h _ => hs p h, h.2.2.mono fun p h _ => hs p h⟩, fun p h _ => hs p h⟩
theorem Keep.trans {l1 l2 l3 : Led} (a : Keep l1 l2) (b : Keep l2 l3) : Keep l1 l3 := ⟨fun p h q => b.seq p (a.seq p h q) q, fun h => b.tabs (a.tabs h), fun p h q => b.its p (a.its p h q) q⟩
theorem BoxV.keep {led led' : Led} {l l0 : Addr} {st : Int} {ns : List Int} (hs : Keep led led') : BoxV l l0 st ns led → BoxV l l0 st ns led'
  | ⟨h1, vs, n, t, n2, h2, h3, h4⟩ => ⟨h1, vs, n, t, n2, hs.seq _ h2 ⟨_, _, rfl⟩, hs.seq _ h3 ⟨_, _, rfl⟩, h4⟩
theorem Its.keep {led led' its : Led} {l l0 : Addr} (hs : Keep led led') (h : Its l l0 its led) : Its l l0 its led' := fun p hp =>
  have ⟨h1, h2, h3, h4⟩ := h p hp
  ⟨h4.elim (hs.seq p h1) (hs.its p h1), h2, h3, h4⟩
theorem Has.keep {led led' : Led} {v : Value} {ns : List Int} (hs : Keep led led') (h : Has led v ns) : Has led' v ns := by
  obtain ⟨l, vs, n, e, hm, hi⟩ := h
  exact ⟨l, vs, n, e, hs.seq _ hm ⟨_, _, rfl⟩, hi⟩
theorem VR.keep {led led' : Led} (hs : Keep led led') {a : AV} : ∀ {v : Value}, VR led a v → VR led' a v := by
  induction a with
  | list _ => intro v h; exact Has.keep hs h
  | «at» _ _ => intro v h; exact ⟨h.1, Has.keep hs h.2⟩
  | pair a b iha ihb =>
    intro v h
    obtain ⟨t, va, vb, n, e, hm, h1, h2⟩ := h
    exact ⟨t, va, vb, n, e, hs.seq _ hm ⟨_, _, rfl⟩, iha h1, ihb h2⟩
  | box l l0 its =>
    intro v h
    obtain ⟨e, ⟨st, ns, h1⟩, h2, h3⟩ := h
    exact ⟨e, ⟨st, ns, h1.keep hs⟩, hs.tabs h2, h3.keep hs⟩
  | boxV l l0 st ns its =>
    intro v h
    obtain ⟨e, h1, h2, h3⟩ := h
    exact ⟨e, h1.keep hs, hs.tabs h2, h3.keep hs⟩
  | _ => intro v h; exact h
theorem VR.mono {led led' : Led} (hs : ∀ p ∈ led, p ∈ led') {a : AV} {v : Value} (h : VR led a v) : VR led' a v := h.keep (.of hs)
abbrev PR : Program := PySem.Challenge.rw_nn0014_01.row.prog
set_option genInjectivity false in
set_option genSizeOfSpec false in
structure Cx where
  wd : World
  lv : Nat
  qual : Str
  scope : Scope
  f : Addr
  cdv : Value
  cl : List (Str × Addr)
  dp : Nat
  un : Nat
  gd : Option (List Code)
  A₀ : Around
  outer : List Env
  base : Heap
  g : Heap
  L : Addr
  p : Program
  loose : List Str
  mean : ExcName → Option Value
  mg : Str → Option Value
  mb : Str → Option Value
  news : Led
  tn : Bool
  X : (hd.heap_39 wd.params).In g
  Bl : Below A₀ base outer g
  T : Top p loose mean mg mb g
  hA : A₀.deeper (envX qual scope L f cdv cl) = ktrTop dp un gd qual scope L f cdv cl outer
  hdp : dp + lv ≤ recursionLimit
  hun : un + 8 * lv < cLine + 3
  hk : scope.kind = .function
section
abbrev Cx.env (C : Cx) : Env := envX C.qual C.scope C.L C.f C.cdv C.cl
abbrev Cx.A (C : Cx) : Around := ktrTop C.dp C.un C.gd C.qual C.scope C.L C.f C.cdv C.cl C.outer
variable {C : Cx}
def Knows (C : Cx) (m : Str → Option Value) (led : Led) (x : Str) (a : AV) : Prop :=
  ∃ v, VR led a v ∧ ((C.env.kindOf x = some .local ∧ m x = some v) ∨ ((C.env.kindOf x = some .cell ∨ (C.env.kindOf x = some .free ∧ (x == ("__classdict__" : Str)) = false)) ∧ ∃ c o, C.cl.lookup x = some c ∧ (c, o) ∈ led ∧ o.data = .cell (some v)))
theorem Knows.mono {m : Str → Option Value} {led led' : Led} {x : Str} {a : AV} (hs : ∀ p ∈ led, p ∈ led') (h : Knows C m led x a) : Knows C m led' x a := by
  obtain ⟨v, hv, h | ⟨k, c, o, h1, h2, h3⟩⟩ := h
  · exact ⟨v, hv.mono hs, .inl h⟩
  · exact ⟨v, hv.mono hs, .inr ⟨k, c, o, h1, hs _ h2, h3⟩⟩
def Envs (C : Cx) (ρ : List (Str × AV)) (m : Str → Option Value) (led : Led) : Prop := ∀ x a, (x, a) ∈ ρ → a = .undef ∨ Knows C m led x a
theorem Envs.mono {ρ : List (Str × AV)} {m : Str → Option Value} {led led' : Led} (hs : ∀ p ∈ led, p ∈ led') (h : Envs C ρ m led) : Envs C ρ m led' := fun x a hm => (h x a hm).imp id fun k => k.mono hs
/-- what stands in the text of an expression alone -/
structure Plain (env : Env) (e : Expr) : Prop where
  star : ∀ rest, starEach (e :: rest) env = (false, eval e env) :: starEach rest env
  marks : ∀ op, behindInMarks op e = false
  sub : ∀ l k t, subscripted e false (.ref l) (.int k t) = operate [.ref l, .int k t] (getItem (.ref l) (.int k t))
  swap : ∀ t n, swapsWith e t n env = pure false
def Nxt (C : Cx) (m : Str → Option Value) (led : Led) (s s' : Shared) (led' : Led) : Prop :=
  ∃ h' tk, s' = { s with heap := h', toks := tk } ∧ Fr C.g C.L h' m ∧ News C.g C.L h' led' ∧ ∀ p ∈ led, p ∈ led'
/-- an expression gives this -/
def Ev (C : Cx) (ρ : List (Str × AV)) (e : Expr) (a : AV) : Prop :=
  Plain C.env e ∧ ∀ (s : Shared) m led, Fr C.g C.L s.heap m → News C.g C.L s.heap led → Envs C ρ m led →
    wpAny (model PR C.wd) C.A (eval e C.env) (fun v s' => ∃ led', Nxt C m led s s' led' ∧ VR led' a v) (fun _ _ => False) s
/-- a test gives this -/
def Tr (C : Cx) (ρ : List (Str × AV)) (e : Expr) (b : Bool) : Prop :=
  ∀ (s : Shared) m led, Fr C.g C.L s.heap m → News C.g C.L s.heap led → Envs C ρ m led →
    wpAny (model PR C.wd) C.A (isTrue e C.env (eval e C.env)) (fun b' s' => b' = b ∧ ∃ led', Nxt C m led s s' led') (fun _ _ => False) s
variable {ρ : List (Str × AV)} {e l r : Expr} {pos : Pos}
theorem Ev.use {a : AV} (h : Ev C ρ e a) {s : Shared} {m : Str → Option Value} {led : Led} {Q : Value → Shared → Prop} (F : Fr C.g C.L s.heap m) (N : News C.g C.L s.heap led) (V : Envs C ρ m led)
    (k : ∀ v h' tk led', Fr C.g C.L h' m → News C.g C.L h' led' → (∀ p ∈ led, p ∈ led') → Envs C ρ m led' → VR led' a v → Q v { s with heap := h', toks := tk }) :
    wpAny (model PR C.wd) C.A (eval e C.env) Q (fun _ _ => False) s := by
  refine wpAny_mono (h.2 s m led F N V) (fun v s' q => ?_) fun _ _ x => x
  obtain ⟨led', ⟨h', tk, rfl, F', N', hs⟩, hv⟩ := q
  exact k v h' tk led' F' N' hs (V.mono hs) hv
theorem Tr.use {b : Bool} (h : Tr C ρ e b) {s : Shared} {m : Str → Option Value} {led : Led} {Q : Bool → Shared → Prop} (F : Fr C.g C.L s.heap m) (N : News C.g C.L s.heap led) (V : Envs C ρ m led)
    (k : ∀ h' tk led', Fr C.g C.L h' m → News C.g C.L h' led' → (∀ p ∈ led, p ∈ led') → Envs C ρ m led' → Q b { s with heap := h', toks := tk }) :
    wpAny (model PR C.wd) C.A (isTrue e C.env (eval e C.env)) Q (fun _ _ => False) s := by
  refine wpAny_mono (h s m led F N V) (fun v s' q => ?_) fun _ _ x => x
  obtain ⟨rfl, led', h', tk, rfl, F', N', hs⟩ := q
  exact k h' tk led' F' N' hs (V.mono hs)
theorem nxt {m : Str → Option Value} {led led' : Led} {s : Shared} {h' : Heap} {tk : Nat} (F : Fr C.g C.L h' m) (N : News C.g C.L h' led') (hs : ∀ p ∈ led, p ∈ led') : Nxt C m led s { s with heap := h', toks := tk } led' := ⟨h', tk, rfl, F, N, hs⟩
/-! names and written values -/
theorem plain_const {env : Env} {k : Const} {n : Nat} : Plain env (.Constant k n pos) := ⟨fun _ => rfl, fun op => by cases op <;> rfl, fun _ _ _ => rfl, fun _ _ => rfl⟩
theorem plain_name {env : Env} {x : Str} : Plain env (.Name x pos) := ⟨fun _ => rfl, fun op => by cases op <;> rfl, fun _ _ _ => rfl, fun _ _ => rfl⟩
theorem plain_un {env : Env}  : Plain env (.UnaryOp .USub e pos) := ⟨fun _ => rfl, fun op => by cases op <;> rfl, fun _ _ _ => rfl, fun _ _ => rfl⟩
theorem plain_bin {env : Env} {op : Operator} : Plain env (.BinOp l op r pos) := ⟨fun _ => rfl, fun op => by cases op <;> rfl, fun _ _ _ => rfl, fun _ _ => rfl⟩
theorem plain_cmp {env : Env} {op : CmpOp} : Plain env (.Compare l [op] [r] pos) := ⟨fun _ => rfl, fun op => by cases op <;> rfl, fun _ _ _ => rfl, fun _ _ => rfl⟩
theorem plain_bool {env : Env} {op : BoolOp} {es : List Expr} : Plain env (.BoolOp op es pos) := ⟨fun _ => rfl, fun op => by cases op <;> rfl, fun _ _ _ => rfl, fun _ _ => rfl⟩
theorem plain_ite {env : Env}  : Plain env (.IfExp e l r pos) := ⟨fun _ => rfl, fun op => by cases op <;> rfl, fun _ _ _ => rfl, fun _ _ => rfl⟩
theorem plain_call {env : Env} {es : List Expr} : Plain env (.Call e es [] pos) := ⟨fun _ => rfl, fun op => by cases op <;> rfl, fun _ _ _ => rfl, fun _ _ => rfl⟩
theorem plain_sub {env : Env}  : Plain env (.Subscript e l pos) := ⟨fun _ => rfl, fun op => by cases op <;> rfl, fun _ _ _ => rfl, fun _ _ => rfl⟩
theorem plain_list {env : Env} {es : List Expr} : Plain env (.List es pos) := ⟨fun _ => rfl, fun op => by cases op <;> rfl, fun _ _ _ => rfl, fun _ _ => rfl⟩
theorem plain_tup {env : Env} {es : List Expr} {k : Nat} : Plain env (.Tuple es k pos) := ⟨fun _ => rfl, fun op => by cases op <;> rfl, fun _ _ _ => rfl, fun _ _ => rfl⟩
theorem ev_int {k : Int} {n : Nat} : Ev C ρ (.Constant (.int k) n pos) (.int k) :=
  ⟨plain_const, fun s m led F N V => wpAny_Constant_int ⟨led, nxt F N fun _ h => h, _, rfl⟩⟩
theorem ev_bool {k : Bool} {n : Nat} : Ev C ρ (.Constant (.bool k) n pos) (.bool k) :=
  ⟨plain_const, fun s m led F N V => wpAny_Constant_bool ⟨led, ⟨s.heap, s.toks, rfl, F, N, fun _ h => h⟩, rfl⟩⟩
theorem ev_var {x : Str} {a : AV} (hm : (x, a) ∈ ρ) (ha : a ≠ .undef := by exact AV.noConfusion) (hd : (x == ("__debug__" : Str)) = false := by decide) : Ev C ρ (.Name x pos) a := by
  refine ⟨plain_name, fun s m led F N V => ?_⟩
  rcases V x a hm with e | ⟨v, hv, ⟨hk, e⟩ | ⟨hk | ⟨hk, hd2⟩, c, o, h1, h2, h3⟩⟩
  · exact absurd e ha
  · exact nameX_L F e ⟨led, ⟨s.heap, s.toks, rfl, F, N, fun _ h => h⟩, hv⟩ C.hk hk hd
  · exact nameX_C N h1 h2 h3 ⟨led, ⟨s.heap, s.toks, rfl, F, N, fun _ h => h⟩, hv⟩ C.hk hk hd
  · exact nameX_F N h1 h2 h3 ⟨led, ⟨s.heap, s.toks, rfl, F, N, fun _ h => h⟩, hv⟩ C.hk hk hd hd2
theorem ev_varL {x : Str} {l : Addr} {ns : List Int} (hm : (x, AV.at l ns) ∈ ρ) (hd : (x == ("__debug__" : Str)) = false := by decide) : Ev C ρ (.Name x pos) (.list ns) := by
  refine ⟨plain_name, fun s m led F N V => (ev_var hm (by exact AV.noConfusion) hd).use F N V fun v h' tk led' F' N' i' V' q => ⟨led', nxt F' N' i', q.2⟩⟩
/-! ints -/
theorem ev_binI {op : Operator} {a b c : Int} (hl : Ev C ρ l (.int a)) (hr : Ev C ρ r (.int b))
    (hop : ∀ t u (Q : Value → Shared → Prop) s, Q (.int c s.toks) { s with toks := s.toks + 1 } → wpAny (model PR C.wd) C.A (binaryOp op (.int a t) (.int b u)) Q (fun _ _ => False) s) : Ev C ρ (.BinOp l op r pos) (.int c) := by
  refine ⟨plain_bin, fun s m led F N V => wpAny_BinOp (hl.use F N V fun v1 h1 t1 led1 F1 N1 i1 V1 q1 => hr.use F1 N1 V1 fun v2 h2 t2 led2 F2 N2 i2 V2 q2 => ?_)⟩
  obtain ⟨u1, rfl⟩ := q1
  obtain ⟨u2, rfl⟩ := q2
  exact hop _ _ _ _ ⟨led2, nxt F2 N2 fun p hp => i2 p (i1 p hp), _, rfl⟩
theorem ev_add {a b : Int} (hl : Ev C ρ l (.int a)) (hr : Ev C ρ r (.int b)) : Ev C ρ (.BinOp l .Add r pos) (.int (a + b)) := ev_binI hl hr fun _ _ _ _ h => add_int h
theorem ev_sub {a b : Int} (hl : Ev C ρ l (.int a)) (hr : Ev C ρ r (.int b)) : Ev C ρ (.BinOp l .Sub r pos) (.int (a - b)) := ev_binI hl hr fun _ _ _ _ h => sub_int h
theorem mul_small {a b : Int} (h : a.natAbs < 2 ^ 62 ∨ b.natAbs < 2 ^ 62) : IntMulOk a b := by
  rcases h with h | h
  · exact .of_left (intBits_le_64 (by omega) (by omega))
  · exact .of_right (intBits_le_64 (by omega) (by omega))
theorem ev_mul {a b : Int} (hl : Ev C ρ l (.int a)) (hr : Ev C ρ r (.int b)) (h : a.natAbs < 2 ^ 62 ∨ b.natAbs < 2 ^ 62) : Ev C ρ (.BinOp l .Mult r pos) (.int (a * b)) := ev_binI hl hr fun _ _ _ _ q => mul_int q (mul_small h)
theorem ev_pow {a b : Int} (hl : Ev C ρ l (.int a)) (hr : Ev C ρ r (.int b)) (h : a.natAbs < 2 ^ 62) (h0 : 0 ≤ b) (h1 : b ≤ 100000) : Ev C ρ (.BinOp l .Pow r pos) (.int (a ^ b.toNat)) :=
  ev_binI hl hr fun _ _ _ _ q => pow_int_small h0 (by omega) (by omega) q
theorem ev_shl {a b : Int} (hl : Ev C ρ l (.int a)) (hr : Ev C ρ r (.int b)) (h : a.natAbs < 2 ^ 62) (h0 : 0 ≤ b) (h1 : b ≤ 100000) : Ev C ρ (.BinOp l .LShift r pos) (.int (a * 2 ^ b.toNat)) :=
  ev_binI hl hr fun _ _ _ _ q => lshift_int_small h0 (by omega) (by omega) q
theorem ev_shr {a b : Int} (hl : Ev C ρ l (.int a)) (hr : Ev C ρ r (.int b)) (h0 : 0 ≤ b) : Ev C ρ (.BinOp l .RShift r pos) (.int (a / 2 ^ b.toNat)) :=
  ev_binI hl hr fun _ _ _ _ q => rshift_int h0 (by rw [Int.fdiv_eq_ediv_of_nonneg _ (Int.le_of_lt (kbt_pos _))]; exact q)
theorem ev_and {a b : Int} (hl : Ev C ρ l (.int a)) (hr : Ev C ρ r (.int b)) : Ev C ρ (.BinOp l .BitAnd r pos) (.int (Builtin.bitAnd a b)) := ev_binI hl hr fun _ _ _ _ q => and_int q
theorem ev_or {a b : Int} (hl : Ev C ρ l (.int a)) (hr : Ev C ρ r (.int b)) : Ev C ρ (.BinOp l .BitOr r pos) (.int (Builtin.bitOr a b)) := ev_binI hl hr fun _ _ _ _ q => or_int q
theorem ev_mod {a b : Int} (hl : Ev C ρ l (.int a)) (hr : Ev C ρ r (.int b)) (h : 0 < b) : Ev C ρ (.BinOp l .Mod r pos) (.int (a % b)) :=
  ev_binI hl hr fun _ _ _ _ q => mod_int' (by omega) (by rw [Int.fmod_eq_emod_of_nonneg _ (by omega)]; exact q)
end
section
variable {C : Cx} {ρ : List (Str × AV)} {e l r : Expr} {pos : Pos}
theorem ev_div {a b : Int} (hl : Ev C ρ l (.int a)) (hr : Ev C ρ r (.int b)) (h : 0 < b) (h2 : b < 2 ^ 62) : Ev C ρ (.BinOp l .FloorDiv r pos) (.int (a / b)) :=
  ev_binI hl hr fun _ _ _ _ q => floordiv_int (by omega) (by rw [Int.fdiv_eq_ediv_of_nonneg _ (by omega)]; exact q) (.inl (PyProof.noPylong_of_log2 (Nat.lt_trans ((Nat.log2_lt (by omega)).mpr (show b.natAbs < 2 ^ 62 by omega)) (by decide))))
theorem ev_neg {a : Int} (he : Ev C ρ e (.int a)) : Ev C ρ (.UnaryOp .USub e pos) (.int (-a)) := by
  refine ⟨plain_un, fun s m led F N V => UnaryOp_ (he.use F N V fun v h' tk led' F' N' i' V' q => ?_)⟩
  obtain ⟨u, rfl⟩ := q
  exact neg_int ⟨led', nxt F' N' i', _, rfl⟩
/-- what two values compared give -/
def Cmp (C : Cx) (op : CmpOp) (a b : AV) (c : Bool) : Prop :=
  ∀ (s : Shared) led v w (Q : Value → Shared → Prop), News C.g C.L s.heap led → VR led a v → VR led b w → Q (.bool c) s → wpAny (model PR C.wd) C.A (compareOp op v w) Q (fun _ _ => False) s
theorem cmpI {op : CmpOp} {a b : Int} {c : Bool} (h : ∀ t u (Q : Value → Shared → Prop) s, Q (.bool c) s → wpAny (model PR C.wd) C.A (compareOp op (.int a t) (.int b u)) Q (fun _ _ => False) s) : Cmp C op (.int a) (.int b) c := by
  rintro s led v w Q _ ⟨t, rfl⟩ ⟨u, rfl⟩ hq
  exact h t u Q s hq
theorem cmp_lt {a b : Int} : Cmp C .Lt (.int a) (.int b) (decide (a < b)) := cmpI fun _ _ _ _ q => lt_int q
theorem cmp_le {a b : Int} : Cmp C .LtE (.int a) (.int b) (decide (a ≤ b)) := cmpI fun _ _ _ _ q => le_int q
theorem cmp_gt {a b : Int} : Cmp C .Gt (.int a) (.int b) (decide (b < a)) := cmpI fun _ _ _ _ q => gt_int q
theorem cmp_ge {a b : Int} : Cmp C .GtE (.int a) (.int b) (decide (b ≤ a)) := cmpI fun _ _ _ _ q => ge_int q
theorem cmp_eq {a b : Int} : Cmp C .Eq (.int a) (.int b) (decide (a = b)) := cmpI fun _ _ _ _ q => eq_int (by rw [show (a == b) = decide (a = b) from by by_cases h : a = b <;> simp [h]]; exact q)
theorem cmp_ne {a b : Int} : Cmp C .NotEq (.int a) (.int b) (decide (a ≠ b)) := cmpI fun _ _ _ _ q => ne_int (by rw [show (a != b) = decide (a ≠ b) from by by_cases h : a = b <;> simp [h]]; exact q)
theorem Has.isList {g h : Heap} {L : Addr} {led : Led} {v : Value} {ns : List Int} (H : Has led v ns) (N : News g L h led) : ∃ l vs n, v = .ref l ∧ h.IsList l vs.toArray ∧ IntsAre vs ns ∧ (l, W.listOf vs.toArray n) ∈ led := by
  obtain ⟨l, vs, n, e, hm, hi⟩ := H
  exact ⟨l, vs, n, e, ⟨_, (N _ hm).1, rfl, _, rfl⟩, hi, hm⟩
theorem Cx.units (C : Cx) : C.A.units = C.un := rfl
theorem Cx.roomU (C : Cx) : C.un + 8 * C.lv < 9903 := by have := C.hun; simpa [cLine] using this
theorem cmp_leq {a b : List Int} (hlv : 9 ≤ C.lv) : Cmp C .Eq (.list a) (.list b) (decide (a = b)) := by
  rintro s led v w Q N ha hb hq
  obtain ⟨la, va, na, rfl, h1, i1, _⟩ := ha.isList N
  obtain ⟨lb, vb, nb, rfl, h2, i2, _⟩ := hb.isList N
  exact eq_intsK h1 i1 h2 i2 (by have := C.roomU; rw [C.units]; simp only [cLine]; omega) hq
theorem cmp_lne {a b : List Int} (hlv : 9 ≤ C.lv) : Cmp C .NotEq (.list a) (.list b) (decide (a ≠ b)) := by
  rintro s led v w Q N ha hb hq
  obtain ⟨la, va, na, rfl, h1, i1, _⟩ := ha.isList N
  obtain ⟨lb, vb, nb, rfl, h2, i2, _⟩ := hb.isList N
  exact ne_intsK h1 i1 h2 i2 (by have := C.roomU; rw [C.units]; simp only [cLine]; omega) (by rw [show (!decide (a = b)) = decide (a ≠ b) from by by_cases h : a = b <;> simp [h]]; exact hq)
theorem ev_cmp {op : CmpOp} {a b : AV} {c : Bool} (hl : Ev C ρ l a) (hr : Ev C ρ r b) (h : Cmp C op a b c) : Ev C ρ (.Compare l [op] [r] pos) (.bool c) :=
  ⟨plain_cmp, fun s m led F N V => wpAny_Compare1 (hl.use F N V fun _ _ _ _ F1 N1 i1 V1 q1 => hr.use F1 N1 V1 fun _ h2 t2 led2 F2 N2 i2 _ q2 =>
    h _ led2 _ _ _ N2 (q1.mono i2) q2 ⟨led2, nxt F2 N2 fun p hp => i2 p (i1 p hp), rfl⟩) (hr.1.marks op)⟩
theorem tr_cmp {op : CmpOp} {a b : AV} {c : Bool} (hl : Ev C ρ l a) (hr : Ev C ρ r b) (h : Cmp C op a b c) : Tr C ρ (.Compare l [op] [r] pos) c :=
  fun s m led F N V => wpAny_isTrue_Compare1 (hl.use F N V fun _ _ _ _ F1 N1 i1 V1 q1 => hr.use F1 N1 V1 fun _ h2 t2 led2 F2 N2 i2 _ q2 =>
    h _ led2 _ _ _ N2 (q1.mono i2) q2 (wpAny_truthy_bool ⟨rfl, led2, nxt F2 N2 fun p hp => i2 p (i1 p hp)⟩)) (hr.1.marks op)
theorem tr_not {b : Bool} (he : Tr C ρ e b) : Tr C ρ (.UnaryOp .Not e pos) (!b) :=
  fun s m led F N V => isTrue_not (he.use F N V fun h' tk led' F' N' i' V' => ⟨rfl, led', nxt F' N' i'⟩)
theorem tr_and0 : Tr C ρ (.BoolOp .And [] pos) true := fun s m led F N V => isTrue_and_nil ⟨rfl, led, s.heap, s.toks, rfl, F, N, fun _ h => h⟩
theorem tr_or0 : Tr C ρ (.BoolOp .Or [] pos) false := fun s m led F N V => isTrue_or_nil ⟨rfl, led, s.heap, s.toks, rfl, F, N, fun _ h => h⟩
theorem tr_and {b c : Bool} {es : List Expr} (he : Tr C ρ e b) (hr : b = true → Tr C ρ (.BoolOp .And es pos) c) : Tr C ρ (.BoolOp .And (e :: es) pos) (b && c) :=
  fun s m led F N V => isTrue_and (he.use F N V fun h' tk led' F' N' i' V' => by
    cases b with
    | false => exact ⟨rfl, led', nxt F' N' i'⟩
    | true => exact (hr rfl).use F' N' V' fun h2 t2 led2 F2 N2 i2 _ => ⟨rfl, led2, nxt F2 N2 fun p hp => i2 p (i' p hp)⟩)
theorem tr_or {b c : Bool} {es : List Expr} (he : Tr C ρ e b) (hr : b = false → Tr C ρ (.BoolOp .Or es pos) c) : Tr C ρ (.BoolOp .Or (e :: es) pos) (b || c) :=
  fun s m led F N V => isTrue_or (he.use F N V fun h' tk led' F' N' i' V' => by
    cases b with
    | true => exact ⟨rfl, led', nxt F' N' i'⟩
    | false => exact (hr rfl).use F' N' V' fun h2 t2 led2 F2 N2 i2 _ => ⟨rfl, led2, nxt F2 N2 fun p hp => i2 p (i' p hp)⟩)
/-- a test that is a plain value -/
theorem tr_val {b : Bool} (he : Ev C ρ e (.bool b)) (ht : isTrue e C.env (eval e C.env) = (do let v ← eval e C.env; standAt e.pos; holding [v] (truthy v))) : Tr C ρ e b :=
  fun s m led F N V => isTrue_plain (he.use F N V fun v h' tk led' F' N' i' V' q => by
    have q' : v = .bool b := q
    subst q'
    exact wpAny_truthy_bool ⟨rfl, led', nxt F' N' i'⟩) ht
theorem ev_ite {t x y : Expr} {b : Bool} {a1 a2 : AV} (ht : Tr C ρ t b) (h1 : b = true → Ev C ρ x a1) (h2 : b = false → Ev C ρ y a2) : Ev C ρ (.IfExp t x y pos) (if b = true then a1 else a2) :=
  ⟨plain_ite, fun s m led F N V => IfExp_ (ht.use F N V fun h' tk led' F' N' i' V' => by
    cases b with
    | true => exact (h1 rfl).use F' N' V' fun v h2 t2 led2 F2 N2 i2 _ q => ⟨led2, nxt F2 N2 fun p hp => i2 p (i' p hp), q⟩
    | false => exact (h2 rfl).use F' N' V' fun v h2 t2 led2 F2 N2 i2 _ q => ⟨led2, nxt F2 N2 fun p hp => i2 p (i' p hp), q⟩)⟩
theorem ev_andB {b c : Bool} {e2 : Expr} (he : Ev C ρ e (.bool b)) (hr : b = true → Ev C ρ e2 (.bool c)) : Ev C ρ (.BoolOp .And [e, e2] pos) (.bool (b && c)) :=
  ⟨plain_bool, fun s m led F N V => BoolOp_and (he.use F N V fun v h' tk led' F' N' i' V' q => by
    have q' : v = .bool b := q
    subst q'
    refine wpAny_truthy_bool ?_
    cases b with
    | false => exact ⟨led', nxt F' N' i', rfl⟩
    | true => exact BoolOp_one ((hr rfl).use F' N' V' fun v h2 t2 led2 F2 N2 i2 _ q => ⟨led2, nxt F2 N2 fun p hp => i2 p (i' p hp), q⟩))⟩
theorem ev_orB {b c : Bool} {e2 : Expr} (he : Ev C ρ e (.bool b)) (hr : b = false → Ev C ρ e2 (.bool c)) : Ev C ρ (.BoolOp .Or [e, e2] pos) (.bool (b || c)) :=
  ⟨plain_bool, fun s m led F N V => BoolOp_or (he.use F N V fun v h' tk led' F' N' i' V' q => by
    have q' : v = .bool b := q
    subst q'
    refine wpAny_truthy_bool ?_
    cases b with
    | true => exact ⟨led', nxt F' N' i', rfl⟩
    | false => exact BoolOp_one ((hr rfl).use F' N' V' fun v h2 t2 led2 F2 N2 i2 _ q => ⟨led2, nxt F2 N2 fun p hp => i2 p (i' p hp), q⟩))⟩
/-! arguments -/
def EvA (C : Cx) (ρ : List (Str × AV)) : List Expr → List AV → Prop
  | [], [] => True
  | e :: es, a :: as => Ev C ρ e a ∧ EvA C ρ es as
  | _, _ => False
theorem eva0 : EvA C ρ [] [] := trivial
theorem eva {a : AV} {es : List Expr} {as : List AV} (h : Ev C ρ e a) (t : EvA C ρ es as) : EvA C ρ (e :: es) (a :: as) := ⟨h, t⟩
def VRs (led : Led) : List AV → List Value → Prop
  | [], [] => True
  | a :: as, v :: vs => VR led a v ∧ VRs led as vs
  | _, _ => False
theorem VRs.inv {led : Led} {a : AV} {as : List AV} {vs : List Value} (h : VRs led (a :: as) vs) : ∃ v r, vs = v :: r ∧ VR led a v ∧ VRs led as r := by
  cases vs with
  | nil => exact h.elim
  | cons v r => exact ⟨v, r, rfl, h⟩
theorem VRs.fin {led : Led} {vs : List Value} (h : VRs led [] vs) : vs = [] := by
  cases vs with
  | nil => rfl
  | cons v r => exact h.elim
theorem VRs.i1 {led : Led} {a : AV} {vs : List Value} (h : VRs led [a] vs) : ∃ v, vs = [v] ∧ VR led a v := by
  obtain ⟨v, r, rfl, h1, h2⟩ := h.inv
  exact ⟨v, by rw [h2.fin], h1⟩
theorem VRs.i2 {led : Led} {a b : AV} {vs : List Value} (h : VRs led [a, b] vs) : ∃ v w, vs = [v, w] ∧ VR led a v ∧ VR led b w := by
  obtain ⟨v, r, rfl, h1, h2⟩ := h.inv
  obtain ⟨w, rfl, h3⟩ := h2.i1
  exact ⟨v, w, rfl, h1, h3⟩
theorem EvA.inv {es : List Expr} {as : List AV} (h : EvA C ρ (e :: es) as) : ∃ a r, as = a :: r ∧ Ev C ρ e a ∧ EvA C ρ es r := by
  cases as with
  | nil => exact h.elim
  | cons a r => exact ⟨a, r, rfl, h⟩
theorem EvA.fin {as : List AV} (h : EvA C ρ [] as) : as = [] := by
  cases as with
  | nil => rfl
  | cons a r => exact h.elim
theorem EvA.any {es : List Expr} : ∀ {as : List AV}, EvA C ρ es as → (backTo pos (starEach es C.env)).any (·.1) = false := by
  induction es with
  | nil => intro _ _; rfl
  | cons e es ih =>
    intro as h
    obtain ⟨a, r, rfl, h, t⟩ := h.inv
    rw [h.1.star]
    show (false || (backTo pos (starEach es C.env)).any (·.1)) = false
    rw [ih t]; rfl
theorem EvA.use {es : List Expr} : ∀ {as : List AV}, EvA C ρ es as → ∀ {s : Shared} {m : Str → Option Value} {led : Led} {Q : List Value → Shared → Prop}, Fr C.g C.L s.heap m → News C.g C.L s.heap led → Envs C ρ m led →
    (∀ vs h' tk led', Fr C.g C.L h' m → News C.g C.L h' led' → (∀ p ∈ led, p ∈ led') → VRs led' as vs → Q vs { s with heap := h', toks := tk }) →
    wpAny (model PR C.wd) C.A (spliced (backTo pos (starEach es C.env))) Q (fun _ _ => False) s := by
  induction es with
  | nil =>
    intro as h s m led Q F N V k
    exact args_nil (k [] s.heap s.toks led F N (fun _ h => h) (h.fin ▸ trivial))
  | cons e es ih =>
    intro as h s m led Q F N V k
    obtain ⟨a, r, rfl, h, t⟩ := h.inv
    refine args_cons (h.use F N V fun v h1 t1 led1 F1 N1 i1 V1 q1 => ?_) (h.1.star es)
    exact ih t F1 N1 V1 fun vs h2 t2 led2 F2 N2 i2 q2 => k (v :: vs) h2 t2 led2 F2 N2 (fun p hp => i2 p (i1 p hp)) ⟨q1.mono i2, q2⟩
/-- a built-in's name -/
def isBuiltin (wd : World) (x : Str) (v : Value) : Prop := nsIn (hd.heap_39 wd.params) mainGlobals x = some none ∧ bootBuiltins x = some v ∧ x ≠ "__name__" ∧ (x == ("__debug__" : Str)) = false
theorem name_bi {x : Str} {v : Value} (hb : isBuiltin C.wd x v) {s : Shared} {m : Str → Option Value} {Q : Value → Shared → Prop} (F : Fr C.g C.L s.heap m) (hx : C.env.kindOf x = some .globalImplicit) (h : Q v s) :
    wpAny (model PR C.wd) C.A (eval (.Name x pos) C.env) Q (fun _ _ => False) s := nameX_B F C.X (topRead_of C.T) hb.1 hb.2.1 hb.2.2.1 h C.hk hx hb.2.2.2
/-- a call of a built-in function -/
theorem ev_callB {x : Str} {id : String} {es : List Expr} {as : List AV} {a : AV} {p1 : Pos} (hb : isBuiltin C.wd x (.builtin id)) (hx : C.env.kindOf x = some .globalImplicit) (he : EvA C ρ (e :: es) as)
    (hc : ∀ (s : Shared) m led vs, Fr C.g C.L s.heap m → News C.g C.L s.heap led → VRs led as vs → wpAny (model PR C.wd) C.A (call (.builtin id) vs) (fun v s' => ∃ led', Nxt C m led s s' led' ∧ VR led' a v) (fun _ _ => False) s) :
    Ev C ρ (.Call (.Name x p1) (e :: es) [] pos) a := by
  refine ⟨plain_call, fun s m led F N V => Call_ (name_bi hb F hx (callWith_builtin1 (he.use F N V fun vs h' tk led' F' N' i' q => ?_) ?_ ?_))⟩
  · refine wpAny_mono (hc _ m led' vs F' N' q) (fun v s' z => ?_) fun _ _ x => x
    obtain ⟨led2, ⟨h2, t2, rfl, F2, N2, i2⟩, hv⟩ := z
    exact ⟨led2, nxt F2 N2 fun p hp => i2 p (i' p hp), hv⟩
  · exact he.inv.choose_spec.choose_spec.2.1.1.star es
  · exact he.inv.choose_spec.choose_spec.2.2.any
end
section
variable {C : Cx} {ρ : List (Str × AV)} {e l r : Expr} {pos p1 p2 p3 : Pos}
theorem ev_len {ns : List Int} (hb : isBuiltin C.wd "len" (.builtin "len")) (he : Ev C ρ e (.list ns)) (hx : C.env.kindOf "len" = some .globalImplicit) (hn : ns.length < 2 ^ 20) : Ev C ρ (.Call (.Name "len" p1) [e] [] pos) (.int (ns.length : Int)) :=
  ev_callB hb hx (as := [.list ns]) ⟨he, trivial⟩ fun s m led vs F N q => by
    obtain ⟨v, rfl, hv⟩ := q.i1
    obtain ⟨la, va, na, rfl, h1, i1, _⟩ := Has.isList hv N
    exact len_ints_fit h1 i1 (by omega) ⟨led, nxt F N fun _ h => h, _, rfl⟩
theorem ev_max {a b : Int} (hb : isBuiltin C.wd "max" (.builtin "max")) (hl : Ev C ρ l (.int a)) (hr : Ev C ρ r (.int b)) (hx : C.env.kindOf "max" = some .globalImplicit) : Ev C ρ (.Call (.Name "max" p1) [l, r] [] pos) (.int (if b > a then b else a)) :=
  ev_callB hb hx (as := [.int a, .int b]) ⟨hl, hr, trivial⟩ fun s m led vs F N q => by
    obtain ⟨v, w, rfl, ⟨t, rfl⟩, u, rfl⟩ := q.i2
    exact max_two_N rfl F N fun h' tk F' N' => ⟨led, nxt F' N' fun _ h => h, _, rfl⟩
theorem ev_bitlen {a : Int} {pl : Sem Bool} (he : Ev C ρ e (.int a))
    (hc : eval (.Call (.Attribute e "bit_length" p1) [] [] pos) C.env = (do
      let ov ← eval e C.env
      standAt p1.atName
      let (f, first) ← holding [ov] (getMethod ov "bit_length" pl)
      callWith pos f first (backTo pos (starEach [] C.env)) [])) : Ev C ρ (.Call (.Attribute e "bit_length" p1) [] [] pos) (.int (Builtin.Int.intBits a)) :=
  ⟨plain_call, fun s m led F N V => MethodCall_ (pl := pl) (he.use F N V fun v h' tk led' F' N' i' V' q => by
    obtain ⟨u, rfl⟩ := q
    exact getMethod_int_bit_length (callWith_method0 (call_int_bit_length ⟨led', nxt F' N' i', _, rfl⟩))) hc⟩
/-! lists -/
theorem ev_idx {x : Str} {ns : List Int} {k : Int} (hx : Ev C ρ (.Name x p1) (.list ns)) (he : Ev C ρ e (.int k)) (h0 : 0 ≤ k) (h1 : k < ns.length) (hn : ns.length < 2 ^ 20) : Ev C ρ (.Subscript (.Name x p1) e pos) (.int (ns.getD k.toNat 0)) :=
  ⟨plain_sub, fun s m led F N V => Subscript_ (hx.use F N V fun v h' tk led' F' N' i' V' q => he.use F' N' V' fun w h2 t2 led2 F2 N2 i2 V2 q2 => by
    obtain ⟨u, rfl⟩ := q2
    obtain ⟨la, va, na, rfl, g1, i1, _⟩ := Has.isList (VR.mono i2 q) N2
    exact item_list_ints g1 i1 h0 h1 (by omega) (fun t => ⟨led2, nxt F2 N2 fun p hp => i2 p (i' p hp), _, rfl⟩) (he.1.sub _ _ _))⟩
theorem ev_last {x : Str} {ns : List Int} {k : Int} (hx : Ev C ρ (.Name x p1) (.list ns)) (he : Ev C ρ e (.int k)) (h0 : k < 0) (h1 : -(ns.length : Int) ≤ k) (hn : ns.length < 2 ^ 20) : Ev C ρ (.Subscript (.Name x p1) e pos) (.int (ns.getD (k + ns.length).toNat 0)) :=
  ⟨plain_sub, fun s m led F N V => Subscript_ (hx.use F N V fun v h' tk led' F' N' i' V' q => he.use F' N' V' fun w h2 t2 led2 F2 N2 i2 V2 q2 => by
    obtain ⟨u, rfl⟩ := q2
    obtain ⟨la, va, na, rfl, g1, i1, _⟩ := Has.isList (VR.mono i2 q) N2
    exact item_list_ints_neg g1 i1 h0 h1 (by omega) (fun t => ⟨led2, nxt F2 N2 fun p hp => i2 p (i' p hp), _, rfl⟩) (he.1.sub _ _ _))⟩
/-- a bound of a slice -/
def EvP (C : Cx) (ρ : List (Str × AV)) : Option Expr → Option Int → Prop
  | none, none => True
  | some e, some k => Ev C ρ e (.int k)
  | _, _ => False
theorem EvP.use {eo : Option Expr} {ko : Option Int} (h : EvP C ρ eo ko) {s : Shared} {m : Str → Option Value} {led : Led} {Q : Value → Shared → Prop} (F : Fr C.g C.L s.heap m) (N : News C.g C.L s.heap led) (V : Envs C ρ m led)
    (k : ∀ v h' tk led', Fr C.g C.L h' m → News C.g C.L h' led' → (∀ p ∈ led, p ∈ led') → Envs C ρ m led' → IsPart v ko → Q v { s with heap := h', toks := tk }) :
    wpAny (model PR C.wd) C.A (evalPart eo C.env) Q (fun _ _ => False) s := by
  cases eo with
  | none =>
    cases ko with
    | none => exact evalPart_none_step (k _ s.heap s.toks led F N (fun _ h => h) V .none)
    | some _ => exact h.elim
  | some e =>
    cases ko with
    | none => exact h.elim
    | some _ =>
      refine evalPart_some_step (Ev.use h F N V fun v h' tk led' F' N' i' V' q => ?_)
      obtain ⟨u, rfl⟩ := q
      exact k _ h' tk led' F' N' i' V' (.int _ _)
theorem news_push {g h : Heap} {L : Addr} {m : Str → Option Value} {led : Led} (F : Fr g L h m) (N : News g L h led) (o : Obj) : Fr g L (h.push o) m ∧ News g L (h.push o) led :=
  ⟨F.push o, fun p hp => ⟨Heap.get?_push_of_some _ (N p hp).1, (N p hp).2⟩⟩
theorem ev_slice {x : Str} {ns ms : List Int} {eo eu : Option Expr} {lo hi : Option Int} (hx : Ev C ρ (.Name x p1) (.list ns)) (hl : EvP C ρ eo lo) (hu : EvP C ρ eu hi) (hn : ns.length < 2 ^ 20)
    (hm : ∀ vs, IntsAre vs ns → IntsAre (slicePick vs.toArray lo hi none).toList ms)
    (hs : ∀ l k, subscripted (.Slice eo eu none p2) false (.ref l) (.ref k) = operate [.ref k, .ref l] (getItem (.ref l) (.ref k))) : Ev C ρ (.Subscript (.Name x p1) (.Slice eo eu none p2) pos) (.list ms) :=
  ⟨plain_sub, fun s m led F N V => Subscript_ (hx.use F N V fun v h' tk led' F' N' i' V' q => wpAny_Slice (hl.use F' N' V' fun vl h2 t2 led2 F2 N2 i2 V2 q2 => hu.use F2 N2 V2 fun vu h3 t3 led3 F3 N3 i3 V3 q3 => evalPart_none_step (by
    obtain ⟨la, va, na, rfl, g1, i1, hmem⟩ := Has.isList (VR.mono i3 (VR.mono i2 q)) N3
    refine kmk_slice_ints (s := { s with heap := h3, toks := t3 }) F3 N3 g1 q2 q3 i1 (hm _ i1) rfl (fun D ws h4 F4 N4 l4 j4 _ _ => ?_) (hs _ _) (fun _ => rfl) (by rw [List.size_toArray, i1.length, sizeLine_eq]; omega)
    exact ⟨_, nxt F4 N4 fun p hp => .tail _ (i3 p (i2 p (i' p hp))), D, ws, 0, rfl, .head _, j4⟩)))⟩
theorem ev_rev {x : Str} {ns : List Int} {n : Nat} {p4 : Pos} (hx : Ev C ρ (.Name x p1) (.list ns)) (hn : ns.length < 2 ^ 20) :
    Ev C ρ (.Subscript (.Name x p1) (.Slice none none (some (.UnaryOp .USub (.Constant (.int 1) n p3) p2)) p4) pos) (.list ns.reverse) :=
  ⟨plain_sub, fun s m led F N V => Subscript_ (hx.use F N V fun v h' tk led' F' N' i' V' q => wpAny_Slice (evalPart_none_step (evalPart_none_step (evalPart_some_step ((ev_neg ev_int).use F' N' V' fun vk h3 t3 led3 F3 N3 i3 V3 q3 => by
    obtain ⟨la, va, na, rfl, g1, i1, hmem⟩ := Has.isList (VR.mono i3 q) N3
    obtain ⟨u, rfl⟩ := q3
    refine krv_ints (s := { s with heap := h3, toks := t3 }) F3 N3 g1 (.int _ _) i1 (fun D ws h4 F4 N4 l4 j4 _ => ?_) rfl (fun _ => rfl) (by rw [List.size_toArray, i1.length, sizeLine_eq]; omega)
    exact ⟨_, nxt F4 N4 fun p hp => .tail _ (i3 p (i' p hp)), D, ws, 0, rfl, .head _, j4⟩)))))⟩
theorem ev_nil : Ev C ρ (.List [] pos) (.list []) :=
  ⟨plain_list, fun s m led F N V => List_ (args_nil (newList_K F N (fun l h' F' N' hl => ⟨_, nxt (tk := s.toks) F' N' fun p hp => .tail _ hp, l, [], 0, rfl, .head _, .nil⟩) (by simp [sizeLine])))⟩
theorem ev_one {a : Int} (he : Ev C ρ e (.int a)) : Ev C ρ (.List [e] pos) (.list [a]) :=
  ⟨plain_list, fun s m led F N V => List_ (EvA.use (show EvA C ρ [e] [.int a] from ⟨he, trivial⟩) F N V fun vs h' tk led' F' N' i' q => by
    obtain ⟨v, rfl, t, rfl⟩ := q.i1
    exact newList_K F' N' (fun l h2 F2 N2 hl => ⟨_, nxt F2 N2 fun p hp => .tail _ (i' p hp), l, _, 0, rfl, .head _, .cons _ _ .nil⟩) (by simp [sizeLine]))⟩
theorem ev_cat {a b : List Int} (hl : Ev C ρ l (.list a)) (hr : Ev C ρ r (.list b)) (ha : a.length + b.length < 2 ^ 20) : Ev C ρ (.BinOp l .Add r pos) (.list (a ++ b)) := by
  refine ⟨plain_bin, fun s m led F N V => wpAny_BinOp (hl.use F N V fun v1 h1 t1 led1 F1 N1 i1 V1 q1 => hr.use F1 N1 V1 fun v2 h2 t2 led2 F2 N2 i2 V2 q2 => ?_)⟩
  obtain ⟨la, va, na, rfl, g1, j1, _⟩ := Has.isList (VR.mono i2 q1) N2
  obtain ⟨lb, vb, nb, rfl, g2, j2, _⟩ := Has.isList q2 N2
  exact add_arrays_ints F2 N2 g1 g2 j1 j2 (fun h' F' N' hi => ⟨_, nxt (tk := t2) F' N' fun p hp => .tail _ (i2 p (i1 p hp)), _, _, _, rfl, .head _, hi⟩) (by rw [sizeLine_eq]; omega)
theorem flat_rep (k : Nat) (z : Int) : (List.replicate k [z]).flatten = List.replicate k z := by
  induction k with
  | zero => rfl
  | succ n ih => rw [List.replicate_succ, List.flatten_cons, ih, List.replicate_succ]; rfl
theorem ev_rep {a k : Int} (hl : Ev C ρ l (.list [a])) (hr : Ev C ρ r (.int k)) (hk : k < 2 ^ 20) (hk0 : -(2 ^ 20) < k) : Ev C ρ (.BinOp l .Mult r pos) (.list (List.replicate k.toNat a)) := by
  refine ⟨plain_bin, fun s m led F N V => wpAny_BinOp (hl.use F N V fun v1 h1 t1 led1 F1 N1 i1 V1 q1 => hr.use F1 N1 V1 fun v2 h2 t2 led2 F2 N2 i2 V2 q2 => ?_)⟩
  obtain ⟨la, va, na, rfl, g1, j1, _⟩ := Has.isList (VR.mono i2 q1) N2
  obtain ⟨u, rfl⟩ := q2
  refine KM.mul F2 N2 g1 j1 (by omega) (by omega) (by rw [j1.length]; simp only [List.length_cons, List.length_nil]; omega) (fun D h' F' N' hD hi _ _ _ _ _ => ?_)
  rw [flat_rep] at hi
  exact ⟨_, nxt (tk := t2) F' N' fun p hp => .tail _ (i2 p (i1 p hp)), _, _, _, rfl, .head _, hi⟩
theorem ev_pair {a b : AV} (hl : Ev C ρ l a) (hr : Ev C ρ r b) {k : Nat} : Ev C ρ (.Tuple [l, r] k pos) (.pair a b) :=
  ⟨plain_tup, fun s m led F N V => Tuple_ (EvA.use (show EvA C ρ [l, r] [a, b] from ⟨hl, hr, trivial⟩) F N V fun vs h' tk led' F' N' i' q => by
    obtain ⟨v, w, rfl, hv, hw⟩ := q.i2
    exact newTuple_N F' N' (fun h2 F2 N2 => ⟨_, nxt F2 N2 fun p hp => .tail _ (i' p hp), _, v, w, 0, rfl, .head _, hv.mono fun _ h => .tail _ h, hw.mono fun _ h => .tail _ h⟩) (by simp [sizeLine]))⟩
end
section
variable {C : Cx}
abbrev Own := Option (Str × Addr)
def AV.scalar : AV → Bool
  | .undef | .int _ | .bool _ | .raw _ => true
  | _ => false
theorem VR.any {led led' : Led} {a : AV} {v : Value} (h : VR led a v) (ha : a.scalar = true) : VR led' a v := by
  cases a <;> first | exact h | cases ha
/-- the list that the frame alone holds, and all else -/
def Part (C : Cx) (ρ : List (Str × AV)) (own : Own) (m : Str → Option Value) (oe led : Led) : Prop :=
  match own with
  | none => oe = [] ∧ Envs C ρ m led
  | some q => ∃ vs n ns, oe = [(q.2, W.listOf vs.toArray n)] ∧ (q.1, AV.list ns) ∈ ρ ∧ C.env.kindOf q.1 = some .local ∧ m q.1 = some (.ref q.2) ∧ IntsAre vs ns ∧ (∀ p ∈ led, p.1 ≠ q.2) ∧ ∀ y a, (y, a) ∈ ρ → y ≠ q.1 → a = .undef ∨ Knows C m led y a
theorem nodup_fst {ρ : List (Str × AV)} : (ρ.map (·.1)).Nodup → ∀ {x : Str} {a b : AV}, (x, a) ∈ ρ → (x, b) ∈ ρ → a = b := by
  induction ρ with
  | nil => intro _ x a b h; exact nomatch h
  | cons p r ih =>
    intro hn x a b h1 h2
    rw [List.map_cons, List.nodup_cons] at hn
    rcases List.mem_cons.mp h1 with e1 | h1 <;> rcases List.mem_cons.mp h2 with e2 | h2
    · rw [← e1] at e2; exact (Prod.mk.inj e2).2.symm
    · exact absurd (List.mem_map_of_mem (f := (·.1)) h2) (by rw [← e1] at hn; exact hn.1)
    · exact absurd (List.mem_map_of_mem (f := (·.1)) h1) (by rw [← e2] at hn; exact hn.1)
    · exact ih hn.2 h1 h2
theorem Part.full {ρ : List (Str × AV)} {own : Own} {m : Str → Option Value} {oe led : Led} (hn : (ρ.map (·.1)).Nodup) (h : Part C ρ own m oe led) : Envs C ρ m (oe ++ led) := by
  cases own with
  | none => obtain ⟨rfl, V⟩ := h; exact V
  | some xl =>
    obtain ⟨vs, n, ns, rfl, hm, hk, hx, hi, _, ho⟩ := h
    intro y a hy
    by_cases q : y = xl.1
    · subst q
      have e := nodup_fst hn hy hm
      subst e
      exact .inr ⟨.ref xl.2, ⟨xl.2, vs, n, rfl, .head _, hi⟩, .inl ⟨hk, hx⟩⟩
    · exact (ho y a hy q).imp id fun k => k.mono fun p hp => .tail _ hp
def SRel (C : Cx) (N0 : Led) (ρ : List (Str × AV)) (own : Own) (h : Heap) (m : Str → Option Value) (led : Led) : Prop :=
  (∀ p ∈ N0, p ∈ led) ∧ (ρ.map (·.1)).Nodup ∧ Fr C.g C.L h m ∧ ∃ oe, News C.g C.L h (oe ++ led) ∧ Part C ρ own m oe led
variable {N0 : Led} {ρ ρ' : List (Str × AV)} {own own' : Own} {e : Expr} {m : Str → Option Value} {led : Led} {s : Shared}
theorem SRel.evF {a : AV} {Q : Value → Shared → Prop} (S : SRel C N0 ρ own s.heap m led) (he : Ev C ρ e a)
    (k : ∀ v h' tk led', Fr C.g C.L h' m → News C.g C.L h' led' → (∀ p ∈ N0, p ∈ led') → VR led' a v → Q v { s with heap := h', toks := tk }) : wpAny (model PR C.wd) C.A (eval e C.env) Q (fun _ _ => False) s := by
  obtain ⟨h0, hn, F, oe, N, P⟩ := S
  exact he.use F N (P.full hn) fun v h' tk led' F' N' i' _ q => k v h' tk led' F' N' (fun p hp => i' p (List.mem_append_right _ (h0 p hp))) q
theorem SRel.go {h' : Heap} {led' : Led} (S : SRel C N0 ρ own s.heap m led) (hn : own = none → ∀ p ∈ led, p ∈ led') (F' : Fr C.g C.L h' m) (N' : ∀ oe, Part C ρ own m oe led → News C.g C.L h' (oe ++ led')) (ho : own ≠ none → led' = led) : SRel C N0 ρ own h' m led' := by
  obtain ⟨h0, h1, F, oe, N, P⟩ := S
  cases own with
  | none =>
    have hs := hn rfl
    have N2 := N' oe P
    obtain ⟨e, V⟩ := P
    subst e
    exact ⟨fun p hp => hs p (h0 p hp), h1, F', [], N2, rfl, V.mono hs⟩
  | some x =>
    have e := ho (by simp)
    subst e
    exact ⟨h0, h1, F', oe, N' oe P, P⟩
theorem SRel.ev {a : AV} {Q : Value → Shared → Prop} (S : SRel C N0 ρ own s.heap m led) (he : Ev C ρ e a) (hk : own = none ∨ a.scalar = true)
    (k : ∀ v h' tk led', SRel C N0 ρ own h' m led' → VR led' a v → Q v { s with heap := h', toks := tk }) : wpAny (model PR C.wd) C.A (eval e C.env) Q (fun _ _ => False) s := by
  have S' := S
  obtain ⟨h0, hn, F, oe, N, P⟩ := S
  refine he.use F N (P.full hn) fun v h' tk led' F' N' i' _ q => ?_
  cases own with
  | none =>
    obtain ⟨e, V⟩ := P
    subst e
    exact k v h' tk led' ⟨fun p hp => i' p (h0 p hp), hn, F', [], N', rfl, V.mono i'⟩ q
  | some x => exact k v h' tk led ⟨h0, hn, F', oe, led_sub N' i', P⟩ (q.any (hk.resolve_left (by simp)))
theorem SRel.tr {b : Bool} {Q : Bool → Shared → Prop} (S : SRel C N0 ρ own s.heap m led) (he : Tr C ρ e b)
    (k : ∀ h' tk led', SRel C N0 ρ own h' m led' → Q b { s with heap := h', toks := tk }) : wpAny (model PR C.wd) C.A (isTrue e C.env (eval e C.env)) Q (fun _ _ => False) s := by
  obtain ⟨h0, hn, F, oe, N, P⟩ := S
  refine he.use F N (P.full hn) fun h' tk led' F' N' i' _ => ?_
  cases own with
  | none =>
    obtain ⟨e, V⟩ := P
    subst e
    exact k h' tk led' ⟨fun p hp => i' p (h0 p hp), hn, F', [], N', rfl, V.mono i'⟩
  | some x => exact k h' tk led ⟨h0, hn, F', oe, led_sub N' i', P⟩
/-- a name's value turned -/
inductive Put : List (Str × AV) → Str → AV → List (Str × AV) → Prop
  | here {x a b r} : Put ((x, b) :: r) x a ((x, a) :: r)
  | there {p x a r r'} : Put r x a r' → Put (p :: r) x a (p :: r')
theorem Put.names {x : Str} {a : AV} (h : Put ρ x a ρ') : ρ'.map (·.1) = ρ.map (·.1) ∧ x ∈ ρ.map (·.1) ∧ (x, a) ∈ ρ' := by
  induction h with
  | here => exact ⟨rfl, .head _, .head _⟩
  | there _ ih => exact ⟨by rw [List.map_cons, List.map_cons, ih.1], .tail _ ih.2.1, .tail _ ih.2.2⟩
theorem Put.mem {x : Str} {a : AV} (h : Put ρ x a ρ') : (ρ.map (·.1)).Nodup → ∀ y b, (y, b) ∈ ρ' → (y = x ∧ b = a) ∨ (y ≠ x ∧ (y, b) ∈ ρ) := by
  induction h with
  | here =>
    intro hn y b hm
    rw [List.map_cons, List.nodup_cons] at hn
    rcases List.mem_cons.mp hm with e | hm
    · exact .inl ⟨(Prod.mk.inj e).1, (Prod.mk.inj e).2⟩
    · exact .inr ⟨fun q => hn.1 (by rw [← q]; exact List.mem_map_of_mem (f := (·.1)) hm), .tail _ hm⟩
  | there hp ih =>
    intro hn y b hm
    rw [List.map_cons, List.nodup_cons] at hn
    rcases List.mem_cons.mp hm with e | hm
    · subst e
      exact .inr ⟨fun q => hn.1 (by have := hp.names.2.1; rw [← q] at this; exact this), .head _⟩
    · exact (ih hn.2 y b hm).imp id fun q => ⟨q.1, .tail _ q.2⟩
theorem Put.back {x : Str} {a : AV} (h : Put ρ x a ρ') {y : Str} {b : AV} (hm : (y, b) ∈ ρ) (hy : y ≠ x) : (y, b) ∈ ρ' := by
  induction h with
  | here =>
    rcases List.mem_cons.mp hm with e | hm
    · exact absurd (Prod.mk.inj e).1 hy
    · exact .tail _ hm
  | there _ ih =>
    rcases List.mem_cons.mp hm with e | hm
    · subst e; exact .head _
    · exact .tail _ (ih hm hy)
def OwnNe (o : Own) (x : Str) : Prop := match o with
  | none => True
  | some q => q.1 ≠ x
theorem Knows.other {x y : Str} {v : Value} {a : AV} (h : Knows C m led y a) (hy : y ≠ x) : Knows C (fun z => if z = x then some v else m z) led y a := by
  obtain ⟨u, hu, ⟨k, e⟩ | q⟩ := h
  · exact ⟨u, hu, .inl ⟨k, (if_neg hy).trans e⟩⟩
  · exact ⟨u, hu, .inr q⟩
theorem Part.put {x : Str} {a : AV} {v : Value} {oe : Led} (hn : (ρ.map (·.1)).Nodup) (P : Part C ρ own m oe led) (hp : Put ρ x a ρ') (hx : C.env.kindOf x = some .local) (hv : VR led a v) (ho : OwnNe own x) :
    Part C ρ' own (fun z => if z = x then some v else m z) oe led := by
  cases own with
  | none =>
    obtain ⟨e, V⟩ := P
    refine ⟨e, fun y b hb => ?_⟩
    rcases hp.mem hn y b hb with ⟨rfl, rfl⟩ | ⟨hy, hb⟩
    · exact .inr ⟨v, hv, .inl ⟨hx, if_pos rfl⟩⟩
    · exact (V y b hb).imp id fun k => k.other hy
  | some wl =>
    obtain ⟨vs, n, ns, e, h1, h2, h3, h4, h5, h6⟩ := P
    refine ⟨vs, n, ns, e, hp.back h1 ho, h2, (if_neg ho).trans h3, h4, h5, fun y b hb hyw => ?_⟩
    rcases hp.mem hn y b hb with ⟨rfl, rfl⟩ | ⟨hy, hb⟩
    · exact .inr ⟨v, hv, .inl ⟨hx, if_pos rfl⟩⟩
    · exact (h6 y b hb hyw).imp id fun k => k.other hy
theorem SRel.store {x : Str} {a : AV} {v : Value} {Q : Unit → Shared → Prop} (S : SRel C N0 ρ own s.heap m led) (hp : Put ρ x a ρ') (hx : C.env.kindOf x = some .local) (hv : VR led a v) (ho : OwnNe own x)
    (k : ∀ h' m', SRel C N0 ρ' own h' m' led → Q () { s with heap := h', toks := s.toks + 1 }) : wpAny (model PR C.wd) C.A (storeName C.env x v) Q (fun _ _ => False) s := by
  obtain ⟨h0, hn, F, oe, N, P⟩ := S
  exact storeX_L F N (fun h' F' N' => k h' _ ⟨h0, by rw [hp.names.1]; exact hn, F', oe, N', P.put hn hp hx hv ho⟩) C.hk hx
/-! blocks -/
/-- the ground behind a return: turned only where a turn is allowed -/
def Turned (C : Cx) (g' : Heap) : Prop := (C.tn = false → g' = C.g) ∧ KtsTurn (C.outer.filterMap (·.frame)) C.g g'
theorem Turned.refl : Turned C C.g := ⟨fun _ => rfl, .refl⟩
def BlPost (C : Cx) (N0 : Led) (s : Shared) (K : List (Str × AV) → Own → Prop) (R : AV → Prop) (fl : Flow) (s' : Shared) : Prop :=
  match fl with
  | .next => ∃ ρ' own' h' tk m' led', s' = { s with heap := h', toks := tk } ∧ SRel C N0 ρ' own' h' m' led' ∧ K ρ' own'
  | .ret v => ∃ a g' h' tk m' led', s' = { s with heap := h', toks := tk } ∧ Turned C g' ∧ Fr g' C.L h' m' ∧ News g' C.L h' led' ∧ (∀ p ∈ N0, p ∈ led') ∧ VR led' a v ∧ R a
  | _ => False
/-- a block run from here ends so -/
def Bl (C : Cx) (N0 : Led) (ρ : List (Str × AV)) (own : Own) (b : List Stmt) (K : List (Str × AV) → Own → Prop) (R : AV → Prop) : Prop :=
  ∀ (s : Shared) m led, SRel C N0 ρ own s.heap m led → wpAny (model PR C.wd) C.A (execs b C.env) (BlPost C N0 s K R) (fun _ _ => False) s
variable {K : List (Str × AV) → Own → Prop} {R : AV → Prop} {rest : List Stmt} {pos p1 p2 p3 p4 : Pos}
theorem BlPost.re {h : Heap} {t : Nat} {fl : Flow} {s' : Shared} (q : BlPost C N0 { s with heap := h, toks := t } K R fl s') : BlPost C N0 s K R fl s' := by
  cases fl with
  | next => obtain ⟨a, b, c, d, e, g, rfl, r⟩ := q; exact ⟨a, b, c, d, e, g, rfl, r⟩
  | ret v => obtain ⟨a, b, c, d, e, g, rfl, r⟩ := q; exact ⟨a, b, c, d, e, g, rfl, r⟩
  | brk => exact q
  | cont => exact q
theorem BlPost.sub {N1 : Led} {v : Value} {s' : Shared} {K' : List (Str × AV) → Own → Prop} (q : BlPost C N1 s K' R (.ret v) s') (h : ∀ p ∈ N0, p ∈ N1) : BlPost C N0 s K R (.ret v) s' := by
  obtain ⟨a, g, h', tk, m', led', e, ht, F', N', i', hv, hr⟩ := q
  exact ⟨a, g, h', tk, m', led', e, ht, F', N', fun p hp => i' p (h p hp), hv, hr⟩
theorem Bl.use {b : List Stmt} {h : Heap} {t : Nat} (B : Bl C N0 ρ own b K R) (S : SRel C N0 ρ own h m led) : wpAny (model PR C.wd) C.A (execs b C.env) (BlPost C N0 s K R) (fun _ _ => False) { s with heap := h, toks := t } :=
  wpAny_mono (B { s with heap := h, toks := t } m led S) (fun _ _ q => q.re) fun _ _ x => x
theorem bl_nil (h : K ρ own) : Bl C N0 ρ own [] K R := fun s m led S => wpAny_execs_nil ⟨ρ, own, s.heap, s.toks, m, led, rfl, S, h⟩
theorem bl_ret {a : AV} (he : Ev C ρ e a) (h : R a) : Bl C N0 ρ own (.Return (some e) pos :: rest) K R :=
  fun s m led S => wpAny_execs_cons (wpAny_Return_some (S.evF he fun v h' tk led' F' N' i' q => ⟨a, C.g, h', tk, m, led', rfl, .refl, F', N', i', q, h⟩))
theorem bl_assign {x : Str} {a : AV} (he : Ev C ρ e a) (hk : own = none ∨ a.scalar = true) (hp : Put ρ x a ρ') (hx : C.env.kindOf x = some .local) (ho : OwnNe own x) (h : Bl C N0 ρ' own rest K R) : Bl C N0 ρ own (.Assign [.Name x p1] e pos :: rest) K R :=
  fun s m led S => wpAny_execs_cons (wpAny_Assign_Name (S.ev he hk fun v h' tk led' S' q => SRel.store (s := { s with heap := h', toks := tk }) S' hp hx q ho fun h2 m2 S2 => h.use S2) (he.1.swap _ _))
theorem bl_if {t : Expr} {b : Bool} {tb fb : List Stmt} (ht : Tr C ρ t b) (h1 : b = true → Bl C N0 ρ own tb (fun ρ' own' => Bl C N0 ρ' own' rest K R) R) (h2 : b = false → Bl C N0 ρ own fb (fun ρ' own' => Bl C N0 ρ' own' rest K R) R) :
    Bl C N0 ρ own (.If t tb fb pos :: rest) K R := by
  intro s m led S
  refine wpAny_execs_cons (wpAny_If (S.tr ht fun h' tk led' S' => ?_))
  have fin : ∀ fl s', BlPost C N0 s (fun ρ' own' => Bl C N0 ρ' own' rest K R) R fl s' → (match fl with | .next => wpAny (model PR C.wd) C.A (execs rest C.env) (BlPost C N0 s K R) (fun _ _ => False) s' | f => BlPost C N0 s K R f s') := by
    intro fl s' q
    cases fl with
    | next => obtain ⟨a, b, c, d, e, g, rfl, S2, B2⟩ := q; exact B2.use S2
    | ret v => exact q
    | brk => exact q
    | cont => exact q
  cases b with
  | true => exact wpAny_mono ((h1 rfl).use S') fin fun _ _ x => x
  | false => exact wpAny_mono ((h2 rfl).use S') fin fun _ _ x => x
theorem bl_aug {x : Str} {op : Operator} {a b c : Int} (hm : (x, AV.int a) ∈ ρ) (he : Ev C ρ e (.int b))
    (hop : ∀ t u (Q : Value → Shared → Prop) s, Q (.int c s.toks) { s with toks := s.toks + 1 } → wpAny (model PR C.wd) C.A (inplaceOp op (.int a t) (.int b u)) Q (fun _ _ => False) s)
    (hp : Put ρ x (.int c) ρ') (hx : C.env.kindOf x = some .local) (ho : OwnNe own x) (h : Bl C N0 ρ' own rest K R) : Bl C N0 ρ own (.AugAssign (.Name x p1) op e pos :: rest) K R := by
  intro s m led S
  refine wpAny_execs_cons (wpAny_AugAssign_Name ?_)
  obtain ⟨h0, hn, F, oe, N, P⟩ := id S
  rcases P.full hn x _ hm with q | ⟨v, ⟨t, rfl⟩, ⟨_, hv⟩ | ⟨hc, _⟩⟩
  · cases q
  · refine wpAny_loadName_local C.hk hx F.ns hv (S.ev he (.inr rfl) fun w h' tk led' S' q => ?_)
    obtain ⟨u, rfl⟩ := q
    exact hop _ _ _ _ (SRel.store (s := { s with heap := h', toks := tk + 1 }) S' hp hx ⟨tk, rfl⟩ ho fun h2 m2 S2 => h.use S2)
  · rw [hx] at hc; exact hc.elim (fun q => nomatch q) fun q => nomatch q.1
end
section
variable {C : Cx} {ρ : List (Str × AV)} {e : Expr} {pos p1 : Pos}
/-- the contract of a def, in data: called upon these it gives that -/
def FnG (nf : Led → Led) (wd : World) (f : Addr) (lv : Nat) (as : List AV) (P : AV → Prop) : Prop :=
  ∀ vals, Does wd f lv vals (fun news => VRs news as vals) (fun news r news' => (∀ p ∈ nf news, p ∈ news') ∧ ∃ a, VR news' a r ∧ P a)
abbrev Fn (wd : World) (f : Addr) (lv : Nat) (as : List AV) (P : AV → Prop) : Prop := FnG id wd f lv as P
def isDef (wd : World) (x : Str) (a : Addr) : Prop := nsIn (hd.heap_39 wd.params) mainGlobals x = some (some (.ref a)) ∧ keepIn (hd.heap_39 wd.params) (.ref a) = true ∧ (x == ("__debug__" : Str)) = false
/-- an expression gives something of this kind -/
def EvS (C : Cx) (ρ : List (Str × AV)) (e : Expr) (P : AV → Prop) : Prop :=
  Plain C.env e ∧ ∀ (s : Shared) m led, Fr C.g C.L s.heap m → News C.g C.L s.heap led → Envs C ρ m led →
    wpAny (model PR C.wd) C.A (eval e C.env) (fun v s' => ∃ led', Nxt C m led s s' led' ∧ ∃ a, VR led' a v ∧ P a) (fun _ _ => False) s
theorem evs_call {x : Str} {g : Addr} {lf : Nat} {es : List Expr} {as : List AV} {P : AV → Prop} (hdf : isDef C.wd x g) (hx : C.env.kindOf x = some .globalImplicit) (he : EvA C ρ (e :: es) as) (hf : Fn C.wd g lf as P) (hlv : lf + 1 ≤ C.lv) :
    EvS C ρ (.Call (.Name x p1) (e :: es) [] pos) P := by
  refine ⟨plain_call, fun s m led F N V => Call_ (nameX_K F C.X (topRead_of C.T) hdf.1 (callWith_K (K := hd.heap_39 C.wd.params) (C.X) hdf.2.1 (he.use F N V fun vs h' tk led' F' N' i' q => ⟨C.X.keeps F'.keep, ?_⟩) ?_ ?_) C.hk hx hdf.2.2)⟩
  · refine hf vs C.dp C.un C.gd C.qual C.scope C.f C.cdv C.cl C.outer _ C.base C.g C.L m led' { s with heap := h', toks := tk } C.p C.loose C.mean C.mg C.mb _ _ C.Bl F' C.X N' C.T C.hk (by have := C.hdp; omega) (by have := C.hun; omega) q ?_
    intro r news' h2 tk2 F2 N2 q
    exact ⟨news', nxt F2 N2 fun p hp => q.1 p (i' p hp), q.2⟩
  · exact he.inv.choose_spec.choose_spec.2.1.1.star es
  · exact he.inv.choose_spec.choose_spec.2.2.any
theorem ev_of {a : AV} (h : EvS C ρ e (fun b => b = a)) : Ev C ρ e a  := by
  refine ⟨h.1, fun s m led F N V => wpAny_mono (h.2 s m led F N V) (fun v s' q => ?_) fun _ _ x => x⟩
  obtain ⟨led', n, b, hv, rfl⟩ := q
  exact ⟨led', n, hv⟩
theorem ev_call {x : Str} {g : Addr} {lf : Nat} {es : List Expr} {as : List AV} {a : AV} (hf : Fn C.wd g lf as (fun b => b = a)) (hdf : isDef C.wd x g) (hx : C.env.kindOf x = some .globalImplicit) (he : EvA C ρ (e :: es) as) (hlv : lf + 1 ≤ C.lv) :
    Ev C ρ (.Call (.Name x p1) (e :: es) [] pos) a := ev_of (evs_call hdf hx he hf hlv)
/-! entering a def -/
theorem VRs.len {led : Led} : ∀ {as : List AV} {vals : List Value}, VRs led as vals → as.length = vals.length := by
  intro as
  induction as with
  | nil => intro vals h; rw [h.fin]; rfl
  | cons a as ih =>
    intro vals h
    obtain ⟨v, r, rfl, _, h2⟩ := h.inv
    rw [List.length_cons, List.length_cons, ih h2]
theorem vrs_lookup {led : Led} : ∀ {names : List Str} {as : List AV} {vals : List Value}, names.Nodup → VRs led as vals → names.length = vals.length → ∀ x a, (x, a) ∈ names.zip as → ∃ v, (names.zip vals).reverse.lookup x = some v ∧ VR led a v := by
  intro names
  induction names with
  | nil => intro as vals _ _ _ x a h; simp at h
  | cons n ns ih =>
    intro as vals hn h hl x b hm
    cases as with
    | nil => simp at hm
    | cons a as =>
      obtain ⟨v, vs, rfl, h1, h2⟩ := h.inv
      rw [List.zip_cons_cons] at hm
      rw [List.zip_cons_cons, List.reverse_cons, List.lookup_append]
      rw [List.nodup_cons] at hn
      rcases List.mem_cons.mp hm with e | hm
      · obtain ⟨rfl, rfl⟩ := Prod.mk.inj e
        have : ((ns.zip vs).reverse).lookup x = none := List.lookup_eq_none_iff.mpr fun p hp => by
          have hx : p.1 ∈ ns := (List.of_mem_zip (show (p.1, p.2) ∈ ns.zip vs from List.mem_reverse.mp hp)).1
          simpa using show x ≠ p.1 from fun q => hn.1 (q ▸ hx)
        rw [this]
        exact ⟨v, by simp [List.lookup], h1⟩
      · obtain ⟨u, hu, hv⟩ := ih hn.2 h2 (Nat.succ.inj hl) x b hm
        exact ⟨u, by rw [hu]; rfl, hv⟩
/-- which def runs here -/
structure Cx.Is (C : Cx) (S : Scope) (n : Nat) : Prop where
  sc : C.scope = S
  lvl : C.lv = n
  nc : C.cl = []
theorem Cx.Is.k {C : Cx} {S : Scope} {n : Nat} (I : C.Is S n) {x : Str} {k : NameKind} (h : S.names.lookup x = some k) : C.env.kindOf x = some k := by
  show C.scope.names.lookup x = some k
  rw [I.sc]; exact h
theorem Cx.Is.le {C : Cx} {S : Scope} {n k : Nat} (I : C.Is S n) (h : Nat.ble k n = true) : k ≤ C.lv := by rw [I.lvl]; exact Nat.le_of_ble_eq_true h
def okScope (S : Scope) : Bool := !S.isCoroutine && !S.isGenerator && decide (S.kind = .function) && S.names.all fun x => decide (x.2 ≠ .cell)
theorem okScope_iff {S : Scope} (h : okScope S = true) : S.isCoroutine = false ∧ S.isGenerator = false ∧ S.kind = .function ∧ ∀ x ∈ S.names, x.2 ≠ .cell := by
  simp only [okScope, Bool.and_eq_true, Bool.not_eq_true', decide_eq_true_eq, List.all_eq_true] at h
  exact ⟨h.1.1.1, h.1.1.2, h.1.2, h.2⟩
/-- a list handed over stands at its place -/
def AV.up (l : Addr) : AV → AV
  | .list ns => .at l ns
  | a => a
def ups (ls : Nat → Addr) : List AV → List AV
  | [] => []
  | a :: r => a.up (ls 0) :: ups (fun k => ls (k + 1)) r
theorem VR.up {led : Led} {a : AV} {v : Value} (h : VR led a v) : ∃ l, VR led (a.up l) v := by
  cases a with
  | list ns => obtain ⟨l, vs, n, rfl, q⟩ := h; exact ⟨l, rfl, l, vs, n, rfl, q⟩
  | undef => exact ⟨0, h⟩
  | int i => exact ⟨0, h⟩
  | bool i => exact ⟨0, h⟩
  | «at» l i => exact ⟨0, h⟩
  | pair i j => exact ⟨0, h⟩
  | raw i => exact ⟨0, h⟩
  | box i j k => exact ⟨0, h⟩
  | boxV i j k n m => exact ⟨0, h⟩
theorem VRs.ups {led : Led} : ∀ {as : List AV} {vs : List Value}, VRs led as vs → ∃ ls, VRs led (ups ls as) vs := by
  intro as
  induction as with
  | nil => intro vs h; exact ⟨fun _ => 0, h⟩
  | cons a as ih =>
    intro vs h
    obtain ⟨v, r, rfl, h1, h2⟩ := h.inv
    obtain ⟨l, hl⟩ := h1.up
    obtain ⟨ls, hls⟩ := ih h2
    exact ⟨fun k => match k with | 0 => l | k + 1 => ls k, hl, hls⟩
/-- what a def's text must be, and the names of its arguments and of its other locals -/
structure IsFn (wd : World) (f : Addr) (names ls : List Str) (body : List Stmt) (scope : Scope) : Prop where
  obj : ∃ (name qual : Str) (params : Arguments) (dV kV doc pm cdv ct oc : Value) (an od : Option Addr) (osl : Array (Option Value)), List.lookup f (hd.heap_39 wd.params) = some ⟨oc, od, .func (fnOf name qual params body scope dV kV doc pm an cdv ct), osl⟩ ∧ codeIn (hd.heap_39 wd.params) cdv qual = true ∧
    ∀ vals : List Value, vals.length = names.length → bindArgs (fnOf name qual params body scope dV kV doc pm an cdv ct) ⟨vals, []⟩ = pure (names.zip vals)
  loc : names.all (fun x => decide (scope.names.lookup x = some .local)) = true
  nd : (names ++ ls).Nodup
  ok : okScope scope = true
/-- a def entered; it may come back or raise -/
theorem enter {wd : World} {f : Addr} {lv : Nat} {as : List AV} {names ls : List Str} {body : List Stmt} {scope : Scope} (I : IsFn wd f names ls body scope) (hlen : as.length = names.length) (hlv : 1 ≤ lv)
    {dp un : Nat} {gd : Option (List Code)} {cn : Str} {cs : Scope} {a : Addr} {ccd : Value} {cl : List (Str × Addr)} {outer : List Env} {A₀ : Around} {base h₀ : Heap} {L : Addr} {m : Str → Option Value} {news : Led} {s : Shared}
    {p : Program} {loose : List Str} {mean : ExcName → Option Value} {mg mb : Str → Option Value} {vals : List Value} {Q E : Value → Shared → Prop}
    (B : Below A₀ base outer h₀) (F : Fr h₀ L s.heap m) (X : (hd.heap_39 wd.params).In h₀) (N : News h₀ L s.heap news) (T : Top p loose mean mg mb h₀) (hkc : cs.kind = .function) (hd' : dp + lv < recursionLimit) (hu : un + 8 * lv < cLine) (hpre : VRs news as vals)
    (h : ∀ (C : Cx) (la : Nat → Addr) m' h₁ tk, C.Is scope lv → C.news = news → C.wd = wd → C.base = base → C.outer = envX cn cs L a ccd cl :: outer → C.tn = false → Fr h₀ L C.g m → SRel C news (names.zip (ups la as) ++ ls.map fun x => (x, AV.undef)) none h₁ m' news →
      wpAny (model PR C.wd) C.A (execs body C.env) (fun fl s' => LeaveK h₀ L m C.g (fun r s' => match r with | .ok (.ret v) => Q v s' | .ok _ => False | .error e => E e s') (match fl with | .ret v => v | _ => .none) s')
        (fun e s' => wpAny (model PR C.wd) C.A (leaving C.env e) (fun _ s'' => E e s'') (fun e' s'' => E e' s'') s') { s with heap := h₁, toks := tk }) :
    wpAny (model PR wd) (ktrTop dp un gd cn cs L a ccd cl outer) (call (.ref f) vals) Q E s := by
  obtain ⟨⟨name, qual, params, dV, kV, doc, pm, cdv, ct, oc, an, od, osl, ho, hcd, hbind⟩, hloc, hnd, hok⟩ := I
  obtain ⟨hco, hgen, hk, hcell⟩ := okScope_iff hok
  have hvl := hpre.len.symm.trans hlen
  refine wpAny_call ?_
  refine code_def (R := fun r s' => match r with | .ok (.ret v) => Q v s' | .ok _ => False | .error e => E e s') (binds := names.zip vals) B F X N T rfl rfl hkc ho hcd (Nat.lt_of_le_of_lt (Nat.le_add_right dp lv) hd') (.of_eq (hbind vals hvl)) (fun x hx => of_decide_eq_true (List.all_eq_true.mp hloc x.1 (List.of_mem_zip (show (x.1, x.2) ∈ names.zip vals from hx)).1)) ?_ hco hgen hk hcell
  intro g L' h₁ FG F' N' B' X' T'
  obtain ⟨la, hup⟩ := hpre.ups
  refine h ⟨wd, lv, qual, scope, f, cdv, [], dp + 1, un + 3, gd, _, _, base, g, L', p, loose, mean, mg, mb, news, false, X', B', T', rfl, (by omega), (by omega), hk⟩ la _ h₁ _ ⟨rfl, rfl, rfl⟩ rfl rfl rfl rfl rfl FG ⟨fun _ h => h, ?_, F', [], N', rfl, fun x b hx => ?_⟩
  · have hlu := hup.len.trans hvl
    have e : (names.zip (ups la as) ++ ls.map fun x => (x, AV.undef)).map (·.1) = names ++ ls := by
      rw [List.map_append, List.map_map]
      congr 1
      · exact List.map_fst_zip (Nat.le_of_eq hlu.symm)
      · exact List.map_id _
    rw [e]; exact hnd
  · rcases List.mem_append.mp hx with hx | hx
    · have hnn : names.Nodup := (List.nodup_append.mp hnd).1
      obtain ⟨v, hv, hr⟩ := vrs_lookup hnn hup hvl.symm x b hx
      exact .inr ⟨v, hr, .inl ⟨of_decide_eq_true (List.all_eq_true.mp hloc x (List.of_mem_zip hx).1), hv⟩⟩
    · obtain ⟨y, _, e⟩ := List.mem_map.mp hx
      exact .inl (Prod.mk.inj e).2.symm
theorem fnG_of {wd : World} {f : Addr} {lv : Nat} {as : List AV} {P : AV → Prop} {nf : Led → Led} {names ls : List Str} {body : List Stmt} {scope : Scope} (hnf : ∀ l, ∀ p ∈ nf l, p ∈ l) (I : IsFn wd f names ls body scope) (hlen : as.length = names.length) (hlv : 1 ≤ lv)
    (h : ∀ (C : Cx) (la : Nat → Addr), C.Is scope lv → Bl C (nf C.news) (names.zip (ups la as) ++ ls.map fun x => (x, AV.undef)) none body (fun _ _ => False) P) : FnG nf wd f lv as P := by
  intro vals dp un gd cn cs a ccd cl outer A₀ base h₀ L m news s p loose mean mg mb Q E Bl F X N T hkc hd' hu hpre hret
  refine enter I hlen hlv Bl F X N T hkc hd' hu hpre fun C la m' h₁ tk Is hne hwd hb ho htn FG S => ?_
  subst hne
  refine wpAny_mono (h C la Is { s with heap := h₁, toks := tk } _ C.news ⟨hnf C.news, S.2⟩) (fun fl s' q => ?_) fun _ _ x => x.elim
  cases fl with
  | next => obtain ⟨_, _, _, _, _, _, _, _, q⟩ := q; exact q.elim
  | ret v =>
    obtain ⟨b, g', h', tk', m', led', rfl, ht, F', N', i', hv, hp⟩ := q
    rw [ht.1 htn] at F' N'
    exact leaveK_ F' N' fun F3 N3 => hret _ _ _ _ F3 N3 ⟨i', b, hv, hp⟩
  | brk => exact q.elim
  | cont => exact q.elim
theorem fn_of {wd : World} {f : Addr} {lv : Nat} {as : List AV} {P : AV → Prop}
    {name qual : Str} {params : Arguments} {body : List Stmt} {scope : Scope} {dV kV doc pm cdv ct oc : Value} {an od : Option Addr} {osl : Array (Option Value)} (names ls : List Str)
    (ho : List.lookup f (hd.heap_39 wd.params) = some ⟨oc, od, .func (fnOf name qual params body scope dV kV doc pm an cdv ct), osl⟩) (hcd : codeIn (hd.heap_39 wd.params) cdv qual = true)
    (hbind : ∀ vals : List Value, vals.length = names.length → bindArgs (fnOf name qual params body scope dV kV doc pm an cdv ct) ⟨vals, []⟩ = pure (names.zip vals)) (hloc : names.all (fun x => decide (scope.names.lookup x = some .local)) = true)
    (hnd : (names ++ ls).Nodup) (hlen : as.length = names.length)
    (hok : okScope scope = true) (hlv : 1 ≤ lv)
    (h : ∀ (C : Cx) (la : Nat → Addr), C.Is scope lv → Bl C C.news (names.zip (ups la as) ++ ls.map fun x => (x, AV.undef)) none body (fun _ _ => False) P) : Fn wd f lv as P :=
  fnG_of (fun _ _ h => h) ⟨⟨_, _, _, _, _, _, _, _, _, _, _, _, _, ho, hcd, hbind⟩, hloc, hnd, hok⟩ hlen hlv h
end
section
variable {C : Cx} {N0 : Led} {ρ ρ' ρ1 ρ2 : List (Str × AV)} {own : Own} {e e1 e2 e3 i : Expr} {K : List (Str × AV) → Own → Prop} {R : AV → Prop} {rest : List Stmt} {pos p1 p2 p3 p4 p5 : Pos}
theorem own_name {x : Str} {l : Addr} {m : Str → Option Value} {oe led : Led} {s : Shared} {Q : Value → Shared → Prop} (P : Part C ρ (some (x, l)) m oe led) (F : Fr C.g C.L s.heap m) (h : Q (.ref l) s) (hd : (x == ("__debug__" : Str)) = false := by decide) :
    wpAny (model PR C.wd) C.A (eval (.Name x pos) C.env) Q (fun _ _ => False) s := by
  obtain ⟨vs, n, ns, _, _, hk, hx, _⟩ := P
  exact nameX_L F hx h C.hk hk hd
theorem Cx.notTop (C : Cx) : interactive C.env = false := by
  have h := C.hk
  simp [interactive, Cx.env, h]
theorem bl_append {x : Str} {l : Addr} {ns : List Int} {b : Int} {pl : Sem Bool} (hm : (x, AV.list ns) ∈ ρ) (he : Ev C ρ e (.int b)) (hp : Put ρ x (.list (ns ++ [b])) ρ') (hn : ns.length < 2 ^ 20)
    (hc : eval (.Call (.Attribute (.Name x p1) "append" p2) [e] [] p3) C.env = (do
      let ov ← eval (.Name x p1) C.env
      standAt p2.atName
      let (f, first) ← holding [ov] (getMethod ov "append" pl)
      callWith p3 f first (backTo p3 (starEach [e] C.env)) []))
    (h : Bl C N0 ρ' (some (x, l)) rest K R) (hd : (x == ("__debug__" : Str)) = false := by decide) : Bl C N0 ρ (some (x, l)) (.Expr (.Call (.Attribute (.Name x p1) "append" p2) [e] [] p3) pos :: rest) K R := by
  rintro s m led ⟨h0, hnd, F, oe, N, P⟩
  have P' := P
  obtain ⟨vs, n, ns', rfl, hm', hk, hx, hi, hne, ho⟩ := P'
  have en := nodup_fst hnd hm hm'
  cases en
  refine wpAny_execs_cons (wpAny_Expr_any (MethodCall_ (pl := pl) (own_name P F (listMethod_K N (.head _) PySem.F.slot_list_append PySem.F.type_list_append (callWith_method1 (args_cons (he.use F N (P.full hnd) fun v h1 t1 led1 F1 N1 i1 V1 q1 => args_nil ?_) (he.1.star [])) (he.1.star [])))  hd) hc) C.notTop)
  obtain ⟨u, rfl⟩ := q1
  refine append_K F1 (led_sub N1 i1) (.head hne) (fun h2 F2 N2 => ?_) (by rw [List.size_toArray, hi.length, sizeLine_eq]; omega)
  rw [List.push_toArray] at N2
  refine h.use ⟨h0, by rw [hp.names.1]; exact hnd, F2, _, N2, vs ++ [.int b u], n + 1, ns ++ [b], rfl, hp.names.2.2, hk, hx, hi.append (.cons _ _ .nil), hne, fun y a hy hyx => ?_⟩
  rcases hp.mem hnd y a hy with ⟨e, _⟩ | ⟨_, hy⟩
  · exact absurd e hyx
  · exact ho y a hy hyx
theorem bl_store {x : Str} {l : Addr} {ns : List Int} {k b : Int} (hm : (x, AV.list ns) ∈ ρ) (he : Ev C ρ e (.int b)) (hi' : Ev C ρ i (.int k)) (h0' : 0 ≤ k) (h1' : k < ns.length) (hp : Put ρ x (.list (ns.set k.toNat b)) ρ') (hn : ns.length < 2 ^ 20)
    (hs : swapsWith e (some (.Subscript (.Name x p1) i p2)) pos.line C.env = pure false)
    (h : Bl C N0 ρ' (some (x, l)) rest K R) (hd : (x == ("__debug__" : Str)) = false := by decide) : Bl C N0 ρ (some (x, l)) (.Assign [.Subscript (.Name x p1) i p2] e pos :: rest) K R := by
  rintro s m led ⟨h0, hnd, F, oe, N, P⟩
  have P' := P
  obtain ⟨vs, n, ns', rfl, hm', hk, hx, hi, hne, ho⟩ := P'
  have en := nodup_fst hnd hm hm'
  cases en
  refine wpAny_execs_cons (wpAny_Assign_Subscript (he.use F N (P.full hnd) fun v h1 t1 led1 F1 N1 i1 V1 q1 => nameX_L F1 hx (hi'.use F1 N1 V1 fun w h2 t2 led2 F2 N2 i2 V2 q2 => ?_) C.hk hk hd) hs)
  obtain ⟨u, rfl⟩ := q1
  obtain ⟨t, rfl⟩ := q2
  refine ksa_set F2 (led_sub N2 fun p hp => i2 p (i1 p hp)) (.head hne) hi h0' h1' (by omega) (fun h3 F3 N3 hi3 _ _ => ?_)
  refine h.use ⟨h0, by rw [hp.names.1]; exact hnd, F3, _, N3, _, n, _, rfl, hp.names.2.2, hk, hx, hi3, hne, fun y a hy hyx => ?_⟩
  rcases hp.mem hnd y a hy with ⟨e, _⟩ | ⟨_, hy⟩
  · exact absurd e hyx
  · exact ho y a hy hyx
/-- an expression makes a list that nobody else holds -/
def Fresh (C : Cx) (ρ : List (Str × AV)) (e : Expr) (ns : List Int) : Prop :=
  Plain C.env e ∧ ∀ (s : Shared) m led, Fr C.g C.L s.heap m → News C.g C.L s.heap led → Envs C ρ m led →
    wpAny (model PR C.wd) C.A (eval e C.env) (fun v s' => ∃ l vs n h' tk, v = .ref l ∧ IntsAre vs ns ∧ s' = { s with heap := h', toks := tk } ∧ Fr C.g C.L h' m ∧ News C.g C.L h' ((l, W.listOf vs.toArray n) :: led) ∧ ∀ p ∈ led, p.1 < l) (fun _ _ => False) s
theorem fresh_nil : Fresh C ρ (.List [] pos) [] :=
  ⟨plain_list, fun s m led F N V => List_ (args_nil (newList_K F N (fun l h' F' N' hl => ⟨l, [], 0, h', s.toks, rfl, .nil, rfl, F', N', hl⟩) (by simp [sizeLine])))⟩
theorem fresh_rep {l r : Expr} {a k : Int} (hl : Ev C ρ l (.list [a])) (hr : Ev C ρ r (.int k)) (hk : k < 2 ^ 20) (hk0 : -(2 ^ 20) < k) : Fresh C ρ (.BinOp l .Mult r pos) (List.replicate k.toNat a) := by
  refine ⟨plain_bin, fun s m led F N V => wpAny_BinOp (hl.use F N V fun v1 h1 t1 led1 F1 N1 i1 V1 q1 => hr.use F1 N1 V1 fun v2 h2 t2 led2 F2 N2 i2 V2 q2 => ?_)⟩
  obtain ⟨la, va, na, rfl, g1, j1, _⟩ := Has.isList (VR.mono i2 q1) N2
  obtain ⟨u, rfl⟩ := q2
  refine KM.mul F2 N2 g1 j1 (by omega) (by omega) (by rw [j1.length]; simp only [List.length_cons, List.length_nil]; omega) (fun D h' F' N' hD hi _ _ _ _ _ => ?_)
  rw [flat_rep] at hi
  exact ⟨D, _, 0, h', t2, rfl, hi, rfl, F', led_sub N' (sub_head fun p hp => i2 p (i1 p hp)), fun p hp => hD p (i2 p (i1 p hp))⟩
theorem Part.mine {x : Str} {l : Addr} {vs : List Value} {ns : List Int} {n : Nat} {m : Str → Option Value} {led : Led} (hnd : (ρ.map (·.1)).Nodup) (V : Envs C ρ m led) (hp : Put ρ x (.list ns) ρ') (hx : C.env.kindOf x = some .local) (hi : IntsAre vs ns) (hne : ∀ p ∈ led, p.1 ≠ l) :
    Part C ρ' (some (x, l)) (fun z => if z = x then some (.ref l) else m z) [(l, W.listOf vs.toArray n)] led := by
  refine ⟨vs, n, ns, rfl, hp.names.2.2, hx, if_pos rfl, hi, hne, fun y a hy hyx => ?_⟩
  rcases hp.mem hnd y a hy with ⟨e, _⟩ | ⟨_, hy⟩
  · exact absurd e hyx
  · exact (V y a hy).imp id fun k => k.other hyx
theorem bl_fresh {x : Str} {ns : List Int} (he : Fresh C ρ e ns) (hp : Put ρ x (.list ns) ρ') (hx : C.env.kindOf x = some .local) (h : ∀ l, Bl C N0 ρ' (some (x, l)) rest K R) : Bl C N0 ρ none (.Assign [.Name x p1] e pos :: rest) K R := by
  rintro s m led ⟨h0, hnd, F, oe, N, rfl, V⟩
  refine wpAny_execs_cons (wpAny_Assign_Name (wpAny_mono (he.2 s m led F N V) (fun v s' q => ?_) fun _ _ x => x) (he.1.swap _ _))
  obtain ⟨l, vs, n, h', tk, rfl, hi, rfl, F', N', hlt⟩ := q
  exact storeX_L F' N' (fun h2 F2 N2 => (h l).use ⟨h0, by rw [hp.names.1]; exact hnd, F2, [(l, W.listOf vs.toArray n)], N2, Part.mine hnd V hp hx hi fun p hp => Nat.ne_of_lt (hlt p hp)⟩) C.hk hx
/-- names stored one after the other -/
inductive PutL : List (Str × AV) → List Str → List AV → List (Str × AV) → Prop
  | nil {r0} : PutL r0 [] [] r0
  | cons {r0 r1 r2 x xs a as} : Put r0 x a r1 → PutL r1 xs as r2 → PutL r0 (x :: xs) (a :: as) r2
theorem stores {N led : Led} {E : Value → Shared → Prop} {xs : List Str} {as : List AV} (hp : PutL ρ xs as ρ') : ∀ {vs : List Value} {m : Str → Option Value} {s : Shared} {ts : List (Value → Sem Unit)} {us : List Value} {Q : Unit → Shared → Prop}, VRs led as vs → (∀ x ∈ xs, C.env.kindOf x = some .local) → (ρ.map (·.1)).Nodup → Fr C.g C.L s.heap m → News C.g C.L s.heap N → Envs C ρ m led →
    (∀ h' tk m', ρ'.map (·.1) = ρ.map (·.1) → Fr C.g C.L h' m' → News C.g C.L h' N → Envs C ρ' m' led → wpAny (model PR C.wd) C.A (assignInOrder ts us) Q E { s with heap := h', toks := tk }) →
    wpAny (model PR C.wd) C.A (assignInOrder (xs.map (bindName C.env) ++ ts) (vs ++ us)) Q E s := by
  induction hp with
  | nil => intro vs m s ts us Q hv _ _ F N V k; rw [hv.fin]; exact k s.heap s.toks m rfl F N V
  | cons h1 h2 ih =>
    intro vs m s ts us Q hv hx hn F N V k
    obtain ⟨v, r, rfl, hv1, hv2⟩ := hv.inv
    refine assignInOrder_cons (bindName_ (storeX_L F N (fun h' F' N' => ?_) C.hk (hx _ (.head _))))
    exact ih hv2 (fun x h => hx x (.tail _ h)) (by rw [h1.names.1]; exact hn) F' N' (Part.put (own := none) (oe := []) hn ⟨rfl, V⟩ h1 (hx _ (.head _)) hv1 trivial).2 fun h2 tk m' e => k h2 tk m' (e.trans h1.names.1)
theorem VRs.snoc {a : AV} {v : Value} {led : Led} {as : List AV} : ∀ {vs : List Value}, VRs led as vs → VR led a v → VRs led (as ++ [a]) (vs ++ [v]) := by
  induction as with
  | nil => intro vs h k; rw [h.fin]; exact ⟨k, trivial⟩
  | cons b as ih => intro vs h k; obtain ⟨w, r, rfl, h1, h2⟩ := h.inv; exact ⟨h1, ih h2 k⟩
theorem VRs.rev {led : Led} {as : List AV} : ∀ {vs : List Value}, VRs led as vs → VRs led as.reverse vs.reverse := by
  induction as with
  | nil => intro vs h; rw [h.fin]; trivial
  | cons b as ih => intro vs h; obtain ⟨w, r, rfl, h1, h2⟩ := h.inv; rw [List.reverse_cons, List.reverse_cons]; exact (ih h2).snoc h1
theorem VRs.any {led led' : Led} {as : List AV} (hs : as.all AV.scalar = true) : ∀ {vs : List Value}, VRs led as vs → VRs led' as vs := by
  induction as with
  | nil => intro vs h; rw [h.fin]; trivial
  | cons b as ih =>
    rw [List.all_cons, Bool.and_eq_true] at hs
    intro vs h
    obtain ⟨w, r, rfl, h1, h2⟩ := h.inv
    exact ⟨h1.any hs.1, ih hs.2 h2⟩
/-- several names at once from a display -/
theorem bl_tup {elts es : List Expr} {names : List Str} {as : List AV} {k1 k2 : Nat} (he : EvA C ρ es as) (hp : PutL ρ names.reverse as.reverse ρ') (hk : ∀ x ∈ names, C.env.kindOf x = some .local) (hl : Nat.ble as.length 8 = true) (hll : names.length = as.length)
    (hs : swapsWithSole [.Tuple elts k1 p3] (.Tuple es k2 p4) pos.line C.env = pure false) (hw : swappedStores [.Tuple elts k1 p3] (.Tuple es k2 p4) C.env = pure (some names))
    (h : Bl C N0 ρ' none rest K R) : Bl C N0 ρ none (.Assign [.Tuple elts k1 p3] (.Tuple es k2 p4) pos :: rest) K R := by
  rintro s m led ⟨h0, hnd, F, oe, N, rfl, V⟩
  refine wpAny_execs_cons (Assign_Tuple_swapped (Tuple_ (he.use F N V fun vs h1 t1 led1 F1 N1 i1 q => ?_)) hs hw)
  have hlv := q.len
  have hl := Nat.le_of_ble_eq_true hl
  refine newTuple_N F1 N1 (fun h5 F5 N5 => ?_) (by simp only [sizeLine]; omega)
  refine unpackItemsN_ F5 N5 ⟨_, (N5 _ (.head _)).1, rfl, 0, rfl⟩ rfl (by rw [List.size_toArray]; omega) (fun h6 F6 N6 => ?_)
  have z := stores (E := fun _ _ => False) (s := { s with heap := h6, toks := t1 }) (ts := []) (us := []) (Q := fun _ => wpAny (model PR C.wd) C.A (execs rest C.env) (BlPost C N0 s K R) (fun _ _ => False)) hp q.rev (fun x hx => hk x (List.mem_reverse.mp hx)) hnd F6 N6 (V.mono fun p hp => i1 p hp) fun h' tk m' e F' N' V' =>
    assignInOrder_nil (h.use ⟨fun p hp => .tail _ (i1 p (h0 p hp)), by rw [e]; exact hnd, F', [], N', rfl, V'.mono fun _ h => .tail _ h⟩)
  rw [List.append_nil, List.append_nil] at z
  exact z
/-- the first of them a list of its own -/
theorem bl_freshT {elts es : List Expr} {x : Str} {names : List Str} {ns : List Int} {as : List AV} {k1 k2 : Nat} (he : Fresh C ρ e1 ns) (h2 : EvA C ρ es as) (ha : as.all AV.scalar = true) (hp1 : PutL ρ names.reverse as.reverse ρ1) (hp2 : Put ρ1 x (.list ns) ρ') (hk : ∀ y ∈ x :: names, C.env.kindOf y = some .local) (hl : Nat.ble as.length 8 = true) (hll : names.length = as.length)
    (hs : swapsWithSole [.Tuple elts k1 p3] (.Tuple (e1 :: es) k2 p4) pos.line C.env = pure false) (hw : swappedStores [.Tuple elts k1 p3] (.Tuple (e1 :: es) k2 p4) C.env = pure (some (x :: names)))
    (h : ∀ l, Bl C N0 ρ' (some (x, l)) rest K R) : Bl C N0 ρ none (.Assign [.Tuple elts k1 p3] (.Tuple (e1 :: es) k2 p4) pos :: rest) K R := by
  rintro s m led ⟨h0, hnd, F, oe, N, rfl, V⟩
  refine wpAny_execs_cons (Assign_Tuple_swapped (Tuple_ (args_cons (wpAny_mono (he.2 s m led F N V) (fun v s' q => ?_) fun _ _ x => x) (he.1.star _))) hs hw)
  obtain ⟨l, vs, n, h', tk, rfl, hi, rfl, F', N', hlt⟩ := q
  refine h2.use F' N' (V.mono fun _ h => .tail _ h) fun us h1 t1 led1 F1 N1 i1 q => ?_
  have hlv := q.len
  have hl := Nat.le_of_ble_eq_true hl
  refine newTuple_N F1 N1 (fun h5 F5 N5 => ?_) (by simp only [sizeLine, List.length_cons]; omega)
  refine unpackItemsN_ F5 N5 ⟨_, (N5 _ (.head _)).1, rfl, 0, rfl⟩ rfl (by rw [List.size_toArray, List.length_cons, List.length_cons]; omega) (fun h6 F6 N6 => ?_)
  have z := stores (led := led) (E := fun _ _ => False) (s := { s with heap := h6, toks := t1 }) (ts := [bindName C.env x]) (us := [.ref l]) (Q := fun _ => wpAny (model PR C.wd) C.A (execs rest C.env) (BlPost C N0 s K R) (fun _ _ => False)) hp1 ((q.any ha).rev) (fun y hy => hk y (.tail _ (List.mem_reverse.mp hy))) hnd F6 N6 V fun h' tk m' e F' N' V' =>
    assignInOrder_cons (bindName_ (storeX_L F' N' (fun h7 F7 N7 => assignInOrder_nil ((h l).use ⟨h0, by rw [hp2.names.1, e]; exact hnd, F7, [(l, W.listOf vs.toArray n)], led_sub N7 fun p hp => .tail _ (i1 p hp), Part.mine (by rw [e]; exact hnd) V' hp2 (hk x (.head _)) hi fun p hp => Nat.ne_of_lt (hlt p hp)⟩)) C.hk (hk x (.head _))))
  have e1 : names.reverse.map (bindName C.env) ++ [bindName C.env x] = (x :: names).reverse.map (bindName C.env) := by rw [List.reverse_cons, List.map_append]; rfl
  rw [e1, ← List.reverse_cons] at z
  exact z
/-- two names at once, from a pair that a call gives -/
theorem bl_unpack {x y : Str} {P : AV → Prop} {k1 : Nat} (he : EvS C ρ e P)
    (hs : swapsWithSole [.Tuple [.Name x p1, .Name y p2] k1 p3] e pos.line C.env = pure false)
    (hw : swappedStores [.Tuple [.Name x p1, .Name y p2] k1 p3] e C.env = pure none) (hy : C.env.kindOf y = some .local) (hx : C.env.kindOf x = some .local)
    (h : ∀ c, P c → ∃ a b ρ1 ρ2, c = .pair a b ∧ Put ρ x a ρ1 ∧ Put ρ1 y b ρ2 ∧ Bl C N0 ρ2 none rest K R) : Bl C N0 ρ none (.Assign [.Tuple [.Name x p1, .Name y p2] k1 p3] e pos :: rest) K R := by
  rintro s m led ⟨h0, hnd, F, oe, N, rfl, V⟩
  refine wpAny_execs_cons (Assign_Tuple (wpAny_mono (he.2 s m led F N V) (fun v s' q => ?_) fun _ _ x => x) hs hw)
  obtain ⟨led', ⟨h', tk, rfl, F', N', i'⟩, c, hv, hc⟩ := q
  obtain ⟨a, b, ρ1, ρ2, rfl, hp1, hp2, hB⟩ := h c hc
  obtain ⟨t, va, vb, n, rfl, hm, ha, hb⟩ := hv
  refine assign_Tuple_tuple (items := [va, vb].toArray) rfl ⟨_, (N' _ hm).1, rfl, n, rfl⟩ rfl rfl (fun h2 hx2 => ?_)
  have F2 := F'.extBut hx2 (Nat.le_refl _)
  have N2 := N'.extBut hx2 (Nat.le_refl _)
  refine assignInOrder_cons (assign_Name (storeX_L F2 N2 (fun h6 F6 N6 => ?_) C.hk hx))
  refine assignInOrder_cons (assign_Name (storeX_L F6 N6 (fun h7 F7 N7 => assignInOrder_nil ?_) C.hk hy))
  refine hB.use ⟨fun p hp => i' p (h0 p hp), by rw [hp2.names.1, hp1.names.1]; exact hnd, F7, [], N7, ?_⟩
  have W1 := Part.put (own := none) (oe := []) hnd ⟨rfl, V.mono i'⟩ hp1 hx ha trivial
  exact Part.put (own := none) (by rw [hp1.names.1]; exact hnd) W1 hp2 hy hb trivial
end
section
variable {C : Cx} {N0 : Led} {ρ ρ' : List (Str × AV)} {own : Own} {e e1 e2 : Expr} {K : List (Str × AV) → Own → Prop} {R : AV → Prop} {body rest : List Stmt} {pos p1 p2 p3 p4 p5 : Pos}
/-- what is told here is told there -/
def Cov (ρ' ρ : List (Str × AV)) : Prop := ∀ y a, (y, a) ∈ ρ → a = .undef ∨ (y, a) ∈ ρ'
/-- the frame's own list is told of -/
def OwnIn (own : Own) (ρ : List (Str × AV)) : Prop := ∀ x l, own = some (x, l) → ∃ ns, (x, AV.list ns) ∈ ρ
def ownAdr (o : Own) : List Addr := match o with
  | none => []
  | some xl => [xl.2]
/-- the names of a loop: no lists but those that stay, and the frame's own -/
def Stays (ρ₀ : List (Str × AV)) (own : Own) (ρ : List (Str × AV)) : Prop :=
  (∀ y a, (y, a) ∈ ρ → a.scalar = true ∨ (∃ l, own = some (y, l)) ∨ (∃ l ns, a = .at l ns ∧ (y, a) ∈ ρ₀)) ∧ OwnIn own ρ
theorem Part.cov {m : Str → Option Value} {oe led : Led} (hn : (ρ'.map (·.1)).Nodup) (P : Part C ρ' own m oe led) (h : Cov ρ' ρ) (hs : OwnIn own ρ) : Part C ρ own m oe led := by
  cases own with
  | none => obtain ⟨e, V⟩ := P; exact ⟨e, fun y a hy => (h y a hy).elim .inl fun q => V y a q⟩
  | some xl =>
    obtain ⟨vs, n, ns, e, hm, hk, hx, hi, hne, ho⟩ := P
    obtain ⟨ns', hm'⟩ := hs xl.1 xl.2 rfl
    have q := (h _ _ hm').resolve_left (by exact AV.noConfusion)
    have en := nodup_fst hn hm q
    cases en
    exact ⟨vs, n, ns, e, hm', hk, hx, hi, hne, fun y a hy hyx => (h y a hy).elim .inl fun q => ho y a q hyx⟩
theorem Part.shrink (hcl : C.cl = []) {ρ₀ : List (Str × AV)} {m₀ m : Str → Option Value} {oe₀ oe led led' : Led} (P₀ : Part C ρ₀ own m₀ oe₀ led) (hn₀ : (ρ₀.map (·.1)).Nodup) (P : Part C ρ own m oe led') (hs : Stays ρ₀ own ρ) (hl : ∀ p ∈ led, p ∈ led') : Part C ρ own m oe led := by
  have key : ∀ y a, (y, a) ∈ ρ → (∀ l, own ≠ some (y, l)) → (a = .undef ∨ Knows C m led' y a) → (a = .undef ∨ Knows C m led y a) := by
    rintro y a hy hne (h | ⟨v, hv, ⟨k, e⟩ | ⟨_, c, o, hc, _⟩⟩)
    · exact .inl h
    · rcases hs.1 y a hy with h | ⟨l, h⟩ | ⟨l, ns, rfl, h⟩
      · exact .inr ⟨v, hv.any h, .inl ⟨k, e⟩⟩
      · exact absurd h (hne l)
      · have hl0 : Has led (.ref l) ns := by
          cases own with
          | none =>
            obtain ⟨_, V⟩ := P₀
            obtain ⟨u, ⟨rfl, hu⟩, _⟩ := (V y _ h).resolve_left (by exact AV.noConfusion)
            exact hu
          | some xl =>
            obtain ⟨_, _, _, _, hmx, _, _, _, _, ho⟩ := P₀
            obtain ⟨u, ⟨rfl, hu⟩, _⟩ := (ho y _ h (fun q => hne xl.2 (by rw [q]))).resolve_left (by exact AV.noConfusion)
            exact hu
        obtain ⟨rfl, _⟩ := hv
        exact .inr ⟨.ref l, ⟨rfl, hl0⟩, .inl ⟨k, e⟩⟩
    · rw [hcl] at hc; cases hc
  cases own with
  | none => obtain ⟨e, V⟩ := P; exact ⟨e, fun y a hy => key y a hy (fun _ => by simp) (V y a hy)⟩
  | some xl =>
    obtain ⟨vs, n, ns, e, hm, hk, hx, hi, hne, ho⟩ := P
    exact ⟨vs, n, ns, e, hm, hk, hx, hi, fun p hp => hne p (hl p hp), fun y a hy hyx => key y a hy (fun l' q => hyx (by cases q; rfl)) (ho y a hy hyx)⟩
theorem Part.adr {m : Str → Option Value} {oe led : Led} (P : Part C ρ own m oe led) : oe.map (·.1) = ownAdr own := by
  cases own with
  | none => obtain ⟨rfl, _⟩ := P; rfl
  | some xl => obtain ⟨vs, n, ns, rfl, _⟩ := P; rfl
theorem Part.more {m : Str → Option Value} {oe led led2 : Led} (P : Part C ρ own m oe led) (ho : ∀ l ∈ oe.map (·.1), ∀ p ∈ led2, p.1 ≠ l) : Part C ρ own m oe (led ++ led2) := by
  cases own with
  | none => obtain ⟨e, V⟩ := P; exact ⟨e, V.mono fun p hp => List.mem_append_left _ hp⟩
  | some xl =>
    obtain ⟨vs, n, ns, rfl, hm, hk, hx, hi, hne, h⟩ := P
    exact ⟨vs, n, ns, rfl, hm, hk, hx, hi, fun p hp => (List.mem_append.mp hp).elim (hne p) (ho xl.2 (.head _) p), fun y a hy hyx => (h y a hy hyx).imp id fun k => k.mono fun p hp => List.mem_append_left _ hp⟩
/-- what stands between the turns of a loop -/
def LJ {τ : Type} (C : Cx) (own : Own) (led : Led) (env : τ → List (Str × AV)) (P : Nat → τ → Prop) (i : Nat) (m : Str → Option Value) (nx : Led) : Prop :=
  ∃ c oe, nx = oe ++ led ∧ Part C (env c) own m oe led ∧ P i c
/-- what a turn must bring about -/
def Turn {τ : Type} (own : Own) (env : τ → List (Str × AV)) (P : τ → Prop) (ρ' : List (Str × AV)) (own' : Own) : Prop := own' = own ∧ ∃ c, Cov ρ' (env c) ∧ P c
theorem turn_ok {τ : Type} {env : τ → List (Str × AV)} {P : Nat → τ → Prop} {m₀ : Str → Option Value} {oe₀ led own2 nx0 : Led} {s₁ s₂ : Shared} {i : Nat} {fl : Flow} {Q : Flow → Shared → Prop}
    (hcl : C.cl = []) (P₀ : Part C ρ own m₀ oe₀ led) (hn₀ : (ρ.map (·.1)).Nodup) (hst : ∀ c, Stays ρ own (env c)) (hadr : nx0.map (·.1) = (oe₀ ++ led).map (·.1)) (hN : ∀ p ∈ N0, p ∈ led)
    (q : BlPost C (led ++ own2) s₁ (Turn own env (P (i + 1))) R fl s₂)
    (hQ : ∀ v s', BlPost C N0 s₁ K R (.ret v) s' → Q (.ret v) s') : InvPostN C.g C.L (LJ C own led env P (i + 1)) own2 (nx0.map (·.1)) s₁ Q fl s₂ := by
  cases fl with
  | ret v =>
    exact hQ v _ (q.sub fun p hp => List.mem_append_left _ (hN p hp))
  | brk => exact q.elim
  | cont => exact q.elim
  | next =>
    obtain ⟨ρ', own', h', tk, m', led', rfl, ⟨h0, hnd, F', oe', N', P'⟩, rfl, c, hcov, hp⟩ := q
    have P2 := P'.cov hnd hcov (hst c).2
    have P3 := Part.shrink hcl P₀ hn₀ P2 (hst c) fun p hp => h0 p (List.mem_append_left _ hp)
    refine InvEndN.intro F' (led_sub N' (news := oe' ++ led') fun p hp => hp) ⟨c, oe', rfl, P3, hp⟩ ?_ (fun p hp => ?_) (fun p hp => List.mem_append_right _ (h0 p (List.mem_append_right _ hp)))
    · rw [hadr, List.map_append, List.map_append, P3.adr, P₀.adr]
    · exact (List.mem_append.mp hp).elim (fun h => List.mem_append_left _ h) fun h => List.mem_append_right _ (h0 p (List.mem_append_left _ h))
/-- one turn, entered -/
theorem turn_in {τ : Type} {env : τ → List (Str × AV)} {c : τ} {x : Str} {v : Value} {a : AV} {ρb : List (Str × AV)} {m₁ : Str → Option Value} {oe led own2 nx0 : Led} {h : Heap} (hn : ((env c).map (·.1)).Nodup) (P : Part C (env c) own m₁ oe led) (hp : Put (env c) x a ρb) (hx : C.env.kindOf x = some .local) (hv : ∀ led, VR led a v) (ho : OwnNe own x)
    (hadr : nx0.map (·.1) = (oe ++ led).map (·.1)) (hoff : OwnOff own2 (nx0.map (·.1))) (F : Fr C.g C.L h (fun y => if y = x then some v else m₁ y)) (N : News C.g C.L h ((oe ++ led) ++ own2)) : SRel C (led ++ own2) ρb own h (fun y => if y = x then some v else m₁ y) (led ++ own2) :=
  ⟨fun _ h => h, by rw [hp.names.1]; exact hn, F, oe, by rw [← List.append_assoc]; exact N, (Part.put hn P hp hx (hv led) ho).more fun l hl p hp => hoff p hp l (by rw [hadr, List.map_append]; exact List.mem_append_left _ hl)⟩
/-- an expression makes a range -/
def RangeEv (C : Cx) (ρ : List (Str × AV)) (e : Expr) (a b st : Int) : Prop :=
  (∀ x, foldedSetIterable e C.env x = pure x) ∧ ∀ (s : Shared) m led, Fr C.g C.L s.heap m → News C.g C.L s.heap led → Envs C ρ m led →
    wpAny (model PR C.wd) C.A (eval e C.env) (fun v s' => ∃ r h' tk t u w, v = .ref r ∧ s' = { s with heap := h', toks := tk } ∧ IsRange h' r a b st t u w ∧ Fr C.g C.L h' m ∧ News C.g C.L h' led) (fun _ _ => False) s
theorem range_of {as : List AV} {es : List Expr} {a b st : Int} (hb : isBuiltin C.wd "range" (.type "range")) (hx : C.env.kindOf "range" = some .globalImplicit) (he : EvA C ρ (e :: es) as)
    (h : ∀ (s : Shared) m led vs, Fr C.g C.L s.heap m → News C.g C.L s.heap led → VRs led as vs → wpAny (model PR C.wd) C.A (call (.type "range") vs) (fun v s' => ∃ r h' tk t u w, v = .ref r ∧ s' = { s with heap := h', toks := tk } ∧ IsRange h' r a b st t u w ∧ Fr C.g C.L h' m ∧ News C.g C.L h' led) (fun _ _ => False) s) :
    RangeEv C ρ (.Call (.Name "range" p1) (e :: es) [] pos) a b st := by
  refine ⟨fun _ => rfl, fun s m led F N V => Call_ (name_bi hb F hx (callWith_type1 (he.use F N V fun vs h' tk led' F' N' i' q => ?_) (he.inv.choose_spec.choose_spec.2.1.1.star es) he.inv.choose_spec.choose_spec.2.2.any))⟩
  refine wpAny_mono (h _ m led' vs F' N' q) (fun v s' z => ?_) fun _ _ x => x
  obtain ⟨r, h2, tk2, t, u, w, rfl, rfl, hr, F2, N2⟩ := z
  exact ⟨r, h2, tk2, t, u, w, rfl, rfl, hr, F2, led_sub N2 i'⟩
theorem range_1 {n : Int} (hb : isBuiltin C.wd "range" (.type "range")) (hx : C.env.kindOf "range" = some .globalImplicit) (he : Ev C ρ e (.int n)) : RangeEv C ρ (.Call (.Name "range" p1) [e] [] pos) ((0 : Nat) : Int) n 1 :=
  range_of hb hx (as := [.int n]) ⟨he, trivial⟩ fun s m led vs F N q => by
    obtain ⟨v, rfl, u, rfl⟩ := q.i1
    exact range1_rows F N fun h' tk t u w hr F' N' _ => ⟨_, h', tk, t, u, w, rfl, rfl, hr, F', N'⟩
theorem range_2 {a b : Int} (hb : isBuiltin C.wd "range" (.type "range")) (hx : C.env.kindOf "range" = some .globalImplicit) (h1 : Ev C ρ e1 (.int a)) (h2 : Ev C ρ e2 (.int b)) : RangeEv C ρ (.Call (.Name "range" p1) [e1, e2] [] pos) a b 1 :=
  range_of hb hx (as := [.int a, .int b]) ⟨h1, h2, trivial⟩ fun s m led vs F N q => by
    obtain ⟨v, w, rfl, ⟨t, rfl⟩, u, rfl⟩ := q.i2
    exact range2_rows F N fun h' tk t u w hr F' N' _ => ⟨_, h', tk, t, u, w, rfl, rfl, hr, F', N'⟩
theorem range_3 {e3 : Expr} {a b : Int} (hb : isBuiltin C.wd "range" (.type "range")) (hx : C.env.kindOf "range" = some .globalImplicit) (h1 : Ev C ρ e1 (.int a)) (h2 : Ev C ρ e2 (.int b)) (h3 : Ev C ρ e3 (.int (-1))) : RangeEv C ρ (.Call (.Name "range" p1) [e1, e2, e3] [] pos) a b (-1) :=
  range_of hb hx (as := [.int a, .int b, .int (-1)]) ⟨h1, h2, h3, trivial⟩ fun s m led vs F N q => by
    obtain ⟨v, r, rfl, ⟨t, rfl⟩, q2⟩ := q.inv
    obtain ⟨w, z, rfl, ⟨u, rfl⟩, y, rfl⟩ := q2.i2
    exact range3_rows F N (by decide) (fun h' tk t u w hr F' N' _ => ⟨_, h', tk, t, u, w, rfl, rfl, hr, F', N'⟩) (.inl (PyProof.noPylong_small (by decide)))
end
section
variable {C : Cx} {N0 : Led} {ρ ρ' : List (Str × AV)} {own : Own} {e e1 e2 : Expr} {K : List (Str × AV) → Own → Prop} {R : AV → Prop} {body rest : List Stmt} {pos p1 p2 : Pos} {τ : Type} {env : τ → List (Str × AV)} {P : Nat → τ → Prop} {c₀ : τ} {x : Str}
/-- what every loop is given -/
structure Loop (C : Cx) (ρ : List (Str × AV)) (own : Own) (x : Str) (env : τ → List (Str × AV)) (P : Nat → τ → Prop) (c₀ : τ) : Prop where
  cl : C.cl = []
  kind : C.env.kindOf x = some .local
  ne : OwnNe own x
  cov : Cov ρ (env c₀)
  at0 : P 0 c₀
  stays : ∀ c, Stays ρ own (env c)
  nodup : ∀ c, ((env c).map (·.1)).Nodup
theorem plainFn {C : Cx} : (C.env.scope.kind == .class || (C.env.scope.kind == .module && C.env.locals != C.env.globals)) = false := by
  have := C.hk
  show (C.scope.kind == .class || (C.scope.kind == .module && _)) = false
  rw [this]; rfl
theorem done_in {oe led : Led} {m₁ : Str → Option Value} {h : Heap} {tk : Nat} {s : Shared} {c : τ} (hn : ((env c).map (·.1)).Nodup) (h0 : ∀ p ∈ N0, p ∈ led) (F : Fr C.g C.L h m₁) (N : News C.g C.L h (oe ++ led)) (Pt : Part C (env c) own m₁ oe led) (B : Bl C N0 (env c) own rest K R) :
    wpAny (model PR C.wd) C.A (execs rest C.env) (BlPost C N0 s K R) (fun _ _ => False) { s with heap := h, toks := tk } := B.use ⟨h0, hn, F, oe, N, Pt⟩
theorem bl_forRange {a b st : Int} (n : Nat) (env : τ → List (Str × AV)) (P : Nat → τ → Prop) (c₀ : τ) (hr : RangeEv C ρ e a b st) (hst : (st = 1 ∧ 0 ≤ a ∧ 0 ≤ b ∧ (b - a).toNat = n) ∨ (st = -1 ∧ -1 ≤ a ∧ -1 ≤ b ∧ (a - b).toNat = n)) (ha : a < 2 ^ 20) (hb : b < 2 ^ 20)
    (L : Loop C ρ own x env P c₀)
    (turn : ∀ c (i : Nat), i < n → P i c → ∃ ρb, Put (env c) x (.int (a + (i : Int) * st)) ρb ∧ ∀ N1, Bl C N1 ρb own body (Turn own env (P (i + 1))) R)
    (done : ∀ c, P n c → Bl C N0 (env c) own rest K R) : Bl C N0 ρ own (.For (.Name x p1) e body [] pos :: rest) K R := by
  intro s m led S
  obtain ⟨h0, hn, F, oe, N, Pt⟩ := S
  refine wpAny_execs_cons (For_invVF F L.kind plainFn (wpAny_mono (hr.2 s m _ F N (Pt.full hn)) (fun v s' q => ?_) fun _ _ x => x) hr.1)
  obtain ⟨r, h', tk, t, u, w, rfl, rfl, hR, F', N'⟩ := q
  have hsz : Builtin.Range.rangeSize a b st = (n : Int) := by
    rcases hst with ⟨rfl, _, _, q⟩ | ⟨rfl, _, _, q⟩
    · rw [rangeSize_nat, q]
    · rw [rangeSize_downNat, q]
  have hsm : Builtin.Range.small a b st = true := by
    rcases hst with ⟨rfl, q1, q2, q⟩ | ⟨rfl, q1, q2, q⟩
    · exact small_one (by omega) (by omega) (by omega) (by omega)
    · exact small_down (by omega) (by omega) (by omega) (by omega)
  refine wpAny_pyIter_range hR hsm ?_
  have W : Walks PR C.wd C.A h'.objs.size [h'.objs.size] [h'.objs.size] n (fun i v => i < n ∧ ∃ t, v = .int (a + i * st) t) (fun i h => IsRangeIter h h'.objs.size (a + (i : Nat) * st) ((n : Int) - (i : Nat)) st) := (Walks.range rfl _ a st n).bound
  refine loop_invN (LJ C own led env P) W ?_ ?_ ?_ ?_ (by show IsRangeIter _ _ _ _ _; rw [hsz]; simpa using Heap.get?_push_size _ rfl) (F'.push _) (fun p hp => ⟨Heap.get?_push_of_some _ (N' p hp).1, (N' p hp).2⟩) ⟨c₀, oe, rfl, Pt.cov hn L.cov (L.stays c₀).2, L.at0⟩ ?_ ?_
  · intro hm
    exact absurd F'.ns.lt ((List.mem_singleton.mp hm) ▸ Nat.lt_irrefl _)
  · intro b hb
    rw [List.mem_singleton.mp hb]
    exact next_is_new F'
  · intro p hp hI
    exact absurd (Heap.lt_size (N' p hp).1) ((List.mem_singleton.mp hI) ▸ Nat.lt_irrefl _)
  · intro p hp hI
    exact absurd (Heap.lt_size (N' p hp).1) ((List.mem_singleton.mp hI) ▸ Nat.lt_irrefl _)
  · rintro i v m₁ nx h tk own2 hi ⟨_, t, rfl⟩ hadr hoff ⟨c, oe1, rfl, P1, hp⟩ F₁ N₁
    obtain ⟨ρb, hput, hB⟩ := turn c i hi hp
    have hadr' : (oe1 ++ led).map (·.1) = (oe ++ led).map (·.1) := hadr
    exact wpAny_mono (hB (led ++ own2) _ _ _ (turn_in (nx0 := oe ++ led) (L.nodup c) P1 hput L.kind (fun _ => ⟨t, rfl⟩) L.ne hadr'.symm hoff F₁ N₁)) (fun fl s₂ q => turn_ok (ρ := ρ) (K := K) L.cl Pt hn L.stays rfl h0 q fun v s' q => q.re) fun _ _ x => x
  · rintro m₁ nx h tk ⟨c, oe1, rfl, P1, hp⟩ F₁ N₁
    exact done_in (L.nodup c) h0 F₁ N₁ P1 (done c hp)
/-- up, by places -/
theorem bl_forUp {s n : Nat} (env : τ → List (Str × AV)) (P : Nat → τ → Prop) (c₀ : τ) (hr : RangeEv C ρ e (s : Int) (n : Int) 1) (hs : s < 2 ^ 20) (hn : n < 2 ^ 20) (L : Loop C ρ own x env (fun i => P (s + i)) c₀)
    (turn : ∀ c i, s ≤ i → i < n → P i c → ∃ ρb, Put (env c) x (.int (i : Int)) ρb ∧ ∀ N1, Bl C N1 ρb own body (Turn own env (P (i + 1))) R)
    (done : ∀ c, P (s + (n - s)) c → Bl C N0 (env c) own rest K R) : Bl C N0 ρ own (.For (.Name x p1) e body [] pos :: rest) K R := by
  refine bl_forRange (n - s) env (fun i => P (s + i)) c₀ hr (.inl ⟨rfl, by omega, by omega, by omega⟩) (by omega) (by omega) L (fun c i hi hp => ?_) done
  rw [show (s : Int) + (i : Int) * 1 = ((s + i : Nat) : Int) by omega]
  exact turn c (s + i) (by omega) (by omega) hp
/-- down, by places: `i` of them are left -/
theorem bl_forDown {n : Nat} (env : τ → List (Str × AV)) (P : Nat → τ → Prop) (c₀ : τ) (hr : RangeEv C ρ e ((n : Int) - 1) (-1) (-1)) (hn : n < 2 ^ 20) (L : Loop C ρ own x env (fun i => P (n - i)) c₀)
    (turn : ∀ c i, i < n → P (i + 1) c → ∃ ρb, Put (env c) x (.int (i : Int)) ρb ∧ ∀ N1, Bl C N1 ρb own body (Turn own env (P i)) R)
    (done : ∀ c, P 0 c → Bl C N0 (env c) own rest K R) : Bl C N0 ρ own (.For (.Name x p1) e body [] pos :: rest) K R := by
  refine bl_forRange n env (fun i => P (n - i)) c₀ hr (.inr ⟨rfl, by omega, by omega, by omega⟩) (by omega) (by omega) L (fun c i hi hp => ?_) (fun c hp => done c (Nat.sub_self n ▸ hp))
  rw [show (n : Int) - 1 + (i : Int) * (-1) = ((n - (i + 1) : Nat) : Int) by omega]
  rw [show n - i = n - (i + 1) + 1 by omega] at hp
  exact turn c _ (by omega) hp
/-- an expression to loop over gives a list that the ledger holds -/
def IterL (C : Cx) (N0 : Led) (ρ : List (Str × AV)) (own : Own) (e : Expr) (ns : List Int) : Prop :=
  (∀ x, foldedSetIterable e C.env x = pure x) ∧ ∀ (s : Shared) m led, SRel C N0 ρ own s.heap m led → wpAny (model PR C.wd) C.A (eval e C.env) (fun v s' => ∃ h' tk led' l vs n, s' = { s with heap := h', toks := tk } ∧ SRel C N0 ρ own h' m led' ∧ v = .ref l ∧ (l, W.listOf vs.toArray n) ∈ led' ∧ IntsAre vs ns) (fun _ _ => False) s
theorem iterL_ev {ns : List Int} (he : Ev C ρ e (.list ns)) (hs : ∀ x, foldedSetIterable e C.env x = pure x) : IterL C N0 ρ none e ns :=
  ⟨hs, fun s m led S => S.ev he (.inl rfl) fun v h' tk led' S' ⟨l, vs, n, e, hm, hi⟩ => ⟨h', tk, led', l, vs, n, rfl, S', e, hm, hi⟩⟩
theorem iterL_name (hcl : C.cl = []) {y : Str} {l : Addr} {ns : List Int} (hm : (y, AV.at l ns) ∈ ρ) (hd : (y == ("__debug__" : Str)) = false := by decide) : IterL C N0 ρ own (.Name y p1) ns := by
  refine ⟨fun _ => rfl, fun s m led S => ?_⟩
  obtain ⟨h0, hn, F, oe, N, Pt⟩ := id S
  have hv : C.env.kindOf y = some .local ∧ m y = some (.ref l) ∧ Has led (.ref l) ns := by
    have key : (AV.at l ns = .undef ∨ Knows C m led y (.at l ns)) → C.env.kindOf y = some .local ∧ m y = some (.ref l) ∧ Has led (.ref l) ns := by
      rintro (q | ⟨v, ⟨rfl, hh⟩, ⟨k, e⟩ | ⟨_, c, o, hc, _⟩⟩)
      · cases q
      · exact ⟨k, e, hh⟩
      · rw [hcl] at hc; cases hc
    cases own with
    | none => exact key (Pt.2 y _ hm)
    | some xl =>
      obtain ⟨_, _, ns', _, hmx, _, _, _, _, ho⟩ := Pt
      refine key (ho y _ hm fun q => ?_)
      subst q
      exact AV.noConfusion (nodup_fst hn hm hmx)
  obtain ⟨k, e, l', vs, n, el, hl, hi⟩ := hv
  cases el
  exact nameX_L F e ⟨s.heap, s.toks, led, l, vs, n, rfl, S, rfl, hl, hi⟩ C.hk k hd
theorem bl_forList {ns : List Int} (env : τ → List (Str × AV)) (P : Nat → τ → Prop) (c₀ : τ) (hr : IterL C N0 ρ own e ns) (L : Loop C ρ own x env P c₀)
    (turn : ∀ c (i : Nat) d, ns[i]? = some d → P i c → ∃ ρb, Put (env c) x (.int d) ρb ∧ ∀ N1, Bl C N1 ρb own body (Turn own env (P (i + 1))) R)
    (done : ∀ c, P ns.length c → Bl C N0 (env c) own rest K R) : Bl C N0 ρ own (.For (.Name x p1) e body [] pos :: rest) K R := by
  intro s m led₀ S
  refine wpAny_execs_cons (For_invVF S.2.2.1 L.kind plainFn (wpAny_mono (hr.2 s m led₀ S) (fun v s' q => ?_) fun _ _ x => x) hr.1)
  obtain ⟨h', tk, led, l, vs, nn, rfl, ⟨h0, hn, F', oe, N', Pt⟩, rfl, hl, hi⟩ := q
  refine iter_invNL (LJ C own led env P) rfl (List.mem_append_right _ hl) hi F' N' ⟨c₀, oe, rfl, Pt.cov hn L.cov (L.stays c₀).2, L.at0⟩ ?_ ?_
  · rintro i d t m₁ nx h tk own2 hd hadr hoff hmem ⟨c, oe1, rfl, P1, hp⟩ F₁ N₁
    obtain ⟨ρb, hput, hB⟩ := turn c i d hd hp
    have hadr' : (oe1 ++ led).map (·.1) = (oe ++ led).map (·.1) := hadr
    refine wpAny_mono (hB (led ++ own2) _ _ _ (turn_in (nx0 := oe ++ led) (L.nodup c) P1 hput L.kind (fun _ => ⟨t, rfl⟩) L.ne hadr'.symm hoff F₁ N₁)) (fun fl s₂ q => ?_) fun _ _ x => x
    have z := turn_ok (ρ := ρ) (K := K) L.cl Pt hn L.stays rfl h0 q (Q := fun fl s' => match fl with | .next => wpAny (model PR C.wd) C.A (execs rest C.env) (BlPost C N0 s K R) (fun _ _ => False) s' | f => BlPost C N0 s K R f s') fun v s' q => q.re
    cases fl with
    | ret v => exact z
    | brk => exact z
    | next =>
      obtain ⟨h', tk, m', news', nx, e, F', N', hn, ho, ha, hm⟩ := z
      obtain ⟨c2, oe2, rfl, q⟩ := id hm
      exact ⟨h', tk, m', news', _, e, F', N', hn, ho, ha, List.mem_append_right _ hl, hm⟩
    | cont =>
      obtain ⟨h', tk, m', news', nx, e, F', N', hn, ho, ha, hm⟩ := z
      obtain ⟨c2, oe2, rfl, q⟩ := id hm
      exact ⟨h', tk, m', news', _, e, F', N', hn, ho, ha, List.mem_append_right _ hl, hm⟩
  · rintro m₁ nx h tk _ ⟨c, oe1, rfl, P1, hp⟩ F₁ N₁
    exact done_in (L.nodup c) h0 F₁ N₁ P1 (done c hp)
theorem bl_while (hcl : C.cl = []) {t : Expr} (env : τ → List (Str × AV)) (P : τ → Prop) (μ : τ → Nat) (c₀ : τ) (b : τ → Bool) (hcov : Cov ρ (env c₀)) (h0c : P c₀) (hst : ∀ c, Stays ρ own (env c)) (hnd : ∀ c, ((env c).map (·.1)).Nodup)
    (test : ∀ c, P c → Tr C (env c) t (b c))
    (turn : ∀ c, P c → b c = true → ∀ N1, Bl C N1 (env c) own body (Turn own env (fun c' => P c' ∧ μ c' < μ c)) R)
    (done : ∀ c, P c → b c = false → Bl C N0 (env c) own rest K R) : Bl C N0 ρ own (.While t body [] pos :: rest) K R := by
  intro s m led S
  obtain ⟨h0, hn, F, oe, N, Pt⟩ := S
  refine wpAny_execs_cons (While_inv2 (fun n m nx => ∃ c oe', nx = oe' ++ led ∧ μ c = n ∧ Part C (env c) own m oe' led ∧ P c) F N ⟨c₀, oe, rfl, rfl, Pt.cov hn hcov (hst c₀).2, h0c⟩ ?_)
  rintro n m₁ nx h tk F₁ N₁ ⟨c, oe1, rfl, rfl, P1, hp⟩
  refine (test c hp).use F₁ N₁ (P1.full (hnd c)) fun h2 tk2 led2 F2 N2 i2 _ => ?_
  have N2' := led_sub N2 i2
  cases hb : b c with
  | false =>
    simp only [Bool.false_eq_true, if_false]
    exact done_in (hnd c) h0 F2 N2' P1 (done c hp hb)
  | true =>
    simp only [if_true]
    refine wpAny_mono (turn c hp hb led { s with heap := h2, toks := tk2 } m₁ led ⟨fun _ h => h, hnd c, F2, oe1, N2', P1⟩) (fun fl s₂ q => ?_) fun _ _ x => x
    cases fl with
    | ret v =>
      exact BlPost.re (K := K) (h := h2) (t := tk2) (q.sub h0)
    | brk => exact q.elim
    | cont => exact q.elim
    | next =>
      obtain ⟨ρ', own', h', tk, m', led', rfl, ⟨h0', hnd', F', oe', N', P'⟩, rfl, c', hcov', hp'⟩ := q
      have P2 := P'.cov hnd' hcov' (hst c').2
      have P3 := Part.shrink hcl Pt hn P2 (hst c') h0'
      exact ⟨h', tk, m', oe' ++ led, μ c', rfl, F', led_sub N' (fun p hp => (List.mem_append.mp hp).elim (fun q => List.mem_append_left _ q) fun q => List.mem_append_right _ (h0' p q)), hp'.2, c', oe', rfl, rfl, P3, hp'.1⟩
end
section
variable {C : Cx} {N0 : Led} {ρ ρ' r r' : List (Str × AV)} {own : Own} {e : Expr} {K : List (Str × AV) → Own → Prop} {R : AV → Prop} {rest : List Stmt} {pos p1 : Pos} {y : Str} {a b : AV}
/-! what a walk shows by reckoning: the k-th name -/
theorem mm {k : Nat} {q : Str × AV} (h : ρ[k]? = some q) : q ∈ ρ := List.mem_of_getElem? h
theorem pt {x : Str} : ∀ {ρ : List (Str × AV)} (k : Nat), ρ[k]? = some (x, b) → Put ρ x a (ρ.set k (x, a))
  | [], _, h => by cases h
  | _ :: _, 0, h => by cases h; exact .here
  | _ :: _, k + 1, h => .there (pt k h)
def unAt : List (Str × AV) → Nat → List (Str × AV)
  | [], _ => []
  | p :: r, 0 => (p.1, .undef) :: r
  | p :: r, k + 1 => p :: unAt r k
def undefs : List Nat → List (Str × AV) → List (Str × AV)
  | [], r => r
  | k :: ks, r => undefs ks (unAt r k)
theorem unAt_mem {q : Str × AV} : ∀ {r : List (Str × AV)} {k : Nat}, q ∈ unAt r k → q.2 = .undef ∨ q ∈ r := by
  intro r
  induction r with
  | nil => intro k h; exact nomatch h
  | cons p r ih =>
    intro k h
    cases k with
    | zero => exact (List.mem_cons.mp h).elim (fun e => .inl (e ▸ rfl)) fun h => .inr (.tail _ h)
    | succ k => exact (List.mem_cons.mp h).elim (fun e => .inr (e ▸ .head _)) fun h => (ih h).imp id (.tail _)
theorem cov (us : List Nat) (h : r = undefs us ρ) : Cov ρ r := by
  subst h
  intro y c
  induction us generalizing ρ with
  | nil => exact .inr
  | cons k us ih => exact fun hz => (ih hz).elim .inl unAt_mem
def okShape (p : Str × AV) : Bool := match p.2 with
  | .undef | .int _ | .bool _ | .at _ _ | .raw _ => true
  | _ => false
def atsOf (ρ : List (Str × AV)) : List (Str × AV) := ρ.filter fun p => match p.2 with
  | .at _ _ => true
  | _ => false
theorem atsOf_mem {q : Str × AV} (h : q ∈ r) (hs : okShape q = true) (ha : atsOf r = atsOf ρ) : q.2.scalar = true ∨ ∃ l ns, q.2 = .at l ns ∧ q ∈ ρ := by
  obtain ⟨y, a⟩ := q
  cases a with
  | «at» l ns =>
    have z : (y, AV.at l ns) ∈ atsOf r := List.mem_filter.mpr ⟨h, rfl⟩
    rw [ha] at z
    exact .inr ⟨l, ns, rfl, (List.mem_filter.mp z).1⟩
  | list => cases hs
  | pair => cases hs
  | box => cases hs
  | boxV => cases hs
  | _ => exact .inl rfl
theorem stays0 {τ : Type} {env : τ → List (Str × AV)} (hs : ∀ c, (env c).all okShape = true) (ha : ∀ c, atsOf (env c) = atsOf ρ) (c : τ) : Stays ρ none (env c) :=
  ⟨fun _ _ h => (atsOf_mem h (List.all_eq_true.mp (hs c) _ h) (ha c)).imp id .inr, fun _ _ h => nomatch h⟩
theorem staysL {τ : Type} {env : τ → List (Str × AV)} {x : Str} {l : Addr} {g : τ → List Int} (k : Nat) (hx : ∀ c, (env c)[k]? = some (x, .list (g c))) (hs : ∀ c, ((env c).eraseIdx k).all okShape = true) (ha : ∀ c, atsOf (env c) = atsOf ρ) (c : τ) : Stays ρ (some (x, l)) (env c) := by
  refine ⟨fun y a h => ?_, fun z l2 h => by cases h; exact ⟨_, mm (hx c)⟩⟩
  obtain ⟨j, hj⟩ := List.mem_iff_getElem?.mp h
  by_cases e : j = k
  · rw [e, hx c] at hj; cases hj; exact .inr (.inl ⟨l, rfl⟩)
  · exact (atsOf_mem h (List.all_eq_true.mp (hs c) _ (List.mem_eraseIdx_iff_getElem?.mpr ⟨j, e, hj⟩)) (ha c)).imp id .inr
theorem fa1 {P : List Value → Prop} (h : ∀ a, P [a]) : ∀ vs : List Value, vs.length = 1 → P vs := fun vs hv => by
  obtain ⟨a, rfl⟩ := List.length_eq_one_iff.mp hv; exact h a
theorem faS {P : List Value → Prop} {n : Nat} (h : ∀ a, ∀ vs : List Value, vs.length = n → P (a :: vs)) : ∀ vs : List Value, vs.length = n + 1 → P vs := fun vs hv => by
  cases vs with
  | nil => cases hv
  | cons a r => exact h a r (Nat.succ.inj hv)
theorem bl_retS {P : AV → Prop} (he : EvS C ρ e P) (h : ∀ a, P a → R a) : Bl C N0 ρ own (.Return (some e) pos :: rest) K R := by
  rintro s m led ⟨h0, hn, F, oe, N, Pt⟩
  refine wpAny_execs_cons (wpAny_Return_some (wpAny_mono (he.2 s m _ F N (Pt.full hn)) (fun v s' q => ?_) fun _ _ x => x))
  obtain ⟨led', ⟨h', tk, rfl, F', N', i'⟩, a, hv, hp⟩ := q
  exact ⟨a, C.g, h', tk, m, led', rfl, .refl, F', N', fun p hp => i' p (List.mem_append_right _ (h0 p hp)), hv, h a hp⟩
theorem ev_eq (he : Ev C ρ e a) (h : a = b) : Ev C ρ e b := h ▸ he
theorem evp_no : EvP C ρ none none := trivial
theorem evp {k : Int} (h : Ev C ρ e (.int k)) : EvP C ρ (some e) (some k) := h
theorem Cx.Is.ks {S : Scope} {n : Nat} (I : C.Is S n) {xs : List Str} (h : (xs.all fun x => decide (S.names.lookup x = some .local)) = true) : ∀ x ∈ xs, C.env.kindOf x = some .local := fun x hx => I.k (of_decide_eq_true (List.all_eq_true.mp h x hx))
theorem ev_at {x : Str} {ns : List Int} {j : Nat} (hx : Ev C ρ (.Name x p1) (.list ns)) (he : Ev C ρ e (.int (j : Int))) (h1 : j < ns.length) (hn : ns.length < 2 ^ 20) : Ev C ρ (.Subscript (.Name x p1) e pos) (.int (ns.getD j 0)) :=
  ev_idx hx he (Int.natCast_nonneg j) (Int.ofNat_lt.mpr h1) hn
theorem Cx.Is.sw {S : Scope} {n : Nat} (I : C.Is S n) {ts : List Expr} {z : Sem (Option (List Str))} (h : ∀ q L f cd, swappedStores ts e (envX q S L f cd []) = z) : swappedStores ts e C.env = z := by
  show swappedStores ts e (envX C.qual C.scope C.L C.f C.cdv C.cl) = z
  rw [I.sc, I.nc]; exact h _ _ _ _
theorem ownNe {x z : Str} {l : Addr} (h : x ≠ z) : OwnNe (some (x, l)) z := h
end
section
variable {C : Cx} {N0 : Led} {ρ ρ' : List (Str × AV)} {own own' : Own} {e e1 e2 : Expr} {K K' : List (Str × AV) → Own → Prop} {R : AV → Prop} {rest tb fb b : List Stmt} {pos p1 p1' p2 p3 p4 p5 p6 p7 p8 p9 p10 : Pos} {x : Str} {c : Int} {w n1 n2 : Nat} {ns : List Int}
/-- the k-th name is this, and this is told of it -/
abbrev At (ρ : List (Str × AV)) (k : Nat) (x : Str) (a : AV) : Prop := ρ[k]? = some (x, a)
theorem Bl.mono (h : Bl C N0 ρ own b K R) (hk : ∀ ρ' own', K ρ' own' → K' ρ' own') : Bl C N0 ρ own b K' R := fun s m led S => wpAny_mono (h s m led S) (fun fl s' q => by
  cases fl with
  | next => obtain ⟨a, b, c, d, e, g, r, S2, k⟩ := q; exact ⟨a, b, c, d, e, g, r, S2, hk _ _ k⟩
  | _ => exact q) fun _ _ x => x
theorem bl_ifQ (Q : List (Str × AV) → Prop) {t : Expr} {d : Bool} (ht : Tr C ρ t d) (h1 : d = true → Bl C N0 ρ own tb (fun ρ' own' => own' = own ∧ Q ρ') R) (h2 : d = false → Bl C N0 ρ own fb (fun ρ' own' => own' = own ∧ Q ρ') R)
    (h : ∀ ρ', Q ρ' → Bl C N0 ρ' own rest K R) : Bl C N0 ρ own (.If t tb fb pos :: rest) K R :=
  bl_if ht (fun q => (h1 q).mono fun ρ' _ k => by obtain ⟨rfl, k⟩ := k; exact h ρ' k) fun q => (h2 q).mono fun ρ' _ k => by obtain ⟨rfl, k⟩ := k; exact h ρ' k
theorem aug_shr {a : Int} {t u : Tok} {Q : Value → Shared → Prop} {s : Shared} (h : Q (.int (a / 2 ^ w) s.toks) { s with toks := s.toks + 1 }) : wpAny (model PR C.wd) C.A (inplaceOp .RShift (.int a t) (.int (w : Int) u)) Q (fun _ _ => False) s :=
  irshift_int (Int.natCast_nonneg w) (by rw [Int.toNat_natCast, Int.fdiv_eq_ediv_of_nonneg _ (Int.le_of_lt (kbt_pos w))]; exact h)
abbrev maskV (w : Nat) : AV := .int (1 * 2 ^ ((w : Int)).toNat - 1)
theorem ev_mask (h1 : Ev C ρ e1 (.int c)) (h2 : Ev C ρ e2 (maskV w)) : Ev C ρ (.BinOp e1 .BitAnd e2 pos) (.int (c % 2 ^ w)) := ev_eq (ev_and h1 h2) (by rw [mask_is])
theorem pow1 {w : Nat} : (1 : Int).natAbs < 2 ^ 62 := by decide
theorem ev_base (hw : w ≤ 100000) (h : Ev C ρ e (.int (w : Int))) : Ev C ρ (.BinOp (.Constant (.int 1) n1 p1) .LShift e pos) (.int (1 * 2 ^ ((w : Int)).toNat)) := ev_shl ev_int h (by decide) (Int.natCast_nonneg w) (Int.ofNat_le.mpr hw)
/-- `found.append(x & mask)`, `x >>= w` -/
theorem bl_push {l : Addr} {kf kx km kw : Nat} {pl : Sem Bool} (hf : At ρ kf "found" (.list ns)) (hx : At ρ kx x (.int c)) (hm : At ρ km "mask" (maskV w)) (hw : At ρ kw "w" (.int (w : Int)))
    (hne : kf ≠ kx) (hne2 : kf ≠ kw) (hk : C.env.kindOf x = some .local) (hox : ("found" : Str) ≠ x) (hd : (x == ("__debug__" : Str)) = false) (hn : ns.length < 2 ^ 20)
    (hc : eval (.Call (.Attribute (.Name "found" p1) "append" p2) [.BinOp (.Name x p6) .BitAnd (.Name "mask" p7) p8] [] p3) C.env = (do
      let ov ← eval (.Name "found" p1) C.env
      standAt p2.atName
      let (f, first) ← holding [ov] (getMethod ov "append" pl)
      callWith p3 f first (backTo p3 (starEach [.BinOp (.Name x p6) .BitAnd (.Name "mask" p7) p8] C.env)) []))
    (h : Bl C N0 ((ρ.set kf ("found", .list (ns ++ [c % 2 ^ w]))).set kx (x, .int (c / 2 ^ w))) (some ("found", l)) rest K R) :
    Bl C N0 ρ (some ("found", l)) (.Expr (.Call (.Attribute (.Name "found" p1) "append" p2) [.BinOp (.Name x p6) .BitAnd (.Name "mask" p7) p8] [] p3) p4 :: .AugAssign (.Name x p5) .RShift (.Name "w" pos) p1' :: rest) K R := by
  have hx2 : At (ρ.set kf ("found", .list (ns ++ [c % 2 ^ w]))) kx x (.int c) := (List.getElem?_set_ne hne).trans hx
  have hw2 : At (ρ.set kf ("found", .list (ns ++ [c % 2 ^ w]))) kw "w" (.int (w : Int)) := (List.getElem?_set_ne hne2).trans hw
  exact bl_append (mm hf) (ev_mask (ev_var (mm hx) (by exact AV.noConfusion) hd) (ev_var (mm hm))) (pt kf hf) hn hc (bl_aug (mm hx2) (ev_var (mm hw2)) (fun _ _ _ _ h => aug_shr h) (pt kx hx2) hk hox h)
/-- `if x > 0: found.append(x)`, `return found` -/
theorem bl_carried {l : Addr} {kf kx k : Nat} {T : Int} {pl : Sem Bool} (hf : At ρ kf "found" (.list ns)) (hx : At ρ kx x (.int c)) (hd : (x == ("__debug__" : Str)) = false) (hn : ns.length < 2 ^ 20)
    (hc : eval (.Call (.Attribute (.Name "found" p1) "append" p2) [.Name x p6] [] p3) C.env = (do
      let ov ← eval (.Name "found" p1) C.env
      standAt p2.atName
      let (f, first) ← holding [ov] (getMethod ov "append" pl)
      callWith p3 f first (backTo p3 (starEach [.Name x p6] C.env)) []))
    (h : CInv w k T c ns) (hT : T < 2 ^ (w * (k + 1))) (hl : ∀ j, k = j + 1 → 2 ^ (w * j) ≤ T) :
    Bl C N0 ρ (some ("found", l)) [.If (.Compare (.Name x p4) [.Gt] [.Constant (.int 0) n1 p5] p7) [.Expr (.Call (.Attribute (.Name "found" p1) "append" p2) [.Name x p6] [] p3) p8] [] p9, .Return (some (.Name "found" pos)) p10] K (· = .list (row w T)) := by
  refine bl_if (tr_cmp (ev_var (mm hx) (by exact AV.noConfusion) hd) ev_int cmp_gt) (fun hb => ?_) (fun hb => ?_)
  · exact bl_append (mm hf) (ev_var (mm hx) (by exact AV.noConfusion) hd) (pt kf hf) hn hc (bl_nil (bl_ret (ev_var (pt kf hf).names.2.2) (by rw [h.row1 hT (of_decide_eq_true hb)])))
  · exact bl_nil (bl_ret (ev_var (mm hf)) (by rw [h.row0 hl (of_decide_eq_false hb)]))
theorem ev_pw (h : Ev C ρ e (.int (w : Int))) (hw : w ≤ 100000) : Ev C ρ (.BinOp (.Constant (.int 2) n1 p1) .Pow e pos) (.int (2 ^ w)) := ev_eq (ev_pow ev_int h (by decide) (Int.natCast_nonneg w) (Int.ofNat_le.mpr hw)) (by rw [Int.toNat_natCast])
theorem ev_divN {a b : Nat} (h1 : Ev C ρ e1 (.int (a : Int))) (h2 : Ev C ρ e2 (.int (b : Int))) (hb : 1 ≤ b) (hb2 : b ≤ 100000) : Ev C ρ (.BinOp e1 .FloorDiv e2 pos) (.int ((a / b : Nat) : Int)) :=
  ev_eq (ev_div h1 h2 (Int.ofNat_lt.mpr hb) (Int.lt_of_le_of_lt (Int.ofNat_le.mpr hb2) (by decide))) (by rw [Int.natCast_ediv])
theorem ev_modN {a b : Nat} (h1 : Ev C ρ e1 (.int (a : Int))) (h2 : Ev C ρ e2 (.int (b : Int))) (hb : 1 ≤ b) : Ev C ρ (.BinOp e1 .Mod e2 pos) (.int ((a % b : Nat) : Int)) :=
  ev_eq (ev_mod h1 h2 (Int.ofNat_lt.mpr hb)) (by rw [Int.natCast_emod])
theorem ev_shlN {a : Int} {b : Nat} (h1 : Ev C ρ e1 (.int a)) (h2 : Ev C ρ e2 (.int (b : Int))) (ha : a.natAbs < 2 ^ 62) (hb : b ≤ 100000) : Ev C ρ (.BinOp e1 .LShift e2 pos) (.int (a * 2 ^ b)) :=
  ev_eq (ev_shl h1 h2 ha (Int.natCast_nonneg b) (Int.ofNat_le.mpr hb)) (by rw [Int.toNat_natCast])
theorem ev_shrN {a : Int} {b : Nat} (h1 : Ev C ρ e1 (.int a)) (h2 : Ev C ρ e2 (.int (b : Int))) : Ev C ρ (.BinOp e1 .RShift e2 pos) (.int (a / 2 ^ b)) :=
  ev_eq (ev_shr h1 h2 (Int.natCast_nonneg b)) (by rw [Int.toNat_natCast])
end
section
variable {C : Cx} {N0 : Led} {ρ ρ0 : List (Str × AV)} {e : Expr} {K : List (Str × AV) → Own → Prop} {R : AV → Prop} {body rest : List Stmt} {pos pos' p1 p2 p3 p4 : Pos} {xi xc : Str} {k1 n : Nat} {l z : Addr} {ns : List Int} {ws : List Value} {m : Str → Option Value} {led : Led} {h : Heap}
/-- an enumeration of a list of the ledger, made -/
structure EnumAt (C : Cx) (h : Heap) (z l : Addr) (m : Str → Option Value) (led : Led) (ws : List Value) (n : Nat) : Prop where
  en : IsEnum h (z + 1) z 0 .none
  it : h.IsListIter z l 0
  F : Fr C.g C.L h m
  N : News C.g C.L h led
  hm : (l, W.listOf ws.toArray n) ∈ led
  hz : C.L < z
  lt : ∀ p ∈ led, p.1 < z
theorem enum_call {s : Shared} {Q E : Value → Shared → Prop} (F : Fr C.g C.L s.heap m) (N : News C.g C.L s.heap led) (hm : (l, W.listOf ws.toArray n) ∈ led)
    (k : ∀ h, EnumAt C h s.heap.objs.size l m led ws n → Q (.ref (s.heap.objs.size + 1)) { s with heap := h }) : wpAny (model PR C.wd) C.A (call (.type "enumerate") [.ref l]) Q E s :=
  call_enumerate_list ⟨_, (N _ hm).1, rfl, n, rfl⟩ fun h' hen hit _ hk =>
    k h' ⟨hen, hit, ⟨F.ns.keeps hk, fun b o e => hk b o (F.keep b o e), F.above⟩, fun p hp => ⟨hk _ _ (N p hp).1, (N p hp).2⟩, hm, F.ns.lt, fun p hp => Heap.lt_size (N p hp).1⟩
theorem enum_walk {s : Shared} {Q : Flow → Shared → Prop} (H : EnumAt C s.heap z l m led ws n) (hi : IntsAre ws ns) (J : Nat → (Str → Option Value) → Prop) (h0 : J 0 m)
    (step : ∀ i d t u m₁ h tk own, ns[i]? = some d → J i m₁ → Fr C.g C.L h (fun y => if y = xc then some (.int d u) else if y = xi then some (.int (i : Int) t) else m₁ y) → News C.g C.L h (own ++ led) →
      wpAny (model PR C.wd) C.A (execs body C.env) (LoopStep3 C.g C.L own led (fun m nx => nx = led ∧ J (i + 1) m) { s with heap := h, toks := tk } (fun v s' => Q (.ret v) s') fun s' => Q .next s') (fun _ _ => False) { s with heap := h, toks := tk })
    (done : ∀ h tk m, J ns.length m → Fr C.g C.L h m → News C.g C.L h led → Q .next { s with heap := h, toks := tk }) :
    wpAny (model PR C.wd) C.A (pyIter (.ref (z + 1))) (fun it s₂ => PairAt3 PR C.wd C.A C.g C.env xi xc body Q (fun _ _ => False) it s₂) (fun _ _ => False) s := by
  have hol := (H.N _ H.hm).1
  have hlt := H.lt _ H.hm
  have hw : ∀ b ∈ [z + 1, z], z ≤ b := fun b hb => (List.mem_cons.mp hb).elim (fun q => q ▸ Nat.le_succ z) fun q => Nat.le_of_eq (List.mem_singleton.mp q).symm
  refine wpAny_pyIter_enum H.en ⟨_, _, _, ws.toArray.size, _, _, _, (fun i v0 v1 => ∃ t, v0 = .int i t ∧ ws[i]? = some v1), m, led, (fun i m₁ nx => nx = led ∧ J i m₁), rfl, WalksT.enumerate rfl (z + 1) z l (Nat.succ_ne_self _) (Nat.ne_of_lt (Nat.lt_succ_of_lt hlt)) (Nat.ne_of_lt hlt) ws.toArray, fun i vals hv => ?_, fun hmem => ?_, fun b hb => ?_, fun p hp hb => ?_, ⟨⟨_, H.en⟩, H.it, ⟨_, hol, rfl, n, rfl⟩⟩, H.F, H.N, ⟨rfl, h0⟩, fun i v0 v1 m₁ nx s₁ own hs hil hv hj hadr hown F₁ N₁ => ?_, fun h2 tk2 m' nx F₂ N₂ hadr hj => ?_⟩
  · obtain ⟨t, x, hx, rfl⟩ := hv
    exact ⟨_, _, rfl, t, rfl, List.getElem?_toArray.symm.trans hx⟩
  · rcases List.mem_cons.mp hmem with q | q
    · exact Nat.ne_of_lt (Nat.lt_succ_of_lt H.hz) q
    · rcases List.mem_cons.mp q with q | q
      · exact Nat.ne_of_lt H.hz q
      · exact (H.N _ H.hm).2.1 (List.mem_singleton.mp q).symm
  · exact Heap.get?_none_of_le (Nat.le_trans H.F.above (Nat.le_trans (Nat.le_of_lt H.hz) (hw b hb)))
  · exact Nat.not_lt.mpr (hw _ hb) (H.lt p hp)
  · obtain ⟨hh, tk, rfl⟩ := hs
    obtain ⟨t, rfl, hv⟩ := hv
    obtain ⟨rfl, hj⟩ := hj
    obtain ⟨d, u, rfl, hd⟩ := hi.at i v1 hv
    exact step i d t u m₁ hh tk own hd hj F₁ N₁
  · obtain ⟨rfl, hj⟩ := hj
    rw [List.size_toArray, hi.length] at hj
    exact done h2 tk2 m' hj F₂ N₂
theorem enum_turn {s : Shared} {Qr : Value → Shared → Prop} {Qb : Shared → Prop} (hr : ∀ v s', BlPost C N0 s K R (.ret v) s' → Qr v s') {m₁ : Str → Option Value} {t u : Tok} {i : Nat} {d : Int} {own : Led} {hh : Heap} {tk : Nat} {P : Nat → Prop} (hcl : C.cl = []) (V : Envs C ρ m led) (hn : (ρ.map (·.1)).Nodup) (hst : Stays ρ none ρ0) (hn0 : (ρ0.map (·.1)).Nodup) (hxi : C.env.kindOf xi = some .local) (hxc : C.env.kindOf xc = some .local)
    (hN : ∀ p ∈ N0, p ∈ led) (P1 : Envs C ρ0 m₁ led) (F₁ : Fr C.g C.L hh (fun y => if y = xc then some (.int d u) else if y = xi then some (.int (i : Int) t) else m₁ y)) (N₁ : News C.g C.L hh (own ++ led))
    (hB : ∃ ρ1 ρb, Put ρ0 xi (.int (i : Int)) ρ1 ∧ Put ρ1 xc (.int d) ρb ∧ ∀ N1, Bl C N1 ρb none body (fun ρ' own' => own' = none ∧ Cov ρ' ρ0 ∧ P (i + 1)) R) :
    wpAny (model PR C.wd) C.A (execs body C.env) (LoopStep3 C.g C.L own led (fun m nx => nx = led ∧ Envs C ρ0 m led ∧ P (i + 1)) { s with heap := hh, toks := tk } Qr Qb) (fun _ _ => False) { s with heap := hh, toks := tk } := by
  obtain ⟨ρ1, ρb, ha, hb, hB⟩ := hB
  have q1 := Part.put (own := none) (oe := []) hn0 ⟨rfl, P1⟩ ha hxi (show VR led (.int (i : Int)) (.int i t) from ⟨t, rfl⟩) trivial
  have q2 := Part.put (by rw [ha.names.1]; exact hn0) q1 hb hxc (show VR led (.int d) (.int d u) from ⟨u, rfl⟩) trivial
  refine wpAny_mono (hB (own ++ led) _ _ (own ++ led) ⟨fun _ hp => hp, by rw [hb.names.1, ha.names.1]; exact hn0, F₁, [], N₁, rfl, q2.2.mono fun p hp => List.mem_append_right _ hp⟩) (fun fl s' q => ?_) fun _ _ x => x
  cases fl with
  | ret v => exact hr v _ (BlPost.re (K := K) (h := hh) (t := tk) (q.sub fun p hp => List.mem_append_right _ (hN p hp)))
  | brk => exact q.elim
  | cont => exact q.elim
  | next =>
    obtain ⟨ρ', own', h3, tk3, m3, led3, rfl, ⟨h03, hnd3, F3, oe3, N3, P3⟩, rfl, hcov3, hp3⟩ := q
    have P4 := Part.cov hnd3 P3 hcov3 hst.2
    have P5 := Part.shrink (ρ₀ := ρ) (led := led) (own := none) (m₀ := m) (oe₀ := []) hcl ⟨rfl, V⟩ hn P4 hst fun p hp => h03 p (List.mem_append_right _ hp)
    exact LoopStep2.intro F3 (led_sub N3 fun p hp => List.mem_append_right _ (h03 p hp)) rfl ⟨rfl, P5.2, hp3⟩
theorem forEnum {s : Shared} {led₀ : Led} {E : Value → Shared → Prop} (S : SRel C N0 ρ none s.heap m led₀) (P : Nat → Prop) (hcl : C.cl = []) (hb : isBuiltin C.wd "enumerate" (.type "enumerate")) (hx : C.env.kindOf "enumerate" = some .globalImplicit) (he : Ev C ρ e (.at l ns)) (hxi : C.env.kindOf xi = some .local) (hxc : C.env.kindOf xc = some .local)
    (hcov : Cov ρ ρ0) (hst : Stays ρ none ρ0) (hn0 : (ρ0.map (·.1)).Nodup) (h0 : P 0)
    (turn : ∀ (i : Nat) d, ns[i]? = some d → P i → ∃ ρ1 ρb, Put ρ0 xi (.int (i : Int)) ρ1 ∧ Put ρ1 xc (.int d) ρb ∧ ∀ N1, Bl C N1 ρb none body (fun ρ' own' => own' = none ∧ Cov ρ' ρ0 ∧ P (i + 1)) R)
    (done : P ns.length → ∀ h tk m led, SRel C N0 ρ0 none h m led → wpAny (model PR C.wd) C.A (execs rest C.env) (BlPost C N0 s K R) E { s with heap := h, toks := tk }) :
    wpAny (model PR C.wd) C.A (execs (.For (.Tuple [.Name xi p1, .Name xc p2] k1 p3) (.Call (.Name "enumerate" p4) [e] [] pos) body [] pos' :: rest) C.env) (BlPost C N0 s K R) E s := by
  have V := S.2.2
  obtain ⟨hN, hn, F, oe, N, rfl, V⟩ := S
  refine wpAny_execs_cons (wpAny_mono (E := fun _ _ => False) (Q := fun fl s' => (∃ v, fl = .ret v ∧ BlPost C N0 s K R fl s') ∨ (fl = .next ∧ ∃ h tk m led, s' = { s with heap := h, toks := tk } ∧ SRel C N0 ρ0 none h m led ∧ P ns.length)) ?_ (fun fl s' q => ?_) fun _ _ x => x.elim)
  · refine For_pair3 C.g rfl hxi hxc plainFn (Call_ (name_bi hb F hx (callWith_type1 (EvA.use (show EvA C ρ [e] [.at l ns] from ⟨he, trivial⟩) F N V fun vs h1 t1 led F1 N1 i1 q => ?_) (he.1.star _) rfl))) (fun _ => rfl)
    obtain ⟨v, rfl, rfl, l', ws, n, el, hm, hi⟩ := q.i1
    cases el
    refine enum_call F1 N1 hm fun h2 H => enum_walk (s := { s with heap := h2, toks := t1 }) H hi (fun i m => Envs C ρ0 m led ∧ P i) ⟨(Part.cov (own := none) hn ⟨rfl, V.mono i1⟩ hcov hst.2).2, h0⟩ (fun i d t u m₁ h tk own hd hj F₁ N₁ => ?_) fun h3 tk m hj F₃ N₃ => .inr ⟨rfl, h3, tk, m, led, rfl, ⟨fun p hp => i1 p (hN p hp), hn0, F₃, [], N₃, rfl, hj.1⟩, hj.2⟩
    exact enum_turn (K := K) (s := s) (fun v s' q => .inl ⟨v, rfl, q⟩) hcl (V.mono i1) hn hst hn0 hxi hxc (fun p hp => i1 p (hN p hp)) hj.1 F₁ N₁ (turn i d hd hj.2)
  · rcases q with ⟨v, rfl, q⟩ | ⟨rfl, h, tk, m, led, rfl, S, hp⟩
    · exact q
    · exact done hp h tk m led S
end
theorem fillK (P : Prop) (w : World) (hP : P) (_h : hd.heap_39 w.params = hd.heap_39 w.params ∨ PySem.Challenge.rw_nn0014_01 = PySem.Challenge.rw_nn0014_01) : P := hP
example (w : World) : True := by
  refine fillK _ w trivial ?_
  k_fill; exact .inl rfl
theorem d_normal (wd : World) : isDef wd "normal" 58 := ⟨by k_dflt k_is, by k_dflt k_is, by decide⟩
theorem d_nat_of (wd : World) : isDef wd "nat_of" 65 := ⟨by k_dflt k_is, by k_dflt k_is, by decide⟩
theorem d_is_even (wd : World) : isDef wd "is_even" 72 := ⟨by k_dflt k_is, by k_dflt k_is, by decide⟩
theorem d_compare (wd : World) : isDef wd "compare" 79 := ⟨by k_dflt k_is, by k_dflt k_is, by decide⟩
theorem d_add (wd : World) : isDef wd "add" 86 := ⟨by k_dflt k_is, by k_dflt k_is, by decide⟩
theorem d_sub (wd : World) : isDef wd "sub" 93 := ⟨by k_dflt k_is, by k_dflt k_is, by decide⟩
theorem d_add_limb (wd : World) : isDef wd "add_limb" 100 := ⟨by k_dflt k_is, by k_dflt k_is, by decide⟩
theorem d_sub_limb (wd : World) : isDef wd "sub_limb" 107 := ⟨by k_dflt k_is, by k_dflt k_is, by decide⟩
theorem d_lifted (wd : World) : isDef wd "lifted" 114 := ⟨by k_dflt k_is, by k_dflt k_is, by decide⟩
theorem d_add_at (wd : World) : isDef wd "add_at" 121 := ⟨by k_dflt k_is, by k_dflt k_is, by decide⟩
theorem d_mul_limb (wd : World) : isDef wd "mul_limb" 128 := ⟨by k_dflt k_is, by k_dflt k_is, by decide⟩
theorem d_add_mul (wd : World) : isDef wd "add_mul" 135 := ⟨by k_dflt k_is, by k_dflt k_is, by decide⟩
theorem d_divrem_limb (wd : World) : isDef wd "divrem_limb" 142 := ⟨by k_dflt k_is, by k_dflt k_is, by decide⟩
theorem d_shift_left (wd : World) : isDef wd "shift_left" 149 := ⟨by k_dflt k_is, by k_dflt k_is, by decide⟩
theorem d_shift_right (wd : World) : isDef wd "shift_right" 156 := ⟨by k_dflt k_is, by k_dflt k_is, by decide⟩
theorem d_bits (wd : World) : isDef wd "bits" 163 := ⟨by k_dflt k_is, by k_dflt k_is, by decide⟩
theorem d_bit (wd : World) : isDef wd "bit" 170 := ⟨by k_dflt k_is, by k_dflt k_is, by decide⟩
theorem d_low (wd : World) : isDef wd "low" 177 := ⟨by k_dflt k_is, by k_dflt k_is, by decide⟩
theorem d_split (wd : World) : isDef wd "split" 184 := ⟨by k_dflt k_is, by k_dflt k_is, by decide⟩
theorem d_piece (wd : World) : isDef wd "piece" 191 := ⟨by k_dflt k_is, by k_dflt k_is, by decide⟩
theorem d_trailing (wd : World) : isDef wd "trailing" 198 := ⟨by k_dflt k_is, by k_dflt k_is, by decide⟩
theorem d_law_box (wd : World) : isDef wd "_law_box" 205 := ⟨by k_dflt k_is, by k_dflt k_is, by decide⟩
theorem d_law_take (wd : World) : isDef wd "_law_take" 212 := ⟨by k_dflt k_is, by k_dflt k_is, by decide⟩
theorem d_law_row (wd : World) : isDef wd "_law_row" 219 := ⟨by k_dflt k_is, by k_dflt k_is, by decide⟩
theorem d_law_size (wd : World) : isDef wd "_law_size" 226 := ⟨by k_dflt k_is, by k_dflt k_is, by decide⟩
theorem d_law_number (wd : World) : isDef wd "_law_number" 233 := ⟨by k_dflt k_is, by k_dflt k_is, by decide⟩
theorem d_law_refused (wd : World) : isDef wd "_law_refused" 240 := ⟨by k_dflt k_is, by k_dflt k_is, by decide⟩
theorem d_law_sums_right (wd : World) : isDef wd "_law_sums_right" 247 := ⟨by k_dflt k_is, by k_dflt k_is, by decide⟩
theorem d_law_limb_right (wd : World) : isDef wd "_law_limb_right" 254 := ⟨by k_dflt k_is, by k_dflt k_is, by decide⟩
theorem d_law_bits_right (wd : World) : isDef wd "_law_bits_right" 261 := ⟨by k_dflt k_is, by k_dflt k_is, by decide⟩
theorem b_len (wd : World) : isBuiltin wd "len" (.builtin "len") := ⟨by k_dflt k_is, by boot_by_name, by decide, by decide⟩
theorem b_max (wd : World) : isBuiltin wd "max" (.builtin "max") := ⟨by k_dflt k_is, by boot_by_name, by decide, by decide⟩
theorem b_range (wd : World) : isBuiltin wd "range" (.type "range") := ⟨by k_dflt k_is, by boot_by_name, by decide, by decide⟩
theorem b_int (wd : World) : isBuiltin wd "int" (.type "int") := ⟨by k_dflt k_is, by boot_by_name, by decide, by decide⟩
theorem b_bool (wd : World) : isBuiltin wd "bool" (.type "bool") := ⟨by k_dflt k_is, by boot_by_name, by decide, by decide⟩
theorem b_enumerate (wd : World) : isBuiltin wd "enumerate" (.type "enumerate") := ⟨by k_dflt k_is, by boot_by_name, by decide, by decide⟩
theorem b_list (wd : World) : isBuiltin wd "list" (.type "list") := ⟨by k_dflt k_is, by boot_by_name, by decide, by decide⟩
theorem b_isinstance (wd : World) : isBuiltin wd "isinstance" (.builtin "isinstance") := ⟨by k_dflt k_is, by boot_by_name, by decide, by decide⟩
/-- an exception class of the text -/
structure isExc (wd : World) (x : Str) (c : Addr) : Prop where
  ns : nsIn (hd.heap_39 wd.params) mainGlobals x = some (some (.ref c))
  ex : excIn (hd.heap_39 wd.params) c [.type "Exception", .type "BaseException", .type "object"] "Exception.__new__" = true
  kt : ktsIn (hd.heap_39 wd.params) c "BaseException" = true
theorem x_OutOfRange (wd : World) : isExc wd "OutOfRange" 49 := ⟨by k_dflt k_is, by k_dflt k_exc, by k_dflt kts_isx⟩
theorem x_DivisionByZero (wd : World) : isExc wd "DivisionByZero" 37 := ⟨by k_dflt k_is, by k_dflt k_exc, by k_dflt kts_isx⟩
section
variable {C : Cx} {N0 : Led} {ρ : List (Str × AV)} {rest : List Stmt} {pos np cpos p2 : Pos} {x msg : Str} {cls : Addr} {n : Nat}
/-- raised here, its object just made -/
def RaisedIn (C : Cx) (cls : Addr) (s : Shared) (e : Value) (s' : Shared) : Prop :=
  ∃ e' vs h0 h' tk m led, e = .ref e' ∧ s' = { s with heap := h', toks := tk } ∧ Heap.MadeExcOf h0 h' e' (.ref cls) vs ∧ Fr C.g C.L h0 m ∧ News C.g C.L h0 led ∧ ∀ p ∈ C.news, p ∈ led
theorem Cx.plainEnv (hnc : C.cl = []) : C.env = envOf C.qual C.scope C.L C.f C.cdv := by
  unfold Cx.env
  rw [hnc]; rfl
theorem raise_at {s : Shared} {h : Heap} {tk : Nat} {m : Str → Option Value} {led : Led} {Q : Flow → Shared → Prop} (S : SRel C C.news ρ none h m led) (hnc : C.cl = []) (hc : isExc C.wd x cls) (hx : C.env.kindOf x = some .globalImplicit) (hd : (x == ("__debug__" : Str)) = false) :
    wpAny (model PR C.wd) C.A (execs (.Raise (some (.Call (.Name x np) [.Constant (.str msg) n p2] [] cpos)) none pos :: rest) C.env) Q (RaisedIn C cls s) { s with heap := h, toks := tk } := by
  obtain ⟨h0, hn, F, oe, N, rfl, V⟩ := S
  rw [C.plainEnv hnc] at hx ⊢
  refine wpAny_execs_cons (Raise_own F C.T.g (own_of_in C.X (topRead_of C.T) hc.ns hc.ex) PySem.F.excBase_Exception rfl ?_ rfl rfl C.hk hx hd)
  exact args_cons (wpAny_Constant_str (args_nil ⟨(by simp [sizeLine]), F.keep, fun h' e hx => ⟨e, _, _, h', _, m, led, rfl, rfl, hx, F, N, h0⟩⟩)) rfl
theorem tr_is {t : Expr} {b c : Bool} (h : Tr C ρ t b) (hb : b = c) : Tr C ρ t c := hb ▸ h
theorem raise_if {s : Shared} {m : Str → Option Value} {led : Led} {Q : Flow → Shared → Prop} {t : Expr} {fb more : List Stmt} {pos' : Pos} (ht : Tr C ρ t true) (S : SRel C C.news ρ none s.heap m led) (hnc : C.cl = []) (hc : isExc C.wd x cls) (hx : C.env.kindOf x = some .globalImplicit) (hd : (x == ("__debug__" : Str)) = false) :
    wpAny (model PR C.wd) C.A (execs (.If t (.Raise (some (.Call (.Name x np) [.Constant (.str msg) n p2] [] cpos)) none pos :: more) fb pos' :: rest) C.env) Q (RaisedIn C cls s) s :=
  wpAny_execs_cons (wpAny_If (wpAny_mono (S.tr (Q := fun b s' => b = true ∧ ∃ h tk m led, s' = { s with heap := h, toks := tk } ∧ SRel C C.news ρ none h m led) ht fun h' tk led' S' => ⟨rfl, h', tk, m, led', rfl, S'⟩) (fun b s' q => by
    obtain ⟨rfl, h', tk, m, led', rfl, S'⟩ := q
    exact raise_at S' hnc hc hx hd) fun _ _ x => x.elim))
theorem isFn_of {wd : World} {f : Addr} {name qual : Str} {params : Arguments} {body : List Stmt} {scope : Scope} {dV kV doc pm cdv ct oc : Value} {an od : Option Addr} {osl : Array (Option Value)} (names ls : List Str)
    (ho : List.lookup f (hd.heap_39 wd.params) = some ⟨oc, od, .func (fnOf name qual params body scope dV kV doc pm an cdv ct), osl⟩) (hcd : codeIn (hd.heap_39 wd.params) cdv qual = true)
    (hbind : ∀ vals : List Value, vals.length = names.length → bindArgs (fnOf name qual params body scope dV kV doc pm an cdv ct) ⟨vals, []⟩ = pure (names.zip vals)) (hloc : names.all (fun x => decide (scope.names.lookup x = some .local)) = true)
    (hnd : (names ++ ls).Nodup) (hok : okScope scope = true) : IsFn wd f names ls body scope := ⟨⟨_, _, _, _, _, _, _, _, _, _, _, _, _, ho, hcd, hbind⟩, hloc, hnd, hok⟩
/-- the contract of a def that raises -/
def RDoes (w : World) (f : Addr) (lv : Nat) (cls : Addr) (args : List Value) (Pre : Led → Prop) : Prop :=
  ∀ (dp un : Nat) (gd : Option (List Code)) (cn : Str) (cs : Scope) (a : Addr) (ccd : Value) (cl : List (Str × Addr)) (outer : List Env) (A₀ : Around) (base h₀ : Heap) (L : Addr) (m : Str → Option Value) (news : Led) (s : Shared)
    (p : Program) (loose : List Str) (mean : ExcName → Option Value) (mg mb : Str → Option Value) (Q E : Value → Shared → Prop),
    Below A₀ base outer h₀ → Fr h₀ L s.heap m → (hd.heap_39 w.params).In h₀ → News h₀ L s.heap news → Top p loose mean mg mb h₀ → cs.kind = .function → dp + lv < recursionLimit → un + 8 * lv < cLine →
    Pre news →
    (∀ e t vs G h' tk', RaisedS base G (envX cn cs L a ccd cl :: outer) e (.ref cls) t vs news h' → Fr h₀ L G m → G.UpToSlots h' → E (.ref e) { s with heap := h', toks := tk' }) →
    wpAny (model PR w) (ktrTop dp un gd cn cs L a ccd cl outer) (call (.ref f) args) Q E s
theorem rdoes_of {wd : World} {f : Addr} {lv : Nat} {as : List AV} {names ls : List Str} {body : List Stmt} {scope : Scope} (I : IsFn wd f names ls body scope) (hlen : as.length = names.length) (hlv : 1 ≤ lv)
    (h : ∀ (C : Cx) (la : Nat → Addr), C.Is scope lv → ∀ s m, SRel C C.news (names.zip (ups la as) ++ ls.map fun x => (x, AV.undef)) none s.heap m C.news → wpAny (model PR C.wd) C.A (execs body C.env) (fun _ _ => False) (RaisedIn C cls s) s) : ∀ vals, RDoes wd f lv cls vals fun news => VRs news as vals := by
  intro vals dp un gd cn cs a ccd cl outer A₀ base h₀ L m news s p loose mean mg mb Q E Bl F X N T hkc hd' hu hpre hret
  refine enter I hlen hlv Bl F X N T hkc hd' hu hpre fun C la m' h₁ tk Is hne hwd hb ho htn FG S => ?_
  subst hne hb
  refine wpAny_mono (h C la Is { s with heap := h₁, toks := tk } _ S) (fun _ _ x => x.elim) fun e s' q => ?_
  obtain ⟨e', vs, h0, h', tk', m2, led, rfl, rfl, hx, F2, N2, i2⟩ := q
  have k := leave_raiseS (M := model PR C.wd) (E := fun e s'' => E e s'') (Q := fun _ s'' => E (.ref e') s'') (s' := { s with heap := h', toks := tk' }) (name := C.qual) (scope := C.scope) (a := C.f) (cd := C.cdv) C.Bl hx F2 (led_sub N2 i2) (fun h3 t R _ hs => hret e' t vs C.g h3 tk' (ho ▸ R) FG hs) C.hk
  rw [← C.plainEnv Is.nc, show C.A₀.deeper C.env = C.A from C.hA] at k
  exact k
end
/-- the caller's ground behind a call that turned the frames -/
theorem back_turn {A₀ : Around} {base h₀ g g' h' : Heap} {outer : List Env} {env : Env} {L L' : Addr} {m m' : Str → Option Value} {led' : Led} (B : Below A₀ base outer h₀) (FG : Fr h₀ L g m) (hf : env.frame = some L)
    (T : KtsTurn ((env :: outer).filterMap (·.frame)) g g') (F' : Fr g' L' h' m') (N' : News g' L' h' led') :
    ∃ h₀', KtsTurn (outer.filterMap (·.frame)) h₀ h₀' ∧ Below A₀ base outer h₀' ∧ Fr h₀' L h' m ∧ News h₀' L h' led' := by
  have hin : ∀ b, b ∈ (env :: outer).filterMap (·.frame) → b = L ∨ b ∈ outer.filterMap (·.frame) := fun b hb => by
    rw [List.filterMap_cons, hf] at hb
    exact List.mem_cons.mp hb
  obtain ⟨oL, es, ep, hL, hd, hk, hl⟩ := FG.ns
  obtain ⟨sl, hs⟩ := T.up hL
  obtain ⟨T₁, S₁⟩ := kts_turn_at (h := h') (fs := outer.filterMap (·.frame)) (g := h₀) (fun b hb => ⟨_, (B.frames.mem hb).2.choose_spec.1⟩)
    (fun b o e nm => F'.keep b o (T.other b o (FG.keep b o e) fun q => (hin b q).elim (fun z => by rw [z, kts_self FG] at e; cases e) nm))
    (fun b o e _ => ⟨_, F'.keep _ _ (T.up (FG.keep b o e)).choose_spec⟩)
  refine ⟨_, T₁, ⟨B.stack, fun b o e => T₁.other b o (B.stays b o e) fun hm => ?_, B.frames.of_keeps fun b o e _ => ⟨_, (T₁.up e).choose_spec, rfl⟩⟩, ⟨⟨_, es, ep, F'.keep _ _ hs, hd, hk, hl⟩, S₁, by rw [T₁.size]; exact FG.above⟩, fun p hp => ⟨(N' p hp).1, fun q => ?_, T₁.none_ _ ?_⟩⟩
  · rw [(B.frames.mem hm).1] at e; cases e
  · have := (N' p hp).2.2; rw [q, hs] at this; cases this
  · cases q : h₀.get? p.1 with
    | none => rfl
    | some o =>
      obtain ⟨sl', hs'⟩ := T.up (FG.keep _ _ q)
      have := (N' p hp).2.2
      rw [hs'] at this; cases this
/-- what the base of the frames holds -/
def Dx (C : Cx) : Prop := (hd.heap_39 C.wd.params).In C.base ∧ Top C.p C.loose C.mean C.mg C.mb C.base
/-- the contract of a def behind which the caller's ground may have turned -/
def DoesT (w : World) (f : Addr) (lv : Nat) (args : List Value) (Pre : Led → Prop) (Post : Led → Value → Led → Prop) : Prop :=
  ∀ (dp un : Nat) (gd : Option (List Code)) (cn : Str) (cs : Scope) (a : Addr) (ccd : Value) (cl : List (Str × Addr)) (outer : List Env) (A₀ : Around) (base h₀ : Heap) (L : Addr) (m : Str → Option Value) (news : Led) (s : Shared)
    (p : Program) (loose : List Str) (mean : ExcName → Option Value) (mg mb : Str → Option Value) (Q E : Value → Shared → Prop),
    Below A₀ base outer h₀ → Fr h₀ L s.heap m → (hd.heap_39 w.params).In h₀ → News h₀ L s.heap news → Top p loose mean mg mb h₀ → cs.kind = .function → dp + lv < recursionLimit → un + 8 * lv < cLine →
    (hd.heap_39 w.params).In base → Top p loose mean mg mb base → Pre news →
    (∀ r news' h' tk' h₀', KtsTurn (outer.filterMap (·.frame)) h₀ h₀' → Below A₀ base outer h₀' → Fr h₀' L h' m → News h₀' L h' news' → Post news r news' → Q r { s with heap := h', toks := tk' }) →
    wpAny (model PR w) (ktrTop dp un gd cn cs L a ccd cl outer) (call (.ref f) args) Q E s
def EndT (C : Cx) (P : Value → Led → Prop) (s : Shared) (fl : Flow) (s' : Shared) : Prop :=
  ∃ v g' h' tk m' led', fl = .ret v ∧ s' = { s with heap := h', toks := tk } ∧ KtsTurn (C.outer.filterMap (·.frame)) C.g g' ∧ Fr g' C.L h' m' ∧ News g' C.L h' led' ∧ P v led'
theorem enterT {wd : World} {f : Addr} {lv : Nat} {name qual : Str} {params : Arguments} {body : List Stmt} {scope : Scope} {dV kV doc pm cdv ct oc : Value} {an od : Option Addr} {osl : Array (Option Value)} {vals : List Value} {Pre : Led → Prop} {Post : Led → Value → Led → Prop} (binds : List (Str × Value))
    (ho : List.lookup f (hd.heap_39 wd.params) = some ⟨oc, od, .func (fnOf name qual params body scope dV kV doc pm an cdv ct), osl⟩) (hcd : codeIn (hd.heap_39 wd.params) cdv qual = true)
    (hbind : bindArgs (fnOf name qual params body scope dV kV doc pm an cdv ct) ⟨vals, []⟩ = pure binds) (hkind : (binds.all fun y => scope.names.lookup y.1 == some .local || scope.names.lookup y.1 == some .cell) = true)
    (hnd : ((cellsFrom 0 scope.names []).map (·.1)).Nodup) (hco : scope.isCoroutine = false) (hgen : scope.isGenerator = false) (hk : scope.kind = .function) (hlv : 1 ≤ lv)
    (h : ∀ (C : Cx) cells (s : Shared), C.scope = scope → C.lv = lv → C.cl = cellsFrom (C.L + 1) scope.names [] → C.qual = qual → C.cdv = cdv → C.tn = true → C.wd = wd → Dx C → Fr C.g C.L s.heap (bindL (fun x => scope.names.lookup x) binds fun _ => none) → News C.g C.L s.heap (cells ++ C.news) →
      CellsAre (bindC (fun x => scope.names.lookup x) binds fun _ => none) (cellsFrom (C.L + 1) scope.names []) cells → Pre C.news → wpAny (model PR C.wd) C.A (execs body C.env) (EndT C (Post C.news) s) (fun _ _ => False) s) :
    DoesT wd f lv vals Pre Post := by
  intro dp un gd cn cs a ccd cl outer A₀ base h₀ L m news s p loose mean mg mb Q E B F X N T hkc hd' hu XB TB hpre hret
  obtain ⟨FG, BG, st, _⟩ := groundX (A := ktrTop dp un gd cn cs L a ccd cl outer) (env := envX cn cs L a ccd cl) (R := fun _ _ => True) B F N rfl rfl hkc
  refine wpAny_call (codeAny_call_function (Nat.lt_of_le_of_lt (Nat.le_add_right dp lv) hd') ((X.keeps F.keep) _ _ ho) rfl hco hgen rfl (codeRec_of (X.keeps F.keep) hcd) (BindsTo.of_eq hbind _ _ _ _ ?_))
  refine wpAny_newFunctionEnv_cells hk (kindsX hkind _) fun env' he s' x => ?_
  subst he
  refine ⟨(T.nolimit.keeps F.keep).keeps x.toInCall.keep, codeAny_func ?_⟩
  obtain ⟨h₁, tk, rfl, _⟩ := x.done
  have hk₁ := x.toInCall.keep
  obtain ⟨cells, NC, Y⟩ := Cl.news (h₀ := s.heap) (Nat.le_refl _) fun n c hm => ⟨x.cell n c (lookup_of_mem_nodup (cellsFrom_names scope.names 0 (s.heap.objs.size + 1) [] [] rfl ▸ hnd) hm), x.above n c hm⟩
  have NN : News (hideAll s.heap (news.map (·.1))) s.heap.objs.size h₁ (cells ++ news) := fun p hp => by
    rcases List.mem_append.mp hp with hp | hp
    · refine ⟨(NC p hp).1, (NC p hp).2.1, ?_⟩
      cases q : (hideAll s.heap (news.map (·.1))).get? p.1 with
      | none => rfl
      | some o => have := of_hideAll _ q; rw [(NC p hp).2.2] at this; cases this
    · exact ⟨hk₁ _ _ (N p hp).1, Nat.ne_of_lt (Heap.lt_size (N p hp).1), hideAll_none _ (List.mem_map_of_mem hp)⟩
  refine wpAny_mono (h ⟨wd, lv, qual, scope, f, cdv, _, dp + 1, un + 3, gd, _, _, base, _, s.heap.objs.size, p, loose, mean, mg, mb, news, true, X.keeps st, BG, T.keeps st, rfl, (by omega), (by omega), hk⟩ cells { s with heap := h₁, toks := tk } rfl rfl rfl rfl rfl rfl rfl ⟨XB, TB⟩ ⟨x.toInCall.ns, fun b o e => hk₁ b o (of_hideAll _ e), Nat.le_of_eq (hideAll_size _ _)⟩ NN Y hpre) (fun fl s' q => ?_) fun _ _ x => x.elim
  obtain ⟨v, g', h', tk', m', led', rfl, rfl, T', F', N', hp⟩ := q
  obtain ⟨h₀', T₁, B₁, F₁, N₁⟩ := back_turn B FG rfl T' F' N'
  exact hret v led' h' tk' h₀' T₁ B₁ F₁ N₁ hp
section
variable {C : Cx} {x : Str} {cls e t : Addr} {vs : List Value} {G : Heap} {s' : Shared} {m : Str → Option Value} {b₀ : Stmt} {suite : List Stmt} {pos np : Pos} {rest : List ExceptHandler} {Q : Flow → Shared → Prop}
/-- caught by a class that a local name holds -/
theorem caught_by (D : Dx C) (hk : ktsIn (hd.heap_39 C.wd.params) cls "BaseException" = true) (R : RaisedS C.base G (C.env :: C.outer) e (.ref cls) t vs C.news s'.heap) (F : Fr C.g C.L G m) (hsm : G.UpToSlots s'.heap)
    (hv : m x = some (.ref cls)) (hx : C.env.kindOf x = some .local) (hd : (x == ("__debug__" : Str)) = false)
    (k : ∀ h' g', KtsTurn (C.outer.filterMap (·.frame)) C.g g' → Fr g' C.L h' m → News g' C.L h' C.news → wpAny (model PR C.wd) (C.A.mark (some (.ref e))) (execs (b₀ :: suite) C.env) Q (fun _ _ => False) { s' with heap := h' }) :
    wpAny (model PR C.wd) C.A (noteFrame (.ref e) C.env) (fun _ s₂ => wpAny (model PR C.wd) C.A (setFlight (.ref e) none) (fun _ s₃ => wpAny (model PR C.wd) C.A (handleBy (.ref e) C.env (.ExceptHandler (some (.Name x np)) none (b₀ :: suite) pos :: rest)) Q (fun _ _ => False) s₃) (fun _ _ => False) s₂) (fun _ _ => False) s' := by
  obtain ⟨⟨B, hB, hBG, hl, hfl, hnew⟩, htup⟩ := R
  have hL : B.get? C.L = none := by
    obtain ⟨_, ⟨L', _, hf, hn', _⟩, _⟩ := hfl.2.2.1
    obtain rfl : C.L = L' := Option.some.inj hf
    exact hn'
  refine wpAny_looks_onW (A := C.A) rfl rfl hfl fun h₄ hheld₄ hsm₄ => wpAny_landsW hheld₄ fun h₅ hheld hsm₅ => ?_
  have sm₅ := hsm.trans (hsm₄.trans hsm₅)
  obtain ⟨g₅, T₅, F₅, K₅⟩ := kts_ground (name := C.qual) (scope := C.scope) (a := C.f) (cd := C.cdv) C.Bl F hBG hheld.1 sm₅
  obtain ⟨ob, hob, hobc⟩ := hheld.there
  obtain ⟨nm, q', N, bs, bm, hdct, sn, sub, ab, col, dd, k0, k1, k2, k3, k5, newId, hC, hbase, hbT⟩ := kts_cls (D.1.keeps K₅.stays) hk
  refine wpAny_handleBy_cons (codeAny_handlers_test (nameX_L F₅ hv ?_ C.hk hx hd)) (by intro q; cases q)
  refine wpAny_excMatches_sub_self (F₅.keep _ _ hC) hob hobc hbase (codeAny_handlers_suite ?_)
  refine lands_againW hheld fun h₆ hfl₆ hsm₆ => ?_
  obtain ⟨g₆, T₆, F₆, K₆⟩ := kts_ground (name := C.qual) (scope := C.scope) (a := C.f) (cd := C.cdv) C.Bl F hBG hfl₆.1 (sm₅.trans hsm₆)
  exact wpAny_passesOwnAt .never (k h₆ g₆ T₆ F₆ fun q hq => ⟨hfl₆.1 _ _ (hl q hq).1, (fun z => by have := (hl q hq).1; rw [z, hL] at this; cases this), T₆.none_ _ (kts_none F.keep (hl q hq).2.1)⟩)
end
section
variable {C : Cx} {cls e t : Addr} {vs : List Value} {G : Heap} {m : Str → Option Value} {led : Led} {s' : Shared} {E : Value → Shared → Prop} {Q : Unit → Shared → Prop}
/-- an exception leaves this frame -/
theorem leave_onX (F : Fr C.g C.L G m) (R : RaisedS C.base G (C.env :: C.outer) e (.ref cls) t vs led s'.heap) (hsm : G.UpToSlots s'.heap) (hi : ∀ p ∈ C.news, p ∈ led)
    (hQ : ∀ h', RaisedS C.base C.g C.outer e (.ref cls) t vs C.news h' → C.g.UpToSlots h' → Q () { s' with heap := h' }) : wpAny (model PR C.wd) C.A (leaving C.env (.ref e)) Q E s' := by
  obtain ⟨⟨B, hB, hBG, hl, hfl, hnew⟩, htup⟩ := R
  exact wpAny_leaves_onW (A := C.A) rfl rfl hfl fun h' x1 x2 => hQ h' ⟨⟨B, hB, fun b o q nm => hBG b o (F.keep b o q) (fun hm => (List.mem_cons.mp (show b ∈ C.L :: C.outer.filterMap (·.frame) from hm)).elim (fun z => by rw [z, kts_self F] at q; cases q) nm),
    fun q hq => ⟨(hl q (hi q hq)).1, kts_none F.keep (hl q (hi q hq)).2.1, (hl q (hi q hq)).2.2⟩, x1, hnew⟩, htup.of_slots x2⟩ ((Heap.UpToSlots.of_keeps F.keep).trans (hsm.trans x2))
end
/-- a lambda of the ledger, what it closes over known -/
def LamIn (f : Addr) (qual : Str) (params : Arguments) (body : Expr) (scope : Scope) (clos : List (Str × Addr)) (ρ : List (Str × AV)) (news : Led) : Prop :=
  ∃ c' ctv pm oc vs t, (f, kla_obj "<lambda>" qual params body scope clos pm c' ctv) ∈ news ∧ (c', oc) ∈ news ∧ oc.data = .fields vs ∧ vs[1]? = some (.str qual t) ∧ ∀ y a, (y, a) ∈ ρ → ∃ c o v, clos.lookup y = some c ∧ (c, o) ∈ news ∧ o.data = .cell (some v) ∧ VR news a v
theorem lam_raises {wd : World} {f g cls : Addr} {lf : Nat} {x qual : Str} {params : Arguments} {e : Expr} {es : List Expr} {as : List AV} {scope : Scope} {clos : List (Str × Addr)} {ρ : List (Str × AV)} {p1 pos : Pos} (hdf : isDef wd x g) (hr : ∀ vals, RDoes wd g lf cls vals fun news => VRs news as vals)
    (he : ∀ C : Cx, EvA C ρ (e :: es) as) (hok : okScope scope = true) (hx : scope.names.lookup x = some .globalImplicit) (hfree : ρ.all (fun q => decide (scope.names.lookup q.1 = some .free) && !(q.1 == ("__classdict__" : Str))) = true)
    (hb : ∀ pm c ct, bindArgs (kla_fn "<lambda>" qual params (.Call (.Name x p1) (e :: es) [] pos) scope clos pm c ct) ⟨[], []⟩ = pure []) : RDoes wd f (lf + 1) cls [] (LamIn f qual params (.Call (.Name x p1) (e :: es) [] pos) scope clos ρ) := by
  intro dp un gd cn cs a ccd cl outer A₀ base h₀ L m news s p loose mean mg mb Q E B F X N T hkc hd' hu hpre hret
  obtain ⟨c', ctv, pm, oc, vs, t, hm, hc, hcd, hcv, hV⟩ := hpre
  obtain ⟨hco, hgen, hk, hcell⟩ := okScope_iff hok
  refine wpAny_call (kla_code B F X N T rfl rfl hkc hm (codeRec_news N hc hcd hcv) (Nat.lt_of_le_of_lt (Nat.le_add_right dp (lf + 1)) hd') (hb _ _ _) (fun _ h => nomatch h) (fun g₁ L' h₁ FG F' N' B' X' T' => ?_) hco hgen hk hcell)
  let C : Cx := ⟨wd, lf + 1, qual, scope, f, .ref c', clos, dp + 1, un + 3, gd, _, _, base, g₁, L', p, loose, mean, mg, mb, news, false, X', B', T', rfl, (by omega), (by omega), hk⟩
  have V : Envs C ρ (fun y => List.lookup y [].reverse) news := fun y b hy => by
    obtain ⟨c, o, v, h1, h2, h3, h4⟩ := hV y b hy
    have q := List.all_eq_true.mp hfree _ hy
    rw [Bool.and_eq_true, Bool.not_eq_true'] at q
    exact .inr ⟨v, h4, .inr ⟨.inr ⟨of_decide_eq_true q.1, q.2⟩, c, o, h1, h2, h3⟩⟩
  refine Call_ (nameX_K F' C.X (topRead_of C.T) hdf.1 (callWith_K (K := hd.heap_39 wd.params) C.X hdf.2.1 (wpAny_mono (EvA.use (C := C) (Q := fun vals s' => ∃ led h' tk, s' = { s with heap := h', toks := tk } ∧ (∀ p ∈ news, p ∈ led) ∧ Fr C.g C.L h' _ ∧ News C.g C.L h' led ∧ VRs led as vals) (he C) F' N' V fun vals h' tk led F2 N2 i2 q => ⟨led, h', tk, rfl, i2, F2, N2, q⟩) (fun vals s' q => ?_) fun _ _ x => x.elim) ((he C).inv.choose_spec.choose_spec.2.1.1.star es) (he C).inv.choose_spec.choose_spec.2.2.any) C.hk hx hdf.2.2)
  obtain ⟨led, h', tk, rfl, i2, F2, N2, q⟩ := q
  refine ⟨C.X.keeps F2.keep, ?_⟩
  refine hr vals C.dp C.un C.gd C.qual C.scope C.f C.cdv C.cl C.outer C.A₀ C.base C.g C.L _ led { s with heap := h', toks := tk } C.p C.loose C.mean C.mg C.mb _ _ C.Bl F2 C.X N2 C.T C.hk (by have := C.hdp; show dp + 1 + lf < _; omega) (by have := C.hun; show un + 3 + 8 * lf < _; omega) q fun e1 t1 vs1 G h3 tk3 R F3 hsm => ?_
  exact leave_onX (C := C) (s' := { s with heap := h3, toks := tk3 }) F3 R hsm i2 fun h4 R4 hs4 => hret e1 t1 vs1 _ h4 tk3 R4 FG hs4
theorem normal_stop {w : Nat} {ns : List Int} {k : Nat} (hd : Dig w ns) (hk : k ≤ ns.length) (hv : val w (ns.take k) = val w ns) (h : ∀ j, k = j + 1 → ns.getD j 0 ≠ 0) : ns.take k = row w (val w ns) := by
  rw [← hv]
  refine (row_last (hd.take k) fun j hj => ?_).eq
  have e : k = j + 1 := by rwa [List.length_take, Nat.min_eq_left hk] at hj
  have := h j e
  subst e
  rwa [List.getD_eq_getElem?_getD, List.getElem?_take_of_lt (Nat.lt_succ_self j), ← List.getD_eq_getElem?_getD]
theorem f_normal (wd : World) (w : Nat) (A : List Int) (hd : Dig w A) (hA : A.length < 2 ^ 20) : Fn wd 58 1 [.list A] (· = .list (row w (val w A))) := by
  refine fn_of ["a"] ["end"] (by k_dflt k_is) (by k_dflt k_is) (fa1 fun _ => rfl) rfl (by decide) rfl rfl (Nat.le_refl _) ?_
  intro C la I
  have hN : (["a", "end"] : List Str).Nodup := by decide
  refine bl_assign (ev_len (b_len _) (ev_varL (mm (k := 0) rfl)) (I.k rfl) (by omega)) (.inl rfl) (pt 1 rfl) (I.k rfl) trivial ?_
  refine bl_while I.nc (τ := Nat) (fun c => [("a", .at (la 0) A), ("end", .int (c : Int))]) (fun c => c ≤ A.length ∧ val w (A.take c) = val w A) (fun c => c) A.length (fun c => decide (0 < (c : Int)) && (decide (A.getD ((c : Int) - 1).toNat 0 = 0) && true)) (cov [] rfl) ⟨Nat.le_refl _, by rw [List.take_length]⟩ (stays0 (fun _ => rfl) (fun _ => rfl)) (fun _ => hN) ?_ ?_ ?_
  · rintro c ⟨hc, hv⟩
    exact (tr_and (tr_cmp (ev_var (mm (k := 1) rfl)) ev_int cmp_gt) fun hb => tr_and (by have h := of_decide_eq_true hb; exact (tr_cmp (ev_idx (ev_varL (mm (k := 0) rfl)) (ev_sub (ev_var (mm (k := 1) rfl)) ev_int) (by omega) (by omega) (by omega)) ev_int cmp_eq)) fun hb => tr_and0)
  · rintro c ⟨hc, hv⟩ hb N1
    simp only [Bool.and_eq_true, decide_eq_true_eq, Bool.and_true] at hb
    refine bl_aug (mm (k := 1) rfl) ev_int (fun _ _ _ _ h => isub_int h) (pt 1 rfl) (I.k rfl) trivial ?_
    obtain ⟨k, rfl⟩ : ∃ k, c = k + 1 := ⟨c - 1, by omega⟩
    have e : ((k + 1 : Nat) : Int) - 1 = (k : Int) := by omega
    rw [e] at hb ⊢
    rw [val_take, show A.getD k 0 = 0 from hb.2, Int.mul_zero, Int.add_zero] at hv
    exact bl_nil ⟨rfl, k, (cov [] rfl), ⟨by omega, hv⟩, Nat.lt_succ_self k⟩
  · rintro c ⟨hc, hv⟩ hb
    refine bl_ret (ev_slice (ev_varL (mm (k := 0) rfl)) evp_no (evp (ev_var (mm (k := 1) rfl))) (by omega) (fun vs hi => kmk_upto hi (by omega)) (fun _ _ => rfl)) ?_
    show AV.list (A.take c) = _
    rw [normal_stop hd hc hv]
    rintro j rfl hz
    refine Bool.false_ne_true (hb.symm.trans ?_)
    simp only [Bool.and_eq_true, decide_eq_true_eq, Bool.and_true]
    refine ⟨by omega, ?_⟩
    rw [show ((j + 1 : Nat) : Int) - 1 = (j : Int) by omega]
    exact hz
def sgn (a b : Int) : Int := if a < b then -1 else if b < a then 1 else 0
theorem val_lt {w : Nat} {A B : List Int} {i : Nat} (hA : Dig w A) (hB : Dig w B) (hv : val w (A.drop (i + 1)) = val w (B.drop (i + 1))) (h : A.getD i 0 < B.getD i 0) : val w A < val w B := by
  have a := val_split w A i
  have b := val_split w B i
  have c := val_drop w A i
  rw [hv] at c
  have d := val_drop w B i
  have e := (hA.take i).bound.2
  have f := (hB.take i).bound.1
  have g := p2mono (Nat.mul_le_mul_left w (List.length_take_le i A))
  have k := Int.mul_le_mul_of_nonneg_left (show val w (A.drop i) + 1 ≤ val w (B.drop i) by omega) (Int.le_of_lt (p2pos (w * i)))
  rw [Int.mul_add, Int.mul_one] at k
  omega
theorem Row.lt_len {w : Nat} {A B : List Int} {a b : Int} (hA : Row w A a) (hB : Row w B b) (h : A.length < B.length) : a < b := by
  cases hl : B.length with
  | zero => omega
  | succ k => exact Int.lt_of_lt_of_le hA.lt (Int.le_trans (p2mono (Nat.mul_le_mul_left w (by omega))) (hB.2.2 k hl))
theorem sgn_lt {a b : Int} (h : a < b) : sgn a b = -1 := if_pos h
theorem sgn_gt {a b : Int} (h : b < a) : sgn a b = 1 := by rw [sgn, if_neg (by omega), if_pos h]
theorem sgn_if {a b : Int} {c : Bool} (h1 : c = true → a < b) (h2 : c = false → b < a) : (if c = true then AV.int (-1) else AV.int 1) = AV.int (sgn a b) := by
  cases c with
  | true => rw [sgn_lt (h1 rfl)]; rfl
  | false => rw [sgn_gt (h2 rfl)]; rfl
theorem f_compare (wd : World) (w : Nat) (A B : List Int) (a b : Int) (rA : Row w A a) (rB : Row w B b) (hA : A.length < 2 ^ 20) (hB : B.length < 2 ^ 20) : Fn wd 79 1 [.list A, .list B] (· = .int (sgn a b)) := by
  refine fn_of ["a", "b"] ["at"] (by k_dflt k_is) (by k_dflt k_is) (faS fun _ => fa1 fun _ => rfl) rfl (by decide) rfl rfl (Nat.le_refl _) ?_
  intro C la I
  have hN : (["a", "b", "at"] : List Str).Nodup := by decide
  refine bl_if (tr_cmp (ev_len (b_len _) (ev_varL (mm (k := 0) rfl)) (I.k rfl) (hA)) (ev_len (b_len _) (ev_varL (mm (k := 1) rfl)) (I.k rfl) (hB)) cmp_ne) (fun hb => bl_ret (ev_ite (tr_cmp (ev_len (b_len _) (ev_varL (mm (k := 0) rfl)) (I.k rfl) (hA)) (ev_len (b_len _) (ev_varL (mm (k := 1) rfl)) (I.k rfl) (hB)) cmp_lt) (fun hb => (ev_neg ev_int)) (fun hb => ev_int)) (sgn_if (fun h => ?_) (fun h => ?_))) (fun hb => bl_nil ?_)
  · exact rA.lt_len rB (Int.ofNat_lt.mp (of_decide_eq_true h))
  · have h1 := of_decide_eq_false h
    have h2 := of_decide_eq_true hb
    exact rB.lt_len rA (by omega)
  have hl : B.length = A.length := by have := of_decide_eq_false hb; omega
  refine bl_forDown (τ := Unit) (n := A.length) (fun _ => [("a", .at (la 0) A), ("b", .at (la 1) B), ("at", .undef)]) (fun k _ => val w (A.drop k) = val w (B.drop k)) () (range_3 (b_range _) (I.k rfl) (ev_sub (ev_len (b_len _) (ev_varL (mm (k := 0) rfl)) (I.k rfl) (hA)) ev_int) (ev_neg ev_int) (ev_neg ev_int)) hA ⟨I.nc, I.k rfl, trivial, (cov [] rfl), ?_, (stays0 (fun _ => rfl) (fun _ => rfl)), fun _ => hN⟩ (fun _ i hi hp => ⟨_, (pt 2 rfl), fun N1 => ?_⟩) (fun _ hp => ?_)
  · show val w (A.drop A.length) = val w (B.drop A.length)
    rw [← hl, List.drop_length, hl, List.drop_length]
  · have hi2 := hl ▸ hi
    refine bl_if (tr_cmp (ev_at (ev_varL (mm (k := 0) rfl)) (ev_var (mm (k := 2) rfl)) hi hA) (ev_at (ev_varL (mm (k := 1) rfl)) (ev_var (mm (k := 2) rfl)) hi2 hB) cmp_ne) (fun hb => bl_ret (ev_ite (tr_cmp (ev_at (ev_varL (mm (k := 0) rfl)) (ev_var (mm (k := 2) rfl)) hi hA) (ev_at (ev_varL (mm (k := 1) rfl)) (ev_var (mm (k := 2) rfl)) hi2 hB) cmp_lt) (fun _ => ev_neg ev_int) (fun _ => ev_int)) (sgn_if (fun h => ?_) (fun h => ?_))) (fun hb => bl_nil (bl_nil ⟨rfl, (), (cov [2] rfl), ?_⟩))
    · have := val_lt rA.dig rB.dig hp (of_decide_eq_true h); rwa [rA.is, rB.is] at this
    · have h1 := of_decide_eq_false h
      have h2 := of_decide_eq_true hb
      have := val_lt rB.dig rA.dig hp.symm (show B.getD i 0 < A.getD i 0 by omega); rwa [rA.is, rB.is] at this
    · show val w (A.drop i) = val w (B.drop i)
      rw [val_drop, val_drop w B, hp, Decidable.byContradiction fun h => of_decide_eq_false hb h]
  · refine bl_ret ev_int ?_
    have e : a = b := by rw [← rA.is, ← rB.is]; exact hp
    rw [e, sgn, if_neg (Int.lt_irrefl _), if_neg (Int.lt_irrefl _)]
theorem f_add (wd : World) (w : Nat) (A₀ B₀ : List Int) (a₀ b₀ : Int) (rA₀ : Row w A₀ a₀) (rB₀ : Row w B₀ b₀) (hA₀ : A₀.length < 2 ^ 20) (hB₀ : B₀.length < 2 ^ 20) (hw : 1 ≤ w) (hw2 : w ≤ 100000) : Fn wd 86 1 [.list A₀, .list B₀, .int (w : Int)] (· = .list (row w (a₀ + b₀))) := by
  refine fn_of ["a", "b", "w"] ["found", "carry", "mask", "at"] (by k_dflt k_is) (by k_dflt k_is) (faS fun _ => faS fun _ => fa1 fun _ => rfl) rfl (by decide) rfl rfl (Nat.le_refl _) ?_
  intro C la I
  have hN : (["a", "b", "w", "found", "carry", "mask", "at"] : List Str).Nodup := by decide
  refine bl_ifQ (fun ρ' => ∃ lA lB A B a b, ρ' = ([("a", .at lA A), ("b", .at lB B), ("w", .int (w : Int)), ("found", .undef), ("carry", .undef), ("mask", .undef), ("at", .undef)] : List (Str × AV)) ∧ Row w A a ∧ Row w B b ∧ A.length < 2 ^ 20 ∧ B.length ≤ A.length ∧ a + b = a₀ + b₀) (tr_cmp (ev_len (b_len _) (ev_varL (mm (k := 0) rfl)) (I.k rfl) (hA₀)) (ev_len (b_len _) (ev_varL (mm (k := 1) rfl)) (I.k rfl) (hB₀)) cmp_lt) (fun hb => bl_tup (names := ["a", "b"]) (as := [.at (la 1) B₀, .at (la 0) A₀]) ⟨ev_var (mm (k := 1) rfl), ev_var (mm (k := 0) rfl), trivial⟩ (.cons (pt 1 rfl) (.cons (pt 0 rfl) .nil)) (I.ks rfl) rfl rfl rfl (I.sw fun _ _ _ _ => rfl) (bl_nil ⟨rfl, _, _, B₀, A₀, _, _, rfl, rB₀, rA₀, hB₀, Nat.le_of_lt (Int.ofNat_lt.mp (of_decide_eq_true hb)), Int.add_comm _ _⟩))
    (fun hb => bl_nil ⟨rfl, _, _, A₀, B₀, _, _, rfl, rA₀, rB₀, hA₀, Nat.le_of_not_lt fun h => of_decide_eq_false hb (Int.ofNat_lt.mpr h), rfl⟩) ?_
  rintro _ ⟨lA, lB, A, B, a, b, rfl, rA, rB, hA, hl, hab⟩
  refine bl_freshT (as := [.int 0, maskV w]) (names := ["carry", "mask"]) fresh_nil ⟨ev_int, (ev_sub (ev_base hw2 (ev_var (mm (k := 2) rfl))) ev_int), trivial⟩ rfl (.cons (pt 5 rfl) (.cons (pt 4 rfl) .nil)) (pt 3 rfl) (I.ks rfl) rfl rfl rfl (I.sw fun _ _ _ _ => rfl) fun l => ?_
  refine bl_forUp (τ := Int × List Int) (s := 0) (n := B.length) (fun c => [("a", .at lA A), ("b", .at lB B), ("w", .int (w : Int)), ("found", .list c.2), ("carry", .int c.1), ("mask", maskV w), ("at", .undef)]) (fun i c => CInv w i (val w (A.take i) + val w (B.take i)) c.1 c.2) (0, []) (range_1 (b_range _) (I.k rfl) (ev_len (b_len _) (ev_varL (mm (k := 1) rfl)) (I.k rfl) (Nat.lt_of_le_of_lt hl hA))) (by decide) (Nat.lt_of_le_of_lt hl hA) ⟨I.nc, I.k rfl, ownNe (by decide), (cov [] rfl), cinv_zero (Int.le_refl _), (staysL 3 (fun _ => rfl) (fun _ => rfl) (fun _ => rfl)), fun _ => hN⟩ (fun c i _ hi hp => ⟨_, (pt 6 rfl), fun N1 => ?_⟩) (fun c hp => ?_)
  · have hi2 := Nat.lt_of_lt_of_le hi hl
    refine bl_aug (mm (k := 4) rfl) (ev_add (ev_at (ev_varL (mm (k := 0) rfl)) (ev_var (mm (k := 6) rfl)) (hi2) (hA)) (ev_at (ev_varL (mm (k := 1) rfl)) (ev_var (mm (k := 6) rfl)) (hi) (Nat.lt_of_le_of_lt hl hA))) (fun _ _ _ _ h => iadd_int h) (pt 4 rfl) (I.k rfl) (ownNe (by decide)) (bl_push (kf := 3) (kx := 4) (km := 5) (kw := 2) rfl rfl rfl rfl (by decide) (by decide) (I.k rfl) (by decide) (by decide) (hp.1 ▸ Nat.lt_trans hi2 hA) rfl (bl_nil ⟨rfl, (_, _), (cov [6] rfl), hp.step (Int.add_nonneg (rA.dig.getD i).1 (rB.dig.getD i).1) rfl ?_⟩))
    rw [val_take, val_take, Int.mul_add]
    exact add4 _ _ _ _
  rw [Nat.zero_add, Nat.sub_zero, take_all, rB.is] at hp
  refine bl_forUp (τ := Int × List Int) (s := B.length) (n := A.length) (fun c => [("a", .at lA A), ("b", .at lB B), ("w", .int (w : Int)), ("found", .list c.2), ("carry", .int c.1), ("mask", maskV w), ("at", .undef)]) (fun i c => CInv w i (val w (A.take i) + b) c.1 c.2) c (range_2 (b_range _) (I.k rfl) (ev_len (b_len _) (ev_varL (mm (k := 1) rfl)) (I.k rfl) (Nat.lt_of_le_of_lt hl hA)) (ev_len (b_len _) (ev_varL (mm (k := 0) rfl)) (I.k rfl) (hA))) (Nat.lt_of_le_of_lt hl hA) hA ⟨I.nc, I.k rfl, ownNe (by decide), (cov [] rfl), hp, (staysL 3 (fun _ => rfl) (fun _ => rfl) (fun _ => rfl)), fun _ => hN⟩ (fun c i _ hi hp => ⟨_, (pt 6 rfl), fun N1 => ?_⟩) (fun c hp => ?_)
  · refine bl_aug (mm (k := 4) rfl) (ev_at (ev_varL (mm (k := 0) rfl)) (ev_var (mm (k := 6) rfl)) (hi) (hA)) (fun _ _ _ _ h => iadd_int h) (pt 4 rfl) (I.k rfl) (ownNe (by decide)) (bl_push (kf := 3) (kx := 4) (km := 5) (kw := 2) rfl rfl rfl rfl (by decide) (by decide) (I.k rfl) (by decide) (by decide) (hp.1 ▸ Nat.lt_trans hi hA) rfl (bl_nil ⟨rfl, (_, _), (cov [6] rfl), hp.step (rA.dig.getD i).1 rfl ?_⟩))
    rw [val_take]
    exact Int.add_right_comm _ _ _
  rw [Nat.add_sub_cancel' hl, take_all, rA.is] at hp
  rw [← hab]
  exact bl_carried (kf := 3) (kx := 4) rfl rfl (by decide) (hp.1 ▸ hA) rfl hp (sum_lt hw rA.lt (Int.le_of_lt (Int.lt_of_lt_of_le rB.lt (p2mono (Nat.mul_le_mul_left w hl))))) fun j hj => le_addR (rA.2.2 j hj) rB.nn
theorem f_add_limb (wd : World) (w : Nat) (A : List Int) (a d₀ : Int) (rA : Row w A a) (hA : A.length < 2 ^ 20) (hd : 0 ≤ d₀ ∧ d₀ < 2 ^ w) (hw : 1 ≤ w) (hw2 : w ≤ 100000) : Fn wd 100 1 [.list A, .int d₀, .int (w : Int)] (· = .list (row w (a + d₀))) := by
  refine fn_of ["a", "limb", "w"] ["found", "mask", "one"] (by k_dflt k_is) (by k_dflt k_is) (faS fun _ => faS fun _ => fa1 fun _ => rfl) rfl (by decide) rfl rfl (Nat.le_refl _) ?_
  intro C la I
  have hN : (["a", "limb", "w", "found", "mask", "one"] : List Str).Nodup := by decide
  refine bl_freshT (as := [maskV w]) (names := ["mask"]) fresh_nil ⟨(ev_sub (ev_base hw2 (ev_var (mm (k := 2) rfl))) ev_int), trivial⟩ rfl (.cons (pt 4 rfl) .nil) (pt 3 rfl) (I.ks rfl) rfl rfl rfl (I.sw fun _ _ _ _ => rfl) fun l => ?_
  refine bl_forList (τ := Int × List Int) (fun c => [("a", .at (la 0) A), ("limb", .int c.1), ("w", .int (w : Int)), ("found", .list c.2), ("mask", maskV w), ("one", .undef)]) (fun i c => CInv w i (val w (A.take i) + d₀) c.1 c.2) (d₀, []) (iterL_name I.nc (mm (k := 0) rfl)) ⟨I.nc, I.k rfl, ownNe (by decide), (cov [] rfl), (Int.zero_add d₀).symm ▸ cinv_zero hd.1, (staysL 3 (fun _ => rfl) (fun _ => rfl) (fun _ => rfl)), fun _ => hN⟩ (fun c i d hi hp => ⟨_, (pt 5 rfl), fun N1 => ?_⟩) (fun c hp => ?_)
  · refine bl_aug (mm (k := 1) rfl) (ev_var (mm (k := 5) rfl)) (fun _ _ _ _ h => iadd_int h) (pt 1 rfl) (I.k rfl) (ownNe (by decide)) (bl_push (kf := 3) (kx := 1) (km := 4) (kw := 2) rfl rfl rfl rfl (by decide) (by decide) (I.k rfl) (by decide) (by decide) (hp.1 ▸ Nat.lt_trans (lt_of_get hi) hA) rfl (bl_nil ⟨rfl, (_, _), (cov [5] rfl), hp.step (rA.dig.of hi).1 rfl ?_⟩))
    rw [val_take' hi]
    exact Int.add_right_comm _ _ _
  rw [take_all, rA.is] at hp
  refine bl_carried (kf := 3) (kx := 1) rfl rfl (by decide) (hp.1 ▸ hA) rfl hp ?_ fun j hj => le_addR (rA.2.2 j hj) hd.1
  cases hk : A.length with
  | zero => rw [show a = 0 by have := rA.is; rw [List.eq_nil_of_length_eq_zero hk] at this; exact this.symm, Int.zero_add, Nat.mul_one]; exact hd.2
  | succ k => rw [← hk]; exact sum_lt hw rA.lt (Int.le_trans (Int.le_of_lt hd.2) (p2mono (Nat.le_mul_of_pos_right w (by omega))))
theorem mul_lt {w k : Nat} {a d : Int} (h0 : 0 ≤ a) (h : a < 2 ^ (w * k)) (hd : 0 ≤ d ∧ d < 2 ^ w) : a * d < 2 ^ (w * (k + 1)) := by
  rw [p2succ]
  exact Int.lt_of_le_of_lt (Int.mul_le_mul_of_nonneg_left (Int.le_of_lt hd.2) h0) (Int.mul_lt_mul_of_pos_right h (p2pos w))
theorem f_mul_limb (wd : World) (w : Nat) (A : List Int) (a d₀ : Int) (rA : Row w A a) (hA : A.length < 2 ^ 20) (hd : 0 ≤ d₀ ∧ d₀ < 2 ^ w) (hw6 : w ≤ 60) : Fn wd 128 1 [.list A, .int d₀, .int (w : Int)] (· = .list (row w (a * d₀))) := by
  refine fn_of ["a", "limb", "w"] ["found", "carry", "mask", "one"] (by k_dflt k_is) (by k_dflt k_is) (faS fun _ => faS fun _ => fa1 fun _ => rfl) rfl (by decide) rfl rfl (Nat.le_refl _) ?_
  intro C la I
  have hw2 := Nat.le_trans hw6 (show 60 ≤ 100000 by decide)
  have hN : (["a", "limb", "w", "found", "carry", "mask", "one"] : List Str).Nodup := by decide
  refine bl_if (tr_cmp (ev_var (mm (k := 1) rfl)) ev_int cmp_eq) (fun hb => bl_ret ev_nil (by rw [show d₀ = 0 from of_decide_eq_true hb, Int.mul_zero, ← Row.nil.eq])) (fun hb => bl_nil ?_)
  have hd1 : 1 ≤ d₀ := by have := of_decide_eq_false hb; omega
  refine bl_freshT (as := [.int 0, maskV w]) (names := ["carry", "mask"]) fresh_nil ⟨ev_int, (ev_sub (ev_base hw2 (ev_var (mm (k := 2) rfl))) ev_int), trivial⟩ rfl (.cons (pt 5 rfl) (.cons (pt 4 rfl) .nil)) (pt 3 rfl) (I.ks rfl) rfl rfl rfl (I.sw fun _ _ _ _ => rfl) fun l => ?_
  refine bl_forList (τ := Int × List Int) (fun c => [("a", .at (la 0) A), ("limb", .int d₀), ("w", .int (w : Int)), ("found", .list c.2), ("carry", .int c.1), ("mask", maskV w), ("one", .undef)]) (fun i c => CInv w i (val w (A.take i) * d₀) c.1 c.2) (0, []) (iterL_name I.nc (mm (k := 0) rfl)) ⟨I.nc, I.k rfl, ownNe (by decide), (cov [] rfl), (Int.zero_mul d₀).symm ▸ cinv_zero (Int.le_refl 0), (staysL 3 (fun _ => rfl) (fun _ => rfl) (fun _ => rfl)), fun _ => hN⟩ (fun c i d hi hp => ⟨_, (pt 6 rfl), fun N1 => ?_⟩) (fun c hp => ?_)
  · refine bl_aug (mm (k := 4) rfl) (ev_mul (ev_var (mm (k := 6) rfl)) (ev_var (mm (k := 1) rfl)) (.inr (abs_lt hd hw6))) (fun _ _ _ _ h => iadd_int h) (pt 4 rfl) (I.k rfl) (ownNe (by decide)) (bl_push (kf := 3) (kx := 4) (km := 5) (kw := 2) rfl rfl rfl rfl (by decide) (by decide) (I.k rfl) (by decide) (by decide) (hp.1 ▸ Nat.lt_trans (lt_of_get hi) hA) rfl (bl_nil ⟨rfl, (_, _), (cov [6] rfl), hp.step (Int.mul_nonneg (rA.dig.of hi).1 hd.1) rfl ?_⟩))
    rw [val_take' hi, Int.add_mul, Int.mul_assoc]
  rw [take_all, rA.is] at hp
  exact bl_carried (kf := 3) (kx := 4) rfl rfl (by decide) (hp.1 ▸ hA) rfl hp (mul_lt rA.nn rA.lt hd) fun j hj => Int.le_trans (rA.2.2 j hj) (le_mulR rA.nn hd1)
theorem half_lt {c : Int} {w : Nat} (hw : 1 ≤ w) (hc : 0 < c) : (c / 2 ^ w).toNat < c.toNat := by
  have h := (divmod2 c w).1
  have h1 := (divmod2 c w).2.1
  have h2 := div2nn (Int.le_of_lt hc) w
  have h3 := Int.mul_le_mul_of_nonneg_right (p2two hw) h2
  omega
theorem nat_turn {w k : Nat} {n c : Int} {ns : List Int} (h : CInv w k n c ns ∧ ∀ j, k = j + 1 → 2 ^ (w * j) ≤ n) (hc : 0 < c) : CInv w (k + 1) n (c / 2 ^ w) (ns ++ [c % 2 ^ w]) ∧ ∀ j, k + 1 = j + 1 → 2 ^ (w * j) ≤ n :=
  ⟨h.1.step (d := 0) (Int.le_refl 0) (Int.add_zero c).symm (by rw [Int.mul_zero, Int.add_zero]), fun j hj => Nat.succ.inj hj ▸ h.1.over hc⟩
theorem f_nat_of (wd : World) (w : Nat) (n : Int) (h0 : 0 ≤ n) (hn : n < 2 ^ 1000) (hw : 1 ≤ w) (hw2 : w ≤ 100000) : Fn wd 65 1 [.int n, .int (w : Int)] (· = .list (row w n)) := by
  refine fn_of ["number", "w"] ["found", "mask"] (by k_dflt k_is) (by k_dflt k_is) (faS fun _ => fa1 fun _ => rfl) rfl (by decide) rfl rfl (Nat.le_refl _) ?_
  intro C la I
  have hN : (["number", "w", "found", "mask"] : List Str).Nodup := by decide
  refine bl_if (tr_cmp (ev_var (mm (k := 0) rfl)) ev_int cmp_lt) (fun hb => absurd (of_decide_eq_true hb) (Int.not_lt.mpr h0)) (fun hb => bl_nil ?_)
  refine bl_freshT (as := [maskV w]) (names := ["mask"]) fresh_nil ⟨(ev_sub (ev_base hw2 (ev_var (mm (k := 1) rfl))) ev_int), trivial⟩ rfl (.cons (pt 3 rfl) .nil) (pt 2 rfl) (I.ks rfl) rfl rfl rfl (I.sw fun _ _ _ _ => rfl) fun l => ?_
  refine bl_while I.nc (τ := Int × List Int) (fun c => [("number", .int c.1), ("w", .int (w : Int)), ("found", .list c.2), ("mask", maskV w)]) (fun c => ∃ k, CInv w k n c.1 c.2 ∧ ∀ j, k = j + 1 → 2 ^ (w * j) ≤ n) (fun c => c.1.toNat) (n, []) (fun c => decide (0 < c.1)) (cov [] rfl) ⟨0, cinv_zero h0, fun _ h => nomatch h⟩ (staysL 2 (fun _ => rfl) (fun _ => rfl) (fun _ => rfl)) (fun _ => hN) (fun c _ => (tr_cmp (ev_var (mm (k := 0) rfl)) ev_int cmp_gt)) ?_ ?_
  · rintro c ⟨k, hp⟩ hb N1
    have hc := of_decide_eq_true hb
    exact bl_push (kf := 2) (kx := 0) (km := 3) (kw := 1) rfl rfl rfl rfl (by decide) (by decide) (I.k rfl) (by decide) (by decide) (hp.1.1 ▸ Nat.lt_trans (hp.1.small hc hw hn) (by decide)) rfl (bl_nil ⟨rfl, (_, _), (cov [] rfl), ⟨_, nat_turn hp hc⟩, half_lt hw hc⟩)
  · rintro c ⟨k, hp⟩ hb
    exact bl_ret (ev_var (mm (k := 2) rfl)) (by rw [hp.1.row0 hp.2 (of_decide_eq_false hb)])
theorem f__law_row (wd : World) (w : Nat) (n : Int) (h0 : 0 ≤ n) (hn : n < 2 ^ 1000) (hw : 1 ≤ w) (hw2 : w ≤ 60) : Fn wd 219 1 [.int n, .int (w : Int)] (· = .list (row w n)) := by
  refine fn_of ["number", "w"] ["found"] (by k_dflt k_is) (by k_dflt k_is) (faS fun _ => fa1 fun _ => rfl) rfl (by decide) rfl rfl (Nat.le_refl _) ?_
  intro C la I
  have hN : (["number", "w", "found"] : List Str).Nodup := by decide
  have hw3 := Nat.le_trans hw2 (show 60 ≤ 100000 by decide)
  have hp62 : (2 : Int) ^ w < 2 ^ 62 := Int.lt_of_le_of_lt (p2mono hw2) (by decide)
  refine bl_fresh fresh_nil (pt 2 rfl) (I.k rfl) fun l => ?_
  refine bl_while I.nc (τ := Int × List Int) (fun c => [("number", .int c.1), ("w", .int (w : Int)), ("found", .list c.2)]) (fun c => ∃ k, CInv w k n c.1 c.2 ∧ ∀ j, k = j + 1 → 2 ^ (w * j) ≤ n) (fun c => c.1.toNat) (n, []) (fun c => decide (0 < c.1)) (cov [] rfl) ⟨0, cinv_zero h0, fun _ h => nomatch h⟩ (staysL 2 (fun _ => rfl) (fun _ => rfl) (fun _ => rfl)) (fun _ => hN) (fun c _ => (tr_cmp (ev_var (mm (k := 0) rfl)) ev_int cmp_gt)) ?_ ?_
  · rintro c ⟨k, hp⟩ hb N1
    have hc := of_decide_eq_true hb
    exact bl_append (mm (k := 2) rfl) (ev_mod (ev_var (mm (k := 0) rfl)) (ev_pw (ev_var (mm (k := 1) rfl)) hw3) (p2pos w)) (pt 2 rfl) (hp.1.1 ▸ Nat.lt_trans (hp.1.small hc hw hn) (by decide)) rfl (bl_assign (ev_div (ev_var (mm (k := 0) rfl)) (ev_pw (ev_var (mm (k := 1) rfl)) hw3) (p2pos w) hp62) (.inr rfl) (pt 0 rfl) (I.k rfl) (ownNe (by decide)) (bl_nil ⟨rfl, (_, _), (cov [] rfl), ⟨_, nat_turn hp hc⟩, half_lt hw hc⟩))
  · rintro c ⟨k, hp⟩ hb
    exact bl_ret (ev_var (mm (k := 2) rfl)) (by rw [hp.1.row0 hp.2 (of_decide_eq_false hb)])
theorem pick_at {A : List Int} {i : Nat} : (if decide ((i : Int) < (A.length : Int)) = true then AV.int (A.getD i 0) else AV.int 0) = AV.int (A.getD i 0) := by
  by_cases h : i < A.length
  · rw [if_pos (decide_eq_true (Int.ofNat_lt.mpr h))]
  · rw [getD_out (Nat.le_of_not_lt h), ite_self]
theorem pick_mul {A : List Int} {i : Nat} {d : Int} : (if decide ((i : Int) < (A.length : Int)) = true then AV.int (A.getD i 0 * d) else AV.int 0) = AV.int (A.getD i 0 * d) := by
  by_cases h : i < A.length
  · rw [if_pos (decide_eq_true (Int.ofNat_lt.mpr h))]
  · rw [getD_out (Nat.le_of_not_lt h), Int.zero_mul, ite_self]
theorem take_over {A : List Int} {k : Nat} (h : A.length ≤ k) : A.take k = A := List.take_of_length_le h
theorem val_le {w : Nat} {A : List Int} {k : Nat} (h : Dig w A) (hk : A.length ≤ k) : val w A < 2 ^ (w * k) := Int.lt_of_lt_of_le h.bound.2 (p2mono (Nat.mul_le_mul_left w hk))
theorem max_is {a b : Nat} : (if (b : Int) > (a : Int) then (b : Int) else (a : Int)) = ((max a b : Nat) : Int) := by
  by_cases h : a < b
  · rw [if_pos (Int.ofNat_lt.mpr h), Nat.max_eq_right (Nat.le_of_lt h)]
  · rw [if_neg (fun q => h (Int.ofNat_lt.mp q)), Nat.max_eq_left (Nat.le_of_not_lt h)]
theorem f_add_mul (wd : World) (w : Nat) (A B : List Int) (a b d₀ : Int) (rA : Row w A a) (rB : Row w B b) (hA : A.length < 2 ^ 10) (hB : B.length < 2 ^ 10) (hd : 0 ≤ d₀ ∧ d₀ < 2 ^ w) (hab : a + b * d₀ < 2 ^ 1000) (hw : 1 ≤ w) (hw6 : w ≤ 60) : Fn wd 135 2 [.list A, .list B, .int d₀, .int (w : Int)] (· = .list (row w (a + b * d₀))) := by
  refine fn_of ["a", "b", "limb", "w"] ["found", "carry", "mask", "at"] (by k_dflt k_is) (by k_dflt k_is) (faS fun _ => faS fun _ => faS fun _ => fa1 fun _ => rfl) rfl (by decide) rfl rfl (by decide) ?_
  intro C la I
  have hw2 := Nat.le_trans hw6 (show 60 ≤ 100000 by decide)
  have hA2 := Nat.lt_trans hA (show 2 ^ 10 < 2 ^ 20 by decide)
  have hB2 := Nat.lt_trans hB (show 2 ^ 10 < 2 ^ 20 by decide)
  have hm : max A.length B.length < 2 ^ 20 := Nat.max_lt.mpr ⟨hA2, hB2⟩
  have hN : (["a", "b", "limb", "w", "found", "carry", "mask", "at"] : List Str).Nodup := by decide
  refine bl_freshT (as := [.int 0, maskV w]) (names := ["carry", "mask"]) fresh_nil ⟨ev_int, (ev_sub (ev_base hw2 (ev_var (mm (k := 3) rfl))) ev_int), trivial⟩ rfl (.cons (pt 6 rfl) (.cons (pt 5 rfl) .nil)) (pt 4 rfl) (I.ks rfl) rfl rfl rfl (I.sw fun _ _ _ _ => rfl) fun l => ?_
  refine bl_forUp (τ := Int × List Int) (s := 0) (n := max A.length B.length) (fun c => [("a", .at (la 0) A), ("b", .at (la 1) B), ("limb", .int d₀), ("w", .int (w : Int)), ("found", .list c.2), ("carry", .int c.1), ("mask", maskV w), ("at", .undef)]) (fun i c => CInv w i (val w (A.take i) + val w (B.take i) * d₀) c.1 c.2) (0, []) (range_1 (b_range _) (I.k rfl) (ev_eq (ev_max (b_max _) (ev_len (b_len _) (ev_varL (mm (k := 0) rfl)) (I.k rfl) (hA2)) (ev_len (b_len _) (ev_varL (mm (k := 1) rfl)) (I.k rfl) (hB2)) (I.k rfl)) (congrArg AV.int max_is))) (by decide) hm ⟨I.nc, I.k rfl, ownNe (by decide), (cov [] rfl), ?_, (staysL 4 (fun _ => rfl) (fun _ => rfl) (fun _ => rfl)), fun _ => hN⟩ (fun c i _ hi hp => ⟨_, (pt 7 rfl), fun N1 => ?_⟩) (fun c hp => ?_)
  · show CInv w 0 (0 + 0 * d₀) 0 []
    rw [Int.zero_mul]
    exact cinv_zero (Int.le_refl 0)
  · refine bl_aug (mm (k := 5) rfl) (ev_add (ev_eq (ev_ite (tr_cmp (ev_var (mm (k := 7) rfl)) (ev_len (b_len _) (ev_varL (mm (k := 0) rfl)) (I.k rfl) (hA2)) cmp_lt) (fun hb => (ev_at (ev_varL (mm (k := 0) rfl)) (ev_var (mm (k := 7) rfl)) (Int.ofNat_lt.mp (of_decide_eq_true hb)) (hA2))) (fun hb => ev_int)) pick_at) (ev_eq (ev_ite (tr_cmp (ev_var (mm (k := 7) rfl)) (ev_len (b_len _) (ev_varL (mm (k := 1) rfl)) (I.k rfl) (hB2)) cmp_lt) (fun hb => (ev_mul (ev_at (ev_varL (mm (k := 1) rfl)) (ev_var (mm (k := 7) rfl)) (Int.ofNat_lt.mp (of_decide_eq_true hb)) (hB2)) (ev_var (mm (k := 2) rfl)) (.inr (abs_lt hd hw6)))) (fun hb => ev_int)) pick_mul)) (fun _ _ _ _ h => iadd_int h) (pt 5 rfl) (I.k rfl) (ownNe (by decide)) (bl_push (kf := 4) (kx := 5) (km := 6) (kw := 3) rfl rfl rfl rfl (by decide) (by decide) (I.k rfl) (by decide) (by decide) (hp.1 ▸ Nat.lt_trans hi hm) rfl (bl_nil ⟨rfl, (_, _), (cov [7] rfl), hp.step (Int.add_nonneg (rA.dig.getD i).1 (Int.mul_nonneg (rB.dig.getD i).1 hd.1)) rfl ?_⟩))
    rw [val_take, val_take, Int.mul_add, Int.add_mul, Int.mul_assoc]
    exact add4 _ _ _ _
  rw [Nat.zero_add, Nat.sub_zero, take_over (Nat.le_max_left _ _), take_over (Nat.le_max_right _ _), rA.is, rB.is] at hp
  refine bl_while I.nc (τ := Int × List Int) (fun c => [("a", .at (la 0) A), ("b", .at (la 1) B), ("limb", .int d₀), ("w", .int (w : Int)), ("found", .list c.2), ("carry", .int c.1), ("mask", maskV w), ("at", .undef)]) (fun c => ∃ k, CInv w k (a + b * d₀) c.1 c.2 ∧ k < 2 ^ 11) (fun c => c.1.toNat) c (fun c => decide (0 < c.1)) (cov [] rfl) ⟨_, hp, Nat.lt_trans (Nat.max_lt.mpr ⟨hA, hB⟩) (by decide)⟩ (staysL 4 (fun _ => rfl) (fun _ => rfl) (fun _ => rfl)) (fun _ => hN) (fun c _ => (tr_cmp (ev_var (mm (k := 5) rfl)) ev_int cmp_gt)) ?_ ?_
  · rintro c ⟨k, hp, _⟩ hb N1
    have hc := of_decide_eq_true hb
    have hk := hp.small hc hw hab
    exact bl_push (kf := 4) (kx := 5) (km := 6) (kw := 3) rfl rfl rfl rfl (by decide) (by decide) (I.k rfl) (by decide) (by decide) (hp.1 ▸ Nat.lt_trans hk (by decide)) rfl (bl_nil ⟨rfl, (_, _), (cov [] rfl), ⟨k + 1, hp.step (d := 0) (Int.le_refl 0) (Int.add_zero _).symm (by rw [Int.mul_zero, Int.add_zero]), Nat.lt_of_le_of_lt hk (by decide)⟩, half_lt hw hc⟩)
  · rintro c ⟨k, hp, hk⟩ hb
    have e : c.1 = 0 := Int.le_antisymm (Int.not_lt.mp (of_decide_eq_false hb)) hp.2.2.1
    have hv := hp.2.2.2
    rw [e, Int.mul_zero, Int.add_zero] at hv
    rw [← hv]
    exact bl_ret (ev_call (f_normal _ w c.2 hp.2.1 (hp.1 ▸ Nat.lt_trans hk (by decide))) (d_normal _) (I.k rfl) (eva (ev_var (mm (k := 4) rfl)) eva0) (I.le rfl)) rfl
theorem ite_int {c : Prop} [Decidable c] {x y : Int} : (if decide c = true then AV.int x else AV.int y) = AV.int (if c then x else y) := by
  by_cases h : c
  · rw [if_pos h, if_pos (decide_eq_true h)]
  · rw [if_neg h, if_neg (fun q => h (of_decide_eq_true q))]
def SInv (w k : Nat) (T c : Int) (ns : List Int) : Prop := ns.length = k ∧ Dig w ns ∧ (0 ≤ c ∧ c ≤ 1) ∧ val w ns - 2 ^ (w * k) * c = T
theorem SInv.step {w k : Nat} {T T' c x y : Int} {ns : List Int} (h : SInv w k T c ns) (hx : 0 ≤ x ∧ x < 2 ^ w) (hy : 0 ≤ y ∧ y < 2 ^ w) (hT : T' = T + 2 ^ (w * k) * (x - y)) :
    SInv w (k + 1) T' (if x - c - y < 0 then 1 else 0) (ns ++ [if x - c - y < 0 then x - c - y + 2 ^ w else x - c - y]) := by
  obtain ⟨h1, h2, h3, h4⟩ := h
  have key : ∀ d e : Int, (0 ≤ d ∧ d < 2 ^ w) → (0 ≤ e ∧ e ≤ 1) → d - 2 ^ w * e = x - c - y → SInv w (k + 1) T' e (ns ++ [d]) := fun d e hd he hde => by
    refine ⟨by rw [List.length_append, h1]; rfl, h2.append (.one hd), he, ?_⟩
    have q : 2 ^ (w * k) * (d - 2 ^ w * e) = 2 ^ (w * k) * ((x - y) - c) := by rw [hde]; congr 1; omega
    rw [val_snoc, h1, p2succ, Int.mul_assoc]
    rw [Int.mul_sub, Int.mul_sub _ (x - y)] at q
    omega
  by_cases hl : x - c - y < 0
  · rw [if_pos hl, if_pos hl]; exact key _ 1 (by omega) (by decide) (by rw [Int.mul_one, Int.add_sub_cancel])
  · rw [if_neg hl, if_neg hl]; exact key _ 0 (by omega) (by decide) (by rw [Int.mul_zero, Int.sub_zero])
theorem SInv.fin {w k : Nat} {T c : Int} {ns : List Int} (h : SInv w k T c ns) (hT : 0 ≤ T) : val w ns = T := by
  obtain ⟨h1, h2, h3, h4⟩ := h
  have b := h2.bound.2
  rw [h1] at b
  have e : c = 0 ∨ c = 1 := by omega
  rcases e with rfl | rfl
  · rwa [Int.mul_zero, Int.sub_zero] at h4
  · rw [Int.mul_one] at h4; omega
theorem sgn_nn {a b : Int} (h : b ≤ a) : ¬ sgn a b < 0 := by
  rw [sgn, if_neg (Int.not_lt.mpr h)]
  by_cases q : b < a
  · rw [if_pos q]; decide
  · rw [if_neg q]; decide
theorem base1 {w : Nat} : AV.int (1 * 2 ^ ((w : Int)).toNat) = AV.int (2 ^ w) := by rw [Int.one_mul, Int.toNat_natCast]
theorem f_sub (wd : World) (w : Nat) (A B : List Int) (a b : Int) (rA : Row w A a) (rB : Row w B b) (hA : A.length < 2 ^ 20) (hB : B.length < 2 ^ 20) (hw2 : w ≤ 100000) (hab : b ≤ a) : Fn wd 93 2 [.list A, .list B, .int (w : Int)] (· = .list (row w (a - b))) := by
  refine fn_of ["a", "b", "w"] ["found", "borrow", "base", "at", "limb"] (by k_dflt k_is) (by k_dflt k_is) (faS fun _ => faS fun _ => fa1 fun _ => rfl) rfl (by decide) rfl rfl (by decide) ?_
  intro C la I
  have hN : (["a", "b", "w", "found", "borrow", "base", "at", "limb"] : List Str).Nodup := by decide
  have hl : B.length ≤ A.length := Nat.le_of_not_lt fun h => Int.not_lt.mpr hab (rA.lt_len rB h)
  refine bl_if (tr_cmp (ev_call (f_compare _ w A B a b rA rB hA hB) (d_compare _) (I.k rfl) (eva (ev_varL (mm (k := 0) rfl)) (eva (ev_varL (mm (k := 1) rfl)) eva0)) (I.le rfl)) ev_int cmp_lt) (fun hb => absurd (of_decide_eq_true hb) (sgn_nn hab)) (fun hb => bl_nil ?_)
  refine bl_freshT (as := [.int 0, .int (2 ^ w)]) (names := ["borrow", "base"]) fresh_nil ⟨ev_int, ev_eq (ev_base hw2 (ev_var (mm (k := 2) rfl))) base1, trivial⟩ rfl (.cons (pt 5 rfl) (.cons (pt 4 rfl) .nil)) (pt 3 rfl) (I.ks rfl) rfl rfl rfl (I.sw fun _ _ _ _ => rfl) fun l => ?_
  refine bl_forUp (τ := Int × List Int) (s := 0) (n := A.length) (fun c => [("a", .at (la 0) A), ("b", .at (la 1) B), ("w", .int (w : Int)), ("found", .list c.2), ("borrow", .int c.1), ("base", .int (2 ^ w)), ("at", .undef), ("limb", .undef)]) (fun i c => SInv w i (val w (A.take i) - val w (B.take i)) c.1 c.2) (0, []) (range_1 (b_range _) (I.k rfl) (ev_len (b_len _) (ev_varL (mm (k := 0) rfl)) (I.k rfl) (hA))) (by decide) hA ⟨I.nc, I.k rfl, ownNe (by decide), (cov [] rfl), ⟨rfl, .nil, ⟨by decide, by decide⟩, rfl⟩, (staysL 3 (fun _ => rfl) (fun _ => rfl) (fun _ => rfl)), fun _ => hN⟩ (fun c i _ hi hp => ⟨_, (pt 6 rfl), fun N1 => ?_⟩) (fun c hp => ?_)
  · refine bl_assign (ev_sub (ev_sub (ev_at (ev_varL (mm (k := 0) rfl)) (ev_var (mm (k := 6) rfl)) (hi) (hA)) (ev_var (mm (k := 4) rfl))) (ev_eq (ev_ite (tr_cmp (ev_var (mm (k := 6) rfl)) (ev_len (b_len _) (ev_varL (mm (k := 1) rfl)) (I.k rfl) (hB)) cmp_lt) (fun hb => (ev_at (ev_varL (mm (k := 1) rfl)) (ev_var (mm (k := 6) rfl)) (Int.ofNat_lt.mp (of_decide_eq_true hb)) (hB))) (fun hb => ev_int)) pick_at)) (.inr rfl) (pt 7 rfl) (I.k rfl) (ownNe (by decide)) (bl_assign (ev_eq (ev_ite (tr_cmp (ev_var (mm (k := 7) rfl)) ev_int cmp_lt) (fun hb => ev_int) (fun hb => ev_int)) ite_int) (.inr rfl) (pt 4 rfl) (I.k rfl) (ownNe (by decide)) (bl_append (mm (k := 3) rfl) (ev_eq (ev_ite (tr_cmp (ev_var (mm (k := 7) rfl)) ev_int cmp_lt) (fun hb => (ev_add (ev_var (mm (k := 7) rfl)) (ev_var (mm (k := 5) rfl)))) (fun hb => (ev_var (mm (k := 7) rfl)))) ite_int) (pt 3 rfl) (hp.1 ▸ Nat.lt_trans hi hA) rfl (bl_nil ⟨rfl, (_, _), (cov [6, 7] rfl), hp.step (rA.dig.getD i) (rB.dig.getD i) ?_⟩)))
    rw [val_take, val_take, Int.mul_sub]
    omega
  rw [Nat.zero_add, Nat.sub_zero, take_all, take_over hl, rA.is, rB.is] at hp
  rw [← hp.fin (Int.sub_nonneg_of_le hab)]
  exact bl_ret (ev_call (f_normal _ w c.2 hp.2.1 (hp.1 ▸ hA)) (d_normal _) (I.k rfl) (eva (ev_var (mm (k := 3) rfl)) eva0) (I.le rfl)) rfl
theorem row_limb {w : Nat} {d : Int} (hd : 0 ≤ d ∧ d < 2 ^ w) : Row w (if 0 < d then [d] else []) d := by
  by_cases h : 0 < d
  · rw [if_pos h]
    exact ⟨.one hd, by simp [val], fun k hk => by rw [← Nat.succ.inj hk]; exact h⟩
  · rw [if_neg h, show d = 0 by omega]; exact .nil
theorem ite_list {c : Prop} [Decidable c] {x y : List Int} : (if decide c = true then AV.list x else AV.list y) = AV.list (if c then x else y) := by
  by_cases h : c
  · rw [if_pos h, if_pos (decide_eq_true h)]
  · rw [if_neg h, if_neg (fun q => h (of_decide_eq_true q))]
theorem f_sub_limb (wd : World) (w : Nat) (A : List Int) (a d₀ : Int) (rA : Row w A a) (hA : A.length < 2 ^ 20) (hd : 0 ≤ d₀ ∧ d₀ < 2 ^ w) (hw2 : w ≤ 100000) (hab : d₀ ≤ a) : Fn wd 107 3 [.list A, .int d₀, .int (w : Int)] (· = .list (row w (a - d₀))) := by
  refine fn_of ["a", "limb", "w"] [] (by k_dflt k_is) (by k_dflt k_is) (faS fun _ => faS fun _ => fa1 fun _ => rfl) rfl (by decide) rfl rfl (by decide) ?_
  intro C la I
  refine bl_ret (ev_call (f_sub _ w A _ a d₀ rA (row_limb hd) hA ?_ hw2 hab) (d_sub _) (I.k rfl) ⟨(ev_varL (mm (k := 0) rfl)), ev_eq (ev_ite (tr_cmp (ev_var (mm (k := 1) rfl)) ev_int cmp_gt) (fun hb => (ev_one (ev_var (mm (k := 1) rfl)))) (fun hb => ev_nil)) ite_list, (ev_var (mm (k := 2) rfl)), trivial⟩ (I.le rfl)) rfl
  split
  · exact (show 1 < 2 ^ 20 by decide)
  · exact (show 0 < 2 ^ 20 by decide)
theorem Row.cat {w : Nat} {X Y : List Int} {y : Int} (hX : Dig w X) (rY : Row w Y y) (h : 0 < y) : Row w (X ++ Y) (val w X + 2 ^ (w * X.length) * y) := by
  refine ⟨hX.append rY.1, by rw [val_append, rY.is], fun k hk => ?_⟩
  cases hl : Y.length with
  | zero => rw [List.eq_nil_of_length_eq_zero hl] at rY; exact absurd (show y = 0 from rY.is.symm) (Int.ne_of_gt h)
  | succ j =>
    rw [List.length_append, hl, ← Nat.add_assoc] at hk
    rw [← Nat.succ.inj hk, Nat.mul_add, p2add]
    exact Int.le_trans (Int.mul_le_mul_of_nonneg_left (rY.2.2 j hl) (Int.le_of_lt (p2pos _))) (Int.le_add_of_nonneg_left hX.bound.1)
theorem Row.pos {w : Nat} {A : List Int} {a : Int} (r : Row w A a) (h : 0 < A.length) : 0 < a := by
  cases hl : A.length with
  | zero => exact absurd hl (Nat.ne_of_gt h)
  | succ k => exact Int.lt_of_lt_of_le (p2pos _) (r.2.2 k hl)
theorem Row.empty {w : Nat} {A : List Int} {a : Int} (r : Row w A a) (h : ¬ 0 < A.length) : A = [] ∧ a = 0 := by
  have e : A = [] := List.eq_nil_of_length_eq_zero (Nat.eq_zero_of_not_pos h)
  subst e
  exact ⟨rfl, r.is.symm⟩
theorem ev_zeros {C : Cx} {ρ : List (Str × AV)} {e : Expr} {n1 : Nat} {pos p1 p2 : Pos} {s : Nat} (h : Ev C ρ e (.int (s : Int))) (hs : s < 2 ^ 20) : Ev C ρ (.BinOp (.List [.Constant (.int 0) n1 p1] p2) .Mult e pos) (.list (List.replicate s 0)) := ev_rep (ev_one ev_int) h (Int.ofNat_lt.mpr hs) (Int.lt_of_lt_of_le (by decide) (Int.natCast_nonneg s))
theorem row_lift {w : Nat} {A : List Int} {a : Int} {s : Nat} (r : Row w A a) : (if (0 : Int) < (A.length : Int) then List.replicate s 0 ++ A else []) = row w (a * 2 ^ (w * s)) := by
  by_cases h : 0 < A.length
  · rw [if_pos (Int.natCast_pos.mpr h)]
    have q := Row.cat (.zeros s) r (r.pos h)
    rw [val_zeros, List.length_replicate, Int.zero_add, Int.mul_comm] at q
    exact q.eq
  · rw [if_neg (fun q => h (Int.natCast_pos.mp q)), (r.empty h).2, Int.zero_mul, ← Row.nil.eq]
theorem f_lifted (wd : World) (w : Nat) (A : List Int) (a : Int) (s : Nat) (rA : Row w A a) (hA : A.length < 2 ^ 10) (hs : s < 2 ^ 10) : Fn wd 114 1 [.list A, .int (s : Int)] (· = .list (row w (a * 2 ^ (w * s)))) := by
  refine fn_of ["a", "spot"] [] (by k_dflt k_is) (by k_dflt k_is) (faS fun _ => fa1 fun _ => rfl) rfl (by decide) rfl rfl (by decide) ?_
  intro C la I
  exact bl_ret (ev_eq (ev_ite (tr_cmp (ev_len (b_len _) (ev_varL (mm (k := 0) rfl)) (I.k rfl) (Nat.lt_trans hA (by decide))) ev_int cmp_gt) (fun _ => ev_cat (ev_zeros (ev_var (mm (k := 1) rfl)) (Nat.lt_trans hs (by decide))) (ev_varL (mm (k := 0) rfl)) (by rw [List.length_replicate]; exact Nat.lt_trans (Nat.add_lt_add hs hA) (by decide))) (fun _ => ev_nil)) ite_list) (by rw [row_lift rA])
theorem Dig.cut {w : Nat} {A : List Int} (h : Dig w A) (k : Nat) : val w A / 2 ^ (w * k) = val w (A.drop k) ∧ val w A % 2 ^ (w * k) = val w (A.take k) :=
  divmodU (val_split w A k) (h.take k).bound.1 (Int.lt_of_lt_of_le (h.take k).bound.2 (p2mono (Nat.mul_le_mul_left w (List.length_take_le k A))))
theorem Row.cut {w : Nat} {A : List Int} {a : Int} (r : Row w A a) (k : Nat) : a / 2 ^ (w * k) = val w (A.drop k) ∧ a % 2 ^ (w * k) = val w (A.take k) := by
  have := r.dig.cut k
  rwa [r.is] at this
theorem Row.drop {w : Nat} {A : List Int} {a : Int} (r : Row w A a) (k : Nat) : Row w (A.drop k) (a / 2 ^ (w * k)) := by
  rw [(r.cut k).1]
  refine row_last (r.dig.drop k) fun j hj => ?_
  rw [List.length_drop] at hj
  rw [List.getD_eq_getElem?_getD, List.getElem?_drop, ← List.getD_eq_getElem?_getD]
  exact Int.ne_of_gt (r.last (k + j) (by omega))
theorem f_add_at (wd : World) (w : Nat) (A B : List Int) (a b : Int) (s : Nat) (rA : Row w A a) (rB : Row w B b) (hA : A.length < 2 ^ 10) (hB : B.length < 2 ^ 10) (hs : s < 2 ^ 10) (hw : 1 ≤ w) (hw2 : w ≤ 100000) : Fn wd 121 2 [.list A, .list B, .int (s : Int), .int (w : Int)] (· = .list (row w (a + b * 2 ^ (w * s)))) := by
  refine fn_of ["a", "b", "spot", "w"] [] (by k_dflt k_is) (by k_dflt k_is) (faS fun _ => faS fun _ => faS fun _ => fa1 fun _ => rfl) rfl (by decide) rfl rfl (by decide) ?_
  intro C la I
  have h10 : (2 : Nat) ^ 10 < 2 ^ 20 := by decide
  have hA2 := Nat.lt_trans hA h10
  have hB2 := Nat.lt_trans hB h10
  refine bl_if (tr_cmp (ev_len (b_len _) (ev_varL (mm (k := 1) rfl)) (I.k rfl) (hB2)) ev_int cmp_eq) (fun hb => ?_) (fun hb => bl_nil ?_)
  · obtain ⟨_, rfl⟩ := rB.empty (fun h => Nat.ne_of_gt h (Int.ofNat_inj.mp (of_decide_eq_true hb)))
    exact bl_ret (ev_slice (ev_varL (mm (k := 0) rfl)) evp_no evp_no (hA2) (fun _ hi => kmk_all hi) (fun _ _ => rfl)) (by rw [Int.zero_mul, Int.add_zero, ← rA.eq])
  have hb0 : 0 < b := rB.pos (Nat.pos_of_ne_zero fun h => of_decide_eq_false hb (congrArg Nat.cast h))
  refine bl_if (tr_cmp (ev_var (mm (k := 2) rfl)) (ev_len (b_len _) (ev_varL (mm (k := 0) rfl)) (I.k rfl) (hA2)) cmp_ge) (fun hb => ?_) (fun hb => bl_nil ?_)
  · have hl : A.length ≤ s := Int.ofNat_le.mp (of_decide_eq_true hb)
    have q := Row.cat (rA.dig.append (.zeros (s - A.length))) rB hb0
    rw [List.length_append, List.length_replicate, Nat.add_sub_cancel' hl, val_append, val_zeros, Int.mul_zero, Int.add_zero, rA.is, Int.mul_comm _ b] at q
    rw [← q.eq]
    refine bl_ret (ev_cat (ev_cat (ev_varL (mm (k := 0) rfl)) (ev_zeros (ev_eq (ev_sub (ev_var (mm (k := 2) rfl)) (ev_len (b_len _) (ev_varL (mm (k := 0) rfl)) (I.k rfl) (hA2))) (by rw [Int.ofNat_sub hl])) (Nat.lt_of_le_of_lt (Nat.sub_le _ _) (Nat.lt_trans hs h10))) ?_) (ev_varL (mm (k := 1) rfl)) ?_) rfl
    · rw [List.length_replicate, Nat.add_sub_cancel' hl]; exact Nat.lt_trans hs h10
    · rw [List.length_append, List.length_replicate, Nat.add_sub_cancel' hl]; exact Nat.lt_trans (Nat.add_lt_add hs hB) (by decide)
  · have hl : s < A.length := Int.ofNat_lt.mp (Int.not_le.mp (of_decide_eq_false hb))
    have e : (A.take s).length = s := by rw [List.length_take, Nat.min_eq_left (Nat.le_of_lt hl)]
    have rS := row_spec hw (Int.add_nonneg (rA.drop s).nn rB.nn)
    have q := Row.cat (rA.dig.take s) rS (Int.lt_of_lt_of_le hb0 (Int.le_add_of_nonneg_left (rA.drop s).nn))
    rw [e, ← (rA.cut s).2, Int.mul_add, ← Int.add_assoc, (divmod2 a (w * s)).1, Int.mul_comm _ b] at q
    rw [← q.eq]
    refine bl_ret (ev_cat (ev_slice (ev_varL (mm (k := 0) rfl)) evp_no (evp (ev_var (mm (k := 2) rfl))) (hA2) (fun _ hi => kmk_upto hi (Int.natCast_nonneg s)) (fun _ _ => rfl)) (ev_call (f_add _ w _ B _ b (rA.drop s) rB (Nat.lt_of_le_of_lt (by rw [List.length_drop]; exact Nat.sub_le _ _) hA2) hB2 hw hw2) (d_add _) (I.k rfl) ⟨(ev_slice (ev_varL (mm (k := 0) rfl)) (evp (ev_var (mm (k := 2) rfl))) evp_no (hA2) (fun _ hi => kmk_from hi (Int.natCast_nonneg s)) (fun _ _ => rfl)), (ev_varL (mm (k := 1) rfl)), (ev_var (mm (k := 3) rfl)), trivial⟩ (I.le rfl)) ?_) rfl
    have z := rS.len (k := max A.length B.length + 1) hw (sum_lt hw (Int.lt_of_le_of_lt (Int.ediv_le_self _ rA.nn) (Int.lt_of_lt_of_le rA.lt (p2mono (Nat.mul_le_mul_left w (Nat.le_max_left _ _))))) (Int.le_of_lt (Int.lt_of_lt_of_le rB.lt (p2mono (Nat.mul_le_mul_left w (Nat.le_max_right _ _))))))
    rw [Int.toNat_natCast, e]
    exact Nat.lt_of_le_of_lt (Nat.add_le_add (Nat.le_of_lt hs) (Nat.le_trans z (Nat.succ_le_succ (Nat.le_of_lt (Nat.max_lt.mpr ⟨hA, hB⟩))))) (by decide)
theorem mod_small {a : Int} {k : Nat} (h0 : 0 ≤ a) (h : a < 2 ^ k) : a % 2 ^ k = a := Int.emod_eq_of_lt h0 h
theorem low_split {x r : Int} {f w : Nat} (h : f ≤ w) : (x + 2 ^ w * r) / 2 ^ f = x / 2 ^ f + 2 ^ (w - f) * r ∧ (x + 2 ^ w * r) % 2 ^ f = x % 2 ^ f := by
  have e : (2 : Int) ^ w * r = 2 ^ f * (2 ^ (w - f) * r) := by rw [← Int.mul_assoc, ← p2add, Nat.add_sub_cancel' h]
  rw [e]
  exact ⟨Int.add_mul_ediv_left _ _ (p2ne f), Int.add_mul_emod_self_left _ _ _⟩
theorem Row.dm {w : Nat} {A : List Int} {a : Int} (r : Row w A a) (n : Nat) : a / 2 ^ n = val w (A.drop (n / w)) / 2 ^ (n % w) ∧ a % 2 ^ n = val w (A.take (n / w)) + 2 ^ (w * (n / w)) * (val w (A.drop (n / w)) % 2 ^ (n % w)) := by
  have e : (2 : Int) ^ n = 2 ^ (w * (n / w)) * 2 ^ (n % w) := by rw [← p2add, Nat.div_add_mod]
  obtain ⟨c1, c2⟩ := r.cut (n / w)
  have h1 := divmod2 (val w (A.drop (n / w))) (n % w)
  have h2 := divmod2 a (w * (n / w))
  rw [c1, c2] at h2
  have h3 := Int.mul_le_mul_of_nonneg_left (Int.add_one_le_of_lt h1.2.2) (Int.le_of_lt (p2pos (w * (n / w))))
  have h4 := Int.mul_nonneg (Int.le_of_lt (p2pos (w * (n / w)))) h1.2.1
  rw [Int.mul_add, Int.mul_one, ← e] at h3
  refine divmodU ?_ (Int.add_nonneg h2.2.1 h4) (by omega)
  have q : 2 ^ (w * (n / w)) * (val w (A.drop (n / w)) % 2 ^ (n % w)) + 2 ^ (w * (n / w)) * (2 ^ (n % w) * (val w (A.drop (n / w)) / 2 ^ (n % w))) = 2 ^ (w * (n / w)) * val w (A.drop (n / w)) := by rw [← Int.mul_add, h1.1]
  rw [← Int.mul_assoc, ← e] at q
  omega
theorem f_low (wd : World) (w : Nat) (A : List Int) (a : Int) (n : Nat) (rA : Row w A a) (hA : A.length < 2 ^ 10) (hw : 1 ≤ w) (hw6 : w ≤ 60) : Fn wd 177 2 [.list A, .int (n : Int), .int (w : Int)] (· = .list (row w (a % 2 ^ n))) := by
  refine fn_of ["a", "n", "w"] ["spots", "few"] (by k_dflt k_is) (by k_dflt k_is) (faS fun _ => faS fun _ => fa1 fun _ => rfl) rfl (by decide) rfl rfl (by decide) ?_
  intro C la I
  have hw2 := Nat.le_trans hw6 (show 60 ≤ 100000 by decide)
  have hA2 := Nat.lt_trans hA (show 2 ^ 10 < 2 ^ 20 by decide)
  have hf : n % w < w := Nat.mod_lt _ hw
  refine bl_tup (names := ["spots", "few"]) (as := [.int ((n / w : Nat) : Int), .int ((n % w : Nat) : Int)]) ⟨ev_divN (ev_var (mm (k := 1) rfl)) (ev_var (mm (k := 2) rfl)) hw hw2, ev_modN (ev_var (mm (k := 1) rfl)) (ev_var (mm (k := 2) rfl)) hw, trivial⟩ (.cons (pt 4 rfl) (.cons (pt 3 rfl) .nil)) (I.ks rfl) rfl rfl rfl (I.sw fun _ _ _ _ => rfl) ?_
  have hd := rA.dm n
  refine bl_if (tr_cmp (ev_var (mm (k := 3) rfl)) (ev_len (b_len _) (ev_varL (mm (k := 0) rfl)) (I.k rfl) (hA2)) cmp_ge) (fun hb => ?_) (fun hb => bl_nil ?_)
  · have hl : A.length ≤ n / w := Int.ofNat_le.mp (of_decide_eq_true hb)
    refine bl_ret (ev_slice (ev_varL (mm (k := 0) rfl)) evp_no evp_no (hA2) (fun _ hi => kmk_all hi) (fun _ _ => rfl)) ?_
    rw [mod_small rA.nn (Int.lt_of_lt_of_le rA.lt (p2mono (Nat.le_trans (Nat.mul_le_mul_left w hl) (Nat.mul_div_le n w)))), ← rA.eq]
  · have hl : n / w < A.length := Int.ofNat_lt.mp (Int.not_le.mp (of_decide_eq_false hb))
    have e : (A.take (n / w)).length = n / w := by rw [List.length_take, Nat.min_eq_left (Nat.le_of_lt hl)]
    have hx := rA.dig.getD (n / w)
    have hm := divmod2 (A.getD (n / w) 0) (n % w)
    have dg : Dig w (A.take (n / w) ++ [A.getD (n / w) 0 % 2 ^ (n % w)]) := (rA.dig.take _).append (.one ⟨hm.2.1, Int.lt_of_lt_of_le hm.2.2 (p2mono (Nat.le_of_lt hf))⟩)
    have hv : val w (A.take (n / w) ++ [A.getD (n / w) 0 % 2 ^ (n % w)]) = a % 2 ^ n := by rw [val_snoc, e, hd.2, val_drop, (low_split (Nat.le_of_lt hf)).2]
    rw [← hv]
    refine bl_ret (ev_call (f_normal _ w _ dg (by rw [List.length_append, e]; exact Nat.lt_of_le_of_lt hl hA2)) (d_normal _) (I.k rfl) ⟨ev_cat (ev_slice (ev_varL (mm (k := 0) rfl)) evp_no (evp (ev_var (mm (k := 3) rfl))) (hA2) (fun _ hi => kmk_upto hi (Int.natCast_nonneg _)) (fun _ _ => rfl)) (ev_one (ev_eq (ev_and (ev_at (ev_varL (mm (k := 0) rfl)) (ev_var (mm (k := 3) rfl)) (hl) (hA2)) (ev_sub (ev_shlN ev_int (ev_var (mm (k := 4) rfl)) (by decide) (Nat.le_trans (Nat.le_of_lt hf) hw2)) ev_int)) (by rw [Int.one_mul, kbt_mask]))) ?_, trivial⟩ (I.le rfl)) rfl
    show (A.take (n / w)).length + 1 < _
    rw [e]; exact Nat.lt_of_le_of_lt hl hA2
theorem f_bit (wd : World) (w : Nat) (A : List Int) (a : Int) (n : Nat) (rA : Row w A a) (hA : A.length < 2 ^ 20) (hw : 1 ≤ w) (hw2 : w ≤ 100000) : Fn wd 170 1 [.list A, .int (n : Int), .int (w : Int)] (· = .int (a / 2 ^ n % 2)) := by
  refine fn_of ["a", "n", "w"] [] (by k_dflt k_is) (by k_dflt k_is) (faS fun _ => faS fun _ => fa1 fun _ => rfl) rfl (by decide) rfl rfl (by decide) ?_
  intro C la I
  have hf : n % w < w := Nat.mod_lt _ hw
  refine bl_ret (ev_ite (tr_cmp (ev_divN (ev_var (mm (k := 1) rfl)) (ev_var (mm (k := 2) rfl)) hw hw2) (ev_len (b_len _) (ev_varL (mm (k := 0) rfl)) (I.k rfl) (hA)) cmp_lt) (fun hb => ev_and (ev_shrN (ev_at (ev_varL (mm (k := 0) rfl)) (ev_divN (ev_var (mm (k := 1) rfl)) (ev_var (mm (k := 2) rfl)) hw hw2) (Int.ofNat_lt.mp (of_decide_eq_true hb)) hA) (ev_modN (ev_var (mm (k := 1) rfl)) (ev_var (mm (k := 2) rfl)) hw)) ev_int) (fun _ => ev_int)) ?_
  have e : ∀ x, Builtin.bitAnd x 1 = x % 2 := fun x => kbt_mask x 1
  obtain ⟨g, hg⟩ : ∃ g, w - n % w = g + 1 := ⟨w - n % w - 1, by omega⟩
  rw [e, (rA.dm n).1, val_drop, (low_split (Nat.le_of_lt hf)).1, hg, p2add, Int.mul_comm _ (2 ^ 1), Int.mul_assoc, show (2 : Int) ^ 1 = 2 from rfl, Int.add_mul_emod_self_left]
  by_cases h : n / w < A.length
  · rw [if_pos (decide_eq_true (Int.ofNat_lt.mpr h))]
  · rw [getD_out (Nat.le_of_not_lt h), Int.zero_ediv]
    exact ite_self _
theorem p2lt {k l : Nat} (h : k < l) : (2 : Int) ^ k < 2 ^ l := by
  have := p2mono (Nat.succ_le_of_lt h)
  have := p2pos k
  rw [Nat.succ_eq_add_one, Int.pow_succ] at *
  omega
theorem shift_turn {w s f i : Nat} {c d : Int} {T : Int} {ns : List Int} (h : CInv w (s + i) (2 ^ (w * s) * (T * 2 ^ f)) c ns ∧ c < 2 ^ f) (hd : 0 ≤ d ∧ d < 2 ^ w) {T' : Int} (hT : T' = T + 2 ^ (w * i) * d) :
    CInv w (s + i + 1) (2 ^ (w * s) * (T' * 2 ^ f)) ((c + d * 2 ^ f) / 2 ^ w) (ns ++ [(c + d * 2 ^ f) % 2 ^ w]) ∧ (c + d * 2 ^ f) / 2 ^ w < 2 ^ f := by
  refine ⟨h.1.step (Int.mul_nonneg hd.1 (Int.le_of_lt (p2pos f))) rfl ?_, Int.ediv_lt_of_lt_mul (p2pos w) ?_⟩
  · rw [hT, Int.add_mul, Int.mul_add, Nat.mul_add, p2add, Int.mul_assoc, Int.mul_assoc]
  · have q := Int.mul_le_mul_of_nonneg_right (Int.add_one_le_of_lt hd.2) (Int.le_of_lt (p2pos f))
    rw [Int.add_mul, Int.one_mul, Int.mul_comm (2 ^ w)] at q
    have := h.2
    omega
theorem f_shift_left (wd : World) (w : Nat) (A : List Int) (a : Int) (n : Nat) (rA : Row w A a) (hA : A.length < 2 ^ 10) (hn : n < 2 ^ 10) (hw : 1 ≤ w) (hw6 : w ≤ 60) : Fn wd 149 1 [.list A, .int (n : Int), .int (w : Int)] (· = .list (row w (a * 2 ^ n))) := by
  refine fn_of ["a", "n", "w"] ["spots", "few", "found", "carry", "mask", "one"] (by k_dflt k_is) (by k_dflt k_is) (faS fun _ => faS fun _ => fa1 fun _ => rfl) rfl (by decide) rfl rfl (by decide) ?_
  intro C la I
  have hN : (["a", "n", "w", "spots", "few", "found", "carry", "mask", "one"] : List Str).Nodup := by decide
  have hw2 := Nat.le_trans hw6 (show 60 ≤ 100000 by decide)
  have hA2 := Nat.lt_trans hA (show 2 ^ 10 < 2 ^ 20 by decide)
  have hf : n % w < w := Nat.mod_lt _ hw
  have hs : n / w < 2 ^ 10 := Nat.lt_of_le_of_lt (Nat.div_le_self n w) hn
  refine bl_if (tr_cmp (ev_len (b_len _) (ev_varL (mm (k := 0) rfl)) (I.k rfl) (hA2)) ev_int cmp_eq) (fun hb => bl_ret ev_nil (by rw [(rA.empty (fun h => Nat.ne_of_gt h (Int.ofNat_inj.mp (of_decide_eq_true hb)))).2, Int.zero_mul, ← Row.nil.eq])) (fun hb => bl_nil ?_)
  have ha0 : A.length ≠ 0 := fun h => of_decide_eq_false hb (congrArg Nat.cast h)
  refine bl_tup (names := ["spots", "few"]) (as := [.int ((n / w : Nat) : Int), .int ((n % w : Nat) : Int)]) ⟨ev_divN (ev_var (mm (k := 1) rfl)) (ev_var (mm (k := 2) rfl)) hw hw2, ev_modN (ev_var (mm (k := 1) rfl)) (ev_var (mm (k := 2) rfl)) hw, trivial⟩ (.cons (pt 4 rfl) (.cons (pt 3 rfl) .nil)) (I.ks rfl) rfl rfl rfl (I.sw fun _ _ _ _ => rfl) ?_
  refine bl_freshT (as := [.int 0, maskV w]) (names := ["carry", "mask"]) (fresh_rep (ev_one ev_int) (ev_var (mm (k := 3) rfl)) (Int.ofNat_lt.mpr (Nat.lt_trans hs (by decide))) (Int.lt_of_lt_of_le (by decide) (Int.natCast_nonneg _))) ⟨ev_int, (ev_sub (ev_base hw2 (ev_var (mm (k := 2) rfl))) ev_int), trivial⟩ rfl (.cons (pt 7 rfl) (.cons (pt 6 rfl) .nil)) (pt 5 rfl) (I.ks rfl) rfl rfl rfl (I.sw fun _ _ _ _ => rfl) fun l => ?_
  refine bl_forList (τ := Int × List Int) (fun c => [("a", .at (la 0) A), ("n", .int (n : Int)), ("w", .int (w : Int)), ("spots", .int ((n / w : Nat) : Int)), ("few", .int ((n % w : Nat) : Int)), ("found", .list c.2), ("carry", .int c.1), ("mask", maskV w), ("one", .undef)]) (fun i c => CInv w (n / w + i) (2 ^ (w * (n / w)) * (val w (A.take i) * 2 ^ (n % w))) c.1 c.2 ∧ c.1 < 2 ^ (n % w)) (0, List.replicate ((n / w : Nat) : Int).toNat 0) (iterL_name I.nc (mm (k := 0) rfl)) ⟨I.nc, I.k rfl, ownNe (by decide), (cov [] rfl), ⟨⟨List.length_replicate, .zeros _, Int.le_refl 0, ?_⟩, p2pos _⟩, (staysL 5 (fun _ => rfl) (fun _ => rfl) (fun _ => rfl)), fun _ => hN⟩ (fun c i d hi hp => ⟨_, (pt 8 rfl), fun N1 => ?_⟩) (fun c hp => ?_)
  · show val w (List.replicate _ 0) + _ * 0 = _ * (0 * _)
    rw [val_zeros, Int.mul_zero, Int.zero_mul, Int.mul_zero]; rfl
  · have hdd := rA.dig.of hi
    exact bl_aug (mm (k := 6) rfl) (ev_shlN (ev_var (mm (k := 8) rfl)) (ev_var (mm (k := 4) rfl)) (abs_lt hdd hw6) (Nat.le_trans (Nat.le_of_lt hf) hw2)) (fun _ _ _ _ h => ior_int (by rw [or_apart _ _ _ hp.1.2.2.1 hp.2]; exact h)) (pt 6 rfl) (I.k rfl) (ownNe (by decide)) (bl_push (kf := 5) (kx := 6) (km := 7) (kw := 2) rfl rfl rfl rfl (by decide) (by decide) (I.k rfl) (by decide) (by decide) (hp.1.1 ▸ Nat.lt_trans (Nat.add_lt_add hs (Nat.lt_trans (lt_of_get hi) hA)) (by decide)) rfl (bl_nil ⟨rfl, (_, _), (cov [8] rfl), shift_turn hp hdd (val_take' hi)⟩))
  obtain ⟨hp, _⟩ := hp
  have e : (2 : Int) ^ (w * (n / w)) * (a * 2 ^ (n % w)) = a * 2 ^ n := by rw [Int.mul_left_comm, ← p2add, Nat.div_add_mod]
  rw [take_all, rA.is, e] at hp
  refine bl_carried (kf := 5) (kx := 6) rfl rfl (by decide) (hp.1 ▸ Nat.lt_trans (Nat.add_lt_add hs hA) (by decide)) rfl hp ?_ fun j hj => ?_
  · rw [← e, Nat.add_assoc, Nat.mul_add, p2add]
    exact Int.mul_lt_mul_of_pos_left (mul_lt rA.nn rA.lt ⟨Int.le_of_lt (p2pos _), p2lt hf⟩) (p2pos _)
  · obtain ⟨k, hk⟩ := Nat.exists_eq_succ_of_ne_zero ha0
    rw [hk] at hj
    have hj2 : n / w + k = j := Nat.succ.inj hj
    rw [← hj2, ← e, Nat.mul_add, p2add]
    exact Int.mul_le_mul_of_nonneg_left (Int.le_trans (rA.2.2 k hk) (le_mulR rA.nn (p2pos _))) (Int.le_of_lt (p2pos _))
theorem shr_turn {w s f i : Nat} {A ns : List Int} (hA : Dig w A) (hw : f ≤ w) (h : ns.length = i ∧ Dig w ns ∧ val w ns + 2 ^ (w * i) * (val w (A.drop (s + i)) / 2 ^ f) = val w (A.drop s) / 2 ^ f) :
    (ns ++ [(Builtin.bitOr (A.getD (s + i) 0 / 2 ^ f) (A.getD (s + i + 1) 0 * 2 ^ (w - f))) % 2 ^ w]).length = i + 1 ∧ Dig w (ns ++ [(Builtin.bitOr (A.getD (s + i) 0 / 2 ^ f) (A.getD (s + i + 1) 0 * 2 ^ (w - f))) % 2 ^ w]) ∧
      val w (ns ++ [(Builtin.bitOr (A.getD (s + i) 0 / 2 ^ f) (A.getD (s + i + 1) 0 * 2 ^ (w - f))) % 2 ^ w]) + 2 ^ (w * (i + 1)) * (val w (A.drop (s + i + 1)) / 2 ^ f) = val w (A.drop s) / 2 ^ f := by
  obtain ⟨h1, h2, h3⟩ := h
  have hx := hA.getD (s + i)
  have hz : A.getD (s + i) 0 / 2 ^ f < 2 ^ (w - f) := Int.ediv_lt_of_lt_mul (p2pos f) (by rw [← p2add, Nat.sub_add_cancel hw]; exact hx.2)
  have key : (Builtin.bitOr (A.getD (s + i) 0 / 2 ^ f) (A.getD (s + i + 1) 0 * 2 ^ (w - f))) % 2 ^ w = val w (A.drop (s + i)) / 2 ^ f % 2 ^ w := by
    rw [or_apart _ _ _ (div2nn hx.1 f) hz, val_drop w A (s + i), val_drop w A (s + i + 1), (low_split hw).1, Int.mul_add, ← Int.mul_assoc (2 ^ (w - f)), Int.mul_comm (2 ^ (w - f)) (2 ^ w), Int.mul_assoc, ← Int.add_assoc, Int.add_mul_emod_self_left, Int.mul_comm (A.getD (s + i + 1) 0)]
  have hd := divmod2 (val w (A.drop (s + i)) / 2 ^ f) w
  have hq : val w (A.drop (s + i)) / 2 ^ f / 2 ^ w = val w (A.drop (s + i + 1)) / 2 ^ f := by
    have e : val w (A.drop (s + i)) / 2 ^ w = val w (A.drop (s + i + 1)) := by
      rw [val_drop, Int.add_mul_ediv_left _ _ (p2ne w), Int.ediv_eq_zero_of_lt hx.1 hx.2, Int.zero_add]
    rw [← e, Int.ediv_ediv_of_nonneg (Int.le_of_lt (p2pos f)), Int.ediv_ediv_of_nonneg (Int.le_of_lt (p2pos w)), Int.mul_comm]
  rw [hq] at hd
  rw [key]
  refine ⟨by rw [List.length_append, h1]; rfl, h2.append (.one hd.2), ?_⟩
  have q : 2 ^ (w * i) * (val w (A.drop (s + i)) / 2 ^ f % 2 ^ w) + 2 ^ (w * i) * (2 ^ w * (val w (A.drop (s + i + 1)) / 2 ^ f)) = 2 ^ (w * i) * (val w (A.drop (s + i)) / 2 ^ f) := by rw [← Int.mul_add, hd.1]
  rw [val_snoc, h1, p2succ, Int.mul_assoc, Int.add_assoc, q]
  exact h3
theorem ev_succ {C : Cx} {ρ : List (Str × AV)} {e : Expr} {n1 : Nat} {pos p1 : Pos} {k : Nat} (h : Ev C ρ e (.int (k : Int))) : Ev C ρ (.BinOp e .Add (.Constant (.int 1) n1 p1) pos) (.int ((k + 1 : Nat) : Int)) := ev_add h ev_int
theorem f_shift_right (wd : World) (w : Nat) (A : List Int) (a : Int) (n : Nat) (rA : Row w A a) (hA : A.length < 2 ^ 10) (hn : n < 2 ^ 10) (hw : 1 ≤ w) (hw6 : w ≤ 60) : Fn wd 156 2 [.list A, .int (n : Int), .int (w : Int)] (· = .list (row w (a / 2 ^ n))) := by
  refine fn_of ["a", "n", "w"] ["spots", "few", "found", "mask", "at", "above"] (by k_dflt k_is) (by k_dflt k_is) (faS fun _ => faS fun _ => fa1 fun _ => rfl) rfl (by decide) rfl rfl (by decide) ?_
  intro C la I
  have hN : (["a", "n", "w", "spots", "few", "found", "mask", "at", "above"] : List Str).Nodup := by decide
  have hw2 := Nat.le_trans hw6 (show 60 ≤ 100000 by decide)
  have hA2 := Nat.lt_trans hA (show 2 ^ 10 < 2 ^ 20 by decide)
  have hf : n % w < w := Nat.mod_lt _ hw
  have hf' := Nat.le_of_lt hf
  have hs : n / w < 2 ^ 20 := Nat.lt_trans (Nat.lt_of_le_of_lt (Nat.div_le_self n w) hn) (by decide)
  refine bl_tup (names := ["spots", "few"]) (as := [.int ((n / w : Nat) : Int), .int ((n % w : Nat) : Int)]) ⟨ev_divN (ev_var (mm (k := 1) rfl)) (ev_var (mm (k := 2) rfl)) hw hw2, ev_modN (ev_var (mm (k := 1) rfl)) (ev_var (mm (k := 2) rfl)) hw, trivial⟩ (.cons (pt 4 rfl) (.cons (pt 3 rfl) .nil)) (I.ks rfl) rfl rfl rfl (I.sw fun _ _ _ _ => rfl) ?_
  refine bl_freshT (as := [maskV w]) (names := ["mask"]) fresh_nil ⟨(ev_sub (ev_base hw2 (ev_var (mm (k := 2) rfl))) ev_int), trivial⟩ rfl (.cons (pt 6 rfl) .nil) (pt 5 rfl) (I.ks rfl) rfl rfl rfl (I.sw fun _ _ _ _ => rfl) fun l => ?_
  refine bl_forUp (τ := List Int) (s := n / w) (n := A.length) (fun c => [("a", .at (la 0) A), ("n", .int (n : Int)), ("w", .int (w : Int)), ("spots", .int ((n / w : Nat) : Int)), ("few", .int ((n % w : Nat) : Int)), ("found", .list c), ("mask", maskV w), ("at", .undef), ("above", .undef)]) (fun i c => ∃ j, i = n / w + j ∧ c.length = j ∧ Dig w c ∧ val w c + 2 ^ (w * j) * (val w (A.drop i) / 2 ^ (n % w)) = a / 2 ^ n) [] (range_2 (b_range _) (I.k rfl) (ev_var (mm (k := 3) rfl)) (ev_len (b_len _) (ev_varL (mm (k := 0) rfl)) (I.k rfl) (hA2))) hs hA2 ⟨I.nc, I.k rfl, ownNe (by decide), (cov [] rfl), ⟨0, rfl, rfl, .nil, ?_⟩, (staysL 5 (fun _ => rfl) (fun _ => rfl) (fun _ => rfl)), fun _ => hN⟩ (fun c i hsi hi hp => ⟨_, (pt 7 rfl), fun N1 => ?_⟩) (fun c hp => ?_)
  · show 0 + 2 ^ (w * 0) * _ = _
    rw [(rA.dm n).1]; simp
  · obtain ⟨j, rfl, h1, h2, h3⟩ := hp
    rw [(rA.dm n).1] at h3
    have q := shr_turn rA.dig hf' ⟨h1, h2, h3⟩
    refine bl_assign (ev_eq (ev_ite (tr_cmp (ev_succ (ev_var (mm (k := 7) rfl))) (ev_len (b_len _) (ev_varL (mm (k := 0) rfl)) (I.k rfl) (hA2)) cmp_lt) (fun hb => ev_at (ev_varL (mm (k := 0) rfl)) (ev_succ (ev_var (mm (k := 7) rfl))) (Int.ofNat_lt.mp (of_decide_eq_true hb)) hA2) (fun _ => ev_int)) pick_at) (.inr rfl) (pt 8 rfl) (I.k rfl) (ownNe (by decide)) (bl_append (mm (k := 5) rfl) (ev_mask (ev_or (ev_shrN (ev_at (ev_varL (mm (k := 0) rfl)) (ev_var (mm (k := 7) rfl)) (hi) (hA2)) (ev_var (mm (k := 4) rfl))) (ev_shlN (ev_var (mm (k := 8) rfl)) (ev_eq (ev_sub (ev_var (mm (k := 2) rfl)) (ev_var (mm (k := 4) rfl))) (by rw [Int.ofNat_sub hf'])) (abs_lt (rA.dig.getD _) hw6) (Nat.le_trans (Nat.sub_le _ _) hw2))) (ev_var (mm (k := 6) rfl))) (pt 5 rfl) (h1 ▸ Nat.lt_of_le_of_lt (Nat.le_add_left _ _) (Nat.lt_trans hi hA2)) rfl (bl_nil ⟨rfl, _, (cov [7, 8] rfl), j + 1, rfl, q.1, q.2.1, ?_⟩))
    rw [(rA.dm n).1]; exact q.2.2
  · obtain ⟨j, hj, h1, h2, h3⟩ := hp
    have e : val w (A.drop (n / w + (A.length - n / w))) = 0 := by rw [List.drop_of_length_le (by omega)]; rfl
    rw [e, Int.zero_ediv, Int.mul_zero, Int.add_zero] at h3
    rw [← h3]
    exact bl_ret (ev_call (f_normal _ w c h2 (h1 ▸ Nat.lt_of_le_of_lt (Nat.add_left_cancel hj ▸ Nat.sub_le _ _) hA2)) (d_normal _) (I.k rfl) (eva (ev_var (mm (k := 5) rfl)) eva0) (I.le rfl)) rfl
theorem f_is_even (wd : World) (w : Nat) (A : List Int) (a : Int) (rA : Row w A a) (hA : A.length < 2 ^ 20) (hw : 1 ≤ w) : Fn wd 72 1 [.list A] (· = .bool (decide (a % 2 = 0))) := by
  refine fn_of ["a"] [] (by k_dflt k_is) (by k_dflt k_is) (fa1 fun _ => rfl) rfl (by decide) rfl rfl (by decide) ?_
  intro C la I
  refine bl_ret (ev_orB (ev_cmp (ev_len (b_len _) (ev_varL (mm (k := 0) rfl)) (I.k rfl) (hA)) ev_int cmp_eq) (fun hb => ev_cmp (ev_and (ev_idx (ev_varL (mm (k := 0) rfl)) ev_int (Int.le_refl 0) (Int.natCast_pos.mpr (Nat.pos_of_ne_zero fun h => of_decide_eq_false hb (congrArg Nat.cast h))) hA) ev_int) ev_int cmp_eq)) ?_
  have e : Builtin.bitAnd (A.getD (0 : Int).toNat 0) 1 = A.getD 0 0 % 2 := kbt_mask _ 1
  obtain ⟨g, rfl⟩ : ∃ g, w = g + 1 := ⟨w - 1, by omega⟩
  have q := val_drop (g + 1) A 0
  rw [List.drop_zero, rA.is, p2add, Int.mul_comm _ (2 ^ 1), Int.mul_assoc, show (2 : Int) ^ 1 = 2 from rfl] at q
  rw [e, q, Int.add_mul_emod_self_left]
  by_cases h : A.length = 0
  · rw [getD_out (Nat.le_of_eq h), h]; rfl
  · rw [decide_eq_false (show ¬ (A.length : Int) = 0 from fun q => h (Int.ofNat_inj.mp q)), Bool.false_or]
theorem bits_le {x : Int} {m : Nat} (h0 : 0 ≤ x) : Builtin.Int.intBits x ≤ m ↔ x < 2 ^ m := by
  rw [intBits_le_iff, ← kbt_cast]; omega
theorem bits_top {k : Nat} {lo hi : Int} (h0 : 0 ≤ lo) (h1 : lo < 2 ^ k) (h2 : 0 < hi) : Builtin.Int.intBits (lo + 2 ^ k * hi) = k + Builtin.Int.intBits hi := by
  have hp := Int.mul_pos (p2pos k) h2
  have h3 := (bits_le (m := Builtin.Int.intBits hi) (Int.le_of_lt h2)).mp (Nat.le_refl _)
  have hm := Int.mul_le_mul_of_nonneg_left (Int.add_one_le_of_lt h3) (Int.le_of_lt (p2pos k))
  rw [Int.mul_add, Int.mul_one, ← p2add] at hm
  refine Nat.le_antisymm ((bits_le (Int.add_nonneg h0 (Int.le_of_lt hp))).mpr (by omega)) ?_
  refine Nat.le_of_not_lt fun q => ?_
  obtain ⟨t, ht⟩ : ∃ t, Builtin.Int.intBits hi = t + 1 := ⟨Builtin.Int.intBits hi - 1, by
    have : ¬ Builtin.Int.intBits hi ≤ 0 := fun q => by have := (bits_le (Int.le_of_lt h2)).mp q; rw [Int.pow_zero] at this; omega
    omega⟩
  have h4 : ¬ hi < 2 ^ t := fun q => by have := (bits_le (Int.le_of_lt h2)).mpr q; omega
  have h5 := (bits_le (m := k + t) (Int.add_nonneg h0 (Int.le_of_lt hp))).mp (by omega)
  have h6 := Int.mul_le_mul_of_nonneg_left (Int.not_lt.mp h4) (Int.le_of_lt (p2pos k))
  rw [← p2add] at h6
  omega
theorem lastOk {n : Nat} (h : decide ((0 : Int) < (n : Int)) = true) : -(n : Int) ≤ -1 := by
  have := of_decide_eq_true h
  omega
theorem f_bits (wd : World) (w : Nat) (A : List Int) (a : Int) (rA : Row w A a) (hA : A.length < 2 ^ 20) (hw6 : w ≤ 60) : Fn wd 163 1 [.list A, .int (w : Int)] (· = .int (Builtin.Int.intBits a)) := by
  refine fn_of ["a", "w"] [] (by k_dflt k_is) (by k_dflt k_is) (faS fun _ => fa1 fun _ => rfl) rfl (by decide) rfl rfl (by decide) ?_
  intro C la I
  refine bl_ret (ev_ite (tr_cmp (ev_len (b_len _) (ev_varL (mm (k := 0) rfl)) (I.k rfl) (hA)) ev_int cmp_gt) (fun hb => ev_add (ev_mul (ev_sub (ev_len (b_len _) (ev_varL (mm (k := 0) rfl)) (I.k rfl) (hA)) ev_int) (ev_var (mm (k := 1) rfl)) (.inr (by omega))) (ev_bitlen (ev_last (ev_varL (mm (k := 0) rfl)) (ev_neg ev_int) (by decide) (lastOk hb) (hA)) rfl)) (fun _ => ev_int)) ?_
  cases hl : A.length with
  | zero => rw [(rA.empty (by omega)).2]; rfl
  | succ k =>
    have q := val_take w A k
    rw [← hl, take_all, rA.is] at q
    have b := (rA.dig.take k).bound
    rw [List.length_take, Nat.min_eq_left (by omega)] at b
    rw [if_pos (decide_eq_true (Int.natCast_pos.mpr (Nat.succ_pos k))), q, bits_top b.1 b.2 (rA.last k hl), show (-1 + ((k + 1 : Nat) : Int)).toNat = k by omega, show ((k + 1 : Nat) : Int) - 1 = (k : Int) by omega, Int.natCast_add, Int.natCast_mul, Int.mul_comm]
theorem f_split (wd : World) (w : Nat) (A : List Int) (a : Int) (s : Nat) (rA : Row w A a) (hA : A.length < 2 ^ 20) : Fn wd 184 2 [.list A, .int (s : Int)] (· = .pair (.list (row w (a % 2 ^ (w * s)))) (.list (row w (a / 2 ^ (w * s))))) := by
  refine fn_of ["a", "spot"] [] (by k_dflt k_is) (by k_dflt k_is) (faS fun _ => fa1 fun _ => rfl) rfl (by decide) rfl rfl (by decide) ?_
  intro C la I
  have hf := f_normal C.wd w _ (rA.dig.take s) (Nat.lt_of_le_of_lt (List.length_take_le' s A) hA)
  rw [(rA.cut s).2, ← (rA.drop s).eq]
  refine bl_ret (a := .pair _ _) (ev_pair ?_ ?_) rfl
  · exact (ev_call (hf) (d_normal _) (I.k rfl) (eva (ev_slice (ev_varL (mm (k := 0) rfl)) evp_no (evp (ev_var (mm (k := 1) rfl))) (hA) (fun _ hi => kmk_upto hi (Int.natCast_nonneg s)) (fun _ _ => rfl)) eva0) (I.le rfl))
  · exact (ev_slice (ev_varL (mm (k := 0) rfl)) (evp (ev_var (mm (k := 1) rfl))) evp_no (hA) (fun _ hi => kmk_from hi (Int.natCast_nonneg s)) (fun _ _ => rfl))
theorem f_piece (wd : World) (w : Nat) (A : List Int) (a : Int) (s e : Nat) (rA : Row w A a) (hA : A.length < 2 ^ 20) : Fn wd 191 2 [.list A, .int (s : Int), .int (e : Int)] (· = .list (row w (a / 2 ^ (w * s) % 2 ^ (w * (e - s))))) := by
  refine fn_of ["a", "begin", "end"] [] (by k_dflt k_is) (by k_dflt k_is) (faS fun _ => faS fun _ => fa1 fun _ => rfl) rfl (by decide) rfl rfl (by decide) ?_
  intro C la I
  have hf := f_normal C.wd w _ ((rA.dig.drop s).take (e - s)) (Nat.lt_of_le_of_lt (Nat.le_trans (List.length_take_le' _ _) (by rw [List.length_drop]; exact Nat.sub_le _ _)) hA)
  rw [((rA.drop s).cut (e - s)).2]
  refine bl_ret (ev_call (hf) (d_normal _) (I.k rfl) (eva (ev_slice (ev_varL (mm (k := 0) rfl)) (evp (ev_var (mm (k := 1) rfl))) (evp (ev_var (mm (k := 2) rfl))) (hA) (fun vs hi => ?_) (fun _ _ => rfl)) eva0) (I.le rfl)) rfl
  have q := kmk_run hi (Int.natCast_nonneg s) (Int.natCast_nonneg e)
  rw [Int.toNat_natCast, Int.toNat_natCast] at q
  by_cases h : e ≤ A.length
  · rwa [Nat.min_eq_left h] at q
  · rw [Nat.min_eq_right (by omega), take_over (by rw [List.length_drop]; exact Nat.le_refl _)] at q
    rwa [take_over (by rw [List.length_drop]; omega)]
theorem set_rep {i : Nat} {d : Int} {qs : List Int} : (List.replicate (i + 1) 0 ++ qs).set i d = List.replicate i 0 ++ d :: qs := by
  induction i with
  | zero => rfl
  | succ n ih => rw [List.replicate_succ, List.cons_append, List.set_cons_succ, ih]; rfl
theorem div_turn {w i : Nat} {L rest : Int} {A qs : List Int} (hA : Dig w A) (hq : Dig w qs) (hL : 0 < L) (hr : 0 ≤ rest ∧ rest < L) (h : val w qs * L + rest = val w (A.drop (i + 1))) :
    Dig w ((A.getD i 0 + rest * 2 ^ w) / L :: qs) ∧ val w ((A.getD i 0 + rest * 2 ^ w) / L :: qs) * L + (A.getD i 0 + rest * 2 ^ w) % L = val w (A.drop i) ∧ (0 ≤ (A.getD i 0 + rest * 2 ^ w) % L ∧ (A.getD i 0 + rest * 2 ^ w) % L < L) := by
  have hx := hA.getD i
  have h0 : 0 ≤ A.getD i 0 + rest * 2 ^ w := Int.add_nonneg hx.1 (Int.mul_nonneg hr.1 (Int.le_of_lt (p2pos w)))
  have h1 := Int.mul_le_mul_of_nonneg_right (Int.add_one_le_of_lt hr.2) (Int.le_of_lt (p2pos w))
  rw [Int.add_mul, Int.one_mul] at h1
  have e := Int.emod_add_mul_ediv (A.getD i 0 + rest * 2 ^ w) L
  have e2 : (A.getD i 0 + rest * 2 ^ w) / L * L = L * ((A.getD i 0 + rest * 2 ^ w) / L) := Int.mul_comm _ _
  have e3 : 2 ^ w * val w qs * L = 2 ^ w * (val w qs * L) := Int.mul_assoc _ _ _
  have e4 : 2 ^ w * rest = rest * 2 ^ w := Int.mul_comm _ _
  have e5 : 2 ^ w * L = L * 2 ^ w := Int.mul_comm _ _
  refine ⟨hq.cons ⟨Int.ediv_nonneg h0 (Int.le_of_lt hL), Int.ediv_lt_of_lt_mul hL (by omega)⟩, ?_, Int.emod_nonneg _ (Int.ne_of_gt hL), Int.emod_lt_of_pos _ hL⟩
  rw [val_drop, ← h, val, Int.add_mul, Int.mul_add (2 ^ w)]
  omega
theorem f_divrem_limb (wd : World) (w : Nat) (A : List Int) (a L : Int) (rA : Row w A a) (hA : A.length < 2 ^ 20) (hL : 0 < L) (hL2 : L < 2 ^ w) (hw6 : w ≤ 60) : Fn wd 142 2 [.list A, .int L, .int (w : Int)] (· = .pair (.list (row w (a / L))) (.int (a % L))) := by
  refine fn_of ["a", "limb", "w"] ["found", "rest", "at"] (by k_dflt k_is) (by k_dflt k_is) (faS fun _ => faS fun _ => fa1 fun _ => rfl) rfl (by decide) rfl rfl (by decide) ?_
  intro C la I
  have hN : (["a", "limb", "w", "found", "rest", "at"] : List Str).Nodup := by decide
  have hw2 := Nat.le_trans hw6 (show 60 ≤ 100000 by decide)
  have hL62 : L < 2 ^ 62 := Int.lt_trans (Int.lt_of_lt_of_le hL2 (p2mono hw6)) (by decide)
  refine bl_if (tr_cmp (ev_var (mm (k := 1) rfl)) ev_int cmp_eq) (fun hb => absurd (of_decide_eq_true hb) (Int.ne_of_gt hL)) (fun hb => bl_nil ?_)
  refine bl_freshT (as := [.int 0]) (names := ["rest"]) (fresh_rep (ev_one ev_int) (ev_len (b_len _) (ev_varL (mm (k := 0) rfl)) (I.k rfl) (hA)) (Int.ofNat_lt.mpr hA) (Int.lt_of_lt_of_le (by decide) (Int.natCast_nonneg _))) ⟨ev_int, trivial⟩ rfl (.cons (pt 4 rfl) .nil) (pt 3 rfl) (I.ks rfl) rfl rfl rfl (I.sw fun _ _ _ _ => rfl) fun l => ?_
  refine bl_forDown (τ := Int × List Int) (n := A.length) (fun c => [("a", .at (la 0) A), ("limb", .int L), ("w", .int (w : Int)), ("found", .list c.2), ("rest", .int c.1), ("at", .undef)]) (fun k c => ∃ qs, c.2 = List.replicate k 0 ++ qs ∧ c.2.length = A.length ∧ Dig w qs ∧ val w qs * L + c.1 = val w (A.drop k) ∧ (0 ≤ c.1 ∧ c.1 < L)) (0, List.replicate ((A.length : Nat) : Int).toNat 0) (range_3 (b_range _) (I.k rfl) (ev_sub (ev_len (b_len _) (ev_varL (mm (k := 0) rfl)) (I.k rfl) (hA)) ev_int) (ev_neg ev_int) (ev_neg ev_int)) hA ⟨I.nc, I.k rfl, ownNe (by decide), (cov [] rfl), ⟨[], (List.append_nil _).symm, List.length_replicate, .nil, ?_, Int.le_refl 0, hL⟩, (staysL 3 (fun _ => rfl) (fun _ => rfl) (fun _ => rfl)), fun _ => hN⟩ (fun c i hi hp => ⟨_, (pt 5 rfl), fun N1 => ?_⟩) (fun c hp => ?_)
  · show 0 * L + 0 = val w (A.drop A.length)
    rw [Int.zero_mul, List.drop_length]; rfl
  · obtain ⟨qs, h1, h2, h3, h4, h5⟩ := hp
    have q := div_turn rA.dig h3 hL h5 h4
    refine bl_assign (ev_eq (ev_or (ev_shlN (ev_var (mm (k := 4) rfl)) (ev_var (mm (k := 2) rfl)) (abs_lt ⟨h5.1, Int.lt_trans h5.2 hL2⟩ hw6) hw2) (ev_at (ev_varL (mm (k := 0) rfl)) (ev_var (mm (k := 5) rfl)) (hi) (hA))) (by rw [bitOr_comm, or_apart _ _ _ (rA.dig.getD i).1 (rA.dig.getD i).2])) (.inr rfl) (pt 4 rfl) (I.k rfl) (ownNe (by decide)) (bl_store (mm (k := 3) rfl) (ev_div (ev_var (mm (k := 4) rfl)) (ev_var (mm (k := 1) rfl)) hL hL62) (ev_var (mm (k := 5) rfl)) (Int.natCast_nonneg i) (Int.ofNat_lt.mpr (h2 ▸ hi)) (pt 3 rfl) (h2 ▸ hA) rfl (bl_aug (mm (k := 4) rfl) (ev_var (mm (k := 1) rfl)) (fun _ _ _ _ h => imod_int (Int.ne_of_gt hL) (by rw [Int.fmod_eq_emod_of_nonneg _ (Int.le_of_lt hL)]; exact h)) (pt 4 rfl) (I.k rfl) (ownNe (by decide)) (bl_nil ⟨rfl, (_, _), (cov [5] rfl), _, ?_, ?_, q⟩)))
    · show c.2.set _ _ = _
      rw [h1]; exact set_rep
    · show (c.2.set _ _).length = _
      rw [List.length_set]; exact h2
  · obtain ⟨qs, h1, h2, h3, h4, h5⟩ := hp
    have h1 : c.2 = qs := h1
    rw [List.drop_zero, rA.is] at h4
    have e : a / L = val w qs ∧ a % L = c.1 := (Int.ediv_emod_unique hL).mpr ⟨by rw [← h4, Int.mul_comm L, Int.add_comm], h5⟩
    rw [e.1, e.2, ← h1]
    refine bl_ret (a := .pair _ _) (ev_pair ?_ (ev_var (mm (k := 4) rfl))) rfl
    exact (ev_call (f_normal _ w c.2 (h1 ▸ h3) (h2 ▸ hA)) (d_normal _) (I.k rfl) (eva (ev_var (mm (k := 3) rfl)) eva0) (I.le rfl))
theorem ev_bi {C : Cx} {ρ : List (Str × AV)} {x : Str} {v : Value} {pos : Pos} (hb : isBuiltin C.wd x v) (hx : C.env.kindOf x = some .globalImplicit) : Ev C ρ (.Name x pos) (.raw v) :=
  ⟨plain_name, fun s m led F N V => name_bi hb F hx ⟨led, ⟨s.heap, s.toks, rfl, F, N, fun _ h => h⟩, rfl⟩⟩
theorem isi_int (wd : World) {C : Cx} {ρ : List (Str × AV)} {e : Expr} {a : Int} {pos p1 p2 : Pos} (he : Ev C ρ e (.int a)) (hx : C.env.kindOf "isinstance" = some .globalImplicit) (hy : C.env.kindOf "int" = some .globalImplicit) : Ev C ρ (.Call (.Name "isinstance" p1) [e, .Name "int" p2] [] pos) (.bool true) :=
  ev_callB (b_isinstance _) hx (as := [.int a, .raw (.type "int")]) ⟨he, ev_bi (b_int _) hy, trivial⟩ fun s m led vs F N q => by
    obtain ⟨v, w, rfl, ⟨t, rfl⟩, rfl⟩ := q.i2
    exact call_isinstance (isinstance_true (Tx := "int") rfl rfl) ⟨rfl, led, nxt F N fun _ h => h, rfl⟩
theorem isi_bool (wd : World) {C : Cx} {ρ : List (Str × AV)} {e : Expr} {a : Int} {pos p1 p2 : Pos} (he : Ev C ρ e (.int a)) (hx : C.env.kindOf "isinstance" = some .globalImplicit) (hy : C.env.kindOf "bool" = some .globalImplicit) : Ev C ρ (.Call (.Name "isinstance" p1) [e, .Name "bool" p2] [] pos) (.bool false) :=
  ev_callB (b_isinstance _) hx (as := [.int a, .raw (.type "bool")]) ⟨he, ev_bi (b_bool _) hy, trivial⟩ fun s m led vs F N q => by
    obtain ⟨v, w, rfl, ⟨t, rfl⟩, rfl⟩ := q.i2
    exact call_isinstance (isinstance_false_int (by decide) rfl rfl) ⟨led, nxt F N fun _ h => h, rfl⟩
theorem tr_chain {C : Cx} {ρ : List (Str × AV)} {l r1 r2 : Expr} {a b c : Int} {pos : Pos} (hl : Ev C ρ l (.int a)) (h1 : Ev C ρ r1 (.int b)) (h2 : Ev C ρ r2 (.int c)) (hab : a ≤ b) (hbc : b < c) (hm : lastMarks [.LtE, .Lt] [r1, r2] = false) : Tr C ρ (.Compare l [.LtE, .Lt] [r1, r2] pos) true :=
  fun s m led F N V => isTrue_chain (hl.use F N V fun v1 g1 t1 led1 F1 N1 i1 V1 q1 => test_link (h1.use F1 N1 V1 fun v2 g2 t2 led2 F2 N2 i2 V2 q2 => by
    obtain ⟨u1, rfl⟩ := q1
    obtain ⟨u2, rfl⟩ := q2
    refine le_int (wpAny_truthy_bool ?_)
    rw [decide_eq_true hab, if_pos rfl]
    refine test_last (h2.use F2 N2 V2 fun v3 g3 t3 led3 F3 N3 i3 V3 q3 => ?_)
    obtain ⟨u3, rfl⟩ := q3
    refine lt_int (wpAny_truthy_bool ⟨decide_eq_true hbc, led3, nxt F3 N3 fun p hp => i3 p (i2 p (i1 p hp))⟩))) hm
theorem rev_get {w i : Nat} {A : List Int} {d : Int} (h : A.reverse[i]? = some d) : val w (A.drop (A.length - i)) * 2 ^ w + d = val w (A.drop (A.length - (i + 1))) ∧ d ∈ A := by
  have hi := lt_of_get h
  rw [List.length_reverse] at hi
  have e : A.getD (A.length - (i + 1)) 0 = d := by
    rw [List.getElem?_reverse hi] at h
    rw [Nat.sub_sub, Nat.add_comm 1 i] at h
    exact getD_of h
  refine ⟨?_, List.mem_reverse.mp (List.mem_of_getElem? h)⟩
  have q := val_drop w A (A.length - (i + 1))
  rw [e, Nat.sub_add_eq, Nat.sub_add_cancel (Nat.sub_pos_of_lt hi), ← Nat.sub_add_eq] at q
  rw [q, Int.mul_comm, Int.add_comm]
theorem f__law_size (wd : World) (w : Nat) (A : List Int) (n : Int) (rA : Row w A n) (hA : A.length < 2 ^ 20) (hw6 : w ≤ 60) : Fn wd 226 1 [.list A, .int (w : Int)] (· = .int n) := by
  refine fn_of ["row", "w"] ["found", "limb"] (by k_dflt k_is) (by k_dflt k_is) (faS fun _ => fa1 fun _ => rfl) rfl (by decide) rfl rfl (Nat.le_refl _) ?_
  intro C la I
  have hN : (["row", "w", "found", "limb"] : List Str).Nodup := by decide
  have hw3 := Nat.le_trans hw6 (show 60 ≤ 100000 by decide)
  have hp62 : ((2 : Int) ^ w).natAbs < 2 ^ 62 := by
    have := p2mono hw6
    have := p2pos w
    have : (2 : Int) ^ 60 < 2 ^ 62 := by decide
    omega
  refine bl_assign ev_int (.inl rfl) (pt 2 rfl) (I.k rfl) trivial ?_
  refine bl_forList (τ := Int) (fun c => [("row", .at (la 0) A), ("w", .int (w : Int)), ("found", .int c), ("limb", .undef)]) (fun i c => c = val w (A.drop (A.length - i))) 0 (by exact iterL_ev (ev_rev (ev_varL (mm (k := 0) rfl)) (hA)) (fun _ => rfl)) ⟨I.nc, I.k rfl, trivial, (cov [] rfl), by rw [Nat.sub_zero, List.drop_length]; rfl, (stays0 (fun _ => rfl) (fun _ => rfl)), fun _ => hN⟩ (fun c i d hi hp => ⟨_, (pt 3 rfl), fun N1 => ?_⟩) (fun c hp => ?_)
  · obtain ⟨q1, q2⟩ := rev_get (w := w) hi
    subst hp
    have hd := rA.dig d q2
    refine bl_if (tr_or (tr_not (tr_val (isi_int wd (ev_var (mm (k := 3) rfl)) (I.k rfl) (I.k rfl)) rfl)) fun _ => tr_or (tr_val (isi_bool wd (ev_var (mm (k := 3) rfl)) (I.k rfl) (I.k rfl)) rfl) fun _ => tr_or (tr_not (tr_chain ev_int (ev_var (mm (k := 3) rfl)) (ev_pw (ev_var (mm (k := 1) rfl)) hw3) hd.1 hd.2 rfl)) fun _ => tr_or0) (fun hb => nomatch hb) fun _ => bl_nil ?_
    exact bl_assign (ev_add (ev_mul (ev_var (mm (k := 2) rfl)) (ev_pw (ev_var (mm (k := 1) rfl)) hw3) (.inr hp62)) (ev_var (mm (k := 3) rfl))) (.inl rfl) (pt 2 rfl) (I.k rfl) trivial (bl_nil ⟨rfl, _, (cov [3] rfl), q1⟩)
  · rw [List.length_reverse, Nat.sub_self, List.drop_zero, rA.is] at hp
    subst hp
    refine bl_ret (ev_ite (tr_or (tr_cmp (ev_len (b_len _) (ev_varL (mm (k := 0) rfl)) (I.k rfl) (hA)) ev_int cmp_eq) fun hb => tr_or (tr_cmp (ev_idx (ev_varL (mm (k := 0) rfl)) (ev_sub (ev_len (b_len _) (ev_varL (mm (k := 0) rfl)) (I.k rfl) (hA)) ev_int) (by have := of_decide_eq_false hb; omega) (by omega) hA) ev_int cmp_gt) fun _ => tr_or0) (fun _ => (ev_var (mm (k := 2) rfl))) (fun _ => (ev_sub ev_int ev_int))) ?_
    rw [if_pos]
    cases hl : A.length with
    | zero => rfl
    | succ k =>
      rw [Bool.or_false, decide_eq_true (show (0 : Int) < A.getD (((k + 1 : Nat) : Int) - 1).toNat 0 by rw [show (((k + 1 : Nat) : Int) - 1).toNat = k by omega]; exact rA.last k hl), Bool.or_true]
theorem low2 : ∀ (f : Nat) (d : Int), 0 < d → d < 2 ^ f → ∃ (k : Nat) (y : Int), k < f ∧ d = 2 ^ k * (2 * y + 1)
  | 0, d, h0, h1 => absurd h1 (by rw [Int.pow_zero]; omega)
  | f + 1, d, h0, h1 => by
    by_cases h : d % 2 = 1
    · exact ⟨0, d / 2, Nat.succ_pos f, by rw [Int.pow_zero]; omega⟩
    · rw [Int.pow_succ] at h1
      obtain ⟨k, y, hk, e⟩ := low2 f (d / 2) (by omega) (by omega)
      exact ⟨k + 1, y, Nat.succ_lt_succ hk, by rw [Int.pow_succ, Int.mul_comm (2 ^ k), Int.mul_assoc, ← e]; omega⟩
theorem bits_p2 (t : Nat) : Builtin.Int.intBits (2 ^ t) = t + 1 := by
  have h := bits_top (k := t) (lo := 0) (hi := 1) (Int.le_refl 0) (p2pos t) (by decide)
  rwa [Int.zero_add, Int.mul_one, show Builtin.Int.intBits 1 = 1 by decide] at h
theorem tz_at {w i : Nat} {A : List Int} {a d y₀ : Int} {t : Nat} (rA : Row w A a) (h : A[i]? = some d) (hz : val w (A.take i) = 0) (hd : 0 < d) (ha : a = 2 ^ t * (2 * y₀ + 1)) : (i : Int) * (w : Int) + (Builtin.Int.intBits (Builtin.bitAnd d (-d)) : Int) - 1 = (t : Int) := by
  obtain ⟨k, y, hk, e⟩ := low2 w d hd (rA.dig.of h).2
  have q := val_split w A i
  rw [rA.is, hz, Int.zero_add, val_drop, getD_of h] at q
  obtain ⟨g, rfl⟩ : ∃ g, w = k + 1 + g := ⟨w - (k + 1), by omega⟩
  have q2 : a = 2 ^ ((k + 1 + g) * i + k) * (2 * (y + 2 ^ g * val (k + 1 + g) (A.drop (i + 1))) + 1) := by
    rw [q, e, p2add _ k, p2add _ g, p2add k 1, Int.mul_assoc, Int.mul_assoc, Int.mul_assoc, ← Int.mul_add]
    congr 2
    rw [show (2 : Int) ^ 1 = 2 from rfl]
    omega
  have z := congrArg Builtin.Int.intBits ((kbt_low t y₀).symm.trans ((congrArg (fun x => Builtin.bitAnd x (-x)) (ha.symm.trans q2)).trans (kbt_low _ _)))
  rw [bits_p2, bits_p2] at z
  rw [e, kbt_low, bits_p2, Nat.succ.inj z, Int.natCast_add _ k, Int.natCast_mul, Int.mul_comm (i : Int), Int.natCast_add k 1]
  omega
theorem f_trailing (wd : World) (w : Nat) (A : List Int) (a y₀ : Int) (t : Nat) (rA : Row w A a) (hA : A.length < 2 ^ 20) (hw6 : w ≤ 60) (ha0 : a ≠ 0) (ha : a = 2 ^ t * (2 * y₀ + 1)) : Fn wd 198 1 [.list A, .int (w : Int)] (· = .int (t : Int)) := by
  refine fn_of ["a", "w"] ["at", "limb"] (by k_dflt k_is) (by k_dflt k_is) (faS fun _ => fa1 fun _ => rfl) rfl (by decide) rfl rfl (Nat.le_refl _) ?_
  intro C la I s m led S
  have hN : (["a", "w", "at", "limb"] : List Str).Nodup := by decide
  refine forEnum (ρ0 := [("a", .at (la 0) A), ("w", .int (w : Int)), ("at", .undef), ("limb", .undef)]) S (fun i => val w (A.take i) = 0) I.nc (b_enumerate _) (I.k rfl) (ev_var (mm (k := 0) rfl)) (I.k rfl) (I.k rfl) (cov [] rfl) ((stays0 (fun _ => rfl) (fun _ => rfl)) 0) hN rfl ?_ ?_
  · intro i d hi hp
    refine ⟨_, _, (pt 2 rfl), (pt 3 rfl), fun N1 => ?_⟩
    refine bl_if (tr_cmp (ev_var (mm (k := 3) rfl)) ev_int cmp_gt) (fun hb => ?_) (fun hb => bl_nil (bl_nil ⟨rfl, (cov [2, 3] rfl), ?_⟩))
    · exact bl_ret (ev_sub (ev_add (ev_mul (ev_var (mm (k := 2) rfl)) (ev_var (mm (k := 1) rfl)) (.inr (by omega))) (ev_bitlen (ev_and (ev_var (mm (k := 3) rfl)) (ev_neg (ev_var (mm (k := 3) rfl)))) rfl)) ev_int) (by rw [tz_at rA hi hp (of_decide_eq_true hb) ha])
    · have h0 := (rA.dig.of hi).1
      rw [val_take' hi, hp, show d = 0 from Int.le_antisymm (Int.not_lt.mp (of_decide_eq_false hb)) h0, Int.mul_zero]; rfl
  · intro hp
    rw [take_all, rA.is] at hp
    exact absurd hp ha0
theorem r_sub (wd : World) (w : Nat) (A B : List Int) (a b : Int) (rA : Row w A a) (rB : Row w B b) (hA : A.length < 2 ^ 20) (hB : B.length < 2 ^ 20) (hab : a < b) : ∀ vals, RDoes wd 93 2 49 vals fun news => VRs news [.list A, .list B, .int (w : Int)] vals := by
  refine rdoes_of (isFn_of ["a", "b", "w"] ["found", "borrow", "base", "at", "limb"] (by k_dflt k_is) (by k_dflt k_is) (faS fun _ => faS fun _ => fa1 fun _ => rfl) rfl (by decide) rfl) rfl (by decide) fun C la I s m S => ?_
  exact raise_if (tr_is (tr_cmp (ev_call (f_compare C.wd w A B a b rA rB hA hB) (d_compare _) (I.k rfl) (eva (ev_varL (mm (k := 0) rfl)) (eva (ev_varL (mm (k := 1) rfl)) eva0)) (I.le rfl)) ev_int cmp_lt) (decide_eq_true (show sgn a b < 0 by rw [sgn, if_pos hab]; decide))) S I.nc (x_OutOfRange _) (I.k rfl) (by decide)
theorem r_divrem (wd : World) (w : Nat) (A : List Int) : ∀ vals, RDoes wd 142 2 37 vals fun news => VRs news [.list A, .int 0, .int (w : Int)] vals := by
  refine rdoes_of (isFn_of ["a", "limb", "w"] ["found", "rest", "at"] (by k_dflt k_is) (by k_dflt k_is) (faS fun _ => faS fun _ => fa1 fun _ => rfl) rfl (by decide) rfl) rfl (by decide) fun C la I s m S => ?_
  exact raise_if (tr_cmp (ev_var (mm (k := 1) rfl)) ev_int cmp_eq) S I.nc (x_DivisionByZero _) (I.k rfl) (by decide)
theorem r_trailing (wd : World) (w : Nat) : ∀ vals, RDoes wd 198 1 49 vals fun news => VRs news [.list [], .int (w : Int)] vals := by
  refine rdoes_of (isFn_of ["a", "w"] ["at", "limb"] (by k_dflt k_is) (by k_dflt k_is) (faS fun _ => fa1 fun _ => rfl) rfl (by decide) rfl) rfl (Nat.le_refl _) fun C la I s m S => ?_
  have hN : (["a", "w", "at", "limb"] : List Str).Nodup := by decide
  refine wpAny_mono (forEnum (K := fun _ _ => False) (R := fun _ => False) (ρ0 := [("a", .at (la 0) []), ("w", .int (w : Int)), ("at", .undef), ("limb", .undef)]) S (fun _ => True) I.nc (b_enumerate _) (I.k rfl) (ev_var (mm (k := 0) rfl)) (I.k rfl) (I.k rfl) (cov [] rfl) ((stays0 (fun _ => rfl) (fun _ => rfl)) 0) hN trivial (fun i d hi _ => nomatch hi) (fun _ h tk m led S' => raise_at S' I.nc (x_OutOfRange _) (I.k rfl) (by decide))) (fun fl s' q => ?_) fun _ _ x => x
  cases fl with
  | next => obtain ⟨_, _, _, _, _, _, _, _, q⟩ := q; exact q
  | ret v => obtain ⟨_, _, _, _, _, _, _, _, _, _, _, _, q⟩ := q; exact q
  | brk => exact q
  | cont => exact q
theorem t_refused {wd : World} {f : Addr} {cls : Addr} {x : Str} {lf : Nat} {Pre : Led → Prop} (hc : isExc wd x cls) (hr : RDoes wd f lf cls [] Pre) (hfn : ∀ news, Pre news → ∃ oc od fd sl, (f, (⟨oc, od, .func fd, sl⟩ : Obj)) ∈ news) : DoesT wd 240 (lf + 1) [.ref f, .ref cls] Pre (fun news r news' => r = .bool true ∧ ∀ p ∈ news, p ∈ news') := by
  refine enterT [("deed", .ref f), ("error", .ref cls)] (by k_dflt k_is) (by k_dflt k_is) rfl rfl (by decide) rfl rfl rfl (Nat.succ_pos lf) fun C cells s hsc hlv hcl hq hcd htn hwd D F N Y hp => ?_
  subst hwd
  cases Y
  have hx : ∀ {y : Str} {k : NameKind}, List.lookup y [(("deed" : Str), NameKind.local), ("error", NameKind.local)] = some k → C.env.kindOf y = some k := fun h => by
    show C.scope.names.lookup _ = _
    rw [hsc]; exact h
  obtain ⟨oc, od, fd, sl, hm⟩ := hfn _ hp
  refine wpAny_execs_cons (wpAny_Try_except (wpAny_execs_cons (wpAny_Expr_any (Call_ (nameX_L F rfl (callWith_F0 (FnAt.of N hm) ?_) C.hk (hx rfl) rfl)) C.notTop)))
  refine hr C.dp C.un C.gd C.qual C.scope C.f C.cdv C.cl C.outer C.A₀ C.base C.g C.L _ C.news s C.p C.loose C.mean C.mg C.mb _ _ C.Bl F C.X N C.T C.hk (by have := C.hdp; omega) (by have := C.hun; omega) hp fun e t vs G h' tk' R FG hsm => ?_
  refine caught_by (s' := { s with heap := h', toks := tk' }) D hc.kt R FG hsm rfl (hx rfl) rfl fun h₂ g' T F' N' => ?_
  exact wpAny_execs_cons (wpAny_Return_some (wpAny_Constant_bool ⟨_, g', h₂, _, _, _, rfl, rfl, T, F', N', rfl, fun _ h => h⟩))
section
variable {C : Cx} {N0 : Led} {ρ : List (Str × AV)} {P c : Addr} {qual : Str} {params : Arguments} {body : Expr} {scope : Scope} {clos : List (Str × Addr)} {pos : Pos} {s : Shared} {m : Str → Option Value} {led : Led}
/-- the ledger behind a lambda's making: the table alone has turned -/
structure Off (P : Addr) (line col : Int) (qual : Str) (led led' : Led) : Prop where
  off : ∀ p ∈ led, p.1 ≠ P → p ∈ led'
  tab : TabOk P line col qual led'
  ne : ∀ p ∈ led, (p.2.cls ≠ .none ∨ ¬ ∃ vs, p.2.data = .fields vs) → p.1 ≠ P
  other : ∀ P' line' col' qual', P' ≠ P → TabOk P' line' col' qual' led → TabOk P' line' col' qual' led'
theorem off_of {g h : Heap} {L : Addr} {line col : Int} {led' : Led} {ps : Array Value} (N : News g L h led) (hm : (P, tabObj ps) ∈ led) (hps : ∀ q t, ps[1]? ≠ some (.str q t)) (h1 : ∀ p ∈ led, p.1 ≠ P → p ∈ led') (h2 : TabOk P line col qual led') : Off P line col qual led led' := by
  have same : ∀ p ∈ led, p.1 = P → p.2 = tabObj ps := fun p hp e => by
    have a := (N p hp).1
    rw [e, (N _ hm).1] at a
    exact (Option.some.inj a).symm
  refine ⟨h1, h2, fun p hp hn e => hn.elim (fun q => q (by rw [same p hp e])) fun q => q ⟨ps, by rw [same p hp e]⟩, fun P' line' col' qual' hne => ?_⟩
  rintro (h | ⟨c', oc, vs, t, h3, h4, h5, h6⟩)
  · exact .inl (h1 _ h hne)
  · refine .inr ⟨c', oc, vs, t, h1 _ h3 hne, h1 _ h4 fun e => ?_, h5, h6⟩
    have z : oc = tabObj ps := same _ h4 e
    rw [z] at h5
    cases h5
    exact hps _ _ h6
theorem lam_made {Q E : Value → Shared → Prop} (F : Fr C.g C.L s.heap m) (N : News C.g C.L s.heap led) (hcd : C.cdv = .ref c) (hC : codeHdIn (hd.heap_39 C.wd.params) c P = true) (ht : TabOk P pos.line pos.col qual led) (hq : C.env.qual ++ "<lambda>" = qual) (hcl : closureFor scope C.env = pure clos) (hdef : defaultsOf params C.env = ([], []))
    (k : ∀ f h' tk led', Fr C.g C.L h' m → News C.g C.L h' led' → Off P pos.line pos.col qual led led' →
      (∃ c' ctv pm oc vs t, (f, kla_obj "<lambda>" qual params body scope clos pm c' ctv) ∈ led' ∧ (c', oc) ∈ led' ∧ oc.data = .fields vs ∧ vs[1]? = some (.str qual t)) → Q (.ref f) { s with heap := h', toks := tk }) :
    wpAny (model PR C.wd) C.A (eval (.Lambda params body scope pos) C.env) Q E s := by
  refine kla_eval hdef ?_
  rw [hq]
  rcases ht with ht | ⟨c', oc, vs, t, h1, h2, h3, h4⟩
  · have N1 : News C.g C.L s.heap ((P, tabObj #[]) :: led.filter fun p => decide (p.1 ≠ P)) := fun p hp => (List.mem_cons.mp hp).elim (fun e => e ▸ N _ ht) fun h => N p (List.mem_filter.mp h).1
    refine kla_nest F N1 C.T (codeHd_of_K C.X hC) hcd (.head fun p hp => of_decide_eq_true (List.mem_filter.mp hp).2) trivial rfl hcl fun f c' oc vs t ctv h' tk F' N' h3 h4 _ _ => ?_
    refine k f h' tk _ F' N' (off_of N ht (fun _ _ h => nomatch h) (fun p hp hne => .tail _ (.tail _ (.tail _ (List.mem_filter.mpr ⟨hp, decide_eq_true hne⟩)))) (.inr ⟨c', oc, vs, t, .tail _ (.tail _ (.head _)), .tail _ (.head _), h3, h4⟩)) ⟨c', ctv, _, oc, vs, t, .head _, .tail _ (.head _), h3, h4⟩
  · refine kla_hit (c' := c') F N C.T (codeHd_of_K C.X hC) hcd h1 trivial (by simp [codeAmong, rawInt]) hcl fun f ctv h' tk F' N' _ => ?_
    exact k f h' tk _ F' N' (off_of N h1 (fun _ _ h => nomatch h) (fun p hp _ => .tail _ hp) (.inr ⟨c', oc, vs, t, .tail _ h1, .tail _ h2, h3, h4⟩)) ⟨c', ctv, _, oc, vs, t, .head _, .tail _ h2, h3, h4⟩
theorem Off.keep {line col : Int} {led' : Led} (o : Off P line col qual led led') (ht : Tabs led → Tabs led') : Keep led led' :=
  ⟨fun p hp hs => o.off p hp (o.ne p hp (.inr fun ⟨vs, e⟩ => by obtain ⟨xs, n, e'⟩ := hs; rw [e] at e'; cases e')), ht, fun p hp hs => o.off p hp (o.ne p hp (.inl fun e => by rw [hs.1] at e; cases e))⟩
theorem Off.cell {line col : Int} {led' : Led} (o : Off P line col qual led led') {p : Addr × Obj} {v : Option Value} (hp : p ∈ led) (hd : p.2.data = .cell v) : p ∈ led' :=
  o.off p hp (o.ne p hp (.inr fun ⟨vs, e⟩ => by rw [hd] at e; cases e))
theorem Off.envs {line col : Int} {led' : Led} (o : Off P line col qual led led') (ht : Tabs led → Tabs led') (V : Envs C ρ m led) : Envs C ρ m led' := fun x a hx => (V x a hx).imp id fun ⟨v, hv, q⟩ => ⟨v, hv.keep (o.keep ht), q.imp id fun ⟨k, c, ob, h1, h2, h3⟩ => ⟨k, c, ob, h1, o.cell h2 h3, h3⟩⟩
/-- `_law_refused` called upon a lambda made in place -/
theorem refused_call {X : Str} {cls : Addr} {lf : Nat} {ρl : List (Str × AV)} {p1 p2 p3 : Pos} (D : Dx C) (S : SRel C N0 ρ none s.heap m led) (hcd : C.cdv = .ref c) (hC : codeHdIn (hd.heap_39 C.wd.params) c P = true) (ht : TabOk P pos.line pos.col qual led) (hTt : ∀ led', Off P pos.line pos.col qual led led' → Tabs led → Tabs led')
    (hq : C.env.qual ++ "<lambda>" = qual) (hcl : closureFor scope C.env = pure clos) (hdef : defaultsOf params C.env = ([], [])) (hr : ∀ f, RDoes C.wd f lf cls [] (LamIn f qual params body scope clos ρl)) (hlv : lf + 2 ≤ C.lv)
    (hρ : ∀ q ∈ ρl, q ∈ ρ ∧ q.2 ≠ .undef ∧ C.env.kindOf q.1 = some .cell ∧ clos.lookup q.1 = C.cl.lookup q.1) (hc : isExc C.wd X cls) (hx : C.env.kindOf X = some .globalImplicit) (hR : C.env.kindOf "_law_refused" = some .globalImplicit) (hdb : (X == ("__debug__" : Str)) = false) (hs1 : starEach [.Lambda params body scope pos, .Name X p2] C.env = (false, eval (.Lambda params body scope pos) C.env) :: starEach [.Name X p2] C.env) :
    wpAny (model PR C.wd) C.A (eval (.Call (.Name "_law_refused" p1) [.Lambda params body scope pos, .Name X p2] [] p3) C.env)
      (fun v s' => v = .bool true ∧ ∃ g' h' tk led', s' = { s with heap := h', toks := tk } ∧ KtsTurn (C.outer.filterMap (·.frame)) C.g g' ∧ Below C.A₀ C.base C.outer g' ∧ Fr g' C.L h' m ∧ News g' C.L h' led' ∧ Envs C ρ m led' ∧ Keep led led') (fun _ _ => False) s := by
  obtain ⟨_, hn, F, oe, N, rfl, V⟩ := S
  have dr := d_law_refused C.wd
  refine Call_ (nameX_K F C.X (topRead_of C.T) dr.1 (callWith_K (K := hd.heap_39 C.wd.params) C.X dr.2.1 (args_cons (lam_made F N hcd hC ht hq hcl hdef fun f h1 t1 led1 F1 N1 o hl => args_cons (nameX_K F1 C.X (topRead_of C.T) hc.ns (args_nil ⟨C.X.keeps F1.keep, ?_⟩) C.hk hx hdb) rfl) hs1) hs1 rfl) C.hk hR dr.2.2)
  obtain ⟨c', ctv, pm, oc, vs, t, l1, l2, l3, l4⟩ := hl
  have V1 := o.envs (hTt _ o) V
  refine t_refused hc (hr f) (fun news hp => ?_) C.dp C.un C.gd C.qual C.scope C.f C.cdv C.cl C.outer C.A₀ C.base C.g C.L m led1 { s with heap := h1, toks := t1 } C.p C.loose C.mean C.mg C.mb _ _ C.Bl F1 C.X N1 C.T C.hk (by have := C.hdp; omega) (by have := C.hun; omega) D.1 D.2 ⟨c', ctv, pm, oc, vs, t, l1, l2, l3, l4, fun y a hy => ?_⟩ fun r led2 h2 t2 g' T B F2 N2 q => ?_
  · obtain ⟨_, _, _, _, _, _, hm, _⟩ := hp
    exact ⟨_, _, _, _, hm⟩
  · obtain ⟨h1, h2, h3, h4⟩ := hρ (y, a) hy
    rcases V1 y a h1 with e | ⟨v, hv, ⟨k, _⟩ | ⟨_, c, ob, q1, q2, q3⟩⟩
    · exact absurd e h2
    · rw [h3] at k; cases k
    · exact ⟨c, ob, v, h4.trans q1, q2, q3, hv⟩
  · exact ⟨q.1, g', h2, t2, led2, rfl, T, B, F2, N2, V1.mono q.2, (o.keep (hTt _ o)).trans (.of q.2)⟩
end
section
variable {C : Cx} {ρ ρ' : List (Str × AV)} {l l0 : Addr} {its : Led} {b t tb fb rest : List Stmt} {s : Shared} {m : Str → Option Value} {led : Led} {pos : Pos}
theorem execs_app {M : Model} {A : Around} {env : Env} {Q : Flow → Shared → Prop} {E : Value → Shared → Prop} {t : List Stmt} : ∀ {b : List Stmt} {s : Shared}, wpAny M A (execs b env) (fun f s' => match f with | .next => wpAny M A (execs t env) Q E s' | f => Q f s') E s → wpAny M A (execs (b ++ t) env) Q E s := by
  intro b s h Γ p hΓ
  replace h := h Γ p hΓ
  induction b generalizing s p with
  | nil =>
    rw [execs_nil] at h
    exact h Γ p hΓ
  | cons st b ih =>
    rw [execs_cons, Sem.wp_bind'] at h
    rw [List.cons_append, execs_cons, Sem.wp_bind']
    refine Sem.wp_mono M Γ _ (fun f p' s' h' => ?_) (fun _ _ _ h' => h') _ _ h
    cases f with
    | next => exact ih _ h'
    | _ => exact h'
theorem EndT.re {P : Value → Led → Prop} {h : Heap} {t : Nat} {fl : Flow} {s' : Shared} (q : EndT C P { s with heap := h, toks := t } fl s') : EndT C P s fl s' := by
  obtain ⟨v, g', h', tk, m', led', e1, e2, r⟩ := q
  exact ⟨v, g', h', tk, m', led', e1, e2, r⟩
/-- a block of a def that the law asks: it gives True, the box and the tables in order -/
def BlB (C : Cx) (l l0 : Addr) (its : Led) (ρ : List (Str × AV)) (b : List Stmt) : Prop :=
  ∀ (s : Shared) m led, SRel C [] ρ none s.heap m led → VR led (.box l l0 its) (.ref l) → wpAny (model PR C.wd) C.A (execs b C.env) (EndT C (fun v led' => v = .bool true ∧ VR led' (.box l l0 its) (.ref l)) s) (fun _ _ => False) s
theorem blB_bl (h : ∀ N0, Bl C N0 ρ none b (fun _ _ => False) (· = .bool true)) : BlB C l l0 its ρ b := by
  intro s m led S hb
  refine wpAny_mono (h led s m led ⟨fun _ h => h, S.2⟩) (fun fl s' q => ?_) fun _ _ x => x
  cases fl with
  | next => obtain ⟨_, _, _, _, _, _, _, _, q⟩ := q; exact q.elim
  | ret v =>
    obtain ⟨a, g', h', tk, m', led', rfl, T, F', N', i', hv, rfl⟩ := q
    exact ⟨v, g', h', tk, m', led', rfl, rfl, T.2, F', N', hv, hb.mono i'⟩
  | brk => exact q.elim
  | cont => exact q.elim
theorem blB_app (h : ∀ N0, Bl C N0 ρ none b (fun ρ' own' => own' = none ∧ BlB C l l0 its ρ' t) (fun _ => False)) : BlB C l l0 its ρ (b ++ t) := by
  intro s m led S hb
  refine execs_app (wpAny_mono (h led s m led ⟨fun _ h => h, S.2⟩) (fun fl s' q => ?_) fun _ _ x => x)
  cases fl with
  | next =>
    obtain ⟨ρ', own', h', tk, m', led', rfl, S', rfl, hB⟩ := q
    exact wpAny_mono (hB { s with heap := h', toks := tk } m' led' ⟨(fun _ h => nomatch h), S'.2⟩ (hb.mono S'.1)) (fun _ _ q => q.re) fun _ _ x => x
  | ret v => obtain ⟨_, _, _, _, _, _, _, _, _, _, _, _, q⟩ := q; exact q.elim
  | brk => exact q.elim
  | cont => exact q.elim
end
section
variable {C : Cx} {ρ ρ' ρ1 ρ2 : List (Str × AV)} {l l0 c cx cy : Addr} {its : Led} {o ox oy : Obj} {rest : List Stmt} {s : Shared} {m : Str → Option Value} {led : Led} {x y : Str} {a b : AV} {l₁ : Addr} {v : Value} {v₀ vx vy : Option Value} {e1 e2 : Expr} {pos p1 p2 p3 p4 : Pos}
/-- what a cell's turning leaves -/
theorem cell_keep {g h : Heap} {L : Addr} {led' : Led} (N : News g L h led) (hm : (c, o) ∈ led) (hd : o.data = .cell v₀) (hi : ∀ p ∈ led, p.1 ≠ c → p ∈ led') : Keep led led' := by
  have off : ∀ p ∈ led, p.1 = c → p.2.data = .cell v₀ := fun p hp e => by
    have q := (N p hp).1
    rw [e, (N _ hm).1] at q
    rw [← Option.some.inj q]; exact hd
  have fl : ∀ p ∈ led, (∃ vs, p.2.data = .fields vs) → p ∈ led' := fun p hp ⟨vs, e⟩ => hi p hp fun q => by rw [off p hp q] at e; cases e
  exact ⟨fun p hp ⟨xs, n, e⟩ => hi p hp fun q => (by rw [off p hp q] at e; cases e), fun h => ⟨h.1.mono fl, h.2.1.mono fl, h.2.2.mono fl⟩, fun p hp q => fl p hp q.2⟩
theorem SRel.storeC {Q : Unit → Shared → Prop} {E : Value → Shared → Prop} (S : SRel C [] ρ none s.heap m led) (hp : Put ρ x a ρ') (hx : C.env.kindOf x = some .cell) (hc : C.cl.lookup x = some c) (hm : (c, o) ∈ led) (hd : o.data = .cell v₀) (hinj : ∀ y, C.cl.lookup y = some c → y = x) (hv : VR led a v)
    (k : ∀ h' led', SRel C [] ρ' none h' m led' → Keep led led' → (∀ p ∈ led, p.1 ≠ c → p ∈ led') → Q () { s with heap := h' }) : wpAny (model PR C.wd) C.A (storeName C.env x v) Q E s := by
  obtain ⟨h0, hn, F, oe, N, rfl, V⟩ := S
  have N1 : News C.g C.L s.heap ((c, o) :: led.filter fun p => decide (p.1 ≠ c)) := fun p hp => (List.mem_cons.mp hp).elim (fun e => e ▸ N _ hm) fun h => N p (List.mem_filter.mp h).1
  refine storeX_C F N1 hc (.head fun p hp => of_decide_eq_true (List.mem_filter.mp hp).2) hd (fun h' o' F' N' hd' => ?_) C.hk hx
  have hi : ∀ p ∈ led, p.1 ≠ c → p ∈ (c, o') :: led.filter fun p => decide (p.1 ≠ c) := fun p hp h => .tail _ (List.mem_filter.mpr ⟨hp, decide_eq_true h⟩)
  have hk := cell_keep N hm hd hi
  refine k h' _ ⟨fun _ h => (nomatch h), by rw [hp.names.1]; exact hn, F', [], N', rfl, fun y b hy => ?_⟩ hk hi
  rcases hp.mem hn y b hy with ⟨rfl, rfl⟩ | ⟨hne, hy⟩
  · exact .inr ⟨v, hv.keep hk, .inr ⟨.inl hx, c, o', hc, .head _, hd'⟩⟩
  · exact (V y b hy).imp id fun ⟨u, hu, q⟩ => ⟨u, hu.keep hk, q.imp id fun ⟨k, c1, o1, h1, h2, h3⟩ => ⟨k, c1, o1, h1, hi _ h2 fun e => hne (hinj y (h1.trans (congrArg some e))), h3⟩⟩
/-- the first statement: one row into its cell -/
theorem first1 (S : SRel C [] ρ none s.heap m led) (hb : VR led (.box l l0 its) (.ref l)) (he : Ev C ρ e1 a) (hx : C.env.kindOf x = some .cell) (hcx : C.cl.lookup x = some cx) (hmx : (cx, ox) ∈ led) (hdx : ox.data = .cell vx) (hix : ∀ y, C.cl.lookup y = some cx → y = x) (hp : Put ρ x a ρ') (h : BlB C l l0 its ρ' rest) :
    wpAny (model PR C.wd) C.A (execs (.Assign [.Name x p1] e1 pos :: rest) C.env) (EndT C (fun v led' => v = .bool true ∧ VR led' (.box l l0 its) (.ref l)) s) (fun _ _ => False) s := by
  obtain ⟨h0, hn, F, oe, N, rfl, V⟩ := S
  refine wpAny_execs_cons (wpAny_Assign_Name (he.use F N V fun v h1 t1 led1 F1 N1 i1 V1 q => ?_) (he.1.swap _ _))
  refine SRel.storeC (s := { s with heap := h1, toks := t1 }) ⟨fun _ h => (nomatch h), hn, F1, [], N1, rfl, V1⟩ hp hx hcx (i1 _ hmx) hdx hix q fun h2 led2 S2 k2 _ => ?_
  exact wpAny_mono (h { s with heap := h2, toks := t1 } m led2 S2 ((hb.mono i1).keep k2)) (fun _ _ q => q.re) fun _ _ x => x
/-- the first statement: two rows into their cells -/
theorem first2 {k1 : Nat} (S : SRel C [] ρ none s.heap m led) (hb : VR led (.box l l0 its) (.ref l)) (he : Ev C ρ e1 (.pair a b))
    (hx : C.env.kindOf x = some .cell) (hcx : C.cl.lookup x = some cx) (hmx : (cx, ox) ∈ led) (hdx : ox.data = .cell vx) (hix : ∀ y, C.cl.lookup y = some cx → y = x)
    (hy : C.env.kindOf y = some .cell) (hcy : C.cl.lookup y = some cy) (hmy : (cy, oy) ∈ led) (hdy : oy.data = .cell vy) (hiy : ∀ x, C.cl.lookup x = some cy → x = y) (hne : cy ≠ cx) (hp1 : Put ρ x a ρ1) (hp2 : Put ρ1 y b ρ2)
    (hs : swapsWithSole [.Tuple [.Name x p1, .Name y p2] k1 p3] e1 pos.line C.env = pure false) (hw : swappedStores [.Tuple [.Name x p1, .Name y p2] k1 p3] e1 C.env = pure none) (h : BlB C l l0 its ρ2 rest) :
    wpAny (model PR C.wd) C.A (execs (.Assign [.Tuple [.Name x p1, .Name y p2] k1 p3] e1 pos :: rest) C.env) (EndT C (fun v led' => v = .bool true ∧ VR led' (.box l l0 its) (.ref l)) s) (fun _ _ => False) s := by
  obtain ⟨h0, hn, F, oe, N, rfl, V⟩ := S
  refine wpAny_execs_cons (Assign_Tuple (he.use F N V fun v h1 t1 led1 F1 N1 i1 V1 q => ?_) hs hw)
  obtain ⟨t, va, vb, n, rfl, hm, qa, qb⟩ := q
  refine assign_Tuple_tuple (items := [va, vb].toArray) rfl ⟨_, (N1 _ hm).1, rfl, n, rfl⟩ rfl rfl (fun h6 hx6 => ?_)
  refine assignInOrder_cons (assign_Name (SRel.storeC (s := { s with heap := h6, toks := t1 }) ⟨fun _ h => (nomatch h), hn, F1.extBut hx6 (Nat.le_refl _), [], N1.extBut hx6 (Nat.le_refl _), rfl, V1⟩ hp1 hx hcx (i1 _ hmx) hdx hix qa fun h7 led7 S7 k7 j7 => ?_))
  refine assignInOrder_cons (assign_Name (SRel.storeC (s := { s with heap := h7, toks := t1 }) S7 hp2 hy hcy (j7 _ (i1 _ hmy) hne) hdy hiy (qb.keep k7) fun h8 led8 S8 k8 _ => assignInOrder_nil ?_))
  exact wpAny_mono (h { s with heap := h8, toks := t1 } m led8 S8 (((hb.mono i1).keep k7).keep k8)) (fun _ _ q => q.re) fun _ _ x => x
/-- the same, the second of them no cell -/
theorem first2L {k1 : Nat} (S : SRel C [] ρ none s.heap m led) (hb : VR led (.box l l0 its) (.ref l)) (he : Ev C ρ e1 (.pair a b))
    (hx : C.env.kindOf x = some .cell) (hcx : C.cl.lookup x = some cx) (hmx : (cx, ox) ∈ led) (hdx : ox.data = .cell vx) (hix : ∀ y, C.cl.lookup y = some cx → y = x) (hy : C.env.kindOf y = some .local) (hp1 : Put ρ x a ρ1) (hp2 : Put ρ1 y b ρ2)
    (hs : swapsWithSole [.Tuple [.Name x p1, .Name y p2] k1 p3] e1 pos.line C.env = pure false) (hw : swappedStores [.Tuple [.Name x p1, .Name y p2] k1 p3] e1 C.env = pure none) (h : BlB C l l0 its ρ2 rest) :
    wpAny (model PR C.wd) C.A (execs (.Assign [.Tuple [.Name x p1, .Name y p2] k1 p3] e1 pos :: rest) C.env) (EndT C (fun v led' => v = .bool true ∧ VR led' (.box l l0 its) (.ref l)) s) (fun _ _ => False) s := by
  obtain ⟨h0, hn, F, oe, N, rfl, V⟩ := S
  refine wpAny_execs_cons (Assign_Tuple (he.use F N V fun v h1 t1 led1 F1 N1 i1 V1 q => ?_) hs hw)
  obtain ⟨t, va, vb, n, rfl, hm, qa, qb⟩ := q
  refine assign_Tuple_tuple (items := [va, vb].toArray) rfl ⟨_, (N1 _ hm).1, rfl, n, rfl⟩ rfl rfl (fun h6 hx6 => ?_)
  refine assignInOrder_cons (assign_Name (SRel.storeC (s := { s with heap := h6, toks := t1 }) ⟨fun _ h => (nomatch h), hn, F1.extBut hx6 (Nat.le_refl _), [], N1.extBut hx6 (Nat.le_refl _), rfl, V1⟩ hp1 hx hcx (i1 _ hmx) hdx hix qa fun h7 led7 S7 k7 j7 => ?_))
  refine assignInOrder_cons (assign_Name (SRel.store (s := { s with heap := h7, toks := t1 }) S7 hp2 hy (qb.keep k7) trivial fun h8 m8 S8 => assignInOrder_nil ?_))
  exact wpAny_mono (h { s with heap := h8, toks := t1 + 1 } m8 led7 S8 ((hb.mono i1).keep k7)) (fun _ _ q => q.re) fun _ _ x => x
theorem nd3 (c : Nat) : [c + 3, c + 2, c + 1].Nodup := by simp
theorem nd2 (c : Nat) : [c + 2, c + 1].Nodup := by simp
end
section
variable {C : Cx} {ρ : List (Str × AV)} {l l0 : Addr} {its : Led} {t tb fb rest : List Stmt} {e e1 e2 : Expr} {s : Shared} {m : Str → Option Value} {led : Led} {pos p1 p2 : Pos} {w : Nat} {n : Int}
/-- which def runs here, its cells apart -/
structure Cx.IsC (C : Cx) (S : Scope) (n : Nat) : Prop where
  sc : C.scope = S
  lvl : C.lv = n
theorem Cx.IsC.k {S : Scope} {n : Nat} (I : C.IsC S n) {x : Str} {k : NameKind} (h : S.names.lookup x = some k) : C.env.kindOf x = some k := by
  show C.scope.names.lookup x = some k
  rw [I.sc]; exact h
theorem Cx.IsC.le {S : Scope} {n k : Nat} (I : C.IsC S n) (h : Nat.ble k n = true) : k ≤ C.lv := by rw [I.lvl]; exact Nat.le_of_ble_eq_true h
/-- the frame goes on, its ground turned -/
abbrev Cx.turn (C : Cx) (D : Dx C) (g' : Heap) (B : Below C.A₀ C.base C.outer g') : Cx := { C with g := g', Bl := B, X := D.1.keeps B.stays, T := D.2.keeps B.stays }
/-- an expression gives True and may turn the ground -/
def RefCall (C : Cx) (l l0 : Addr) (its : Led) (ρ : List (Str × AV)) (e : Expr) : Prop :=
  ∀ (s : Shared) m led, SRel C [] ρ none s.heap m led → VR led (.box l l0 its) (.ref l) → wpAny (model PR C.wd) C.A (eval e C.env) (fun v s' => v = .bool true ∧ ∃ g' h' tk led', s' = { s with heap := h', toks := tk } ∧ KtsTurn (C.outer.filterMap (·.frame)) C.g g' ∧ Below C.A₀ C.base C.outer g' ∧ Fr g' C.L h' m ∧ News g' C.L h' led' ∧ Envs C ρ m led' ∧ VR led' (.box l l0 its) (.ref l)) (fun _ _ => False) s
theorem blB_refRet (h : RefCall C l l0 its ρ e) : BlB C l l0 its ρ (.Return (some e) pos :: rest) := fun s m led S hb =>
  wpAny_execs_cons (wpAny_Return_some (wpAny_mono (h s m led S hb) (fun v s' q => by
    obtain ⟨rfl, g', h', tk, led', rfl, T, B, F', N', V', hb'⟩ := q
    exact ⟨_, g', h', tk, m, led', rfl, rfl, T, F', N', rfl, hb'⟩) fun _ _ x => x))
theorem blB_goOn (D : Dx C) {g' h' : Heap} {tk : Nat} {led' : Led} (hn : (ρ.map (·.1)).Nodup) (T : KtsTurn (C.outer.filterMap (·.frame)) C.g g') (B : Below C.A₀ C.base C.outer g') (F' : Fr g' C.L h' m) (N' : News g' C.L h' led') (V : Envs C ρ m led') (hb : VR led' (.box l l0 its) (.ref l)) (h : BlB (C.turn D g' B) l l0 its ρ rest) :
    wpAny (model PR C.wd) C.A (execs rest C.env) (EndT C (fun v led' => v = .bool true ∧ VR led' (.box l l0 its) (.ref l)) s) (fun _ _ => False) { s with heap := h', toks := tk } :=
  wpAny_mono (h { s with heap := h', toks := tk } m led' ⟨(fun _ h => nomatch h), hn, F', [], N', rfl, V⟩ hb) (fun _ _ q => by
    obtain ⟨v, g2, h2, tk2, m2, led2, e1, e2, T2, r⟩ := q
    exact ⟨v, g2, h2, tk2, m2, led2, e1, e2, T.trans T2, r⟩) fun _ _ x => x
theorem blB_refIf {c : Bool} (D : Dx C) (ht : Tr C ρ e1 c) (hc : c = true → RefCall C l l0 its ρ e) (hp : isTrue e C.env (eval e C.env) = (do let v ← eval e C.env; standAt e.pos; holding [v] (truthy v))) (h : ∀ g' B, BlB (C.turn D g' B) l l0 its ρ rest) :
    BlB C l l0 its ρ (.If (.BoolOp .And [e1, .UnaryOp .Not e p1] p2) tb [] pos :: rest) := fun s m led S hb => by
  have hn := S.2.1
  have go : ∀ b s', (b = false ∧ ∃ g' h' tk led', s' = { s with heap := h', toks := tk } ∧ KtsTurn (C.outer.filterMap (·.frame)) C.g g' ∧ Below C.A₀ C.base C.outer g' ∧ Fr g' C.L h' m ∧ News g' C.L h' led' ∧ Envs C ρ m led' ∧ VR led' (.box l l0 its) (.ref l)) → wpAny (model PR C.wd) C.A (execs (if b = true then tb else []) C.env) (fun f s' => match f with | .next => wpAny (model PR C.wd) C.A (execs rest C.env) (EndT C (fun v led' => v = .bool true ∧ VR led' (.box l l0 its) (.ref l)) s) (fun _ _ => False) s' | f => EndT C (fun v led' => v = .bool true ∧ VR led' (.box l l0 its) (.ref l)) s f s') (fun _ _ => False) s' := by
    rintro b s' ⟨rfl, g', h', tk, led', rfl, T, B, F', N', V', hb'⟩
    exact wpAny_execs_nil (blB_goOn D hn T B F' N' V' hb' (h g' B))
  refine wpAny_execs_cons (wpAny_If (wpAny_mono (Q := fun b s' => b = false ∧ ∃ g' h' tk led', s' = { s with heap := h', toks := tk } ∧ KtsTurn (C.outer.filterMap (·.frame)) C.g g' ∧ Below C.A₀ C.base C.outer g' ∧ Fr g' C.L h' m ∧ News g' C.L h' led' ∧ Envs C ρ m led' ∧ VR led' (.box l l0 its) (.ref l)) ?_ (fun b s' q => by have z := go b s' q; cases b <;> exact z) fun _ _ x => x))
  refine isTrue_and (SRel.tr (N0 := led) ⟨fun _ h => h, S.2⟩ ht fun h1 t1 led1 S1 => ?_)
  have hb1 := hb.mono S1.1
  cases c with
  | false =>
    obtain ⟨_, _, F1, oe, N1, rfl, V1⟩ := S1
    exact ⟨rfl, C.g, h1, t1, led1, rfl, .refl, C.Bl, F1, N1, V1, hb1⟩
  | true =>
    refine isTrue_and (isTrue_not (isTrue_plain (wpAny_mono (hc rfl { s with heap := h1, toks := t1 } m led1 ⟨(fun _ h => nomatch h), S1.2⟩ hb1) (fun v s' q => ?_) fun _ _ x => x) hp))
    obtain ⟨rfl, q⟩ := q
    exact wpAny_truthy_bool ⟨rfl, q⟩
theorem blB_ifT (ht : Tr C ρ e1 true) (h : BlB C l l0 its ρ tb) : BlB C l l0 its ρ (.If e1 tb fb pos :: rest) := fun s m led S hb =>
  wpAny_execs_cons (wpAny_If (SRel.tr (N0 := led) ⟨fun _ h => h, S.2⟩ ht fun h1 t1 led1 S1 => wpAny_mono (h { s with heap := h1, toks := t1 } m led1 ⟨(fun _ h => nomatch h), S1.2⟩ (hb.mono S1.1)) (fun fl s' q => by
    obtain ⟨v, g', h', tk, m', led', rfl, r⟩ := q.re (s := s)
    exact ⟨v, g', h', tk, m', led', rfl, r⟩) fun _ _ x => x))
/-- the number of a row that is given back -/
theorem ev_size (hw : 1 ≤ w) (hw6 : w ≤ 60) (hn : 0 ≤ n) (hn2 : n < 2 ^ 200) (he : Ev C ρ e1 (.list (row w n))) (hv : Ev C ρ e2 (.int (w : Int))) (hx : C.env.kindOf "_law_size" = some .globalImplicit) (hlv : 2 ≤ C.lv) : Ev C ρ (.Call (.Name "_law_size" p1) [e1, e2] [] pos) (.int n) :=
  ev_call (f__law_size C.wd w (row w n) n (row_spec hw hn) (Nat.lt_of_le_of_lt ((row_spec hw hn).len hw (Int.lt_of_lt_of_le hn2 (p2mono (Nat.le_mul_of_pos_left 200 hw)))) (by decide)) hw6) (d_law_size _) hx ⟨he, hv, trivial⟩ hlv
theorem tr_same (h1 : Ev C ρ e1 (.int n)) (h2 : Ev C ρ e2 (.int n)) : Tr C ρ (.Compare e1 [.NotEq] [e2] pos) false := tr_is (tr_cmp h1 h2 cmp_ne) (decide_eq_false fun h => h rfl)
theorem tr_sameB {p : Bool} (h1 : Ev C ρ e1 (.bool p)) (h2 : Ev C ρ e2 (.bool p)) : Tr C ρ (.Compare e1 [.NotEq] [e2] pos) false := tr_is (tr_cmp h1 h2 (c := p != p) fun s led v w Q N q1 q2 hq => by
  have e1 : v = .bool p := q1
  have e2 : w = .bool p := q2
  subst e1 e2
  exact ne_bool hq) (bne_self_eq_false p)
theorem tr_sameL {A : List Int} (hlv : 9 ≤ C.lv) (h1 : Ev C ρ e1 (.list A)) (h2 : Ev C ρ e2 (.list A)) : Tr C ρ (.Compare e1 [.NotEq] [e2] pos) false := tr_is (tr_cmp h1 h2 (cmp_lne hlv)) (decide_eq_false fun h => h rfl)
theorem bl_no {N0 : Led} {own : Own} {K : List (Str × AV) → Own → Prop} {R : AV → Prop} {x : Expr} (ht : Tr C ρ x false) (h : Bl C N0 ρ own rest K R) : Bl C N0 ρ own (.If x tb [] pos :: rest) K R := bl_if ht (fun q => nomatch q) fun _ => bl_nil h
theorem ev_mulN {a b : Nat} (h1 : Ev C ρ e1 (.int (a : Int))) (h2 : Ev C ρ e2 (.int (b : Int))) (ha : a < 2 ^ 20) : Ev C ρ (.BinOp e1 .Mult e2 pos) (.int ((a * b : Nat) : Int)) := ev_eq (ev_mul h1 h2 (.inl (by omega))) (by rw [Int.natCast_mul])
theorem ev_whole {x : Str} {ns : List Int} (h : Ev C ρ (.Name x p1) (.list ns)) (hn : ns.length < 2 ^ 20) : Ev C ρ (.Subscript (.Name x p1) (.Slice none none none p2) pos) (.list ns) :=
  ev_slice h evp_no evp_no hn (fun _ hi => kmk_all hi) (fun _ _ => rfl)
theorem ev_subB {p q : Bool} (h1 : Ev C ρ e1 (.bool p)) (h2 : Ev C ρ e2 (.bool q)) : Ev C ρ (.BinOp e1 .Sub e2 pos) (.int (b2i p - b2i q)) :=
  ⟨plain_bin, fun s m led F N V => wpAny_BinOp (h1.use F N V fun v1 h1 t1 led1 F1 N1 i1 V1 q1 => h2.use F1 N1 V1 fun v2 h2 t2 led2 F2 N2 i2 V2 q2 => by
    have e1 : v1 = .bool p := q1
    have e2 : v2 = .bool q := q2
    subst e1 e2
    exact sub_bool ⟨led2, nxt F2 N2 fun p hp => i2 p (i1 p hp), _, rfl⟩)⟩
theorem cmp_pp {A B : List Int} (hlv : 9 ≤ C.lv) : Cmp C .Eq (.pair (.list A) (.list B)) (.pair (.list A) (.list B)) true := by
  rintro s led v w Q N ⟨t1, va, vb, n1, rfl, hm1, ha, hb⟩ ⟨t2, vc, vd, n2, rfl, hm2, hc, hd⟩ hq
  have rd : ∀ {t v w n}, (t, tupObj [v, w] n) ∈ led → VR led (.list A) v → VR led (.list B) w → ∃ as, Reads s.heap (.ref t) (.tuple [.list (A.map PyData.int), .list (B.map PyData.int)]) as := fun hm h1 h2 => by
    obtain ⟨_, _, _, rfl, g1, i1, _⟩ := Has.isList h1 N
    obtain ⟨_, _, _, rfl, g2, i2, _⟩ := Has.isList h2 N
    exact ⟨_, .tuple (N _ hm).1 rfl rfl (.cons (reads_of_ints g1 i1) (.cons (reads_of_ints g2 i2) .nil))⟩
  obtain ⟨_, r1⟩ := rd hm1 ha hb
  obtain ⟨_, r2⟩ := rd hm2 hc hd
  have sh : PySem.SeqAt.shaped (.tuple [.list (A.map PyData.int), .list (B.map PyData.int)]) = true := by
    simp only [PySem.SeqAt.shaped, PyData.canLay0, PyData.canLayAll0, canLayAll0_ints, PyData.depth, PyData.depthAll, PyProof.Rows.depthAll_ints, Bool.and_true, Bool.true_and]
    decide
  exact PyProof.Rows.eq_dataH_same r1 r2 sh sh (by have := C.roomU; rw [C.units]; simp only [cLine]; omega) (by simp only [PySem.SeqAt.noMix, PySem.SeqAt.noMixAll, noMix_ints, Bool.and_true]) (by simp only [PySem.Spec.same, PySem.Spec.sameAll, same_ints, decide_true, Bool.and_true]; exact hq)
theorem Envs.nil {C : Cx} : Envs C [] m led := fun _ _ h => nomatch h
theorem Envs.cons {C : Cx} {x : Str} {a : AV} (h : a = .undef ∨ Knows C m led x a) (V : Envs C ρ m led) : Envs C ((x, a) :: ρ) m led := fun y b hy => by
  rcases List.mem_cons.mp hy with e | hy
  · cases e; exact h
  · exact V y b hy
theorem b2i_sgn (a b : Int) : AV.int (b2i (decide (b < a)) - b2i (decide (a < b))) = .int (sgn a b) := by
  rw [sgn]
  by_cases h : a < b
  · rw [if_pos h, decide_eq_true h, decide_eq_false (Int.not_lt.mpr (Int.le_of_lt h))]; rfl
  · rw [if_neg h, decide_eq_false h]
    by_cases k : b < a
    · rw [if_pos k, decide_eq_true k]; rfl
    · rw [if_neg k, decide_eq_false k]; rfl
theorem shl_lt {x : Int} {i : Nat} (j : Nat) (h : x < 2 ^ i) : x * 2 ^ j < 2 ^ (i + j) := by
  rw [p2add]; exact Int.mul_lt_mul_of_pos_right h (p2pos j)
theorem row_len (hw : 2 ≤ w) (h0 : 0 ≤ n) (h : n < 2 ^ (w * 6)) : (row w n).length < 2 ^ 10 := Nat.lt_of_le_of_lt ((row_spec (Nat.le_of_succ_le hw) h0).len (Nat.le_of_succ_le hw) h) (by decide)
theorem cells_inj {cl' cl : List (Str × Addr)} (hcl : cl' = cl) (hn : (cl.map (·.2)).Nodup) {x : Str} {c : Addr} (hx : cl.lookup x = some c) : ∀ y, cl'.lookup y = some c → y = x := fun y hy => by
  rw [hcl] at hy
  clear hcl
  induction cl with
  | nil => cases hx
  | cons p r ih =>
    rw [List.map_cons, List.nodup_cons] at hn
    rw [List.lookup_cons] at hx hy
    have key : ∀ z, List.lookup z r = some c → c ∈ r.map (·.2) := fun z hz => List.mem_map.mpr ⟨_, PySem.mem_of_lookup hz, rfl⟩
    cases e1 : x == p.1 <;> cases e2 : y == p.1 <;> rw [e1] at hx <;> rw [e2] at hy
    · exact ih hn.2 hx hy
    · exact absurd (key x hx) (by rw [← Option.some.inj hy]; exact hn.1)
    · exact absurd (key y hy) (by rw [← Option.some.inj hx]; exact hn.1)
    · rw [eq_of_beq e1, eq_of_beq e2]
end
theorem t_sums (wd : World) {l l0 : Addr} {its : Led} (w s : Nat) (a b : Int) (hw : 2 ≤ w) (hw9 : w ≤ 9) (hs : s ≤ 6) (ha : 0 ≤ a) (ha2 : a < 2 ^ (w * 6)) (hb : 0 ≤ b) (hb2 : b < 2 ^ (w * 6)) (t1 t2 t3 t4 : Tok) :
    DoesT wd 247 10 [.int a t1, .int b t2, .int (w : Int) t3, .int (s : Int) t4] (fun news => VR news (.box l l0 its) (.ref l)) (fun _ r news' => r = .bool true ∧ VR news' (.box l l0 its) (.ref l)) := by
  refine enterT [("a", .int a t1), ("b", .int b t2), ("w", .int (w : Int) t3), ("spot", .int (s : Int) t4)] (by k_dflt k_is) (by k_dflt k_is) rfl rfl (by decide) rfl rfl rfl (by decide) fun C cells s₀ hsc hlv hcl hq hcd htn hwd D F N Y hp => ?_
  subst hwd
  have I : C.IsC _ 10 := ⟨hsc, hlv⟩
  obtain ⟨o1, o2, o3, rfl, d1, d2, d3⟩ := CellsAre.three Y
  have hcl : C.cl = [(("other" : Str), C.L + 3), ("one", C.L + 2), ("w", C.L + 1)] := hcl
  have hN : (["a", "b", "w", "spot", "one", "other", "kept", "limb"] : List Str).Nodup := by decide
  have hw1 := Nat.le_of_succ_le hw
  have hw6 := Nat.le_trans hw9 (show 9 ≤ 60 by decide)
  have hw2 := Nat.le_trans hw9 (show 9 ≤ 100000 by decide)
  have rA := row_spec hw1 ha
  have rB := row_spec hw1 hb
  have hA := row_len hw ha ha2
  have hB := row_len hw hb hb2
  have hA2 := Nat.lt_trans hA (show 2 ^ 10 < 2 ^ 20 by decide)
  have hB2 := Nat.lt_trans hB (show 2 ^ 10 < 2 ^ 20 by decide)
  have h6 : w * 6 ≤ 54 := Nat.mul_le_mul_right 6 hw9
  have hs10 : s < 2 ^ 10 := Nat.lt_of_le_of_lt hs (by decide)
  have hws : w * s ≤ 54 := Nat.le_trans (Nat.mul_le_mul hw9 hs) (by decide)
  have a54 := Int.lt_of_lt_of_le ha2 (p2mono h6)
  have b54 := Int.lt_of_lt_of_le hb2 (p2mono h6)
  have bs := Int.lt_of_lt_of_le (shl_lt (w * s) b54) (p2mono (Nat.add_le_add_left hws 54))
  have bs0 := Int.mul_nonneg hb (Int.le_of_lt (p2pos (w * s)))
  have as1 := Int.lt_of_lt_of_le (shl_lt (w * s) a54) (p2mono (Nat.le_trans (Nat.add_le_add_left hws 54) (show 54 + 54 ≤ 1000 by decide)))
  have as0 := Int.mul_nonneg ha (Int.le_of_lt (p2pos (w * s)))
  refine first2 (ρ := [("a", .int a), ("b", .int b), ("w", .int (w : Int)), ("spot", .int (s : Int)), ("one", .undef), ("other", .undef), ("kept", .undef), ("limb", .undef)]) (x := "one") (y := "other") (a := .list (row w a)) (b := .list (row w b)) (cx := C.L + 2) (cy := C.L + 3)
    ⟨(fun _ h => nomatch h), hN, F, [], N, rfl, .cons (.inr ⟨_, ⟨t1, rfl⟩, .inl ⟨I.k rfl, rfl⟩⟩) (.cons (.inr ⟨_, ⟨t2, rfl⟩, .inl ⟨I.k rfl, rfl⟩⟩) (.cons (.inr ⟨_, ⟨t3, rfl⟩, .inr ⟨.inl (I.k rfl), C.L + 1, o3, (by rw [hcl]; rfl), .tail _ (.tail _ (.head _)), d3⟩⟩) (.cons (.inr ⟨_, ⟨t4, rfl⟩, .inl ⟨I.k rfl, rfl⟩⟩) (.cons (.inl rfl) (.cons (.inl rfl) (.cons (.inl rfl) (.cons (.inl rfl) .nil)))))))⟩
    (hp.mono fun p h => .tail _ (.tail _ (.tail _ h))) (by exact ev_pair (ev_call (f__law_row C.wd w a ha (Int.lt_of_lt_of_le a54 (p2mono (show 54 ≤ 1000 by decide))) hw1 hw6) (d_law_row _) (I.k rfl) (eva (ev_var (mm (k := 0) rfl)) (eva (ev_var (mm (k := 2) rfl)) eva0)) (I.le rfl)) (ev_call (f__law_row C.wd w b hb (Int.lt_of_lt_of_le b54 (p2mono (show 54 ≤ 1000 by decide))) hw1 hw6) (d_law_row _) (I.k rfl) (eva (ev_var (mm (k := 1) rfl)) (eva (ev_var (mm (k := 2) rfl)) eva0)) (I.le rfl)))
    (I.k rfl) (by rw [hcl]; rfl) (.tail _ (.head _)) d2 (cells_inj hcl (nd3 C.L) rfl) (I.k rfl) (by rw [hcl]; rfl) (.head _) d1 (cells_inj hcl (nd3 C.L) rfl) (Nat.succ_ne_self _) (pt 4 rfl) (pt 5 rfl) rfl ?_ ?_
  · show swappedStores _ _ (envX C.qual C.scope C.L C.f C.cdv C.cl) = _
    rw [hsc, hcl]; rfl
  refine blB_app (b := [_, _, _, _]) fun N0 => ?_
  refine bl_assign (ev_pair (ev_whole (ev_var (mm (k := 4) rfl)) hA2) (ev_whole (ev_var (mm (k := 5) rfl)) hB2)) (.inl rfl) (pt 6 rfl) (I.k rfl) trivial ?_
  refine bl_no (tr_or (tr_same (ev_size hw1 hw6 (Int.add_nonneg ha hb) (by omega) (ev_call (f_add C.wd w _ _ a b rA rB hA2 hB2 hw1 hw2) (d_add _) (I.k rfl) (eva (ev_var (mm (k := 4) rfl)) (eva (ev_var (mm (k := 5) rfl)) (eva (ev_var (mm (k := 2) rfl)) eva0))) (I.le rfl)) (ev_var (mm (k := 2) rfl)) (I.k rfl) (I.le rfl)) (ev_add (ev_var (mm (k := 0) rfl)) (ev_var (mm (k := 1) rfl)))) fun _ => tr_or (tr_same (ev_size hw1 hw6 (Int.add_nonneg ha bs0) (by omega) (ev_call (f_add_at C.wd w _ _ a b s rA rB hA hB hs10 hw1 hw2) (d_add_at _) (I.k rfl) (eva (ev_var (mm (k := 4) rfl)) (eva (ev_var (mm (k := 5) rfl)) (eva (ev_var (mm (k := 3) rfl)) (eva (ev_var (mm (k := 2) rfl)) eva0)))) (I.le rfl)) (ev_var (mm (k := 2) rfl)) (I.k rfl) (I.le rfl)) (ev_add (ev_var (mm (k := 0) rfl)) (ev_mul (ev_var (mm (k := 1) rfl)) (ev_pw (ev_mulN (ev_var (mm (k := 2) rfl)) (ev_var (mm (k := 3) rfl)) (by omega)) (by omega)) (.inl (by omega))))) fun _ => tr_or0) ?_
  refine bl_no (tr_same (ev_call (f_compare C.wd w _ _ a b rA rB hA2 hB2) (d_compare _) (I.k rfl) (eva (ev_var (mm (k := 4) rfl)) (eva (ev_var (mm (k := 5) rfl)) eva0)) (I.le rfl)) (ev_eq (ev_subB (ev_cmp (ev_var (mm (k := 0) rfl)) (ev_var (mm (k := 1) rfl)) cmp_gt) (ev_cmp (ev_var (mm (k := 0) rfl)) (ev_var (mm (k := 1) rfl)) cmp_lt)) (b2i_sgn a b))) ?_
  refine bl_no (tr_is (tr_and (tr_cmp (ev_var (mm (k := 0) rfl)) (ev_var (mm (k := 1) rfl)) cmp_ge) fun hc => tr_and (tr_same (ev_size hw1 hw6 (Int.sub_nonneg_of_le (of_decide_eq_true hc)) (by omega) (ev_call (f_sub C.wd w _ _ a b rA rB hA2 hB2 hw2 (of_decide_eq_true hc)) (d_sub _) (I.k rfl) (eva (ev_var (mm (k := 4) rfl)) (eva (ev_var (mm (k := 5) rfl)) (eva (ev_var (mm (k := 2) rfl)) eva0))) (I.le rfl)) (ev_var (mm (k := 2) rfl)) (I.k rfl) (I.le rfl)) (ev_sub (ev_var (mm (k := 0) rfl)) (ev_var (mm (k := 1) rfl)))) fun _ => tr_and0) (Bool.and_false _)) (bl_nil ⟨rfl, ?_⟩)
  refine blB_refIf D (tr_cmp (ev_var (mm (k := 0) rfl)) (ev_var (mm (k := 1) rfl)) cmp_lt) (fun hc s₁ m led S hbx => ?_) rfl fun g' B => ?_
  · refine wpAny_mono (refused_call (c := 246) (P := 242) (qual := "_law_sums_right.<locals>.<lambda>") (clos := [("w", C.L + 1), ("other", C.L + 3), ("one", C.L + 2)]) (lf := 3) (ρl := [("one", .list (row w a)), ("other", .list (row w b)), ("w", .int (w : Int))]) D S hcd (by kernel_rfl) hbx.2.2.1.1 (fun led' o h => ⟨o.tab, o.other _ _ _ _ (by decide) h.2.1, o.other _ _ _ _ (by decide) h.2.2⟩) ?_ ?_ rfl
      (fun f => lam_raises (d_sub _) (r_sub C.wd w _ _ a b rA rB hA2 hB2 (of_decide_eq_true hc)) (fun C => eva (ev_var (mm (k := 0) rfl)) (eva (ev_var (mm (k := 1) rfl)) (eva (ev_var (mm (k := 2) rfl)) eva0))) rfl rfl rfl fun _ _ _ => rfl) (I.le rfl) ?_ (x_OutOfRange _) (I.k rfl) (I.k rfl) rfl rfl) (fun v s' q => ?_) fun _ _ x => x
    · show (C.qual ++ _) ++ _ = _
      rw [hq]; rfl
    · show closureFor _ (envX C.qual C.scope C.L C.f C.cdv C.cl) = _
      rw [hsc, hcl]; rfl
    · rw [hcl]
      exact List.forall_mem_cons.mpr ⟨⟨(mm (k := 4) rfl), AV.noConfusion, I.k rfl, rfl⟩, List.forall_mem_cons.mpr ⟨⟨(mm (k := 5) rfl), AV.noConfusion, I.k rfl, rfl⟩, List.forall_mem_cons.mpr ⟨⟨(mm (k := 2) rfl), AV.noConfusion, I.k rfl, rfl⟩, fun _ h => nomatch h⟩⟩⟩
    · obtain ⟨q1, g', h', tk, led', e, T, B, F', N', V', K'⟩ := q
      exact ⟨q1, g', h', tk, led', e, T, B, F', N', V', hbx.keep K'⟩
  have I : (C.turn D g' B).IsC _ 10 := ⟨hsc, hlv⟩
  have m0 := Int.emod_nonneg b (p2ne w)
  have m1 := Int.emod_lt_of_pos b (p2pos w)
  have m9 := Int.lt_of_lt_of_le m1 (p2mono hw9)
  refine blB_bl fun N0 => ?_
  refine bl_assign (ev_mod (ev_var (mm (k := 1) rfl)) (ev_pw (ev_var (mm (k := 2) rfl)) hw2) (p2pos w)) (.inl rfl) (pt 7 rfl) (I.k rfl) trivial ?_
  refine bl_no (tr_is (tr_or (tr_same (ev_size hw1 hw6 (Int.add_nonneg ha m0) (by omega) (ev_call (f_add_limb C.wd w _ a _ rA hA2 ⟨m0, m1⟩ hw1 hw2) (d_add_limb _) (I.k rfl) (eva (ev_var (mm (k := 4) rfl)) (eva (ev_var (mm (k := 7) rfl)) (eva (ev_var (mm (k := 2) rfl)) eva0))) (I.le rfl)) (ev_var (mm (k := 2) rfl)) (I.k rfl) (I.le rfl)) (ev_add (ev_var (mm (k := 0) rfl)) (ev_var (mm (k := 7) rfl)))) fun _ => tr_or (tr_and (tr_cmp (ev_var (mm (k := 0) rfl)) (ev_var (mm (k := 7) rfl)) cmp_ge) fun hc => tr_and (tr_same (ev_size hw1 hw6 (Int.sub_nonneg_of_le (of_decide_eq_true hc)) (by omega) (ev_call (f_sub_limb C.wd w _ a _ rA hA2 ⟨m0, m1⟩ hw2 (of_decide_eq_true hc)) (d_sub_limb _) (I.k rfl) (eva (ev_var (mm (k := 4) rfl)) (eva (ev_var (mm (k := 7) rfl)) (eva (ev_var (mm (k := 2) rfl)) eva0))) (I.le rfl)) (ev_var (mm (k := 2) rfl)) (I.k rfl) (I.le rfl)) (ev_sub (ev_var (mm (k := 0) rfl)) (ev_var (mm (k := 7) rfl)))) fun _ => tr_and0) fun _ => tr_or0) ?_) ?_
  · exact (congrArg (· || false) (Bool.and_false _))
  refine bl_ret (ev_andB (ev_cmp (ev_pair (ev_var (mm (k := 4) rfl)) (ev_var (mm (k := 5) rfl))) (ev_var (mm (k := 6) rfl)) (cmp_pp (I.le rfl))) fun _ => ev_cmp (ev_call (f_lifted C.wd w _ a s rA hA hs10) (d_lifted _) (I.k rfl) (eva (ev_var (mm (k := 4) rfl)) (eva (ev_var (mm (k := 3) rfl)) eva0)) (I.le rfl)) (ev_call (f__law_row C.wd w _ as0 as1 hw1 hw6) (d_law_row _) (I.k rfl) (eva (ev_mul (ev_var (mm (k := 0) rfl)) (ev_pw (ev_mulN (ev_var (mm (k := 2) rfl)) (ev_var (mm (k := 3) rfl)) (by omega)) (by omega)) (.inl (by omega))) (eva (ev_var (mm (k := 2) rfl)) eva0)) (I.le rfl)) (cmp_leq (I.le rfl))) ?_
  rw [decide_eq_true rfl]; rfl
theorem t_limb (wd : World) {l l0 : Addr} {its : Led} (w : Nat) (a b d : Int) (hw : 2 ≤ w) (hw9 : w ≤ 9) (ha : 0 ≤ a) (ha2 : a < 2 ^ (w * 6)) (hb : 0 ≤ b) (hb2 : b < 2 ^ (w * 6)) (hd : 0 ≤ d ∧ d < 2 ^ w) (t1 t2 t3 t4 : Tok) :
    DoesT wd 254 10 [.int a t1, .int b t2, .int (w : Int) t3, .int d t4] (fun news => VR news (.box l l0 its) (.ref l)) (fun _ r news' => r = .bool true ∧ VR news' (.box l l0 its) (.ref l)) := by
  refine enterT [("a", .int a t1), ("b", .int b t2), ("w", .int (w : Int) t3), ("limb", .int d t4)] (by k_dflt k_is) (by k_dflt k_is) rfl rfl (by decide) rfl rfl rfl (by decide) fun C cells s₀ hsc hlv hcl hq hcd htn hwd D F N Y hp => ?_
  subst hwd
  have I : C.IsC _ 10 := ⟨hsc, hlv⟩
  obtain ⟨o1, o2, rfl, d1, d2⟩ := CellsAre.two Y
  have hcl : C.cl = [(("one" : Str), C.L + 2), ("w", C.L + 1)] := hcl
  have hN : (["a", "b", "w", "limb", "one", "other", "found", "rest"] : List Str).Nodup := by decide
  have hw1 := Nat.le_of_succ_le hw
  have hw6 := Nat.le_trans hw9 (show 9 ≤ 60 by decide)
  have rA := row_spec hw1 ha
  have rB := row_spec hw1 hb
  have hA := row_len hw ha ha2
  have hB := row_len hw hb hb2
  have hA2 := Nat.lt_trans hA (show 2 ^ 10 < 2 ^ 20 by decide)
  have h6 : w * 6 ≤ 54 := Nat.mul_le_mul_right 6 hw9
  have a54 := Int.lt_of_lt_of_le ha2 (p2mono h6)
  have b54 := Int.lt_of_lt_of_le hb2 (p2mono h6)
  have d9 := Int.lt_of_lt_of_le hd.2 (p2mono hw9)
  have ad := Int.lt_of_le_of_lt (Int.mul_le_mul_of_nonneg_left (Int.le_of_lt d9) ha) (shl_lt 9 a54)
  have bd := Int.lt_of_le_of_lt (Int.mul_le_mul_of_nonneg_left (Int.le_of_lt d9) hb) (shl_lt 9 b54)
  have ad0 := Int.mul_nonneg ha hd.1
  have bd0 := Int.mul_nonneg hb hd.1
  have s64 : a + b * d < 2 ^ 64 := by omega
  refine first2L (ρ := [("a", .int a), ("b", .int b), ("w", .int (w : Int)), ("limb", .int d), ("one", .undef), ("other", .undef), ("found", .undef), ("rest", .undef)]) (x := "one") (y := "other") (a := .list (row w a)) (b := .list (row w b)) (cx := C.L + 2)
    ⟨(fun _ h => nomatch h), hN, F, [], N, rfl, .cons (.inr ⟨_, ⟨t1, rfl⟩, .inl ⟨I.k rfl, rfl⟩⟩) (.cons (.inr ⟨_, ⟨t2, rfl⟩, .inl ⟨I.k rfl, rfl⟩⟩) (.cons (.inr ⟨_, ⟨t3, rfl⟩, .inr ⟨.inl (I.k rfl), C.L + 1, o2, (by rw [hcl]; rfl), .tail _ (.head _), d2⟩⟩) (.cons (.inr ⟨_, ⟨t4, rfl⟩, .inl ⟨I.k rfl, rfl⟩⟩) (.cons (.inl rfl) (.cons (.inl rfl) (.cons (.inl rfl) (.cons (.inl rfl) .nil)))))))⟩
    (hp.mono fun p h => .tail _ (.tail _ h)) (by exact ev_pair (ev_call (f__law_row C.wd w a ha (Int.lt_of_lt_of_le a54 (p2mono (show 54 ≤ 1000 by decide))) hw1 hw6) (d_law_row _) (I.k rfl) (eva (ev_var (mm (k := 0) rfl)) (eva (ev_var (mm (k := 2) rfl)) eva0)) (I.le rfl)) (ev_call (f__law_row C.wd w b hb (Int.lt_of_lt_of_le b54 (p2mono (show 54 ≤ 1000 by decide))) hw1 hw6) (d_law_row _) (I.k rfl) (eva (ev_var (mm (k := 1) rfl)) (eva (ev_var (mm (k := 2) rfl)) eva0)) (I.le rfl)))
    (I.k rfl) (by rw [hcl]; rfl) (.head _) d1 (cells_inj hcl (nd2 C.L) rfl) (I.k rfl) (pt 4 rfl) (pt 5 rfl) rfl ?_ ?_
  · show swappedStores _ _ (envX C.qual C.scope C.L C.f C.cdv C.cl) = _
    rw [hsc, hcl]; rfl
  refine blB_app (b := [_]) fun N0 => bl_no (tr_or (tr_same (ev_size hw1 hw6 ad0 (by omega) (ev_call (f_mul_limb C.wd w _ a d rA hA2 hd hw6) (d_mul_limb _) (I.k rfl) (eva (ev_var (mm (k := 4) rfl)) (eva (ev_var (mm (k := 3) rfl)) (eva (ev_var (mm (k := 2) rfl)) eva0))) (I.le rfl)) (ev_var (mm (k := 2) rfl)) (I.k rfl) (I.le rfl)) (ev_mul (ev_var (mm (k := 0) rfl)) (ev_var (mm (k := 3) rfl)) (.inl (by omega)))) fun _ => tr_or (tr_same (ev_size hw1 hw6 (Int.add_nonneg ha bd0) (by omega) (ev_call (f_add_mul C.wd w _ _ a b d rA rB hA hB hd (Int.lt_of_lt_of_le s64 (p2mono (show 64 ≤ 1000 by decide))) hw1 hw6) (d_add_mul _) (I.k rfl) (eva (ev_var (mm (k := 4) rfl)) (eva (ev_var (mm (k := 5) rfl)) (eva (ev_var (mm (k := 3) rfl)) (eva (ev_var (mm (k := 2) rfl)) eva0)))) (I.le rfl)) (ev_var (mm (k := 2) rfl)) (I.k rfl) (I.le rfl)) (ev_add (ev_var (mm (k := 0) rfl)) (ev_mul (ev_var (mm (k := 1) rfl)) (ev_var (mm (k := 3) rfl)) (.inl (by omega))))) fun _ => tr_or0) (bl_nil ⟨rfl, ?_⟩)
  by_cases h0 : d = 0
  · refine blB_ifT (tr_is (tr_cmp (ev_var (mm (k := 3) rfl)) ev_int cmp_eq) (decide_eq_true h0)) (blB_refRet fun s₁ m led S hbx => ?_)
    refine wpAny_mono (refused_call (c := 253) (P := 249) (qual := "_law_limb_right.<locals>.<lambda>") (clos := [("w", C.L + 1), ("one", C.L + 2)]) (lf := 3) (ρl := [("one", .list (row w a)), ("w", .int (w : Int))]) D S hcd (by kernel_rfl) hbx.2.2.1.2.1 (fun led' o h => ⟨o.other _ _ _ _ (by decide) h.1, o.tab, o.other _ _ _ _ (by decide) h.2.2⟩) ?_ ?_ rfl
      (fun f => lam_raises (d_divrem_limb _) (r_divrem C.wd w _) (fun C => eva (ev_var (mm (k := 0) rfl)) (eva ev_int (eva (ev_var (mm (k := 1) rfl)) eva0))) rfl rfl rfl fun _ _ _ => rfl) (I.le rfl) ?_ (x_DivisionByZero _) (I.k rfl) (I.k rfl) rfl rfl) (fun v s' q => ?_) fun _ _ x => x
    · show (C.qual ++ _) ++ _ = _
      rw [hq]; rfl
    · show closureFor _ (envX C.qual C.scope C.L C.f C.cdv C.cl) = _
      rw [hsc, hcl]; rfl
    · rw [hcl]
      exact List.forall_mem_cons.mpr ⟨⟨(mm (k := 4) rfl), AV.noConfusion, I.k rfl, rfl⟩, List.forall_mem_cons.mpr ⟨⟨(mm (k := 2) rfl), AV.noConfusion, I.k rfl, rfl⟩, fun _ h => nomatch h⟩⟩
    · obtain ⟨q1, g', h', tk, led', e, T, B, F', N', V', K'⟩ := q
      exact ⟨q1, g', h', tk, led', e, T, B, F', N', V', hbx.keep K'⟩
  · have hd0 : 0 < d := by omega
    refine blB_bl fun N0 => bl_no (tr_is (tr_cmp (ev_var (mm (k := 3) rfl)) ev_int cmp_eq) (decide_eq_false h0)) ?_
    refine bl_unpack (evs_call (d_divrem_limb _) (I.k rfl) (eva (ev_var (mm (k := 4) rfl)) (eva (ev_var (mm (k := 3) rfl)) (eva (ev_var (mm (k := 2) rfl)) eva0))) (f_divrem_limb C.wd w _ a d rA hA2 hd0 hd.2 hw6) (I.le rfl)) rfl rfl (I.k rfl) (I.k rfl) ?_
    rintro _ rfl
    refine ⟨_, _, _, _, rfl, (pt 6 rfl), (pt 7 rfl), ?_⟩
    refine bl_ret (ev_andB (ev_cmp (ev_size hw1 hw6 (Int.ediv_nonneg ha hd.1) (Int.lt_of_le_of_lt (Int.ediv_le_self d ha) (Int.lt_of_lt_of_le a54 (p2mono (show 54 ≤ 200 by decide)))) (ev_var (mm (k := 6) rfl)) (ev_var (mm (k := 2) rfl)) (I.k rfl) (I.le rfl)) (ev_div (ev_var (mm (k := 0) rfl)) (ev_var (mm (k := 3) rfl)) hd0 (by omega)) cmp_eq) fun _ => ev_cmp (ev_var (mm (k := 7) rfl)) (ev_mod (ev_var (mm (k := 0) rfl)) (ev_var (mm (k := 3) rfl)) hd0) cmp_eq) ?_
    rw [decide_eq_true rfl, decide_eq_true rfl]; rfl
theorem ev_one2 {C : Cx} {ρ : List (Str × AV)} {k : Nat} {n : Nat} {pos : Pos} : Ev C ρ (.Constant (.int (k : Int)) n pos) (.int (k : Int)) := ev_int
theorem bits_hi {a : Int} {t : Nat} {y : Int} (h : a = 2 ^ t * (2 * y + 1)) : a % 2 ^ t = 0 ∧ a / 2 ^ t % 2 = 1 := by
  rw [h, Int.mul_emod_right, Int.mul_ediv_cancel_left _ (p2ne t)]
  exact ⟨rfl, by omega⟩
theorem t_bits (wd : World) {l l0 : Addr} {its : Led} (w k s : Nat) (a : Int) (hw : 2 ≤ w) (hw9 : w ≤ 9) (hk : k < 40) (hs : s ≤ 6) (ha : 0 ≤ a) (ha2 : a < 2 ^ (w * 6)) (t1 t2 t3 t4 : Tok) :
    DoesT wd 261 10 [.int a t1, .int (w : Int) t2, .int (k : Int) t3, .int (s : Int) t4] (fun news => VR news (.box l l0 its) (.ref l)) (fun _ r news' => r = .bool true ∧ VR news' (.box l l0 its) (.ref l)) := by
  refine enterT [("a", .int a t1), ("w", .int (w : Int) t2), ("many", .int (k : Int) t3), ("spot", .int (s : Int) t4)] (by k_dflt k_is) (by k_dflt k_is) rfl rfl (by decide) rfl rfl rfl (by decide) fun C cells s₀ hsc hlv hcl hq hcd htn hwd D F N Y hp => ?_
  subst hwd
  have I : C.IsC _ 10 := ⟨hsc, hlv⟩
  obtain ⟨o1, o2, rfl, d1, d2⟩ := CellsAre.two Y
  have hcl : C.cl = [(("one" : Str), C.L + 2), ("w", C.L + 1)] := hcl
  have hN : (["a", "w", "many", "spot", "one", "under", "above"] : List Str).Nodup := by decide
  have hw1 := Nat.le_of_succ_le hw
  have hw6 := Nat.le_trans hw9 (show 9 ≤ 60 by decide)
  have hw2 := Nat.le_trans hw9 (show 9 ≤ 100000 by decide)
  have rA := row_spec hw1 ha
  have hA := row_len hw ha ha2
  have hA2 := Nat.lt_trans hA (show 2 ^ 10 < 2 ^ 20 by decide)
  have h6 : w * 6 ≤ 54 := Nat.mul_le_mul_right 6 hw9
  have hws : w * s ≤ 54 := Nat.le_trans (Nat.mul_le_mul hw9 hs) (by decide)
  have hk2 : k < 2 ^ 10 := Nat.lt_trans hk (by decide)
  have hk5 : k ≤ 100000 := Nat.le_trans (Nat.le_of_lt hk) (by decide)
  have hws5 : w * s ≤ 100000 := Nat.le_trans hws (by decide)
  have a54 := Int.lt_of_lt_of_le ha2 (p2mono h6)
  have a200 := Int.lt_of_lt_of_le a54 (p2mono (show 54 ≤ 200 by decide))
  have k62 : (2 : Int) ^ k < 2 ^ 62 := Int.lt_of_le_of_lt (p2mono (Nat.le_of_lt hk)) (by decide)
  have ws62 : (2 : Int) ^ (w * s) < 2 ^ 62 := Int.lt_of_le_of_lt (p2mono hws) (by decide)
  have w62 : (2 : Int) ^ w < 2 ^ 62 := Int.lt_of_le_of_lt (p2mono hw9) (by decide)
  have ak := Int.lt_of_lt_of_le (shl_lt k a54) (p2mono (show 54 + k ≤ 200 by omega))
  have q0 : ∀ i : Nat, 0 ≤ a / 2 ^ i := fun i => div2nn ha i
  have q1 : ∀ i : Nat, a / 2 ^ i < 2 ^ 200 := fun i => Int.lt_of_le_of_lt (Int.ediv_le_self _ ha) a200
  have r0 : ∀ x : Int, ∀ i : Nat, 0 ≤ x % 2 ^ i := fun x i => Int.emod_nonneg x (p2ne i)
  have r1 : ∀ x : Int, ∀ i : Nat, i ≤ 100 → x % 2 ^ i < 2 ^ 100 := fun x i hi => Int.lt_of_lt_of_le (Int.emod_lt_of_pos x (p2pos i)) (p2mono hi)
  have r2 : ∀ x : Int, ∀ i : Nat, i ≤ 100 → x % 2 ^ i < 2 ^ 200 := fun x i hi => Int.lt_of_lt_of_le (r1 x i hi) (p2mono (by decide))
  have r3 : ∀ x : Int, ∀ i : Nat, i ≤ 100 → x % 2 ^ i < 2 ^ 1000 := fun x i hi => Int.lt_of_lt_of_le (r1 x i hi) (p2mono (by decide))
  have h2w : 2 * w ≤ 100 := by omega
  refine first1 (ρ := [("a", .int a), ("w", .int (w : Int)), ("many", .int (k : Int)), ("spot", .int (s : Int)), ("one", .undef), ("under", .undef), ("above", .undef)]) (x := "one") (a := .list (row w a)) (cx := C.L + 2)
    ⟨(fun _ h => nomatch h), hN, F, [], N, rfl, .cons (.inr ⟨_, ⟨t1, rfl⟩, .inl ⟨I.k rfl, rfl⟩⟩) (.cons (.inr ⟨_, ⟨t2, rfl⟩, .inr ⟨.inl (I.k rfl), C.L + 1, o2, (by rw [hcl]; rfl), .tail _ (.head _), d2⟩⟩) (.cons (.inr ⟨_, ⟨t3, rfl⟩, .inl ⟨I.k rfl, rfl⟩⟩) (.cons (.inr ⟨_, ⟨t4, rfl⟩, .inl ⟨I.k rfl, rfl⟩⟩) (.cons (.inl rfl) (.cons (.inl rfl) (.cons (.inl rfl) .nil))))))⟩
    (hp.mono fun p h => .tail _ (.tail _ h)) (by exact (ev_call (f__law_row C.wd w a ha (Int.lt_of_lt_of_le a54 (p2mono (show 54 ≤ 1000 by decide))) hw1 hw6) (d_law_row _) (I.k rfl) (eva (ev_var (mm (k := 0) rfl)) (eva (ev_var (mm (k := 1) rfl)) eva0)) (I.le rfl))) (I.k rfl) (by rw [hcl]; rfl) (.head _) d1 (cells_inj hcl (nd2 C.L) rfl) (pt 4 rfl) ?_
  refine blB_app (b := [_, _, _, _, _, _, _]) fun N0 => ?_
  refine bl_no (tr_or (tr_same (ev_size hw1 hw6 (Int.mul_nonneg ha (Int.le_of_lt (p2pos k))) ak (ev_call (f_shift_left C.wd w _ a k rA hA hk2 hw1 hw6) (d_shift_left _) (I.k rfl) (eva (ev_var (mm (k := 4) rfl)) (eva (ev_var (mm (k := 2) rfl)) (eva (ev_var (mm (k := 1) rfl)) eva0))) (I.le rfl)) (ev_var (mm (k := 1) rfl)) (I.k rfl) (I.le rfl)) (ev_mul (ev_var (mm (k := 0) rfl)) (ev_pw (ev_var (mm (k := 2) rfl)) hk5) (.inl (by omega)))) fun _ => tr_or (tr_same (ev_size hw1 hw6 (q0 k) (q1 k) (ev_call (f_shift_right C.wd w _ a k rA hA hk2 hw1 hw6) (d_shift_right _) (I.k rfl) (eva (ev_var (mm (k := 4) rfl)) (eva (ev_var (mm (k := 2) rfl)) (eva (ev_var (mm (k := 1) rfl)) eva0))) (I.le rfl)) (ev_var (mm (k := 1) rfl)) (I.k rfl) (I.le rfl)) (ev_div (ev_var (mm (k := 0) rfl)) (ev_pw (ev_var (mm (k := 2) rfl)) hk5) (p2pos k) k62)) fun _ => tr_or0) ?_
  refine bl_no (tr_or (tr_same (ev_call (f_bits C.wd w _ a rA hA2 hw6) (d_bits _) (I.k rfl) (eva (ev_var (mm (k := 4) rfl)) (eva (ev_var (mm (k := 1) rfl)) eva0)) (I.le rfl)) (ev_bitlen (ev_var (mm (k := 0) rfl)) rfl)) fun _ => tr_or (tr_same (ev_call (f_bit C.wd w _ a k rA hA2 hw1 hw2) (d_bit _) (I.k rfl) (eva (ev_var (mm (k := 4) rfl)) (eva (ev_var (mm (k := 2) rfl)) (eva (ev_var (mm (k := 1) rfl)) eva0))) (I.le rfl)) (ev_mod (ev_div (ev_var (mm (k := 0) rfl)) (ev_pw (ev_var (mm (k := 2) rfl)) hk5) (p2pos k) k62) ev_int (by decide))) fun _ => tr_or0) ?_
  refine bl_no (tr_or (tr_same (ev_size hw1 hw6 (r0 a k) (r2 a k (by omega)) (ev_call (f_low C.wd w _ a k rA hA hw1 hw6) (d_low _) (I.k rfl) (eva (ev_var (mm (k := 4) rfl)) (eva (ev_var (mm (k := 2) rfl)) (eva (ev_var (mm (k := 1) rfl)) eva0))) (I.le rfl)) (ev_var (mm (k := 1) rfl)) (I.k rfl) (I.le rfl)) (ev_mod (ev_var (mm (k := 0) rfl)) (ev_pw (ev_var (mm (k := 2) rfl)) hk5) (p2pos k))) fun _ => tr_or (tr_sameB (ev_call (f_is_even C.wd w _ a rA hA2 hw1) (d_is_even _) (I.k rfl) (eva (ev_var (mm (k := 4) rfl)) eva0) (I.le rfl)) (ev_cmp (ev_mod (ev_var (mm (k := 0) rfl)) ev_int (by decide)) ev_int cmp_eq)) fun _ => tr_or0) ?_
  refine bl_unpack (evs_call (d_split _) (I.k rfl) (eva (ev_var (mm (k := 4) rfl)) (eva (ev_var (mm (k := 3) rfl)) eva0)) (f_split C.wd w _ a s rA hA2) (I.le rfl)) rfl rfl (I.k rfl) (I.k rfl) ?_
  rintro _ rfl
  refine ⟨_, _, _, _, rfl, (pt 5 rfl), (pt 6 rfl), ?_⟩
  refine bl_no (tr_or (tr_same (ev_size hw1 hw6 (r0 a _) (r2 a _ (by omega)) (ev_var (mm (k := 5) rfl)) (ev_var (mm (k := 1) rfl)) (I.k rfl) (I.le rfl)) (ev_mod (ev_var (mm (k := 0) rfl)) (ev_pw (ev_mulN (ev_var (mm (k := 1) rfl)) (ev_var (mm (k := 3) rfl)) (by omega)) hws5) (p2pos _))) fun _ => tr_or (tr_same (ev_size hw1 hw6 (q0 _) (q1 _) (ev_var (mm (k := 6) rfl)) (ev_var (mm (k := 1) rfl)) (I.k rfl) (I.le rfl)) (ev_div (ev_var (mm (k := 0) rfl)) (ev_pw (ev_mulN (ev_var (mm (k := 1) rfl)) (ev_var (mm (k := 3) rfl)) (by omega)) hws5) (p2pos _) ws62)) fun _ => tr_or0) ?_
  refine bl_no (tr_same (ev_size hw1 hw6 (r0 _ _) (r2 _ _ (by omega)) (ev_call (by have z := f_piece C.wd w _ a 1 (1 + s) rA hA2; rw [Nat.mul_one, Nat.add_sub_cancel_left] at z; exact z) (d_piece _) (I.k rfl) (eva (ev_var (mm (k := 4) rfl)) (eva ev_one2 (eva (ev_eq (ev_add ev_one2 (ev_var (mm (k := 3) rfl))) (by rw [Int.natCast_add])) eva0))) (I.le rfl)) (ev_var (mm (k := 1) rfl)) (I.k rfl) (I.le rfl)) (ev_mod (ev_div (ev_var (mm (k := 0) rfl)) (ev_pw (ev_var (mm (k := 1) rfl)) hw2) (p2pos w) w62) (ev_pw (ev_mulN (ev_var (mm (k := 1) rfl)) (ev_var (mm (k := 3) rfl)) (by omega)) hws5) (p2pos _))) ?_
  refine bl_no (tr_or (tr_sameL (I.le rfl) (ev_call (by have z := f_normal C.wd w (row w a ++ List.replicate s 0) (rA.dig.append (.zeros s)) (by rw [List.length_append, List.length_replicate]; omega); rw [val_append, val_zeros, Int.mul_zero, Int.add_zero, rA.is] at z; exact z) (d_normal _) (I.k rfl) (eva (ev_cat (ev_var (mm (k := 4) rfl)) (ev_zeros (ev_var (mm (k := 3) rfl)) (by omega)) (by rw [List.length_replicate]; omega)) eva0) (I.le rfl)) (ev_var (mm (k := 4) rfl))) fun _ => tr_or (tr_sameL (I.le rfl) (ev_call (f_nat_of C.wd w _ (r0 a _) (r3 a _ h2w) hw1 hw2) (d_nat_of _) (I.k rfl) (eva (ev_mod (ev_var (mm (k := 0) rfl)) (ev_pw (ev_mulN ev_one2 (ev_var (mm (k := 1) rfl)) (by decide)) (by omega)) (p2pos _)) (eva (ev_var (mm (k := 1) rfl)) eva0)) (I.le rfl)) (ev_call (f__law_row C.wd w _ (r0 a _) (r3 a _ h2w) hw1 hw6) (d_law_row _) (I.k rfl) (eva (ev_mod (ev_var (mm (k := 0) rfl)) (ev_pw (ev_mulN ev_one2 (ev_var (mm (k := 1) rfl)) (by decide)) (by omega)) (p2pos _)) (eva (ev_var (mm (k := 1) rfl)) eva0)) (I.le rfl))) fun _ => tr_or0) (bl_nil ⟨rfl, ?_⟩)
  by_cases h0 : a = 0
  · refine blB_ifT (tr_is (tr_cmp (ev_var (mm (k := 0) rfl)) ev_int cmp_eq) (decide_eq_true h0)) (blB_refRet fun s₁ m led S hbx => ?_)
    have hz : row w a = [] := by rw [h0]; exact Row.nil.eq.symm
    rw [hz] at S
    refine wpAny_mono (refused_call (c := 260) (P := 256) (qual := "_law_bits_right.<locals>.<lambda>") (clos := [("w", C.L + 1), ("one", C.L + 2)]) (lf := 2) (ρl := [("one", .list []), ("w", .int (w : Int))]) D S hcd (by kernel_rfl) hbx.2.2.1.2.2 (fun led' o h => ⟨o.other _ _ _ _ (by decide) h.1, o.other _ _ _ _ (by decide) h.2.1, o.tab⟩) ?_ ?_ rfl
      (fun f => lam_raises (d_trailing _) (r_trailing C.wd w) (fun C => eva (ev_var (mm (k := 0) rfl)) (eva (ev_var (mm (k := 1) rfl)) eva0)) rfl rfl rfl fun _ _ _ => rfl) (I.le rfl) ?_ (x_OutOfRange _) (I.k rfl) (I.k rfl) rfl rfl) (fun v s' q => ?_) fun _ _ x => x
    · show (C.qual ++ _) ++ _ = _
      rw [hq]; rfl
    · show closureFor _ (envX C.qual C.scope C.L C.f C.cdv C.cl) = _
      rw [hsc, hcl]; rfl
    · rw [hcl]
      exact List.forall_mem_cons.mpr ⟨⟨(mm (k := 4) rfl), AV.noConfusion, I.k rfl, rfl⟩, List.forall_mem_cons.mpr ⟨⟨(mm (k := 1) rfl), AV.noConfusion, I.k rfl, rfl⟩, fun _ h => nomatch h⟩⟩
    · obtain ⟨q1, g', h', tk, led', e, T, B, F', N', V', K'⟩ := q
      rw [hz]
      exact ⟨q1, g', h', tk, led', e, T, B, F', N', V', hbx.keep K'⟩
  · obtain ⟨t, y, ht, e⟩ := low2 (w * 6) a (by omega) ha2
    obtain ⟨e1, e2⟩ := bits_hi e
    have ht5 : t ≤ 100000 := by omega
    have ft := f_trailing C.wd w _ a y t rA hA2 hw6 h0 e
    refine blB_bl fun N0 => bl_no (tr_is (tr_cmp (ev_var (mm (k := 0) rfl)) ev_int cmp_eq) (decide_eq_false h0)) ?_
    refine bl_ret (ev_andB (ev_cmp (ev_mod (ev_var (mm (k := 0) rfl)) (ev_pw (ev_call (ft) (d_trailing _) (I.k rfl) (eva (ev_var (mm (k := 4) rfl)) (eva (ev_var (mm (k := 1) rfl)) eva0)) (I.le rfl)) ht5) (p2pos t)) ev_int cmp_eq) fun _ => ev_cmp (ev_mod (ev_div (ev_var (mm (k := 0) rfl)) (ev_pw (ev_call (ft) (d_trailing _) (I.k rfl) (eva (ev_var (mm (k := 4) rfl)) (eva (ev_var (mm (k := 1) rfl)) eva0)) (I.le rfl)) ht5) (p2pos t) (Int.lt_of_le_of_lt (p2mono (show t ≤ 54 by omega)) (by decide))) ev_int (by decide)) ev_int cmp_eq) ?_
    rw [decide_eq_true e1, decide_eq_true e2]; rfl
section
variable {C : Cx} {N0 : Led} {ρ ρ0 : List (Str × AV)} {l l0 a : Addr} {st st' d : Int} {ns : List Int} {its its' : Led} {e : Expr} {rest : List Stmt} {s : Shared} {h h' : Heap} {m : Str → Option Value} {led led' : Led} {pos p1 p2 : Pos} {x : Str} {n : Nat} {av av' : AV} {P : Value → Prop} {xs : Array Value} {tk : Nat}
theorem ev_box0 (hx : Ev C ρ (.Name x p1) (.boxV l l0 st ns its)) : Ev C ρ (.Subscript (.Name x p1) (.Constant (.int 0) n p2) pos) (.at l0 ns) :=
  ⟨plain_sub, fun s m led F N V => Subscript_ (hx.use F N V fun v h' tk led' F' N' i' V' q => ev_int.use F' N' V' fun w h2 t2 led2 F2 N2 i2 V2 q2 => by
    obtain ⟨u, rfl⟩ := q2
    obtain ⟨rfl, ⟨_, vs, n1, t, n2, h1, h2, h3, _⟩, _⟩ := q.mono i2
    exact tail_any (IsL.isList (n := n2) (N2 _ h1).1).typeIs slot_list_getitem.lookup (wpAny_getItem_list (IsL.isList (n := n2) (N2 _ h1).1) (by decide) (by decide) rfl ⟨led2, nxt F2 N2 fun p hp => i2 p (i' p hp), rfl, l0, vs, n1, rfl, h2, h3⟩) (Plain.sub (env := C.env) plain_const _ _ _))⟩
theorem ev_unat (h : Ev C ρ e (.at l ns)) : Ev C ρ e (.list ns) := ⟨h.1, fun s m led F N V => h.use F N V fun v h' tk led' F' N' i' V' q => ⟨led', nxt F' N' i', q.2⟩⟩
theorem ev_box1 (hx : Ev C ρ (.Name x p1) (.boxV l l0 st ns its)) : Ev C ρ (.Subscript (.Name x p1) (.Constant (.int 1) n p2) pos) (.int st) :=
  ⟨plain_sub, fun s m led F N V => Subscript_ (hx.use F N V fun v h' tk led' F' N' i' V' q => ev_int.use F' N' V' fun w h2 t2 led2 F2 N2 i2 V2 q2 => by
    obtain ⟨u, rfl⟩ := q2
    obtain ⟨rfl, ⟨_, vs, n1, t, n2, h1, h2, h3, _⟩, _⟩ := q.mono i2
    exact tail_any (IsL.isList (n := n2) (N2 _ h1).1).typeIs slot_list_getitem.lookup (wpAny_getItem_list (IsL.isList (n := n2) (N2 _ h1).1) (by decide) (by decide) rfl ⟨led2, nxt F2 N2 fun p hp => i2 p (i' p hp), _, rfl⟩) (Plain.sub (env := C.env) plain_const _ _ _))⟩
theorem Envs.scal (hcl : C.cl = []) (hs : ρ0.all (·.2.scalar) = true) (V : Envs C ρ0 m led) : Envs C ρ0 m led' := fun y b hy => (V y b hy).imp id fun ⟨v, hv, q⟩ =>
  ⟨v, hv.any (List.all_eq_true.mp hs _ hy), q.imp id fun ⟨_, c, o, h1, _⟩ => by rw [hcl] at h1; cases h1⟩
/-- the box told of anew -/
theorem SRel.boxTo (S : SRel C [] ((x, av) :: ρ0) none h m led) (hcl : C.cl = []) (hs : ρ0.all (·.2.scalar) = true) (h1 : av ≠ .undef) (h2 : ∀ v, VR led av v → v = .ref l) (F' : Fr C.g C.L h' m) (N' : News C.g C.L h' led') (hv : VR led' av' (.ref l)) : SRel C [] ((x, av') :: ρ0) none h' m led' := by
  obtain ⟨_, hn, F, oe, N, rfl, V⟩ := S
  refine ⟨fun _ h => (nomatch h), hn, F', [], N', rfl, .cons ?_ (Envs.scal hcl hs fun y b h => V y b (.tail _ h))⟩
  rcases V x av (.head _) with e | ⟨v, q, ⟨k, e⟩ | ⟨_, c, o, hc, _⟩⟩
  · exact absurd e h1
  · rw [h2 v q] at e
    exact .inr ⟨_, hv, .inl ⟨k, e⟩⟩
  · rw [hcl] at hc; cases hc
theorem SRel.boxV (S : SRel C [] ((x, av) :: ρ0) none h m led) (hcl : C.cl = []) (h1 : av ≠ .undef) (h2 : ∀ v, VR led av v → v = .ref l) : VR led av (.ref l) := by
  obtain ⟨_, hn, F, oe, N, rfl, V⟩ := S
  rcases V x av (.head _) with e | ⟨v, q, _⟩
  · exact absurd e h1
  · exact h2 v q ▸ q
/-- a list of the ledger turned: the tables stand -/
theorem list_turn {g : Heap} {L : Addr} (N : News g L h led) (hm : (a, W.listOf xs n) ∈ led) (hi : ∀ p ∈ led, p.1 ≠ a → p ∈ led') (ht : Tabs led) : Tabs led' := by
  have fl : ∀ p ∈ led, (∃ vs, p.2.data = .fields vs) → p ∈ led' := fun p hp ⟨vs, e⟩ => hi p hp fun q => by
    have z := (N p hp).1
    rw [q, (N _ hm).1] at z
    rw [← Option.some.inj z] at e
    cases e
  exact ⟨ht.1.mono fl, ht.2.1.mono fl, ht.2.2.mono fl⟩
theorem box_put {Q : Unit → Shared → Prop} {E : Value → Shared → Prop} {u t' : Tok} (S : SRel C [] ((x, .boxV l l0 st ns its) :: ρ0) none s.heap m led) (hcl : C.cl = []) (hs : ρ0.all (·.2.scalar) = true) (h0 : 0 ≤ st') (h1 : st' < 2 ^ 20)
    (k : ∀ h' led', SRel C [] ((x, .boxV l l0 st' ns its) :: ρ0) none h' m led' → Q () { s with heap := h' }) : wpAny (model PR C.wd) C.A (setItem (.ref l) (.int 1 u) (.int st' t')) Q E s := by
  obtain ⟨_, ⟨hne, vs, n1, t, n2, b1, b2, b3, b4, _⟩, b5, b6⟩ := S.boxV hcl AV.noConfusion fun v h => h.1
  obtain ⟨_, hn, F, oe, N, rfl, V⟩ := id S
  have N1 : News C.g C.L s.heap ([] ++ (l, W.listOf #[.ref l0, .int st t] n2) :: led.filter fun p => decide (p.1 ≠ l)) := fun p hp => (List.mem_cons.mp hp).elim (fun e => e ▸ N _ b1) fun h => N p (List.mem_filter.mp h).1
  have hi : ∀ o, ∀ p ∈ led, p.1 ≠ l → p ∈ (l, o) :: led.filter fun p => decide (p.1 ≠ l) := fun o p hp h => .tail _ (List.mem_filter.mpr ⟨hp, decide_eq_true h⟩)
  refine ki_setAt (N _ b1).1 (by decide) (by decide) (show (1 : Int) < 2 by decide) (k _ _ (S.boxTo (l := l) hcl hs AV.noConfusion (fun v h => h.1) (F.change (Heap.SameBut.update ..) (N _ b1).2.1 (N _ b1).2.2) (ki_turn (its' := #[.ref l0, .int st' t']) (n' := n2) _ N1 (fun _ h => nomatch h) (fun p hp => of_decide_eq_true (List.mem_filter.mp hp).2) rfl rfl) ⟨rfl, ⟨hne, vs, n1, t', n2, .head _, hi _ _ b2 hne.symm, b3, b4, h0, h1⟩, list_turn N b1 (hi _) b5, fun p hp => ⟨hi _ p (b6 p hp).1 (b6 p hp).2.1, (b6 p hp).2⟩⟩))
theorem box_pop {Q : Value → Shared → Prop} {E : Value → Shared → Prop} {u : Tok} (S : SRel C [] ((x, .boxV l l0 st (d :: ns) its) :: ρ0) none s.heap m led) (hcl : C.cl = []) (hs : ρ0.all (·.2.scalar) = true)
    (k : ∀ h' led' t, SRel C [] ((x, .boxV l l0 st ns its) :: ρ0) none h' m led' → Q (.int d t) { s with heap := h' }) : wpAny (model PR C.wd) C.A (call (.builtin "list.pop") [.ref l0, .int 0 u]) Q E s := by
  obtain ⟨_, ⟨hne, vs, n1, t, n2, b1, b2, b3, b4, b7⟩, b5, b6⟩ := S.boxV hcl AV.noConfusion fun v h => h.1
  obtain ⟨_, hn, F, oe, N, rfl, V⟩ := id S
  cases b3 with
  | cons _ td hr =>
    rename_i q
    have N1 : News C.g C.L s.heap ((l0, W.listOf (.int d td :: q).toArray n1) :: led.filter fun p => decide (p.1 ≠ l0)) := fun p hp => (List.mem_cons.mp hp).elim (fun e => e ▸ N _ b2) fun h => N p (List.mem_filter.mp h).1
    have hi : ∀ o, ∀ p ∈ led, p.1 ≠ l0 → p ∈ (l0, o) :: led.filter fun p => decide (p.1 ≠ l0) := fun o p hp h => .tail _ (List.mem_filter.mpr ⟨hp, decide_eq_true h⟩)
    have hlen := hr.length
    refine kl_popAt (k := 0) (p := []) (q := q) F N1 rfl (by simp [seqIndex?]) rfl (.head fun p hp => of_decide_eq_true (List.mem_filter.mp hp).2) (by rw [sizeLine_eq]; simp only [List.length_cons] at b4 ⊢; omega) fun h' F' N' => k h' _ td (S.boxTo (l := l) hcl hs AV.noConfusion (fun v h => h.1) F' N' ⟨rfl, ⟨hne, q, n1 + 1, t, n2, hi _ _ b1 hne, .head _, hr, Nat.le_of_succ_le b4, b7⟩, list_turn N b2 (hi _) b5, fun p hp => ⟨hi _ p (b6 p hp).1 (b6 p hp).2.2.1, (b6 p hp).2⟩⟩)
/-- an int of this kind -/
def IntV (P : Int → Prop) (v : Value) : Prop := ∃ i t, v = .int i t ∧ P i
/-- a block ends so: a value, the box in order -/
def EndW (C : Cx) (l l0 : Addr) (its : Led) (P : Value → Prop) (s : Shared) (fl : Flow) (s' : Shared) : Prop :=
  ∃ v h' tk m' led', fl = .ret v ∧ s' = { s with heap := h', toks := tk } ∧ Fr C.g C.L h' m' ∧ News C.g C.L h' led' ∧ VR led' (.box l l0 its) (.ref l) ∧ P v
abbrev DoesW (wd : World) (f : Addr) (lv : Nat) (vals : List Value) (l l0 : Addr) (its : Led) (P : Value → Prop) : Prop := Does wd f lv vals (fun news => VR news (.box l l0 its) (.ref l)) (fun _ r news' => VR news' (.box l l0 its) (.ref l) ∧ P r)
theorem enterW {wd : World} {f : Addr} {lv : Nat} {vals : List Value} {as : List AV} {names ls : List Str} {body : List Stmt} {scope : Scope} (I : IsFn wd f names ls body scope) (hlen : as.length = names.length) (hlv : 1 ≤ lv) (hv : ∀ news, VR news (.box l l0 its) (.ref l) → VRs news as vals)
    (h : ∀ (C : Cx) la, C.Is scope lv → ∀ s m led, SRel C [] (names.zip (ups la as) ++ ls.map fun x => (x, AV.undef)) none s.heap m led → wpAny (model PR C.wd) C.A (execs body C.env) (EndW C l l0 its P s) (fun _ _ => False) s) : DoesW wd f lv vals l l0 its P := by
  intro dp un gd cn cs a ccd cl outer A₀ base h₀ L m news s p loose mean mg mb Q E Bl F X N T hkc hd' hu hpre hret
  refine enter I hlen hlv Bl F X N T hkc hd' hu (hv news hpre) fun C la m' h₁ tk Is hne hwd hb ho htn FG S => ?_
  refine wpAny_mono (h C la Is { s with heap := h₁, toks := tk } _ news ⟨(fun _ h => nomatch h), S.2⟩) (fun fl s' q => ?_) fun _ _ x => x.elim
  obtain ⟨v, h', tk', m', led', rfl, rfl, F', N', hb', hp⟩ := q
  exact leaveK_ F' N' fun F3 N3 => hret _ _ _ _ F3 N3 ⟨hb', hp⟩
theorem VR.toBox {st : Int} {ns : List Int} {v : Value} (h : VR led (.boxV l l0 st ns its) v) : VR led (.box l l0 its) v := ⟨h.1, ⟨st, ns, h.2.1⟩, h.2.2⟩
/-- a return, the box in order -/
theorem retW {i : Int} {ρ1 : List (Str × AV)} {Pi : Int → Prop} (he : Ev C ((x, .boxV l l0 st ns its) :: ρ1) e (.int i)) (S : SRel C [] ((x, .boxV l l0 st ns its) :: ρ1) none h m led) (hcl : C.cl = []) (hp : Pi i) :
    wpAny (model PR C.wd) C.A (execs (.Return (some e) pos :: rest) C.env) (EndW C l l0 its (IntV Pi) s) (fun _ _ => False) { s with heap := h, toks := tk } :=
  wpAny_execs_cons (wpAny_Return_some (SRel.ev (s := { s with heap := h, toks := tk }) S he (.inl rfl) fun v h' tk' led' S' q => by
    obtain ⟨t, rfl⟩ := q
    obtain ⟨_, _, F', oe, N', rfl, _⟩ := id S'
    exact ⟨_, h', tk', m, led', rfl, rfl, F', N', VR.toBox (S'.boxV hcl AV.noConfusion fun v h => h.1), i, t, rfl, hp⟩))
theorem SRel.box (S : SRel C [] ((x, .box l l0 its) :: ρ0) none h m led) (hcl : C.cl = []) (hs : ρ0.all (·.2.scalar) = true) : ∃ st ns, (0 ≤ st ∧ st < 2 ^ 20) ∧ SRel C [] ((x, .boxV l l0 st ns its) :: ρ0) none h m led := by
  obtain ⟨_, ⟨st, ns, hb⟩, ht⟩ := S.boxV hcl AV.noConfusion fun v h => h.1
  have S' := S
  obtain ⟨_, hn, F, oe, N, rfl, V⟩ := id S
  exact ⟨st, ns, hb.2.choose_spec.choose_spec.choose_spec.choose_spec.2.2.2.2, S.boxTo (l := l) hcl hs AV.noConfusion (fun v h => h.1) F N ⟨rfl, hb, ht⟩⟩
end
theorem t_take (wd : World) {l l0 : Addr} {its : Led} (k : Int) (hk : 0 < k) (hk2 : k < 2 ^ 62) (t0 : Tok) : DoesW wd 212 1 [.ref l, .int k t0] l l0 its (IntV fun i => 0 ≤ i ∧ i < k) := by
  refine enterW (as := [.box l l0 its, .int k]) (isFn_of ["box", "limit"] [] (by k_dflt k_is) (by k_dflt k_is) (faS fun _ => fa1 fun _ => rfl) rfl (by decide) rfl) rfl (Nat.le_refl _) (fun news hb => ⟨hb, ⟨t0, rfl⟩, trivial⟩) fun C la I s m led S => ?_
  obtain ⟨st, ns, hst, S⟩ := SRel.box (x := "box") (ρ0 := [("limit", .int k)]) S I.nc rfl
  have hb := (S.boxV (l := l) I.nc AV.noConfusion fun v h => h.1).2.1
  have hn : ns.length < 2 ^ 20 := Nat.lt_of_le_of_lt hb.2.choose_spec.choose_spec.choose_spec.choose_spec.2.2.2.1 (by decide)
  cases ns with
  | nil =>
    refine wpAny_execs_cons (wpAny_If (S.tr (tr_is (tr_cmp (ev_len (b_len _) (ev_unat (ev_box0 (ev_var (mm (k := 0) rfl)))) (I.k rfl) hn) ev_int cmp_gt) (c := false) (rfl)) fun h1 t1 led1 S1 => ?_))
    refine wpAny_execs_nil (wpAny_execs_cons (wpAny_Assign_Subscript (SRel.ev (s := { s with heap := h1, toks := t1 }) S1 (ev_mod (ev_add (ev_mul (ev_box1 (ev_var (mm (k := 0) rfl))) ev_int (.inr (by decide))) ev_int) ev_int (by decide)) (.inl rfl) fun v h2 t2 led2 S2 q => ?_) rfl))
    obtain ⟨u, rfl⟩ := q
    refine SRel.ev (s := { s with heap := h2, toks := t2 }) S2 (ev_var (mm (k := 0) rfl)) (.inl rfl) fun v h3 t3 led3 S3 q => SRel.ev (s := { s with heap := h3, toks := t3 }) S3 ev_int (.inl rfl) fun w h4 t4 led4 S4 q4 => ?_
    obtain ⟨u4, rfl⟩ := q4
    obtain ⟨rfl, _⟩ := q
    refine box_put (s := { s with heap := h4, toks := t4 }) S4 I.nc rfl (Int.emod_nonneg _ (by decide)) (Int.lt_trans (Int.emod_lt_of_pos _ (by decide)) (by decide)) fun h5 led5 S5 => ?_
    exact retW (ev_mod (ev_div (ev_box1 (ev_var (mm (k := 0) rfl))) ev_int (by decide) (by decide)) (ev_var (mm (k := 1) rfl)) hk) S5 I.nc ⟨Int.emod_nonneg _ (Int.ne_of_gt hk), Int.emod_lt_of_pos _ hk⟩
  | cons d ns =>
    refine wpAny_execs_cons (wpAny_If (S.tr (tr_is (tr_cmp (ev_len (b_len _) (ev_unat (ev_box0 (ev_var (mm (k := 0) rfl)))) (I.k rfl) hn) ev_int cmp_gt) (c := true) (decide_eq_true (Int.natCast_pos.mpr (Nat.succ_pos _)))) fun h1 t1 led1 S1 => ?_))
    refine wpAny_execs_cons (wpAny_Return_some (wpAny_BinOp (MethodCall_ (SRel.ev (s := { s with heap := h1, toks := t1 }) S1 (ev_box0 (ev_var (mm (k := 0) rfl))) (.inl rfl) fun v h2 t2 led2 S2 q => ?_))))
    obtain ⟨rfl, _⟩ := q
    obtain ⟨_, vs, n1, t, n2, b1, b2, _⟩ := (S2.boxV (l := l) I.nc AV.noConfusion fun v h => h.1).2.1
    obtain ⟨_, _, F2, _, N2, rfl, _⟩ := id S2
    refine kl_method N2 b2 PySem.F.slot_list_pop PySem.F.type_list_pop (callWith_method1 (args_cons (SRel.ev (s := { s with heap := h2, toks := t2 }) S2 ev_int (.inl rfl) fun v h3 t3 led3 S3 q => args_nil ?_) rfl))
    obtain ⟨u, rfl⟩ := q
    refine box_pop (s := { s with heap := h3, toks := t3 }) S3 I.nc rfl fun h4 led4 td S4 => ?_
    refine SRel.ev (s := { s with heap := h4, toks := t3 }) S4 (ev_var (mm (k := 1) rfl)) (.inl rfl) fun v h5 t5 led5 S5 q => ?_
    obtain ⟨u5, rfl⟩ := q
    obtain ⟨_, _, F5, _, N5, rfl, _⟩ := id S5
    exact mod_int' (Int.ne_of_gt hk) (by rw [Int.fmod_eq_emod_of_nonneg _ (Int.le_of_lt hk)]; exact ⟨_, h5, _, m, led5, rfl, rfl, F5, N5, VR.toBox (S5.boxV (l := l) I.nc AV.noConfusion fun v h => h.1), _, _, rfl, Int.emod_nonneg _ (Int.ne_of_gt hk), Int.emod_lt_of_pos _ hk⟩)
section
variable {C : Cx} {ρ ρ' ρ0 : List (Str × AV)} {l l0 I : Addr} {its : Led} {e idx : Expr} {es : List Expr} {rest body tb fb : List Stmt} {s : Shared} {h : Heap} {m : Str → Option Value} {led led' : Led} {pos p1 p2 p3 p4 : Pos} {x y : Str} {P : Value → Prop} {Ps : List (Value → Prop)} {Pi : Int → Prop} {a : AV} {K : List (Str × AV) → Own → Prop} {R : AV → Prop} {vs : List Value} {g : Addr} {lf : Nat}
/-- an expression gives a value of this kind, the box in order -/
def EvV (C : Cx) (ρ : List (Str × AV)) (e : Expr) (P : Value → Prop) : Prop :=
  Plain C.env e ∧ ∀ (s : Shared) m led, SRel C [] ρ none s.heap m led → wpAny (model PR C.wd) C.A (eval e C.env) (fun v s' => ∃ h' tk led', s' = { s with heap := h', toks := tk } ∧ P v ∧ SRel C [] ρ none h' m led') (fun _ _ => False) s
theorem evv_ev (he : Ev C ρ e a) (hp : ∀ led v, VR led a v → P v) : EvV C ρ e P := ⟨he.1, fun s m led S => S.ev he (.inl rfl) fun v h' tk led' S' q => ⟨h', tk, led', rfl, hp _ _ q, S'⟩⟩
theorem evv_int {i : Int} (he : Ev C ρ e (.int i)) (hp : Pi i) : EvV C ρ e (IntV Pi) := evv_ev he fun _ _ ⟨t, q⟩ => ⟨i, t, q, hp⟩
def EvVs (C : Cx) (ρ : List (Str × AV)) : List Expr → List (Value → Prop) → Prop
  | [], [] => True
  | e :: es, P :: Ps => EvV C ρ e P ∧ EvVs C ρ es Ps
  | _, _ => False
def Alls : List (Value → Prop) → List Value → Prop
  | [], [] => True
  | P :: Ps, v :: vs => P v ∧ Alls Ps vs
  | _, _ => False
theorem Alls.inv (h : Alls (P :: Ps) vs) : ∃ v r, vs = v :: r ∧ P v ∧ Alls Ps r := by
  cases vs with
  | nil => exact h.elim
  | cons v r => exact ⟨v, r, rfl, h⟩
theorem Alls.fin (h : Alls [] vs) : vs = [] := by
  cases vs with
  | nil => rfl
  | cons v r => exact h.elim
theorem evvs0 : EvVs C ρ [] [] := trivial
theorem evvs (h : EvV C ρ e P) (t : EvVs C ρ es Ps) : EvVs C ρ (e :: es) (P :: Ps) := ⟨h, t⟩
theorem EvVs.any : ∀ {es : List Expr} {Ps : List (Value → Prop)}, EvVs C ρ es Ps → (backTo pos (starEach es C.env)).any (·.1) = false
  | [], [], _ => rfl
  | e :: es, P :: Ps, h => by
    rw [h.1.1.star]
    show (false || (backTo pos (starEach es C.env)).any (·.1)) = false
    rw [EvVs.any h.2]; rfl
  | [], _ :: _, h => h.elim
  | _ :: _, [], h => h.elim
theorem EvVs.use : ∀ {es : List Expr} {Ps : List (Value → Prop)} {s : Shared} {led : Led} {Q : List Value → Shared → Prop}, EvVs C ρ es Ps → SRel C [] ρ none s.heap m led → (∀ vs h' tk led', Alls Ps vs → SRel C [] ρ none h' m led' → Q vs { s with heap := h', toks := tk }) →
    wpAny (model PR C.wd) C.A (spliced (backTo pos (starEach es C.env))) Q (fun _ _ => False) s
  | [], [], s, led, Q, _, S, k => args_nil (k [] s.heap s.toks led trivial S)
  | e :: es, P :: Ps, s, led, Q, h, S, k => args_cons (wpAny_mono (h.1.2 s m led S) (fun v s' q => by
      obtain ⟨h', tk, led', rfl, hp, S'⟩ := q
      exact EvVs.use (s := { s with heap := h', toks := tk }) h.2 S' fun vs h2 tk2 led2 q2 S2 => k (v :: vs) h2 tk2 led2 ⟨hp, q2⟩ S2) fun _ _ x => x) (h.1.1.star es)
  | [], _ :: _, _, _, _, h, _, _ => h.elim
  | _ :: _, [], _, _, _, h, _, _ => h.elim
theorem evv_call (hdf : isDef C.wd x g) (hx : C.env.kindOf x = some .globalImplicit) (he : EvVs C ρ (e :: es) (P :: Ps)) {P' : Value → Prop}
    (hc : ∀ vs s led, Alls (P :: Ps) vs → SRel C [] ρ none s.heap m led → wpAny (model PR C.wd) C.A (call (.ref g) vs) (fun v s' => ∃ h' tk led', s' = { s with heap := h', toks := tk } ∧ P' v ∧ SRel C [] ρ none h' m led') (fun _ _ => False) s) (S : SRel C [] ρ none s.heap m led) :
    wpAny (model PR C.wd) C.A (eval (.Call (.Name x p1) (e :: es) [] pos) C.env) (fun v s' => ∃ h' tk led', s' = { s with heap := h', toks := tk } ∧ P' v ∧ SRel C [] ρ none h' m led') (fun _ _ => False) s := by
  refine Call_ (nameX_K S.2.2.1 C.X (topRead_of C.T) hdf.1 (callWith_K (K := hd.heap_39 C.wd.params) C.X hdf.2.1 (he.use S fun vs h' tk led' q S' => ⟨C.X.keeps S'.2.2.1.keep, ?_⟩) (he.1.1.star es) he.2.any) C.hk hx hdf.2.2)
  refine wpAny_mono (hc vs { s with heap := h', toks := tk } led' q S') (fun v s' q => ?_) fun _ _ x => x
  obtain ⟨h2, tk2, led2, rfl, r⟩ := q
  exact ⟨h2, tk2, led2, rfl, r⟩
/-- a def of the box's kind called -/
theorem call_does (hD : DoesW C.wd g lf vs l l0 its P) (hcl : C.cl = []) (hs : ρ0.all (·.2.scalar) = true) (hlv : lf + 1 ≤ C.lv) (S : SRel C [] ((x, .box l l0 its) :: ρ0) none s.heap m led) :
    wpAny (model PR C.wd) C.A (call (.ref g) vs) (fun v s' => ∃ h' tk led', s' = { s with heap := h', toks := tk } ∧ P v ∧ SRel C [] ((x, .box l l0 its) :: ρ0) none h' m led') (fun _ _ => False) s := by
  obtain ⟨_, hn, F, oe, N, rfl, V⟩ := id S
  exact hD C.dp C.un C.gd C.qual C.scope C.f C.cdv C.cl C.outer C.A₀ C.base C.g C.L m led s C.p C.loose C.mean C.mg C.mb _ _ C.Bl F C.X N C.T C.hk (by have := C.hdp; omega) (by have := C.hun; omega) (S.boxV hcl AV.noConfusion fun v h => h.1) fun r news' h' tk' F' N' q => ⟨h', tk', news', rfl, q.2, S.boxTo (l := l) hcl hs AV.noConfusion (fun v h => h.1) F' N' q.1⟩
theorem bl_assignV (he : EvV C ρ e (IntV Pi)) (hx : C.env.kindOf x = some .local) (h : ∀ i, Pi i → ∃ ρ', Put ρ x (.int i) ρ' ∧ Bl C [] ρ' none rest K R) : Bl C [] ρ none (.Assign [.Name x p1] e pos :: rest) K R :=
  fun s m led S => wpAny_execs_cons (wpAny_Assign_Name (wpAny_mono (he.2 s m led S) (fun v s' q => by
    obtain ⟨h', tk, led', rfl, ⟨i, t, rfl, hp⟩, S'⟩ := q
    obtain ⟨ρ', hput, hB⟩ := h i hp
    exact SRel.store (s := { s with heap := h', toks := tk }) S' hput hx ⟨t, rfl⟩ trivial fun h2 m2 S2 => hB.use S2) fun _ _ x => x) (he.1.swap _ _))
/-- `_law_take(box, k)` -/
theorem evv_take {k : Int} (hk : 0 < k) (hk2 : k < 2 ^ 62) (he : Ev C ((x, .box l l0 its) :: ρ0) e (.int k)) (hd : (x == ("__debug__" : Str)) = false) (hR : C.env.kindOf "_law_take" = some .globalImplicit) (hcl : C.cl = []) (hs : ρ0.all (·.2.scalar) = true) (hlv : 2 ≤ C.lv) :
    EvV C ((x, .box l l0 its) :: ρ0) (.Call (.Name "_law_take" p1) [.Name x p2, e] [] pos) (IntV fun i => 0 ≤ i ∧ i < k) :=
  ⟨plain_call, fun s m led S => evv_call (d_law_take _) hR (evvs (evv_ev (a := .box l l0 its) (P := (· = .ref l)) (ev_var (.head _) AV.noConfusion hd) fun _ _ q => q.1) (evvs (evv_int (Pi := (· = k)) he rfl) evvs0)) (fun vs s led q S => by
    obtain ⟨v, r, rfl, e1, q⟩ := q.inv
    obtain ⟨w, r, rfl, ⟨i, t, e2, e3⟩, q⟩ := q.inv
    rw [q.fin, e1, e2, e3]
    exact call_does (t_take C.wd k hk hk2 t) hcl hs hlv S) S⟩
theorem alls_ints {n : Nat} : ∀ {vs : List Value}, Alls (List.replicate n (IntV Pi)) vs → ∃ ns, IntsAre vs ns ∧ (∀ i ∈ ns, Pi i) ∧ ns.length = n := by
  induction n with
  | zero => intro vs h; rw [h.fin]; exact ⟨[], .nil, (fun _ h => nomatch h), rfl⟩
  | succ n ih =>
    intro vs h
    obtain ⟨v, r, rfl, ⟨i, t, rfl, hp⟩, h2⟩ := Alls.inv (Ps := List.replicate n (IntV Pi)) h
    obtain ⟨ns, h3, h4, h5⟩ := ih h2
    exact ⟨i :: ns, .cons _ _ h3, fun j hj => (List.mem_cons.mp hj).elim (fun e => e ▸ hp) (h4 j), congrArg (· + 1) h5⟩
/-- one of the items of a display, at a drawn place -/
theorem evv_menu {n : Nat} (hn : n < 2 ^ 20) (he : EvVs C ((x, .box l l0 its) :: ρ0) es (List.replicate n (IntV Pi))) (hi : ∀ its', EvV C ((x, .box l l0 its') :: ρ0) idx (IntV fun i => 0 ≤ i ∧ i < n)) (hcl : C.cl = []) (hs : ρ0.all (·.2.scalar) = true) : EvV C ((x, .box l l0 its) :: ρ0) (.Subscript (.List es p1) idx pos) (IntV Pi) := by
  refine ⟨plain_sub, fun s m led S => Subscript_ (List_ (he.use S fun vs h1 t1 led1 q S1 => ?_))⟩
  obtain ⟨ns, j1, j2, j3⟩ := alls_ints q
  obtain ⟨b1, ⟨st, ns0, b2⟩, b3, b4⟩ := S1.boxV (l := l) hcl AV.noConfusion fun v h => h.1
  obtain ⟨_, _, F1, _, N1, rfl, _⟩ := id S1
  refine newList_K F1 N1 (fun D h2 F2 N2 hD => ?_) (by rw [j1.length, j3, sizeLine_eq]; omega)
  have hx : ∀ p ∈ led1, p ∈ (D, W.listOf vs.toArray 0) :: led1 := fun p hp => .tail _ hp
  obtain ⟨hne, us, n1, t, n2, c1, c2, _⟩ := id b2
  have S2 : SRel C [] ((x, .box l l0 ((D, W.listOf vs.toArray 0) :: its)) :: ρ0) none h2 m _ := S1.boxTo (l := l) hcl hs AV.noConfusion (fun v h => h.1) F2 N2 ⟨rfl, ⟨st, ns0, b2.keep (.of hx)⟩, (Keep.of hx).tabs b3, fun p hp => (List.mem_cons.mp hp).elim (fun e => by rw [e]; exact ⟨.head _, Nat.ne_of_gt (hD _ c1), Nat.ne_of_gt (hD _ c2), .inl ⟨_, _, rfl⟩⟩) fun hp => (b4.keep (.of hx)) p hp⟩
  refine wpAny_mono ((hi _).2 { s with heap := h2, toks := t1 } m _ S2) (fun w s' q => ?_) fun _ _ x => x
  obtain ⟨h3, t3, led3, rfl, ⟨i, u, rfl, hi0, hi1⟩, S3⟩ := q
  obtain ⟨d1, d2, d3, d4⟩ := S3.boxV (l := l) hcl AV.noConfusion fun v h => h.1
  obtain ⟨_, _, F3, _, N3, rfl, _⟩ := id S3
  have hm := (d4 _ (.head _)).1
  refine tail_any (IsL.isList (n := 0) (N3 _ hm).1).typeIs slot_list_getitem.lookup (getItem_intsK (IsL.isList (n := 0) (N3 _ hm).1) j1 hi0 (by omega) (by omega) fun t => ⟨h3, _, led3, rfl, ⟨_, t, rfl, ?_⟩, S3.boxTo (l := l) hcl hs AV.noConfusion (fun v h => h.1) F3 N3 ⟨rfl, d2, d3, fun p hp => d4 p (.tail _ hp)⟩⟩) ((hi its).1.sub _ _ _)
  rw [getD_in (show i.toNat < ns.length by omega)]
  exact j2 _ (List.getElem_mem _)
end
section
variable {C : Cx} {ρ ρ' ρ0 : List (Str × AV)} {l l0 I : Addr} {its : Led} {e : Expr} {rest body : List Stmt} {s : Shared} {h : Heap} {m : Str → Option Value} {led led' : Led} {pos p1 p2 p3 : Pos} {x : Str} {K : List (Str × AV) → Own → Prop} {R : AV → Prop} {τ : Type} {env : τ → List (Str × AV)} {P : Nat → τ → Prop} {it : Obj}
/-- the iterator apart: the tables stand -/
theorem iter_off {g : Heap} {L : Addr} {a b : Int} (N : News g L h led) (hm : (I, itR a b) ∈ led) (ht : Tabs led) : Tabs (led.filter fun p => decide (p.1 ≠ I)) := by
  have same : ∀ p ∈ led, p.1 = I → p.2 = itR a b := fun p hp e => by
    have z := (N p hp).1
    rw [e, (N _ hm).1] at z
    exact (Option.some.inj z).symm
  have hi : ∀ p ∈ led, p.2 ≠ itR a b → p ∈ led.filter fun p => decide (p.1 ≠ I) := fun p hp h => List.mem_filter.mpr ⟨hp, decide_eq_true fun e => h (same p hp e)⟩
  have key : ∀ {P : Addr} {line col : Int} {qual : Str}, TabOk P line col qual led → TabOk P line col qual (led.filter fun p => decide (p.1 ≠ I)) := fun h => by
    rcases h with h | ⟨c', oc, vs, t, h1, h2, h3, h4⟩
    · exact .inl (hi _ h fun e => by cases congrArg Obj.cls e)
    · refine .inr ⟨c', oc, vs, t, hi _ h1 fun e => (by cases congrArg Obj.cls e), hi _ h2 fun e => ?_, h3, h4⟩
      have e : oc = itR a b := e
      rw [e] at h3
      cases h3
      cases h4
  exact ⟨key ht.1, key ht.2.1, key ht.2.2⟩
/-- what stands between the turns -/
def TurnV (C : Cx) (x : Str) (l l0 : Addr) (its : Led) (env : τ → List (Str × AV)) (P : τ → Prop) (ρ' : List (Str × AV)) (own' : Own) : Prop := own' = none ∧ ∃ c ρ1, ρ' = (x, .box l l0 its) :: ρ1 ∧ Cov ρ1 (env c) ∧ P c
theorem forV_turn {y : Str} {i : Nat} {a b : Int} {t : Tok} {c : τ} {Q : Flow → Shared → Prop} {tk : Nat} {rst : (Str → Option Value) → Led → Prop} (hcl : C.cl = []) (hx : C.env.kindOf y = some .local) (hs : ∀ c, (env c).all (·.2.scalar) = true) (hnd : ((x, AV.box l l0 its) :: env c).map (·.1) |>.Nodup)
    (V : Envs C ((x, .box l l0 its) :: env c) m led) (F : Fr C.g C.L h (fun z => if z = y then some (.int (i : Int) t) else m z)) (N : News C.g C.L h ((I, itR a b) :: led)) (hI : ∀ p ∈ led, p.1 ≠ I)
    (hB : ∃ ρb, Put (env c) y (.int (i : Int)) ρb ∧ Bl C [] ((x, .box l l0 ((I, itR a b) :: its)) :: ρb) none body (TurnV C x l l0 ((I, itR a b) :: its) env (P (i + 1))) (fun _ => False))
    (hr : ∀ m' led' c', P (i + 1) c' → Envs C ((x, .box l l0 its) :: env c') m' led' → (∀ p ∈ led', p.1 ≠ I) → rst m' led') :
    wpAny (model PR C.wd) C.A (execs body C.env) (UnrPost C.g C.L { s with heap := h, toks := tk } I (itR a b) rst Q) (fun _ _ => False) { s with heap := h, toks := tk } := by
  obtain ⟨ρb, hput, hB⟩ := hB
  rcases V x _ (.head _) with e | ⟨v, ⟨rfl, ⟨st, ns, b1⟩, b2, b3⟩, q⟩
  · cases e
  obtain ⟨hne, us, n1, t1, n2, c1, c2, _⟩ := id b1
  have hx' : ∀ p ∈ led, p ∈ (I, itR a b) :: led := fun p hp => .tail _ hp
  have V2 : Envs C ((x, .box l l0 ((I, itR a b) :: its)) :: env c) m ((I, itR a b) :: led) := .cons (.inr ⟨_, ⟨rfl, ⟨st, ns, b1.keep (.of hx')⟩, (Keep.of hx').tabs b2, fun p hp => (List.mem_cons.mp hp).elim (fun e => by rw [e]; exact ⟨.head _, (hI _ c1).symm, (hI _ c2).symm, .inr ⟨rfl, _, rfl⟩⟩) fun hp => (b3.keep (.of hx')) p hp⟩, q.imp id fun ⟨_, c, o, h1, _⟩ => by rw [hcl] at h1; cases h1⟩) (Envs.scal hcl (hs c) fun y b h => V y b (.tail _ h))
  have P2 := Part.put (ρ := (x, AV.box l l0 ((I, itR a b) :: its)) :: env c) (own := none) (oe := []) hnd ⟨rfl, V2⟩ (.there hput) hx (show VR ((I, itR a b) :: led) (.int (i : Int)) (.int (i : Int) t) from ⟨t, rfl⟩) trivial
  refine wpAny_mono (hB { s with heap := h, toks := tk } _ ((I, itR a b) :: led) ⟨(fun _ h => nomatch h), by rw [(Put.there (p := (x, AV.box l l0 ((I, itR a b) :: its))) hput).names.1]; exact hnd, F, [], N, P2⟩) (fun fl s' q => ?_) fun _ _ x => x
  cases fl with
  | ret v => obtain ⟨_, _, _, _, _, _, _, _, _, _, _, _, q⟩ := q; exact q.elim
  | brk => exact q.elim
  | cont => exact q.elim
  | next =>
    obtain ⟨ρ', own', h3, tk3, m3, led3, rfl, ⟨_, hn3, F3, oe, N3, P3⟩, rfl, c', ρ1, rfl, hcov, hp⟩ := q
    obtain ⟨rfl, V3⟩ := P3
    rcases V3 x _ (.head _) with e | ⟨v, ⟨rfl, ⟨st, ns, d1⟩, d2, d3⟩, q⟩
    · cases e
    have hm := (d3 _ (.head _)).1
    have hi : ∀ p ∈ led3, p.1 ≠ I → p ∈ led3.filter fun p => decide (p.1 ≠ I) := fun p hp h => List.mem_filter.mpr ⟨hp, decide_eq_true h⟩
    have off : ∀ p ∈ led3.filter fun p => decide (p.1 ≠ I), p.1 ≠ I := fun p hp => of_decide_eq_true (List.mem_filter.mp hp).2
    obtain ⟨hne, us, n1, t1, n2, c1, c2, c3⟩ := d1
    refine ⟨h3, tk3, m3, _, rfl, F3, fun p hp => (List.mem_cons.mp hp).elim (fun e => by rw [e]; exact N3 _ hm) fun hp => N3 p (List.mem_filter.mp hp).1, off, hr _ _ c' hp (.cons (.inr ⟨_, ⟨rfl, ⟨st, ns, hne, us, n1, t1, n2, hi _ c1 (d3 _ (.head _)).2.1.symm, hi _ c2 (d3 _ (.head _)).2.2.1.symm, c3⟩, iter_off N3 hm d2, fun p hp => ?_⟩, q.imp id fun ⟨_, c, o, h1, _⟩ => by rw [hcl] at h1; cases h1⟩) (Envs.scal hcl (hs c') fun y b hy => (hcov y b hy).elim .inl fun h => V3 y b (.tail _ h))) off⟩
    exact ⟨hi p (d3 p (.tail _ hp)).1 (hI p (b3 p hp).1), (b3 p hp).2⟩
/-- a loop over a range whose length is drawn -/
theorem bl_forV {y : Str} {B : Nat} (env : τ → List (Str × AV)) (P : Nat → τ → Prop) (c₀ : τ) (he : EvV C ((x, .box l l0 its) :: ρ0) e (IntV fun i => 0 ≤ i ∧ i ≤ B)) (hB : B < 2 ^ 20) (hcl : C.cl = []) (hx : C.env.kindOf y = some .local) (hR : C.env.kindOf "range" = some .globalImplicit)
    (hcov : Cov ρ0 (env c₀)) (h0 : P 0 c₀) (hs : ∀ c, (env c).all (·.2.scalar) = true) (hnd : ∀ c, (((x, AV.box l l0 its) :: env c).map (·.1)).Nodup)
    (turn : ∀ c (i : Nat) p, i < B → P i c → ∃ ρb, Put (env c) y (.int (i : Int)) ρb ∧ Bl C [] ((x, .box l l0 (p :: its)) :: ρb) none body (TurnV C x l l0 (p :: its) env (P (i + 1))) (fun _ => False))
    (done : ∀ c (n : Nat), n ≤ B → P n c → Bl C [] ((x, .box l l0 its) :: env c) none rest K R) : Bl C [] ((x, .box l l0 its) :: ρ0) none (.For (.Name y p1) (.Call (.Name "range" p2) [e] [] p3) body [] pos :: rest) K R := by
  intro s m led S
  refine wpAny_execs_cons (For_invVF S.2.2.1 hx plainFn (Call_ (name_bi (b_range _) S.2.2.1 hR (callWith_type1 (EvVs.use (evvs he evvs0) S fun vs h1 t1 led1 q S1 => ?_) (he.1.star _) rfl))) (fun _ => rfl))
  obtain ⟨v, r, rfl, ⟨i, t, rfl, hi0, hi1⟩, q2⟩ := q.inv
  rw [q2.fin]
  obtain ⟨n, rfl⟩ : ∃ n : Nat, i = n := ⟨i.toNat, (Int.toNat_of_nonneg hi0).symm⟩
  have hnB : n ≤ B := Int.ofNat_le.mp hi1
  obtain ⟨_, _, F1, _, N1, rfl, V1⟩ := S1
  refine range1_rows F1 N1 fun h' tk t u w hr F' N' _ => ?_
  refine iter_rangeUnr (s := { s with heap := h', toks := tk }) rfl hr (small_one (by decide) (by omega) (by omega) (by omega)) (by rw [rangeSize_nat]) F' N' fun I hI => ?_
  have key : ∀ k i m led c, i + k = n → P i c → Envs C ((x, .box l l0 its) :: env c) m led → (∀ p ∈ led, p.1 ≠ I) → RangeRest PR C.wd C.A (fun _ _ => False) C.g C.env y body (fun f s' => match f with | .next => wpAny (model PR C.wd) C.A (execs rest C.env) (BlPost C [] s K R) (fun _ _ => False) s' | f => BlPost C [] s K R f s') { s with heap := h', toks := tk } I ((0 : Nat) : Int) n k i m led := by
    intro k
    induction k with
    | zero =>
      intro i m led c hik hp V hI
      subst hik
      exact RangeRest.zero fun h2 tk2 F2 N2 => (done c i hnB hp).use ⟨(fun _ h => nomatch h), hnd c, F2, [], N2, rfl, V⟩
    | succ k ih =>
      intro i m led c hik hp V hI
      refine RangeRest.succ fun t2 h2 tk2 F2 N2 => ?_
      rw [show ((0 : Nat) : Int) + (i : Int) = (i : Int) by omega] at F2
      exact forV_turn (P := P) hcl hx hs (hnd c) V F2 N2 hI (turn c i _ (by omega) hp) fun m' led' c' hp' V' hI' => ih (i + 1) m' led' c' (by omega) hp' V' hI'
  exact key n 0 m led1 c₀ (Nat.zero_add n) h0 (.cons (V1 _ _ (.head _)) fun y b hy => (hcov y b hy).elim .inl fun h => V1 y b (.tail _ h)) fun p hp => Nat.ne_of_lt (hI p hp)
theorem evv_mono {Pi Pj : Int → Prop} (he : EvV C ρ e (IntV Pi)) (h : ∀ i, Pi i → Pj i) : EvV C ρ e (IntV Pj) := ⟨he.1, fun s m led S => wpAny_mono (he.2 s m led S) (fun v s' q => by
  obtain ⟨h', tk, led', e, ⟨i, t, e2, hp⟩, S'⟩ := q
  exact ⟨h', tk, led', e, ⟨i, t, e2, h i hp⟩, S'⟩) fun _ _ x => x⟩
/-- a block, and what is behind it -/
theorem endW_app {b t : List Stmt} {P : Value → Prop} (hB : Bl C [] ρ none b (fun ρ' own' => own' = none ∧ ∀ (s : Shared) m led, SRel C [] ρ' none s.heap m led → wpAny (model PR C.wd) C.A (execs t C.env) (EndW C l l0 its P s) (fun _ _ => False) s) (fun _ => False)) (S : SRel C [] ρ none s.heap m led) :
    wpAny (model PR C.wd) C.A (execs (b ++ t) C.env) (EndW C l l0 its P s) (fun _ _ => False) s := by
  refine execs_app (wpAny_mono (hB s m led S) (fun fl s' q => ?_) fun _ _ x => x)
  cases fl with
  | next =>
    obtain ⟨ρ', own', h', tk, m', led', rfl, S', rfl, hB⟩ := q
    refine wpAny_mono (hB { s with heap := h', toks := tk } m' led' S') (fun _ _ q => ?_) fun _ _ x => x
    obtain ⟨v, h2, tk2, m2, led2, e1, e2, r⟩ := q
    exact ⟨v, h2, tk2, m2, led2, e1, e2, r⟩
  | ret v => obtain ⟨_, _, _, _, _, _, _, _, _, _, _, _, q⟩ := q; exact q.elim
  | brk => exact q.elim
  | cont => exact q.elim
end
theorem num_turn {w i : Nat} {f d : Int} (hf : 0 ≤ f ∧ f < 2 ^ (w * i)) (hd : 0 ≤ d ∧ d < 2 ^ w) : 0 ≤ f * 2 ^ w + d ∧ f * 2 ^ w + d < 2 ^ (w * (i + 1)) := by
  have h0 := Int.mul_nonneg hf.1 (Int.le_of_lt (p2pos w))
  have h1 := Int.mul_le_mul_of_nonneg_right (Int.add_one_le_of_lt hf.2) (Int.le_of_lt (p2pos w))
  rw [Int.add_mul, Int.one_mul, ← p2succ] at h1
  omega
theorem t_number (wd : World) {l l0 : Addr} {its : Led} (w : Nat) (hw : 2 ≤ w) (hw9 : w ≤ 9) (t1 t2 : Tok) : DoesW wd 233 2 [.ref l, .int (w : Int) t1, .int 6 t2] l l0 its (IntV fun i => 0 ≤ i ∧ i < 2 ^ (w * 6)) := by
  refine enterW (as := [.box l l0 its, .int (w : Int), .int 6]) (isFn_of ["box", "w", "most"] ["found", "turn", "limb"] (by k_dflt k_is) (by k_dflt k_is) (faS fun _ => faS fun _ => fa1 fun _ => rfl) rfl (by decide) rfl) rfl (by decide) (fun news hb => ⟨hb, ⟨t1, rfl⟩, ⟨t2, rfl⟩, trivial⟩) fun C la I s m led S => ?_
  have hN : (["box", "w", "most", "found", "turn", "limb"] : List Str).Nodup := by decide
  have hw2 := Nat.le_trans hw9 (show 9 ≤ 100000 by decide)
  have w62 : (2 : Int) ^ w < 2 ^ 62 := Int.lt_of_le_of_lt (p2mono hw9) (by decide)
  have wn : ((2 : Int) ^ w).natAbs < 2 ^ 62 := by have := p2pos w; omega
  have w2 := p2two (Nat.le_of_succ_le hw)
  refine endW_app (b := [_, _]) (bl_assign ev_int (.inl rfl) (pt 3 rfl) (I.k rfl) trivial ?_) S
  refine bl_forV (x := "box") (τ := Int) (B := 6) (fun c => [("w", .int (w : Int)), ("most", .int 6), ("found", .int c), ("turn", .undef), ("limb", .undef)]) (fun i c => 0 ≤ c ∧ c < 2 ^ (w * i)) 0 (evv_mono (evv_take (by decide) (by decide) (ev_add (ev_var (mm (k := 2) rfl)) ev_int) rfl (I.k rfl) I.nc rfl (I.le rfl)) fun i h => ⟨h.1, Int.le_of_lt_add_one h.2⟩) (by decide) I.nc (I.k rfl) (I.k rfl) (cov [] rfl) ⟨Int.le_refl 0, by rw [Nat.mul_zero]; decide⟩ (fun _ => rfl) (fun _ => hN) (fun c i p hi hp => ⟨_, pt 3 rfl, ?_⟩) fun c n hn hp => bl_nil ⟨rfl, fun s m led S => ?_⟩
  · refine bl_assignV (evv_menu (n := 5) (Pi := fun i => 0 ≤ i ∧ i < 2 ^ w) (by decide) (evvs (evv_int ev_int ⟨Int.le_refl 0, p2pos w⟩) (evvs (evv_int (ev_sub (ev_pw (ev_var (mm (k := 1) rfl)) hw2) ev_int) ⟨by omega, by omega⟩) (evvs (evv_int ev_int ⟨by decide, by omega⟩) (evvs (evv_take (p2pos w) w62 (ev_pw (ev_var (mm (k := 1) rfl)) hw2) rfl (I.k rfl) I.nc rfl (I.le rfl)) (evvs (evv_take (p2pos w) w62 (ev_pw (ev_var (mm (k := 1) rfl)) hw2) rfl (I.k rfl) I.nc rfl (I.le rfl)) evvs0))))) (fun its' => evv_take (k := 5) (by decide) (by decide) ev_int rfl (I.k rfl) I.nc rfl (I.le rfl)) I.nc rfl) (I.k rfl) fun d hd => ⟨_, (pt 5 rfl), ?_⟩
    exact bl_assign (ev_add (ev_mul (ev_var (mm (k := 3) rfl)) (ev_pw (ev_var (mm (k := 1) rfl)) hw2) (.inr wn)) (ev_var (mm (k := 5) rfl))) (.inl rfl) (pt 3 rfl) (I.k rfl) trivial (bl_nil ⟨rfl, _, _, rfl, cov [3, 4] rfl, num_turn hp hd⟩)
  · obtain ⟨st, ns, _, S⟩ := S.box I.nc rfl
    exact retW (ev_var (mm (k := 3) rfl)) S I.nc ⟨hp.1, Int.lt_of_lt_of_le hp.2 (p2mono (Nat.mul_le_mul_left w hn))⟩
section
variable {C : Cx} {ρ ρ' ρ0 : List (Str × AV)} {l l0 sc g : Addr} {its : Led} {e e1 e2 t1 t2 : Expr} {rest tb t : List Stmt} {s : Shared} {h : Heap} {m : Str → Option Value} {led : Led} {pos p1 p2 p3 p4 : Pos} {x y : Str} {K : List (Str × AV) → Own → Prop} {R : AV → Prop} {vs : List Value} {ns ms : List Int} {lf : Nat} {n : Nat} {Pi Pj : Int → Prop}
/-- a list of the ground cut -/
theorem ev_sliceG {k : Int} (hg : C.g.IsList sc vs.toArray) (hi : IntsAre vs ns) (hx : Ev C ρ (.Name x p1) (.raw (.ref sc))) (he : Ev C ρ e (.int k)) (h0 : 0 ≤ k) (hn : ns.length < 2 ^ 20)
    (hs : ∀ l k, subscripted (.Slice none (some e) none p2) false (.ref l) (.ref k) = operate [.ref k, .ref l] (getItem (.ref l) (.ref k))) : Ev C ρ (.Subscript (.Name x p1) (.Slice none (some e) none p2) pos) (.list (ns.take k.toNat)) :=
  ⟨plain_sub, fun s m led F N V => Subscript_ (hx.use F N V fun v h' tk led' F' N' i' V' q => wpAny_Slice (evp_no.use F' N' V' fun vl h2 t2 led2 F2 N2 i2 V2 q2 => (evp he).use F2 N2 V2 fun vu h3 t3 led3 F3 N3 i3 V3 q3 => evalPart_none_step (by
    obtain rfl : v = .ref sc := q
    refine kmk_slice_ints (s := { s with heap := h3, toks := t3 }) F3 N3 (hg.at fun o e => F3.keep _ _ e) q2 q3 hi (kmk_upto hi h0) rfl (fun D ws h4 F4 N4 l4 j4 _ _ => ?_) (hs _ _) (fun _ => rfl) (by rw [List.size_toArray, hi.length, sizeLine_eq]; omega)
    exact ⟨_, nxt F4 N4 fun p hp => .tail _ (i3 p (i2 p (i' p hp))), D, ws, 0, rfl, .head _, j4⟩)))⟩
theorem ev_copy (he : Ev C ρ e (.list ns)) (hn : ns.length < 2 ^ 20) (hx : C.env.kindOf "list" = some .globalImplicit) : Ev C ρ (.Call (.Name "list" p1) [e] [] pos) (.list ns) :=
  ⟨plain_call, fun s m led F N V => Call_ (name_bi (b_list _) F hx (callWith_type1 (EvA.use (eva he eva0) F N V fun vs h' tk led' F' N' i' q => by
    obtain ⟨v, rfl, hv⟩ := q.i1
    obtain ⟨la, va, na, rfl, h1, i1, _⟩ := Has.isList hv N'
    exact list_copyK (s := { s with heap := h', toks := tk }) F' N' h1 (fun D c h2 F2 N2 hD => ⟨_, nxt F2 N2 fun p hp => .tail _ (i' p hp), D, va, c, rfl, .head _, i1⟩) (by rw [List.size_toArray, i1.length, sizeLine_eq]; omega)) (he.1.star _) rfl))⟩
/-! what the law says of its own calls -/
theorem call_doesT (hD : DoesT C.wd g lf vs (fun news => VR news (.box l l0 its) (.ref l)) (fun _ r news' => r = .bool true ∧ VR news' (.box l l0 its) (.ref l))) (D : Dx C) (ho : C.outer = []) (hcl : C.cl = []) (hs : ρ0.all (·.2.scalar) = true) (hlv : lf + 1 ≤ C.lv) (S : SRel C [] ((x, .box l l0 its) :: ρ0) none s.heap m led) :
    wpAny (model PR C.wd) C.A (call (.ref g) vs) (fun v s' => ∃ h' tk led', s' = { s with heap := h', toks := tk } ∧ v = .bool true ∧ SRel C [] ((x, .box l l0 its) :: ρ0) none h' m led') (fun _ _ => False) s := by
  obtain ⟨_, hn, F, oe, N, rfl, V⟩ := id S
  refine hD C.dp C.un C.gd C.qual C.scope C.f C.cdv C.cl C.outer C.A₀ C.base C.g C.L m led s C.p C.loose C.mean C.mg C.mb _ _ C.Bl F C.X N C.T C.hk (by have := C.hdp; omega) (by have := C.hun; omega) D.1 D.2 (S.boxV hcl AV.noConfusion fun v h => h.1) fun r news' h' tk' g' T B F' N' q => ?_
  rw [ho] at T
  have kp : ∀ b o, C.g.get? b = some o → g'.get? b = some o := fun b o e => T.other b o e (fun h => nomatch h)
  exact ⟨h', tk', news', rfl, q.1, S.boxTo (l := l) hcl hs AV.noConfusion (fun v h => h.1) ⟨F'.ns, fun b o e => F'.keep b o (kp b o e), by rw [← T.size]; exact F'.above⟩ (fun p hp => ⟨(N' p hp).1, (N' p hp).2.1, kts_none kp (N' p hp).2.2⟩) q.2⟩
def TrV (C : Cx) (ρ : List (Str × AV)) (e : Expr) : Prop :=
  ∀ (s : Shared) m led, SRel C [] ρ none s.heap m led → wpAny (model PR C.wd) C.A (isTrue e C.env (eval e C.env)) (fun b s' => b = false ∧ ∃ h' tk led', s' = { s with heap := h', toks := tk } ∧ SRel C [] ρ none h' m led') (fun _ _ => False) s
theorem trv_not (he : EvV C ρ e (· = .bool true)) (hp : isTrue e C.env (eval e C.env) = (do let v ← eval e C.env; standAt e.pos; holding [v] (truthy v))) : TrV C ρ (.UnaryOp .Not e pos) := fun s m led S =>
  isTrue_not (isTrue_plain (wpAny_mono (he.2 s m led S) (fun v s' q => by
    obtain ⟨h', tk, led', rfl, rfl, S'⟩ := q
    exact wpAny_truthy_bool ⟨rfl, h', tk, led', rfl, S'⟩) fun _ _ x => x) hp)
theorem trv_or (h1 : TrV C ρ t1) (h2 : TrV C ρ t2) : TrV C ρ (.BoolOp .Or [t1, t2] pos) := fun s m led S =>
  isTrue_or (wpAny_mono (h1 s m led S) (fun b s' q => by
    obtain ⟨rfl, h', tk, led', rfl, S'⟩ := q
    refine isTrue_or (wpAny_mono (h2 { s with heap := h', toks := tk } m led' S') (fun b s' q => ?_) fun _ _ x => x)
    obtain ⟨rfl, h2, tk2, led2, rfl, S2⟩ := q
    exact isTrue_or_nil ⟨rfl, h2, tk2, led2, rfl, S2⟩) fun _ _ x => x)
theorem bl_noV (ht : TrV C ρ e) (h : Bl C [] ρ none rest K R) : Bl C [] ρ none (.If e tb [] pos :: rest) K R := fun s m led S =>
  wpAny_execs_cons (wpAny_If (wpAny_mono (ht s m led S) (fun b s' q => by
    obtain ⟨rfl, h', tk, led', rfl, S'⟩ := q
    exact wpAny_execs_nil (h.use S')) fun _ _ x => x))
theorem evv_add {i : Int} (h1 : Ev C ρ e1 (.int i)) (h2 : EvV C ρ e2 (IntV Pi)) (hp : ∀ j, Pi j → Pj (i + j)) : EvV C ρ (.BinOp e1 .Add e2 pos) (IntV Pj) := ⟨plain_bin, fun s m led S => wpAny_BinOp (S.ev h1 (.inl rfl) fun v h' tk led' S' q => wpAny_mono (h2.2 { s with heap := h', toks := tk } m led' S') (fun w s' q2 => by
  obtain ⟨u, rfl⟩ := q
  obtain ⟨h3, tk3, led3, rfl, ⟨j, u2, rfl, hj⟩, S3⟩ := q2
  exact add_int ⟨h3, _, led3, rfl, ⟨_, _, rfl, hp j hj⟩, S3⟩) fun _ _ x => x)⟩
/-- two names at once -/
theorem bl_tupV {k1 k2 : Nat} (h1 : EvV C ρ e1 (IntV Pi)) (h2 : EvV C ρ e2 (IntV Pj)) (hx : C.env.kindOf x = some .local) (hy : C.env.kindOf y = some .local)
    (hs : swapsWithSole [.Tuple [.Name x p1, .Name y p2] k1 p3] (.Tuple [e1, e2] k2 p4) pos.line C.env = pure false) (hw : swappedStores [.Tuple [.Name x p1, .Name y p2] k1 p3] (.Tuple [e1, e2] k2 p4) C.env = pure (some [x, y]))
    (h : ∀ i j, Pi i → Pj j → ∃ ρ1 ρ2, Put ρ y (.int j) ρ1 ∧ Put ρ1 x (.int i) ρ2 ∧ Bl C [] ρ2 none rest K R) : Bl C [] ρ none (.Assign [.Tuple [.Name x p1, .Name y p2] k1 p3] (.Tuple [e1, e2] k2 p4) pos :: rest) K R := by
  intro s m led S
  refine wpAny_execs_cons (Assign_Tuple_swapped (Tuple_ (EvVs.use (evvs h1 (evvs h2 evvs0)) S fun vs g1 t1 led1 q S1 => ?_)) hs hw)
  obtain ⟨v, r, rfl, ⟨i, ti, rfl, hi⟩, q2⟩ := q.inv
  obtain ⟨w, r, rfl, ⟨j, tj, rfl, hj⟩, q3⟩ := q2.inv
  rw [q3.fin]
  obtain ⟨ρ1, ρ2, hp1, hp2, hB⟩ := h i j hi hj
  obtain ⟨_, hn, F1, oe, N1, rfl, V1⟩ := S1
  refine newTuple_N F1 N1 (fun h5 F5 N5 => ?_) (by simp [sizeLine])
  refine unpackItemsN_ F5 N5 ⟨_, (N5 _ (.head _)).1, rfl, 0, rfl⟩ rfl rfl (fun h6 F6 N6 => ?_)
  refine assignInOrder_cons (bindName_ (SRel.store (N0 := []) (own := none) (s := { s with heap := h6, toks := t1 }) ⟨(fun _ h => nomatch h), hn, F6, [], N6, rfl, V1.mono fun _ h => .tail _ h⟩ hp1 hy ⟨tj, rfl⟩ trivial fun h7 m7 S7 => ?_))
  exact assignInOrder_cons (bindName_ (SRel.store (s := { s with heap := h7, toks := t1 + 1 }) S7 hp2 hx ⟨ti, rfl⟩ trivial fun h8 m8 S8 => assignInOrder_nil (hB.use S8)))
end
theorem t_box (wd : World) {sc : Addr} {vs : List Value} {ns : List Int} (hi : IntsAre vs ns) (hn : ns.length < 2 ^ 20) {dp un : Nat} {gd : Option (List Code)} {cn : Str} {cs : Scope} {a : Addr} {ccd : Value} {cl : List (Str × Addr)} {outer : List Env} {A₀ : Around} {base h₀ : Heap} {L : Addr} {m : Str → Option Value} {news : Led} {s : Shared}
    {p : Program} {loose : List Str} {mean : ExcName → Option Value} {mg mb : Str → Option Value} {Q E : Value → Shared → Prop} (B : Below A₀ base outer h₀) (F : Fr h₀ L s.heap m) (X : (hd.heap_39 wd.params).In h₀) (N : News h₀ L s.heap news) (T : Top p loose mean mg mb h₀) (hkc : cs.kind = .function) (hd' : dp + 1 < recursionLimit) (hu : un + 8 * 1 < cLine)
    (hl : h₀.IsList sc vs.toArray) (ht : Tabs news) (hret : ∀ l l0 news' h' tk', Fr h₀ L h' m → News h₀ L h' news' → VR news' (.box l l0 []) (.ref l) → Q (.ref l) { s with heap := h', toks := tk' }) :
    wpAny (model PR wd) (ktrTop dp un gd cn cs L a ccd cl outer) (call (.ref 205) [.ref sc]) Q E s := by
  refine enter (as := [.raw (.ref sc)]) (isFn_of ["script"] ["stirred", "one"] (by k_dflt k_is) (by k_dflt k_is) (fa1 fun _ => rfl) rfl (by decide) rfl) rfl (Nat.le_refl 1) B F X N T hkc hd' hu ⟨rfl, trivial⟩ fun C la m' h₁ tk I hne hwd hb ho htn FG S => ?_
  have hN : (["script", "stirred", "one"] : List Str).Nodup := by decide
  have hg : C.g.IsList sc vs.toArray := hl.at fun o e => FG.keep _ _ e
  have hl24 : (ns.take 24).length ≤ 24 := List.length_take_le 24 ns
  refine execs_app (b := [_, _]) (wpAny_mono (wpAny_mono ((show Bl C news [(("script" : Str), AV.raw (.ref sc)), ("stirred", .undef), ("one", .undef)] none [_, _] (fun ρ' own' => own' = none ∧ ∃ c : Int, (0 ≤ c ∧ c < 2 ^ 20) ∧ ρ' = [(("script" : Str), AV.raw (.ref sc)), ("stirred", .int c), ("one", .undef)]) (fun _ => False) from ?hB) { s with heap := h₁, toks := tk } m' news S) (fun _ _ x => x) fun _ _ x => x.elim) (fun fl s' q => ?_) fun _ _ x => x)
  case hB =>
    refine bl_assign ev_int (.inl rfl) (pt 1 rfl) (I.k rfl) trivial ?_
    refine bl_forList (τ := Int) (fun c => [("script", .raw (.ref sc)), ("stirred", .int c), ("one", .undef)]) (fun i c => 0 ≤ c ∧ c < 2 ^ 20) 17 (by exact iterL_ev (ev_sliceG hg hi (ev_var (mm (k := 0) rfl)) ev_int (by decide) hn (fun _ _ => rfl)) (fun _ => rfl)) ⟨I.nc, I.k rfl, trivial, (cov [] rfl), by decide, (stays0 (fun _ => rfl) (fun _ => rfl)), fun _ => hN⟩ (fun c i d hi hp => ⟨_, (pt 2 rfl), fun N1 => ?_⟩) (fun c hp => bl_nil ⟨rfl, c, hp, rfl⟩)
    exact bl_assign (ev_mod (ev_add (ev_mul (ev_var (mm (k := 1) rfl)) ev_int (.inr (by decide))) (ev_var (mm (k := 2) rfl))) ev_int (by decide)) (.inl rfl) (pt 1 rfl) (I.k rfl) trivial (bl_nil ⟨rfl, _, (cov [2] rfl), Int.emod_nonneg _ (by decide), Int.lt_trans (Int.emod_lt_of_pos _ (by decide)) (by decide)⟩)
  cases fl with
  | ret v => obtain ⟨_, _, _, _, _, _, _, _, _, _, _, _, q⟩ := q; exact q.elim
  | brk => exact q.elim
  | cont => exact q.elim
  | next =>
    obtain ⟨ρ', own', h2, tk2, m2, led2, rfl, S2, rfl, c, hc, rfl⟩ := q
    obtain ⟨i2, _, F2, _, N2, rfl, V2⟩ := S2
    refine wpAny_execs_cons (wpAny_Return_some (wpAny_mono (List_ (EvA.use (eva (ev_copy (ev_sliceG hg hi (ev_var (mm (k := 0) rfl)) ev_int (by decide) hn (fun _ _ => rfl)) (Nat.lt_of_le_of_lt hl24 (by decide)) (I.k rfl)) (eva (ev_var (mm (k := 1) rfl)) eva0)) F2 N2 V2 fun vals h3 tk3 led3 F3 N3 i3 q => ?_)) (fun _ _ x => x) fun _ _ x => x.elim))
    obtain ⟨v, w, rfl, ⟨l0, us, n, rfl, hm, hu⟩, t, rfl⟩ := q.i2
    refine newList_K F3 N3 (fun D h4 F4 N4 hD => leaveK_ F4 N4 fun F5 N5 => hret D l0 _ h4 _ F5 N5 ⟨rfl, ⟨c, _, (Nat.ne_of_lt (hD _ hm)).symm, us, n, t, 0, .head _, .tail _ hm, hu, hl24, hc⟩, (Keep.of fun p hp => .tail _ (i3 p (i2 p hp))).tabs ht, fun _ h => nomatch h⟩) (by simp [sizeLine])
section
variable {C : Cx} {ρ ρ0 : List (Str × AV)} {l l0 sc : Addr} {its : Led} {e e1 e2 e3 e4 : Expr} {rest : List Stmt} {s : Shared} {m : Str → Option Value} {led : Led} {pos p1 p2 p3 p4 : Pos} {x : Str} {w k n : Nat} {a b : Int}
theorem evv_number (hw : 2 ≤ w) (hw9 : w ≤ 9) (he : Ev C ((x, .box l l0 its) :: ρ0) e (.int (w : Int))) (hd : (x == ("__debug__" : Str)) = false) (hR : C.env.kindOf "_law_number" = some .globalImplicit) (hcl : C.cl = []) (hs : ρ0.all (·.2.scalar) = true) (hlv : 3 ≤ C.lv) :
    EvV C ((x, .box l l0 its) :: ρ0) (.Call (.Name "_law_number" p1) [.Name x p2, e, .Constant (.int 6) n p3] [] pos) (IntV fun i => 0 ≤ i ∧ i < 2 ^ (w * 6)) :=
  ⟨plain_call, fun s m led S => evv_call (d_law_number _) hR (evvs (evv_ev (a := .box l l0 its) (P := (· = .ref l)) (ev_var (.head _) AV.noConfusion hd) fun _ _ q => q.1) (evvs (evv_int (Pi := (· = (w : Int))) he rfl) (evvs (evv_int (Pi := (· = 6)) ev_int rfl) evvs0))) (fun vs s led q S => by
    obtain ⟨v, r, rfl, e1, q2⟩ := q.inv
    obtain ⟨w, r, rfl, ⟨i, t, e2, e3⟩, q3⟩ := q2.inv
    obtain ⟨u, r, rfl, ⟨j, t2, e4, e5⟩, q4⟩ := q3.inv
    rw [q4.fin, e1, e2, e3, e4, e5]
    exact call_does (t_number C.wd _ hw hw9 t t2) hcl hs hlv S) S⟩
theorem evv_sums (D : Dx C) (ho : C.outer = []) (hw : 2 ≤ w) (hw9 : w ≤ 9) (ha : 0 ≤ a ∧ a < 2 ^ (w * 6)) (hb : 0 ≤ b ∧ b < 2 ^ (w * 6)) (h1 : Ev C ((x, .box l l0 its) :: ρ0) e1 (.int a)) (h2 : Ev C ((x, .box l l0 its) :: ρ0) e2 (.int b)) (h3 : Ev C ((x, .box l l0 its) :: ρ0) e3 (.int (w : Int))) (h4 : EvV C ((x, .box l l0 its) :: ρ0) e4 (IntV fun i => 0 ≤ i ∧ i < 7)) (hR : C.env.kindOf "_law_sums_right" = some .globalImplicit) (hcl : C.cl = []) (hs : ρ0.all (·.2.scalar) = true) (hlv : 11 ≤ C.lv) :
    EvV C ((x, .box l l0 its) :: ρ0) (.Call (.Name "_law_sums_right" p1) [e1, e2, e3, e4] [] pos) (· = .bool true) :=
  ⟨plain_call, fun s m led S => evv_call (d_law_sums_right _) hR (evvs (evv_int (Pi := (· = a)) h1 rfl) (evvs (evv_int (Pi := (· = b)) h2 rfl) (evvs (evv_int (Pi := (· = (w : Int))) h3 rfl) (evvs h4 evvs0)))) (fun vs s led q S => by
    obtain ⟨v, r, rfl, ⟨i1, t1, e1, f1⟩, q2⟩ := q.inv
    obtain ⟨v, r, rfl, ⟨i2, t2, e2, f2⟩, q3⟩ := q2.inv
    obtain ⟨v, r, rfl, ⟨i3, t3, e3, f3⟩, q4⟩ := q3.inv
    obtain ⟨v, r, rfl, ⟨i4, t4, e4, f4⟩, q5⟩ := q4.inv
    rw [q5.fin, e1, e2, e3, e4, f1, f2, f3, (Int.toNat_of_nonneg f4.1).symm]
    exact call_doesT (t_sums C.wd w i4.toNat a b hw hw9 (by omega) ha.1 ha.2 hb.1 hb.2 _ _ _ _) D ho hcl hs hlv S) S⟩
theorem evv_limb (D : Dx C) (ho : C.outer = []) (hw : 2 ≤ w) (hw9 : w ≤ 9) (ha : 0 ≤ a ∧ a < 2 ^ (w * 6)) (hb : 0 ≤ b ∧ b < 2 ^ (w * 6)) (h1 : Ev C ((x, .box l l0 its) :: ρ0) e1 (.int a)) (h2 : Ev C ((x, .box l l0 its) :: ρ0) e2 (.int b)) (h3 : Ev C ((x, .box l l0 its) :: ρ0) e3 (.int (w : Int))) (h4 : EvV C ((x, .box l l0 its) :: ρ0) e4 (IntV fun i => 0 ≤ i ∧ i < 2 ^ w)) (hR : C.env.kindOf "_law_limb_right" = some .globalImplicit) (hcl : C.cl = []) (hs : ρ0.all (·.2.scalar) = true) (hlv : 11 ≤ C.lv) :
    EvV C ((x, .box l l0 its) :: ρ0) (.Call (.Name "_law_limb_right" p1) [e1, e2, e3, e4] [] pos) (· = .bool true) :=
  ⟨plain_call, fun s m led S => evv_call (d_law_limb_right _) hR (evvs (evv_int (Pi := (· = a)) h1 rfl) (evvs (evv_int (Pi := (· = b)) h2 rfl) (evvs (evv_int (Pi := (· = (w : Int))) h3 rfl) (evvs h4 evvs0)))) (fun vs s led q S => by
    obtain ⟨v, r, rfl, ⟨i1, t1, e1, f1⟩, q2⟩ := q.inv
    obtain ⟨v, r, rfl, ⟨i2, t2, e2, f2⟩, q3⟩ := q2.inv
    obtain ⟨v, r, rfl, ⟨i3, t3, e3, f3⟩, q4⟩ := q3.inv
    obtain ⟨v, r, rfl, ⟨i4, t4, e4, f4⟩, q5⟩ := q4.inv
    rw [q5.fin, e1, e2, e3, e4, f1, f2, f3]
    exact call_doesT (t_limb C.wd w a b i4 hw hw9 ha.1 ha.2 hb.1 hb.2 f4 _ _ _ _) D ho hcl hs hlv S) S⟩
theorem evv_bits (D : Dx C) (ho : C.outer = []) (hw : 2 ≤ w) (hw9 : w ≤ 9) (ha : 0 ≤ a ∧ a < 2 ^ (w * 6)) (h1 : Ev C ((x, .box l l0 its) :: ρ0) e1 (.int a)) (h2 : Ev C ((x, .box l l0 its) :: ρ0) e2 (.int (w : Int))) (h3 : EvV C ((x, .box l l0 its) :: ρ0) e3 (IntV fun i => 0 ≤ i ∧ i < 40)) (h4 : EvV C ((x, .box l l0 its) :: ρ0) e4 (IntV fun i => 0 ≤ i ∧ i < 7)) (hR : C.env.kindOf "_law_bits_right" = some .globalImplicit) (hcl : C.cl = []) (hs : ρ0.all (·.2.scalar) = true) (hlv : 11 ≤ C.lv) :
    EvV C ((x, .box l l0 its) :: ρ0) (.Call (.Name "_law_bits_right" p1) [e1, e2, e3, e4] [] pos) (· = .bool true) :=
  ⟨plain_call, fun s m led S => evv_call (d_law_bits_right _) hR (evvs (evv_int (Pi := (· = a)) h1 rfl) (evvs (evv_int (Pi := (· = (w : Int))) h2 rfl) (evvs h3 (evvs h4 evvs0)))) (fun vs s led q S => by
    obtain ⟨v, r, rfl, ⟨i1, t1, e1, f1⟩, q2⟩ := q.inv
    obtain ⟨v, r, rfl, ⟨i2, t2, e2, f2⟩, q3⟩ := q2.inv
    obtain ⟨v, r, rfl, ⟨i3, t3, e3, f3⟩, q4⟩ := q3.inv
    obtain ⟨v, r, rfl, ⟨i4, t4, e4, f4⟩, q5⟩ := q4.inv
    rw [q5.fin, e1, e2, e3, e4, f1, f2, (Int.toNat_of_nonneg f3.1).symm, (Int.toNat_of_nonneg f4.1).symm]
    exact call_doesT (t_bits C.wd w i3.toNat i4.toNat a hw hw9 (by omega) (by omega) ha.1 ha.2 _ _ _ _) D ho hcl hs hlv S) S⟩
def EndL (C : Cx) (s : Shared) (fl : Flow) (s' : Shared) : Prop := ∃ l l0, EndW C l l0 [] (· = .bool true) s fl s'
/-- the law's first statement -/
theorem law_box {vs : List Value} {ns : List Int} (S : SRel C [] ((x, .undef) :: ρ0) none s.heap m led) (hg : C.g.IsList sc vs.toArray) (hi : IntsAre vs ns) (hn : ns.length < 2 ^ 20) (ht : Tabs led) (he : Ev C ((x, .undef) :: ρ0) e (.raw (.ref sc))) (hx : C.env.kindOf x = some .local) (hR : C.env.kindOf "_law_box" = some .globalImplicit) (hlv : 2 ≤ C.lv) (hcl : C.cl = []) (hs : ρ0.all (·.2.scalar) = true)
    (h : ∀ l l0 (s : Shared) m led, SRel C [] ((x, .box l l0 []) :: ρ0) none s.heap m led → wpAny (model PR C.wd) C.A (execs rest C.env) (EndL C s) (fun _ _ => False) s) :
    wpAny (model PR C.wd) C.A (execs (.Assign [.Name x p1] (.Call (.Name "_law_box" p2) [e] [] p3) pos :: rest) C.env) (EndL C s) (fun _ _ => False) s := by
  have dr := d_law_box C.wd
  obtain ⟨_, hnd, F, oe, N, rfl, V⟩ := S
  refine wpAny_execs_cons (wpAny_Assign_Name (Call_ (nameX_K F C.X (topRead_of C.T) dr.1 (callWith_K (K := hd.heap_39 C.wd.params) C.X dr.2.1 (EvA.use (eva he eva0) F N V fun vals h1 t1 led1 F1 N1 i1 q => ⟨C.X.keeps F1.keep, ?_⟩) (he.1.star _) rfl) C.hk hR dr.2.2)) (plain_call.swap _ _))
  obtain ⟨v, rfl, rfl⟩ := q.i1
  refine t_box C.wd hi hn (s := { s with heap := h1, toks := t1 }) C.Bl F1 C.X N1 C.T C.hk (by have := C.hdp; omega) (by have := C.hun; omega) hg ((Keep.of i1).tabs ht) fun l l0 led2 h2 t2 F2 N2 hb => ?_
  have V2 : Envs C ((x, .undef) :: ρ0) m led2 := Envs.scal hcl (by rw [List.all_cons, hs]; rfl) V
  exact SRel.store (N0 := []) (own := none) (s := { s with heap := h2, toks := t2 }) ⟨(fun _ h => nomatch h), hnd, F2, [], N2, rfl, V2⟩ .here hx hb trivial fun h3 m3 S3 => wpAny_mono (h l l0 { s with heap := h3, toks := t2 + 1 } m3 led2 S3) (fun _ _ q => by
    obtain ⟨l, l0, v, h', tk, m', led', e1, e2, r⟩ := q
    exact ⟨l, l0, v, h', tk, m', led', e1, e2, r⟩) fun _ _ x => x
/-- the law's last statement -/
theorem law_true (S : SRel C [] ((x, .box l l0 []) :: ρ0) none s.heap m led) (hcl : C.cl = []) : wpAny (model PR C.wd) C.A (execs [.Return (some (.Constant (.bool true) n p1)) pos] C.env) (EndL C s) (fun _ _ => False) s := by
  obtain ⟨_, _, F, oe, N, rfl, V⟩ := id S
  exact wpAny_execs_cons (wpAny_Return_some (wpAny_Constant_bool ⟨l, l0, _, s.heap, s.toks, m, led, rfl, rfl, F, N, S.boxV hcl AV.noConfusion fun v h => h.1, rfl⟩))
theorem law_app {b t : List Stmt} (hB : Bl C [] ρ none b (fun ρ' own' => own' = none ∧ ∀ (s : Shared) m led, SRel C [] ρ' none s.heap m led → wpAny (model PR C.wd) C.A (execs t C.env) (EndL C s) (fun _ _ => False) s) (fun _ => False)) (S : SRel C [] ρ none s.heap m led) :
    wpAny (model PR C.wd) C.A (execs (b ++ t) C.env) (EndL C s) (fun _ _ => False) s := by
  refine execs_app (wpAny_mono (hB s m led S) (fun fl s' q => ?_) fun _ _ x => x)
  cases fl with
  | next =>
    obtain ⟨ρ', own', h', tk, m', led', rfl, S', rfl, hB⟩ := q
    refine wpAny_mono (hB { s with heap := h', toks := tk } m' led' S') (fun _ _ q => ?_) fun _ _ x => x
    obtain ⟨l, l0, v, h2, tk2, m2, led2, e1, e2, r⟩ := q
    exact ⟨l, l0, v, h2, tk2, m2, led2, e1, e2, r⟩
  | ret v => obtain ⟨_, _, _, _, _, _, _, _, _, _, _, _, q⟩ := q; exact q.elim
  | brk => exact q.elim
  | cont => exact q.elim
/-- the law's frame -/
theorem law_frame {wd : World} {name : Str} {scope : Scope} {body : List Stmt} {g : Heap} {L fa : Addr} {cd : Value} {m : Str → Option Value} {vs : List Value} {ns : List Int} {news : Led} {p : Program} {loose : List Str} {mean : ExcName → Option Value} {mg mb : Str → Option Value} {Q : Flow → Shared → Prop} {E : Value → Shared → Prop} {s : Shared}
    (K : Below callerA g [] g) (X : (hd.heap_39 wd.params).In g) (T : Top p loose mean mg mb g) (F : Fr g L s.heap m) (N : News g L s.heap news) (hl : g.IsList sc vs.toArray) (hi : IntsAre vs ns) (hm : m "script" = some (.ref sc)) (hk : scope.kind = .function) (hs : scope.names.lookup ("script" : Str) = some .local)
    (h : ∀ C : Cx, C.Is scope 20 → C.outer = [] → Dx C → C.g.IsList sc vs.toArray → SRel C [] [("box", .undef), ("script", .raw (.ref sc)), ("turn", .undef), ("w", .undef), ("a", .undef), ("b", .undef)] none s.heap m news → wpAny (model PR C.wd) C.A (execs body C.env) (EndL C s) (fun _ _ => False) s)
    (hQ : ∀ h' tk m' led', Fr g L h' m' → News g L h' led' → Tabs led' → Q (.ret (.bool true)) { s with heap := h', toks := tk }) : wpAny (model PR wd) (callerA.deeper (envOf name scope L fa cd)) (execs body (envOf name scope L fa cd)) Q E s := by
  refine wpAny_mono (h ⟨wd, 20, name, scope, fa, cd, [], 2 + claimMargin, 7, some [], callerA, [], g, g, L, p, loose, mean, mg, mb, news, false, X, K, T, rfl, (by decide), (by decide), hk⟩ ⟨rfl, rfl, rfl⟩ rfl ⟨X, T⟩ hl ⟨(fun _ h => nomatch h), (show (["box", "script", "turn", "w", "a", "b"] : List Str).Nodup by decide), F, [], N, rfl, .cons (.inl rfl) (.cons (.inr ⟨_, rfl, .inl ⟨hs, hm⟩⟩) (.cons (.inl rfl) (.cons (.inl rfl) (.cons (.inl rfl) (.cons (.inl rfl) .nil)))))⟩) (fun fl s' q => ?_) fun _ _ x => x.elim
  obtain ⟨l, l0, v, h', tk, m', led', rfl, rfl, F', N', hb, rfl⟩ := q
  exact hQ h' tk m' led' F' N' hb.2.2.1
theorem TabOk.grown {P : Addr} {line col : Int} {qual : Str} {g h : Heap} {L : Addr} (T : TabOk P line col qual led) (N : News g L h led) : GrownAt P h := by
  rcases T with h1 | ⟨_, _, _, _, h1, _⟩
  · exact .of N h1
  · exact .of N h1
end
end Mine
open Mine
theorem PySem.Challenge.cw_nn0014_01_holds : PySem.Challenge.rw_nn0014_01.Holds := by
  refine Mine.hd ?_
  k_go0
  have hi := ‹IntsAre _ _›
  have hn := ‹¬ _ < _›
  have hN : (["box", "script", "turn", "w", "a", "b"] : List Str).Nodup := by decide
  refine law_frame (by assumption) (by assumption) (by assumption) (by assumption) (by assumption) (by assumption) hi rfl rfl rfl (fun C I ho D hg S => ?_) fun h' tk m' led' F' N' T' => ⟨?_, ?_⟩
  · refine law_box S hg hi (by omega) ⟨.inl (.tail _ (.tail _ (.head _))), .inl (.tail _ (.head _)), .inl (.head _)⟩ (ev_var (mm (k := 1) rfl)) (I.k rfl) (I.k rfl) (I.le rfl) I.nc rfl fun l l0 s m led S => ?_
    refine law_app (b := [_]) (bl_forV (x := "box") (τ := Unit) (B := 2) (fun _ => [("script", _), ("turn", .undef), ("w", .undef), ("a", .undef), ("b", .undef)]) (fun _ _ => True) () (evv_int ev_int ⟨by decide, by decide⟩) (by decide) I.nc (I.k rfl) (I.k rfl) (cov [] rfl) trivial (fun _ => rfl) (fun _ => hN) (fun c i p hi hp => ⟨_, pt 1 rfl, ?_⟩) fun c n hn hp => bl_nil ⟨rfl, fun s m led S => law_true S I.nc⟩) S
    refine bl_assignV (evv_add (Pj := fun i => 2 ≤ i ∧ i ≤ 9) ev_int (evv_take (k := 8) (by decide) (by decide) ev_int rfl (I.k rfl) I.nc rfl (I.le rfl)) fun j hj => ⟨by omega, by omega⟩) (I.k rfl) fun w hw => ?_
    obtain ⟨w, rfl⟩ : ∃ n : Nat, w = n := ⟨w.toNat, (Int.toNat_of_nonneg (by omega)).symm⟩
    have hw2 : 2 ≤ w := by omega
    have hw9 : w ≤ 9 := by omega
    refine ⟨_, (pt 3 rfl), bl_tupV (evv_number hw2 hw9 (ev_var (mm (k := 3) rfl)) rfl (I.k rfl) I.nc rfl (I.le rfl)) (evv_number hw2 hw9 (ev_var (mm (k := 3) rfl)) rfl (I.k rfl) I.nc rfl (I.le rfl)) (I.k rfl) (I.k rfl) rfl (I.sw fun _ _ _ _ => rfl) fun a b ha hb => ⟨_, _, (pt 5 rfl), (pt 4 rfl), ?_⟩⟩
    refine bl_noV (trv_not (evv_sums D ho hw2 hw9 ha hb (ev_var (mm (k := 4) rfl)) (ev_var (mm (k := 5) rfl)) (ev_var (mm (k := 3) rfl)) (evv_take (k := 7) (by decide) (by decide) ev_int rfl (I.k rfl) I.nc rfl (I.le rfl)) (I.k rfl) I.nc rfl (I.le rfl)) rfl) ?_
    refine bl_noV (trv_or (trv_not (evv_limb D ho hw2 hw9 ha hb (ev_var (mm (k := 4) rfl)) (ev_var (mm (k := 5) rfl)) (ev_var (mm (k := 3) rfl)) (evv_take (p2pos w) (Int.lt_of_le_of_lt (p2mono hw9) (by decide)) (ev_pw (ev_var (mm (k := 3) rfl)) (Nat.le_trans hw9 (by decide))) rfl (I.k rfl) I.nc rfl (I.le rfl)) (I.k rfl) I.nc rfl (I.le rfl)) rfl) (trv_not (evv_bits D ho hw2 hw9 ha (ev_var (mm (k := 4) rfl)) (ev_var (mm (k := 3) rfl)) (evv_take (k := 40) (by decide) (by decide) ev_int rfl (I.k rfl) I.nc rfl (I.le rfl)) (evv_take (k := 7) (by decide) (by decide) ev_int rfl (I.k rfl) I.nc rfl (I.le rfl)) (I.k rfl) I.nc rfl (I.le rfl)) rfl)) ?_
    exact bl_nil ⟨rfl, (), _, rfl, cov [1, 2, 3, 4] rfl, trivial⟩
  · clear hn hi N' T'
    first | wrow_close | (w_end; wrow_close)
  · exact ⟨T'.2.2.grown N', T'.2.1.grown N', T'.1.grown N', trivial⟩
