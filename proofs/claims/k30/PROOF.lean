import PyProof.Rows.All
import Wide.All
import OpenK.AllK
import Wide.FinOn
import HandS.ForMost
import HandS.DictTup
import KE.KDictKeyed
import KE.KDictOf
import HandS.IsInst
import HandS.SortKw
import HandS.More
import KE.KMinKey
import KE.DataCmp
import KE.SortKeyHeap
import KE.KDictDisplayH
import HandS.OwnEq
import HandS.Lambda
import HandS.SetFor
import HandS.Strs
import HandS.Defaults
import HandS.Wide
import HandS.Zip
import HandS.TupAny
import HandS.Style
import HandS.FltList
import HandS.Exc
import HandS.ExcOwn
import HandS.ExcIs
import HandS.Conv
import HandS.Flow
import HandS.Codes
import HandS.Walk
import HandS.HeadHook4
import HandS.EndTab
import HandS.Head0
import HandS.Head1
import HandS.Head2
import HandS.HeadEnd
import PySem.Challenge.RW_falsesums_k30_whole_one_of_the_two
set_option Elab.async false
set_option linter.all false
section
/-! Sums over lists in a field; the sixteen products; rows. Plain mathematics, no program. -/
namespace Fs
open Lean.Grind

section sums
variable {K : Type} [Field K] {α β : Type}

def sumL (l : List α) (f : α → K) : K := l.foldr (fun a s => f a + s) 0

@[simp] theorem sumL_nil (f : α → K) : sumL [] f = 0 := rfl
@[simp] theorem sumL_cons (a : α) (l : List α) (f : α → K) : sumL (a :: l) f = f a + sumL l f := rfl
theorem sumL_append (l r : List α) (f : α → K) : sumL (l ++ r) f = sumL l f + sumL r f := by
  induction l with
  | nil => simp only [List.nil_append, sumL_nil]; grind
  | cons a l ih => simp only [List.cons_append, sumL_cons, ih]; grind
theorem sumL_congr {l : List α} {f g : α → K} (h : ∀ a ∈ l, f a = g a) : sumL l f = sumL l g := by
  induction l with
  | nil => rfl
  | cons a l ih =>
    rw [sumL_cons, sumL_cons, h a List.mem_cons_self, ih fun b hb => h b (List.mem_cons_of_mem _ hb)]
theorem sumL_zero {l : List α} {f : α → K} (h : ∀ a ∈ l, f a = 0) : sumL l f = 0 := by
  induction l with
  | nil => rfl
  | cons a l ih =>
    rw [sumL_cons, h a List.mem_cons_self, ih fun b hb => h b (List.mem_cons_of_mem _ hb)]; grind
theorem sumL_add (l : List α) (f g : α → K) : sumL l (fun a => f a + g a) = sumL l f + sumL l g := by
  induction l with
  | nil => simp only [sumL_nil]; grind
  | cons a l ih => simp only [sumL_cons, ih]; grind
theorem sumL_sub (l : List α) (f g : α → K) : sumL l (fun a => f a - g a) = sumL l f - sumL l g := by
  induction l with
  | nil => simp only [sumL_nil]; grind
  | cons a l ih => simp only [sumL_cons, ih]; grind
theorem sumL_mul (c : K) (l : List α) (f : α → K) : sumL l (fun a => c * f a) = c * sumL l f := by
  induction l with
  | nil => simp only [sumL_nil]; grind
  | cons a l ih => simp only [sumL_cons, ih]; grind
theorem sumL_mul_r (c : K) (l : List α) (f : α → K) : sumL l (fun a => f a * c) = sumL l f * c := by
  induction l with
  | nil => simp only [sumL_nil]; grind
  | cons a l ih => simp only [sumL_cons, ih]; grind
theorem sumL_comm (l : List α) (r : List β) (f : α → β → K) : sumL l (fun a => sumL r (f a)) = sumL r (fun b => sumL l fun a => f a b) := by
  induction l with
  | nil => simp only [sumL_nil]; exact (sumL_zero fun _ _ => rfl).symm
  | cons a l ih => simp only [sumL_cons, ih, ← sumL_add]
theorem sumL_map (g : β → α) (l : List β) (f : α → K) : sumL (l.map g) f = sumL l fun b => f (g b) := by
  induction l with
  | nil => rfl
  | cons a l ih => simp only [List.map_cons, sumL_cons, ih]
theorem sumL_filter (l : List α) (p : α → Bool) (f : α → K) : sumL (l.filter p) f = sumL l fun a => if p a then f a else 0 := by
  induction l with
  | nil => rfl
  | cons a l ih =>
    rw [List.filter_cons, sumL_cons]
    cases p a
    · simp only [Bool.false_eq_true, if_false, ih]; grind
    · simp only [if_true, sumL_cons, ih]
theorem sumL_flatMap (l : List β) (g : β → List α) (f : α → K) : sumL (l.flatMap g) f = sumL l fun b => sumL (g b) f := by
  induction l with
  | nil => rfl
  | cons a l ih => rw [List.flatMap_cons, sumL_append, sumL_cons, ih]
theorem sumL_perm {l r : List α} (h : l.Perm r) (f : α → K) : sumL l f = sumL r f := by
  induction h with
  | nil => rfl
  | cons a _ ih => rw [sumL_cons, sumL_cons, ih]
  | swap a b l => simp only [sumL_cons]; grind
  | trans _ _ h1 h2 => exact h1.trans h2
theorem sumL_one [DecidableEq α] {l : List α} (hn : l.Nodup) {a : α} (ha : a ∈ l) {f : α → K} (h : ∀ b ∈ l, b ≠ a → f b = 0) : sumL l f = f a := by
  induction l with
  | nil => exact absurd ha (by simp)
  | cons b l ih =>
    rw [List.nodup_cons] at hn
    rw [sumL_cons]
    by_cases e : b = a
    · subst e
      have : sumL l f = 0 := sumL_zero fun c hc => h c (List.mem_cons_of_mem _ hc) fun e => hn.1 (e ▸ hc)
      rw [this]; grind
    · have ha' : a ∈ l := (List.mem_cons.mp ha).resolve_left fun z => e z.symm
      rw [h b List.mem_cons_self e, ih hn.2 ha' fun c hc => h c (List.mem_cons_of_mem _ hc)]; grind
/-- a sum over l that is carried by a sublist -/
theorem sumL_sub_of [DecidableEq α] {l r : List α} (hl : l.Nodup) (hr : r.Nodup) (hs : ∀ a ∈ r, a ∈ l) {f : α → K} (h : ∀ a ∈ l, a ∉ r → f a = 0) : sumL l f = sumL r f := by
  have e1 : sumL l f = sumL (l.filter fun a => decide (a ∈ r)) f := by
    rw [sumL_filter]
    refine sumL_congr fun a ha => ?_
    by_cases q : a ∈ r
    · simp [q]
    · simp [q, h a ha q]
  rw [e1]
  refine sumL_perm ?_ f
  rw [List.perm_iff_count]
  intro a
  by_cases q : a ∈ r
  · rw [List.Nodup.count hr, List.Nodup.count (hl.filter _)]
    simp [q, hs a q]
  · rw [List.count_eq_zero.mpr q, List.count_eq_zero.mpr (by simp [q])]
end sums

theorem div_eq {K : Type} [Field K] (a b : K) : a / b = a * b⁻¹ := Field.div_eq_mul_inv a b
theorem mul_inv {K : Type} [Field K] {a : K} (h : a ≠ 0) : a * a⁻¹ = 1 := Field.mul_inv_cancel h
theorem mul_zero_or {K : Type} [Field K] {a b : K} (h : a * b = 0) : a = 0 ∨ b = 0 := Field.of_mul_eq_zero h
theorem one_ne {K : Type} [Field K] : (1 : K) ≠ 0 := fun h => Field.zero_ne_one h.symm

/-! ### the products of four places -/
abbrev Pr := Fin 16
def bit (p : Pr) (i : Nat) : Bool := (p.val / 2 ^ i) % 2 == 1
/-- the places of a product, rising -/
def places (p : Pr) : List Nat := (List.range 4).filter fun i => bit p i
def size (p : Pr) : Nat := (places p).length
/-- two products come together -/
def jn (p q : Pr) : Pr := Fin.ofNat 16 (p.val ||| q.val)
/-- all products, those of fewer places first, alike many as lists are sorted -/
def prods : List Pr := [0, 1, 2, 4, 8, 3, 5, 9, 6, 10, 12, 7, 11, 13, 14, 15]
def rank (p : Pr) : Nat := prods.idxOf p
theorem prods_nodup : prods.Nodup := by decide
theorem prods_all : ∀ p : Pr, p ∈ prods := by decide
theorem rank_inj : ∀ p q : Pr, rank p = rank q → p = q := by decide
theorem rank_lt : ∀ p : Pr, rank p < 16 := by decide
theorem rank_zero : rank 0 = 0 := by decide
theorem jn_comm : ∀ p q : Pr, jn p q = jn q p := by decide
theorem jn_zero : ∀ p : Pr, jn p 0 = p := by decide
theorem places_inj : ∀ p q : Pr, places p = places q → p = q := by decide
/-- the products of the first n places, of at most m places -/
def inU (n m : Nat) (p : Pr) : Bool := decide (p.val < 2 ^ n) && decide (size p ≤ m)
def univ (n m : Nat) : List Pr := prods.filter fun p => inU n m p

end Fs
end
section
/-! Rows brought to steps, with what they are made of; what they span; how large the numbers are. Plain mathematics. -/
namespace Fs
open Lean.Grind

/-- the number that two whole numbers make, as the program reckons it: p is the prime, 0 for the fractions -/
def invOf (p b : Int) : Int := (((List.range (p.toNat - 1)).map fun (i : Nat) => Int.ofNat i + 1).filter fun k => b * k % p == 1).headD 0
def mkN (p t b : Int) : Int × Int :=
  if p = 0 then (b.sign * t / (Int.gcd t b : Int), (b.natAbs : Int) / (Int.gcd t b : Int))
  else ((if b % p = 1 then t else t * invOf p b) % p, 1)
/-- b may be a bottom -/
def okB (p b : Int) : Prop := if p = 0 then b ≠ 0 else b % p ≠ 0

/-- a field as the program writes its numbers; rep D N x: x times D is a whole number of at most N (nothing is said over a prime) -/
class Num (K : Type) extends Field K where
  dec : DecidableEq K
  p : Int
  enc : K → Int × Int
  frac : Int → Int → K
  rep : Int → Nat → K → Prop
  p_ok : p = 0 ∨ (2 ≤ p ∧ p ≤ 97)
  enc_inj : ∀ x y : K, enc x = enc y → x = y
  enc_zero : enc 0 = (0, 1)
  enc_one : enc 1 = (1, 1)
  enc_frac : ∀ t b : Int, okB p b → enc (frac t b) = mkN p t b
  enc_bot : ∀ x : K, okB p (enc x).2
  enc_top : ∀ x : K, x ≠ 0 → okB p (enc x).1
  frac_enc : ∀ x : K, frac (enc x).1 (enc x).2 = x
  frac_add : ∀ a b c d : Int, okB p b → okB p d → frac a b + frac c d = frac (a * d + c * b) (b * d)
  frac_sub : ∀ a b c d : Int, okB p b → okB p d → frac a b - frac c d = frac (a * d - c * b) (b * d)
  frac_mul : ∀ a b c d : Int, okB p b → okB p d → frac a b * frac c d = frac (a * c) (b * d)
  frac_div : ∀ a b c d : Int, okB p b → okB p d → okB p c → frac a b / frac c d = frac (a * d) (b * c)
  okB_mul : ∀ b d : Int, okB p b → okB p d → okB p (b * d)
  rep_mono : ∀ {D : Int} {N M : Nat} {x : K}, rep D N x → N ≤ M → rep D M x
  rep_zero : ∀ {D : Int} {N : Nat}, D ≠ 0 → rep D N 0
  rep_unit : ∀ {D : Int}, D ≠ 0 → rep D D.natAbs 1
  rep_add : ∀ {D : Int} {N M : Nat} {x y : K}, rep D N x → rep D M y → rep D (N + M) (x + y)
  rep_neg : ∀ {D : Int} {N : Nat} {x : K}, rep D N x → rep D N (-x)
  rep_mul : ∀ {D E : Int} {N M : Nat} {x y : K}, rep D N x → rep E M y → rep (D * E) (N * M) (x * y)
  rep_div : ∀ {D : Int} {N : Nat} {y : K}, y ≠ 0 → rep D N y → ∃ E : Int, E ≠ 0 ∧ (p = 0 → E.natAbs ≤ N) ∧ ∀ (M : Nat) (x : K), rep D M x → rep E M (x / y)
  rep_sz : ∀ {D : Int} {N : Nat} {x : K}, D ≠ 0 → rep D N x → (enc x).1.natAbs ≤ max N 97 ∧ (enc x).2.natAbs ≤ D.natAbs
  siegel : (∀ (D : Int) (N : Nat) (x : K), rep D N x) ∨ ∀ {α β : Type} (vars : List α) (eqs : List β) (a : α → β → K) (D : Int) (A : Nat), D ≠ 0 → vars.Nodup → eqs.length < vars.length → 1 ≤ A → (∀ v ∈ vars, ∀ e ∈ eqs, rep D A (a v e)) →
    ∃ y : α → K, (∃ v ∈ vars, y v ≠ 0) ∧ (∀ v, rep 1 ((2 * vars.length * A) ^ eqs.length) (y v)) ∧ ∀ e ∈ eqs, sumL vars (fun v => y v * a v e) = 0
instance {K : Type} [Num K] : DecidableEq K := Num.dec

section num
variable {K : Type} [Num K]
theorem frac_eq (x : K) : x = Num.frac (Num.enc x).1 (Num.enc x).2 := (Num.frac_enc x).symm
theorem enc_add (x y : K) : Num.enc (x + y) = mkN (Num.p K) ((Num.enc x).1 * (Num.enc y).2 + (Num.enc y).1 * (Num.enc x).2) ((Num.enc x).2 * (Num.enc y).2) := by
  rw [← Num.enc_frac _ _ (Num.okB_mul _ _ (Num.enc_bot x) (Num.enc_bot y)), ← Num.frac_add _ _ _ _ (Num.enc_bot x) (Num.enc_bot y), Num.frac_enc, Num.frac_enc]
theorem enc_sub (x y : K) : Num.enc (x - y) = mkN (Num.p K) ((Num.enc x).1 * (Num.enc y).2 - (Num.enc y).1 * (Num.enc x).2) ((Num.enc x).2 * (Num.enc y).2) := by
  rw [← Num.enc_frac _ _ (Num.okB_mul _ _ (Num.enc_bot x) (Num.enc_bot y)), ← Num.frac_sub _ _ _ _ (Num.enc_bot x) (Num.enc_bot y), Num.frac_enc, Num.frac_enc]
theorem enc_mul (x y : K) : Num.enc (x * y) = mkN (Num.p K) ((Num.enc x).1 * (Num.enc y).1) ((Num.enc x).2 * (Num.enc y).2) := by
  rw [← Num.enc_frac _ _ (Num.okB_mul _ _ (Num.enc_bot x) (Num.enc_bot y)), ← Num.frac_mul _ _ _ _ (Num.enc_bot x) (Num.enc_bot y), Num.frac_enc, Num.frac_enc]
theorem enc_div (x y : K) (hy : y ≠ 0) : Num.enc (x / y) = mkN (Num.p K) ((Num.enc x).1 * (Num.enc y).2) ((Num.enc x).2 * (Num.enc y).1) := by
  rw [← Num.enc_frac _ _ (Num.okB_mul _ _ (Num.enc_bot x) (Num.enc_top y hy)), ← Num.frac_div _ _ _ _ (Num.enc_bot x) (Num.enc_bot y) (Num.enc_top y hy), Num.frac_enc, Num.frac_enc]
theorem enc_eq_zero (x : K) : Num.enc x = (0, 1) ↔ x = 0 := ⟨fun h => Num.enc_inj _ _ (h.trans Num.enc_zero.symm), fun h => h ▸ Num.enc_zero⟩
theorem enc_eq_one (x : K) : Num.enc x = (1, 1) ↔ x = 1 := ⟨fun h => Num.enc_inj _ _ (h.trans Num.enc_one.symm), fun h => h ▸ Num.enc_one⟩
theorem enc_fst_zero (x : K) (h : (Num.enc x).1 = 0) : x = 0 := by
  by_cases hx : x = 0
  · exact hx
  · have e := Num.enc_top x hx
    rw [h] at e
    unfold okB at e
    split at e
    · exact absurd rfl e
    · exact absurd (Int.zero_emod _) e

theorem rep_sub {D : Int} {N M : Nat} {x y : K} (hx : Num.rep D N x) (hy : Num.rep D M y) : Num.rep D (N + M) (x - y) := by
  have e : x - y = x + -y := Ring.sub_eq_add_neg x y
  rw [e]
  exact Num.rep_add hx (Num.rep_neg hy)
theorem rep_sum {α : Type} {D : Int} {N : Nat} (l : List α) (f : α → K) (hD : D ≠ 0) (h : ∀ a ∈ l, Num.rep D N (f a)) : Num.rep D (l.length * N) (sumL l f) := by
  induction l with
  | nil => exact Num.rep_zero hD
  | cons a l ih =>
    have h1 := Num.rep_add (h a List.mem_cons_self) (ih fun b hb => h b (List.mem_cons_of_mem _ hb))
    rw [sumL_cons]
    refine Num.rep_mono h1 (Nat.le_of_eq ?_)
    rw [List.length_cons, Nat.succ_mul, Nat.add_comm]
theorem rep_scale {D E : Int} {N : Nat} {x : K} (hE : E ≠ 0) (h : Num.rep D N x) : Num.rep (D * E) (N * E.natAbs) x := by
  have h1 := Num.rep_mul h (Num.rep_unit (K := K) hE)
  have e : x * 1 = x := Semiring.mul_one x
  rwa [e] at h1
end num

/-! ### marks: the number of a nought, a product -/
abbrev Mk := Fin 4 × Pr
def marks : List Mk := [0, 1, 2, 3].flatMap fun i => prods.map fun q => (i, q)
theorem marks_nodup : marks.Nodup := by decide +kernel
theorem marks_all (μ : Mk) : μ ∈ marks := by
  refine List.mem_flatMap.mpr ⟨μ.1, ?_, List.mem_map.mpr ⟨μ.2, prods_all _, rfl⟩⟩
  have : ∀ i : Fin 4, i ∈ ([0, 1, 2, 3] : List (Fin 4)) := by decide
  exact this μ.1

section lin
variable {K : Type} [Num K]
abbrev Row (K : Type) := Pr → K
abbrev MRow (K : Type) := Mk → K
abbrev Bs (K : Type) := Pr → Option (Row K × MRow K)
/-- a mark's worth of rows together -/
def comb (G : Mk → Row K) (m : MRow K) : Row K := fun k => sumL marks fun μ => m μ * G μ k
def dot (w r : Row K) : K := sumL prods fun k => w k * r k

theorem comb_sub (G : Mk → Row K) (m n : MRow K) (c : K) (k : Pr) : comb G (fun μ => m μ - c * n μ) k = comb G m k - c * comb G n k := by
  unfold comb
  rw [← sumL_mul, ← sumL_sub]
  exact sumL_congr fun μ _ => by grind
theorem comb_scale (G : Mk → Row K) (m : MRow K) (c : K) (k : Pr) : comb G (fun μ => c * m μ) k = c * comb G m k := by
  unfold comb
  rw [← sumL_mul]
  exact sumL_congr fun μ _ => by grind
theorem comb_unit (G : Mk → Row K) (μ : Mk) (k : Pr) : comb G (fun ν => if ν = μ then 1 else 0) k = G μ k := by
  unfold comb
  rw [sumL_one marks_nodup (marks_all μ) (fun ν _ h => by show (if ν = μ then (1 : K) else 0) * G ν k = 0; rw [if_neg h]; grind)]
  show (if μ = μ then (1 : K) else 0) * G μ k = G μ k
  rw [if_pos rfl]
  grind
theorem dot_sub (w r s : Row K) (c : K) : dot w (fun k => r k - c * s k) = dot w r - c * dot w s := by
  unfold dot
  rw [← sumL_mul, ← sumL_sub]
  exact sumL_congr fun k _ => by grind
theorem dot_scale (w r : Row K) (c : K) : dot w (fun k => c * r k) = c * dot w r := by
  unfold dot
  rw [← sumL_mul]
  exact sumL_congr fun k _ => by grind
theorem dot_comb (w : Row K) (G : Mk → Row K) (m : MRow K) : dot w (comb G m) = sumL marks fun μ => m μ * dot w (G μ) := by
  unfold dot comb
  have e : ∀ k, w k * sumL marks (fun μ => m μ * G μ k) = sumL marks fun μ => m μ * (w k * G μ k) := fun k => by
    rw [← sumL_mul]
    exact sumL_congr fun μ _ => by grind
  rw [sumL_congr fun k _ => e k, sumL_comm]
  exact sumL_congr fun μ _ => by rw [← sumL_mul]
theorem dot_congr {w v r s : Row K} (h : ∀ k, w k * r k = v k * s k) : dot w r = dot v s := sumL_congr fun k _ => h k

/-- the rows kept: B by their greatest products, b which mark brought each, done which marks were put in -/
structure LInv (G : Mk → Row K) (done : Mk → Prop) (B : Bs K) (b : Pr → Mk) : Prop where
  lead : ∀ {h r m}, B h = some (r, m) → r h = 1
  low : ∀ {h r m k}, B h = some (r, m) → r k ≠ 0 → rank k ≤ rank h
  made : ∀ {h r m}, B h = some (r, m) → ∀ k, r k = comb G m k
  base : ∀ {h r m}, B h = some (r, m) → m (b h) ≠ 0
  supp : ∀ {h r m μ}, B h = some (r, m) → m μ ≠ 0 → ∃ h', (B h').isSome ∧ rank h ≤ rank h' ∧ μ = b h'
  inj : ∀ {h h'}, (B h).isSome → (B h').isSome → b h = b h' → h = h'
  bdone : ∀ {h}, (B h).isSome → done (b h)
  span : ∀ w : Row K, (∀ h r m, B h = some (r, m) → dot w r = 0) → ∀ μ, done μ → dot w (G μ) = 0
/-- a row on its way in, by the mark u -/
structure Stg (G : Mk → Row K) (B : Bs K) (b : Pr → Mk) (u : Mk) (r : Row K) (m : MRow K) : Prop where
  made : ∀ k, r k = comb G m k
  one : m u = 1
  supp : ∀ {μ}, m μ ≠ 0 → μ = u ∨ ∃ h, (B h).isSome ∧ μ = b h ∧ ∀ k, r k ≠ 0 → rank k < rank h
  same : ∀ w : Row K, (∀ h r m, B h = some (r, m) → dot w r = 0) → dot w r = dot w (G u)
/-- a row's greatest product -/
structure Head (r : Row K) (h : Pr) : Prop where
  at_ : r h ≠ 0
  top : ∀ k, r k ≠ 0 → rank k ≤ rank h

variable {G : Mk → Row K} {done : Mk → Prop} {B : Bs K} {b : Pr → Mk} {u : Mk} {r r1 : Row K} {m m1 : MRow K} {h : Pr}

theorem linv_nil (G : Mk → Row K) : LInv G (fun _ => False) (fun _ => none) (fun _ => (0, 0)) where
  lead := fun e => by cases e
  low := fun e => by cases e
  made := fun e => by cases e
  base := fun e => by cases e
  supp := fun e => by cases e
  inj := fun e => by cases e
  bdone := fun e => by cases e
  span := fun _ _ _ h => h.elim
theorem stg_start (G : Mk → Row K) (B : Bs K) (b : Pr → Mk) (u : Mk) : Stg G B b u (G u) (fun ν => if ν = u then 1 else 0) where
  made := fun k => (comb_unit G u k).symm
  one := if_pos rfl
  supp := fun {μ} e => .inl (by
    by_cases q : μ = u
    · exact q
    · rw [if_neg q] at e; exact absurd rfl e)
  same := fun _ _ => rfl
theorem stg_step (L : LInv G done B b) (S : Stg G B b u r m) (hd : Head r h) (e : B h = some (r1, m1)) (hu : ¬ done u) :
    Stg G B b u (fun k => r k - r h * r1 k) (fun μ => m μ - r h * m1 μ) := by
  have z : r h - r h * r1 h = 0 := by rw [L.lead e]; grind
  have lt : ∀ k, r k - r h * r1 k ≠ 0 → rank k < rank h := fun k hk => by
    by_cases ek : k = h
    · subst ek; exact absurd z hk
    · have l1 : rank k ≤ rank h := by
        by_cases q : r k = 0
        · by_cases q1 : r1 k = 0
          · exact absurd (by rw [q, q1]; grind) hk
          · exact L.low e q1
        · exact hd.top k q
      have : rank k ≠ rank h := fun q => ek (rank_inj _ _ q)
      omega
  refine ⟨fun k => ?_, ?_, fun {μ} hm => ?_, fun w hw => ?_⟩
  · rw [comb_sub, ← S.made, ← L.made e]
  · have q : m1 u = 0 := by
      by_cases q : m1 u = 0
      · exact q
      · obtain ⟨h', hs, _, e'⟩ := L.supp e q
        exact absurd (e' ▸ L.bdone hs) hu
    rw [S.one, q]; grind
  · by_cases q : m μ = 0
    · have q1 : m1 μ ≠ 0 := fun q1 => hm (by rw [q, q1]; grind)
      obtain ⟨h', hs, hr, e'⟩ := L.supp e q1
      exact .inr ⟨h', hs, e', fun k hk => Nat.lt_of_lt_of_le (lt k hk) hr⟩
    · rcases S.supp q with q | ⟨h', hs, e', hr⟩
      · exact .inl q
      · exact .inr ⟨h', hs, e', fun k hk => Nat.lt_trans (lt k hk) (hr h hd.at_)⟩
  · rw [dot_sub, S.same w hw, hw h r1 m1 e]; grind
/-- nothing is left -/
theorem linv_zero (L : LInv G done B b) (S : Stg G B b u r m) (hz : ∀ k, r k = 0) : LInv G (fun μ => done μ ∨ μ = u) B b where
  lead := L.lead
  low := L.low
  made := L.made
  base := L.base
  supp := L.supp
  inj := L.inj
  bdone := fun e => .inl (L.bdone e)
  span := fun w hw μ e => by
    rcases e with e | e
    · exact L.span w hw μ e
    · rw [e, ← S.same w hw]
      exact sumL_zero fun k _ => by rw [hz k]; grind
/-- the row as it is kept -/
def kept (B : Bs K) (h : Pr) (r : Row K) (m : MRow K) : Bs K := fun k => if k = h then some (fun k => r k * (1 / r h), fun μ => m μ * (1 / r h)) else B k
theorem linv_put (L : LInv G done B b) (S : Stg G B b u r m) (hd : Head r h) (e : B h = none) (hu : ¬ done u) :
    LInv G (fun μ => done μ ∨ μ = u) (kept B h r m) (fun k => if k = h then u else b k) := by
  have inv : r h * (1 / r h) = 1 := by
    have := mul_inv hd.at_
    rw [div_eq]; grind
  have nz : (1 / r h) ≠ 0 := fun q => by
    rw [q] at inv
    exact one_ne (K := K) (by grind)
  have at_ : ∀ {k r' m'}, kept B h r m k = some (r', m') → (k = h ∧ r' = (fun k => r k * (1 / r h)) ∧ m' = fun μ => m μ * (1 / r h)) ∨ (k ≠ h ∧ B k = some (r', m')) := fun {k r' m'} q => by
    unfold kept at q
    by_cases ek : k = h
    · rw [if_pos ek] at q
      cases q
      exact .inl ⟨ek, rfl, rfl⟩
    · rw [if_neg ek] at q
      exact .inr ⟨ek, q⟩
  have is : ∀ {k}, (kept B h r m k).isSome → k = h ∨ (k ≠ h ∧ (B k).isSome) := fun {k} q => by
    unfold kept at q
    by_cases ek : k = h
    · exact .inl ek
    · rw [if_neg ek] at q
      exact .inr ⟨ek, q⟩
  have isB : ∀ {k}, (B k).isSome → k ≠ h := fun {k} q ek => by
    rw [ek, e] at q; cases q
  have old : ∀ {k}, (B k).isSome → (kept B h r m k).isSome := fun {k} q => by
    unfold kept
    rw [if_neg (isB q)]; exact q
  have nu : ∀ {k}, (B k).isSome → b k ≠ u := fun {k} q z => hu (z ▸ L.bdone q)
  refine ⟨fun {k r' m'} q => ?_, fun {k r' m' j} q hk => ?_, fun {k r' m'} q j => ?_, fun {k r' m'} q => ?_, fun {k r' m' μ} q hm => ?_, fun {k k'} q q' eb => ?_, fun {k} q => ?_, fun w hw μ hμ => ?_⟩
  · rcases at_ q with ⟨rfl, rfl, rfl⟩ | ⟨_, q⟩
    · exact inv
    · exact L.lead q
  · rcases at_ q with ⟨rfl, rfl, rfl⟩ | ⟨_, q⟩
    · exact hd.top j fun z => hk (by show r j * _ = 0; rw [z]; grind)
    · exact L.low q hk
  · rcases at_ q with ⟨rfl, rfl, rfl⟩ | ⟨_, q⟩
    · show r j * _ = _
      rw [S.made j, show comb G (fun μ => m μ * (1 / r k)) j = (1 / r k) * comb G m j from by rw [← comb_scale]; unfold comb; exact sumL_congr fun μ _ => by grind]
      grind
    · exact L.made q j
  · rcases at_ q with ⟨rfl, rfl, rfl⟩ | ⟨ne, q⟩
    · show m (if k = k then u else b k) * _ ≠ 0
      rw [if_pos rfl, S.one]
      intro z
      exact nz (by grind)
    · show m' (if k = h then u else b k) ≠ 0
      rw [if_neg ne]
      exact L.base q
  · rcases at_ q with ⟨rfl, rfl, rfl⟩ | ⟨ne, q⟩
    · have hm' : m μ ≠ 0 := fun z => hm (by show m μ * _ = 0; rw [z]; grind)
      rcases S.supp hm' with z | ⟨h', hs, z, hr⟩
      · exact ⟨k, by unfold kept; rw [if_pos rfl]; rfl, Nat.le_refl _, by rw [if_pos rfl]; exact z⟩
      · exact ⟨h', old hs, Nat.le_of_lt (hr k hd.at_), by rw [if_neg (isB hs)]; exact z⟩
    · obtain ⟨h', hs, hr, z⟩ := L.supp q hm
      exact ⟨h', old hs, hr, by rw [if_neg (isB hs)]; exact z⟩
  · rcases is q with q1 | ⟨n1, q1⟩
    · rcases is q' with q2 | ⟨n2, q2⟩
      · rw [q1, q2]
      · rw [if_pos q1, if_neg n2] at eb
        exact absurd eb.symm (nu q2)
    · rcases is q' with q2 | ⟨n2, q2⟩
      · rw [if_neg n1, if_pos q2] at eb
        exact absurd eb (nu q1)
      · rw [if_neg n1, if_neg n2] at eb
        exact L.inj q1 q2 eb
  · rcases is q with q1 | ⟨n1, q1⟩
    · rw [if_pos q1]; exact .inr rfl
    · rw [if_neg n1]; exact .inl (L.bdone q1)
  · have hB : ∀ k r' m', B k = some (r', m') → dot w r' = 0 := fun k r' m' q => hw k r' m' (by
      unfold kept
      rw [if_neg (isB (by rw [q]; rfl))]; exact q)
    rcases hμ with hμ | hμ
    · exact L.span w hB μ hμ
    · rw [hμ, ← S.same w hB]
      have z := hw h _ _ (show kept B h r m h = _ from if_pos rfl)
      have e1 : dot w (fun k => r k * (1 / r h)) = (1 / r h) * dot w r := by
        rw [← dot_scale]
        exact dot_congr fun k => by grind
      rw [e1] at z
      exact (mul_zero_or z).resolve_left nz
/-- a functional that does not see the rows put in does not see the rows kept -/
theorem dot_kept (L : LInv G done B b) (w : Row K) (hw : ∀ μ, done μ → dot w (G μ) = 0) {h : Pr} {r : Row K} {m : MRow K} (e : B h = some (r, m)) : dot w r = 0 := by
  have e1 : r = comb G m := funext fun k => L.made e k
  rw [e1, dot_comb]
  refine sumL_zero fun μ _ => ?_
  by_cases q : m μ = 0
  · rw [q]; grind
  · obtain ⟨h', hs, _, z⟩ := L.supp e q
    rw [hw μ (z ▸ L.bdone hs)]; grind
/-- where the empty product heads a row, no functional that has 1 there sees nothing -/
theorem no_both (L : LInv G done B b) (hs : (B 0).isSome) (w : Row K) (h1 : w 0 = 1) : ¬ ∀ μ, done μ → dot w (G μ) = 0 := fun hw => by
  obtain ⟨⟨r, m⟩, e⟩ := Option.isSome_iff_exists.mp hs
  have z := dot_kept L w hw e
  have e1 : dot w r = w 0 * r 0 := sumL_one prods_nodup (prods_all 0) fun k _ hk => by
    have : r k = 0 := by
      by_cases q : r k = 0
      · exact q
      · have := L.low e q
        rw [rank_zero] at this
        exact absurd (rank_inj k 0 (by rw [rank_zero]; omega)) hk
    rw [this]; grind
  rw [e1, h1, L.lead e] at z
  exact one_ne (K := K) (by grind)

/-! ### the marks are told by the rows -/
theorem nonsing (L : LInv G done B b) : ∀ (d c : Nat), c + d = 16 → ∀ z : MRow K, (∀ μ, z μ ≠ 0 → ∃ h, (B h).isSome ∧ c ≤ rank h ∧ μ = b h) → (∀ h, (B h).isSome → c ≤ rank h → comb G z h = 0) → ∀ μ, z μ = 0
  | 0, c, hc, z, hz, _, μ => by
    by_cases q : z μ = 0
    · exact q
    · obtain ⟨h, _, hr, _⟩ := hz μ q
      have := rank_lt h
      omega
  | d + 1, c, hc, z, hz, hv, μ => by
    by_cases hx : ∃ h, rank h = c ∧ (B h).isSome
    · obtain ⟨h, eh, hs⟩ := hx
      obtain ⟨⟨r, m⟩, e⟩ := Option.isSome_iff_exists.mp hs
      have mb := L.base e
      have key : ∀ ν, z ν - z (b h) * (m (b h))⁻¹ * m ν = 0 := by
        refine nonsing L d (c + 1) (by omega) (fun ν => z ν - z (b h) * (m (b h))⁻¹ * m ν) (fun ν hν => ?_) (fun k hk hr => ?_)
        · have two : ∃ h', (B h').isSome ∧ c ≤ rank h' ∧ ν = b h' := by
            by_cases q : z ν = 0
            · have q1 : m ν ≠ 0 := fun q1 => hν (by rw [q, q1]; grind)
              obtain ⟨h', hs', hr', z'⟩ := L.supp e q1
              exact ⟨h', hs', by omega, z'⟩
            · exact hz ν q
          obtain ⟨h', hs', hr', e'⟩ := two
          refine ⟨h', hs', ?_, e'⟩
          by_cases q : rank h' = c
          · have : h' = h := rank_inj _ _ (q.trans eh.symm)
            rw [this] at e'
            rw [e'] at hν
            have := mul_inv mb
            exact absurd (by grind) hν
          · omega
        · rw [comb_sub, hv k hk (by omega), ← L.made e]
          have : r k = 0 := by
            by_cases q : r k = 0
            · exact q
            · have := L.low e q
              omega
          rw [this]; grind
      have ez : ∀ ν, z ν = z (b h) * (m (b h))⁻¹ * m ν := fun ν => by have := key ν; grind
      have t0 : z (b h) * (m (b h))⁻¹ = 0 := by
        have e1 : comb G z h = z (b h) * (m (b h))⁻¹ * comb G m h := by
          rw [← comb_scale]
          unfold comb
          exact sumL_congr fun ν _ => by rw [ez ν]
        rw [hv h hs (by omega), ← L.made e, L.lead e] at e1
        grind
      rw [ez μ, t0]; grind
    · refine nonsing L d (c + 1) (by omega) z (fun ν hν => ?_) (fun k hk hr => hv k hk (by omega)) μ
      obtain ⟨h', hs', hr', e'⟩ := hz ν hν
      refine ⟨h', hs', ?_, e'⟩
      by_cases q : rank h' = c
      · exact absurd ⟨h', q, hs'⟩ hx
      · omega
end lin
end Fs
end
section
/-! How large the numbers get (by a small solution of few equations); the worths that the rows leave. -/
namespace Fs
open Lean.Grind
set_option exponentiation.threshold 5000
set_option linter.all false
section size
variable {K : Type} [Num K] {G : Mk → Row K} {done : Mk → Prop} {B : Bs K} {b : Pr → Mk} {u : Mk} {r : Row K} {m : MRow K}

/-- the bound on all numbers of a row and its marks -/
def big : Nat := 2 ^ 420
/-- all of a family with one bottom -/
def Bd {α : Type} (N : Nat) (f : α → K) : Prop := ∃ E : Int, E ≠ 0 ∧ (Num.p K = 0 → E.natAbs ≤ N) ∧ ∀ a, Num.rep E N (f a)
def Small (A : Nat) (D : Int) : Prop := 1 ≤ A ∧ A ≤ 2 ^ 19 ∧ D ≠ 0 ∧ D.natAbs ≤ 2 ^ 6

theorem pow_le {x a n : Nat} (h : x ≤ 2 ^ a) : x ^ n ≤ 2 ^ (a * n) := by
  rw [Nat.pow_mul]
  exact Nat.pow_le_pow_left h n
theorem y_small {n e A : Nat} (hn : n ≤ 17) (he : e ≤ 16) (hA : A ≤ 2 ^ 19) (h1 : 1 ≤ A) (hn1 : 1 ≤ n) : (2 * n * A) ^ e ≤ 2 ^ 400 := by
  have h2 : 2 * n * A ≤ 2 ^ 25 := by
    have a1 : 2 * n ≤ 2 ^ 6 := by omega
    exact Nat.le_trans (Nat.mul_le_mul a1 hA) (by decide)
  refine Nat.le_trans (pow_le (n := e) h2) (Nat.pow_le_pow_right (by omega) ?_)
  omega

theorem comb_of_supp {G : Mk → Row K} {m : MRow K} {vs : List Mk} (hn : vs.Nodup) (hs : ∀ μ, μ ∉ vs → m μ = 0) (k : Pr) : comb G m k = sumL vs fun μ => m μ * G μ k :=
  sumL_sub_of marks_nodup hn (fun μ _ => marks_all μ) fun μ _ h => by rw [hs μ h]; grind

/-- what stands above the row: the heads that it has been freed of -/
def above (B : Bs K) (r : Row K) : List Pr := prods.filter fun h => (B h).isSome && prods.all fun k => decide (r k = 0) || decide (rank k < rank h)
theorem mem_above {h : Pr} : h ∈ above B r ↔ (B h).isSome ∧ ∀ k, r k ≠ 0 → rank k < rank h := by
  unfold above
  rw [List.mem_filter, Bool.and_eq_true, List.all_eq_true]
  constructor
  · rintro ⟨_, h1, h2⟩
    refine ⟨h1, fun k hk => ?_⟩
    have := h2 k (prods_all k)
    rw [Bool.or_eq_true, decide_eq_true_eq, decide_eq_true_eq] at this
    exact this.resolve_left hk
  · rintro ⟨h1, h2⟩
    refine ⟨prods_all h, h1, fun k _ => ?_⟩
    rw [Bool.or_eq_true, decide_eq_true_eq, decide_eq_true_eq]
    by_cases q : r k = 0
    · exact .inl q
    · exact .inr (h2 k q)
theorem above_nodup : (above B r).Nodup := prods_nodup.filter _
theorem above_len : (above B r).length ≤ 16 := Nat.le_trans (List.length_filter_le _ _) (by decide)
/-- the rank from which on heads stand above -/
def cutAt (r : Row K) : Nat := (prods.map fun k => if r k = 0 then 0 else rank k + 1).foldr max 0
theorem le_foldr_max : ∀ {l : List Nat} {x : Nat}, x ∈ l → x ≤ l.foldr max 0
  | y :: l, x, h => by
    rw [List.foldr_cons]
    rcases List.mem_cons.mp h with e | e
    · rw [e]; exact Nat.le_max_left _ _
    · exact Nat.le_trans (le_foldr_max e) (Nat.le_max_right _ _)
theorem foldr_max_le {c : Nat} : ∀ {l : List Nat}, (∀ x ∈ l, x ≤ c) → l.foldr max 0 ≤ c
  | [], _ => Nat.zero_le _
  | y :: l, h => by
    rw [List.foldr_cons]
    exact Nat.max_le.mpr ⟨h y List.mem_cons_self, foldr_max_le fun x hx => h x (List.mem_cons_of_mem _ hx)⟩
theorem cut_iff {h : Pr} : (∀ k, r k ≠ 0 → rank k < rank h) ↔ cutAt r ≤ rank h := by
  constructor
  · intro q
    refine foldr_max_le fun x hx => ?_
    obtain ⟨k, _, e⟩ := List.mem_map.mp hx
    rw [← e]
    by_cases z : r k = 0
    · rw [if_pos z]; exact Nat.zero_le _
    · rw [if_neg z]; exact q k z
  · intro q k hk
    have h1 : (if r k = 0 then 0 else rank k + 1) ≤ cutAt r := le_foldr_max (List.mem_map.mpr ⟨k, prods_all k, rfl⟩)
    rw [if_neg hk] at h1
    omega
theorem cut_le : cutAt r ≤ 16 := by
  refine foldr_max_le fun x hx => ?_
  obtain ⟨k, _, e⟩ := List.mem_map.mp hx
  rw [← e]
  have := rank_lt k
  split <;> omega

/-- the numbers of a row on its way in, and of its marks -/
theorem stage_small (L : LInv G done B b) (S : Stg G B b u r m) (hu : ¬ done u) {D : Int} {A : Nat} (hS : Small A D) (hG : ∀ μ k, Num.rep D A (G μ k)) :
    ∃ E : Int, E ≠ 0 ∧ (Num.p K = 0 → E.natAbs ≤ 2 ^ 406) ∧ (∀ k, Num.rep E (2 ^ 424) (r k)) ∧ ∀ μ, Num.rep E (2 ^ 406) (m μ) := by
  obtain ⟨a1, a2, d0, d2⟩ := hS
  rcases Num.siegel (K := K) with free | sg
  · refine ⟨1, by decide, fun _ => ?_, fun k => free _ _ _, fun μ => free _ _ _⟩
    exact Nat.one_le_two_pow
  · let T := above B r
    have nu : u ∉ T.map b := fun hm => by
      obtain ⟨h, hT, e⟩ := List.mem_map.mp hm
      exact hu (e ▸ L.bdone (mem_above.mp hT).1)
    have nb : (T.map b).Nodup := by
      have : ∀ l : List Pr, l.Nodup → (∀ h ∈ l, (B h).isSome) → (l.map b).Nodup := by
        intro l
        induction l with
        | nil => intro _ _; exact List.nodup_nil
        | cons h l ih =>
          intro hn hB
          rw [List.nodup_cons] at hn
          rw [List.map_cons, List.nodup_cons]
          refine ⟨fun hm => ?_, ih hn.2 fun k hk => hB k (List.mem_cons_of_mem _ hk)⟩
          obtain ⟨k, hk, e⟩ := List.mem_map.mp hm
          have := L.inj (hB k (List.mem_cons_of_mem _ hk)) (hB h List.mem_cons_self) e
          exact hn.1 (this ▸ hk)
      exact this T above_nodup fun h hT => (mem_above.mp hT).1
    have nv : (u :: T.map b).Nodup := List.nodup_cons.mpr ⟨nu, nb⟩
    have lT : T.length ≤ 16 := above_len
    have lv : (u :: T.map b).length = T.length + 1 := by rw [List.length_cons, List.length_map]
    obtain ⟨y, ⟨v, hv, yv⟩, yb, ye⟩ := sg (u :: T.map b) T (fun v e => G v e) D A d0 nv (by omega) a1 fun v _ e _ => hG v e
    have yS := y_small (n := (u :: T.map b).length) (e := T.length) (A := A) (by omega) lT a2 a1 (by omega)
    -- the solution, nothing outside of its letters
    let y' : MRow K := fun μ => if μ ∈ u :: T.map b then y μ else 0
    have ys : ∀ μ, μ ∉ u :: T.map b → y' μ = 0 := fun μ h => if_neg h
    have yin : ∀ μ, μ ∈ u :: T.map b → y' μ = y μ := fun μ h => if_pos h
    have yc : ∀ h ∈ T, comb G y' h = 0 := fun h hT => by
      rw [comb_of_supp nv ys, ← ye h hT]
      exact sumL_congr fun μ hμ => by rw [yin μ hμ]
    have c16 : cutAt r + (16 - cutAt r) = 16 := by have := cut_le (r := r); omega
    have inT : ∀ {h}, (B h).isSome → cutAt r ≤ rank h → h ∈ T := fun {h} h1 h2 => mem_above.mpr ⟨h1, cut_iff.mpr h2⟩
    have ofT : ∀ {h}, h ∈ T → (B h).isSome ∧ cutAt r ≤ rank h := fun {h} hT => ⟨(mem_above.mp hT).1, cut_iff.mp (mem_above.mp hT).2⟩
    have ms : ∀ μ, μ ∉ u :: T.map b → m μ = 0 := fun μ h => by
      by_cases q : m μ = 0
      · exact q
      · rcases S.supp q with q | ⟨h', hs, e, hr⟩
        · exact absurd (List.mem_cons.mpr (.inl q)) h
        · exact absurd (List.mem_cons.mpr (.inr (List.mem_map.mpr ⟨h', mem_above.mpr ⟨hs, hr⟩, e.symm⟩))) h
    have rz : ∀ h ∈ T, r h = 0 := fun h hT => by
      by_cases q : r h = 0
      · exact q
      · have := (mem_above.mp hT).2 h q
        omega
    have y0 : y u ≠ 0 := fun q => by
      have z := nonsing L (16 - cutAt r) (cutAt r) c16 y' (fun μ hμ => by
        by_cases hm : μ ∈ u :: T.map b
        · rcases List.mem_cons.mp hm with e | e
          · rw [yin μ hm, e] at hμ
            exact absurd q hμ
          · obtain ⟨h, hT, e⟩ := List.mem_map.mp e
            exact ⟨h, (ofT hT).1, (ofT hT).2, e.symm⟩
        · exact absurd (ys μ hm) hμ) (fun h h1 h2 => yc h (inT h1 h2)) v
      exact yv (by rw [← yin v hv]; exact z)
    have my : ∀ μ, m μ = y' μ / y u := fun μ => by
      have z := nonsing L (16 - cutAt r) (cutAt r) c16 (fun μ => m μ - (y u)⁻¹ * y' μ) (fun ν hν => by
        by_cases hm : ν ∈ u :: T.map b
        · rcases List.mem_cons.mp hm with e | e
          · rw [yin ν hm, e, S.one] at hν
            have := mul_inv y0
            exact absurd (by grind) hν
          · obtain ⟨h, hT, e⟩ := List.mem_map.mp e
            exact ⟨h, (ofT hT).1, (ofT hT).2, e.symm⟩
        · exact absurd (by rw [ys ν hm, ms ν hm]; grind) hν) (fun h h1 h2 => by
          rw [comb_sub, ← S.made, rz h (inT h1 h2), yc h (inT h1 h2)]; grind) μ
      rw [div_eq]; grind
    obtain ⟨E, e0, eN, eq⟩ := Num.rep_div y0 (yb u)
    have yb' : ∀ μ, Num.rep 1 ((2 * (u :: T.map b).length * A) ^ T.length) (y' μ) := fun μ => by
      by_cases hm : μ ∈ u :: T.map b
      · rw [yin μ hm]; exact yb μ
      · rw [ys μ hm]; exact Num.rep_zero (by decide)
    have mr : ∀ μ, Num.rep E (2 ^ 400) (m μ) := fun μ => by
      rw [my μ]
      exact Num.rep_mono (eq _ _ (yb' μ)) yS
    refine ⟨E * D, Int.mul_ne_zero e0 d0, fun hp => ?_, fun k => ?_, fun μ => ?_⟩
    · rw [Int.natAbs_mul]
      exact Nat.le_trans (Nat.mul_le_mul (Nat.le_trans (eN hp) yS) d2) (by rw [← Nat.pow_add]; exact Nat.le_refl _)
    · rw [S.made, comb_of_supp nv ms]
      have h1 : Num.rep (E * D) ((u :: T.map b).length * (2 ^ 400 * A)) (sumL (u :: T.map b) fun μ => m μ * G μ k) :=
        rep_sum _ _ (Int.mul_ne_zero e0 d0) fun μ _ => Num.rep_mul (mr μ) (hG μ k)
      refine Num.rep_mono h1 ?_
      have h2 : (u :: T.map b).length ≤ 2 ^ 5 := by omega
      refine Nat.le_trans (Nat.mul_le_mul h2 (Nat.mul_le_mul_left _ a2)) ?_
      rw [← Nat.pow_add, ← Nat.pow_add]
      exact Nat.le_refl _
    · refine Num.rep_mono (rep_scale d0 (mr μ)) ?_
      exact Nat.le_trans (Nat.mul_le_mul_left _ d2) (by rw [← Nat.pow_add]; exact Nat.le_refl _)
/-- the numbers of a kept row -/
def LSz (B : Bs K) : Prop := ∀ h r m, B h = some (r, m) → ∃ E : Int, E ≠ 0 ∧ (Num.p K = 0 → E.natAbs ≤ 2 ^ 424) ∧ (∀ k, Num.rep E (2 ^ 424) (r k)) ∧ ∀ μ, Num.rep E (2 ^ 424) (m μ)
theorem lsz_nil : LSz (K := K) fun _ => none := fun _ _ _ e => by cases e
theorem lsz_put {h : Pr} (hB : LSz B) (hd : Head r h) {E : Int} (e0 : E ≠ 0) (hr : ∀ k, Num.rep E (2 ^ 424) (r k)) (hm : ∀ μ, Num.rep E (2 ^ 406) (m μ)) : LSz (kept B h r m) := fun k r' m' e => by
  unfold kept at e
  by_cases ek : k = h
  · rw [if_pos ek] at e
    cases e
    obtain ⟨E', e0', eN, eq⟩ := Num.rep_div hd.at_ (hr h)
    have ed : ∀ x : K, x * (1 / r h) = x / r h := fun x => by rw [div_eq, div_eq]; grind
    refine ⟨E', e0', eN, fun k => ?_, fun μ => ?_⟩
    · show Num.rep E' (2 ^ 424) (r k * _)
      rw [ed]; exact eq _ _ (hr k)
    · show Num.rep E' (2 ^ 424) (m μ * _)
      rw [ed]; exact Num.rep_mono (eq _ _ (hm μ)) (Nat.pow_le_pow_right (by omega) (by omega))
  · rw [if_neg ek] at e
    exact hB k r' m' e

/-! ### the worths that the rows leave -/
/-- what a product is worth by those of lower rank -/
def wAt (B : Bs K) (w : Row K) (p : Pr) : K := if p = 0 then 1 else match B p with
  | some (r, _) => 0 - sumL (prods.filter fun k => decide (k ≠ p)) fun k => r k * w k
  | none => 0
def setR (w : Row K) (p : Pr) (x : K) : Row K := fun k => if k = p then x else w k
/-- one product behind the other -/
def wor (B : Bs K) (us : List Pr) : Row K := us.foldl (fun w p => setR w p (wAt B w p)) fun _ => 0

theorem wAt_congr {w v : Row K} {p : Pr} (L : LInv G done B b) (h : ∀ k, rank k < rank p → w k = v k) : wAt B w p = wAt B v p := by
  unfold wAt
  by_cases e : p = 0
  · rw [if_pos e, if_pos e]
  · rw [if_neg e, if_neg e]
    cases q : B p with
    | none => rfl
    | some x =>
      obtain ⟨r, m⟩ := x
      show (0 : K) - _ = 0 - _
      have e1 : sumL (prods.filter fun k => decide (k ≠ p)) (fun k => r k * w k) = sumL (prods.filter fun k => decide (k ≠ p)) fun k => r k * v k := sumL_congr fun k hk => by
        have ne : k ≠ p := of_decide_eq_true (List.mem_filter.mp hk).2
        by_cases z : r k = 0
        · rw [z]; grind
        · have l1 := L.low q z
          have l2 : rank k ≠ rank p := fun z => ne (rank_inj _ _ z)
          rw [h k (by omega)]
      rw [e1]
theorem wor_out : ∀ (us : List Pr) (w : Row K) (p : Pr), p ∉ us → (us.foldl (fun w p => setR w p (wAt B w p)) w) p = w p
  | [], _, _, _ => rfl
  | q :: us, w, p, h => by
    rw [List.foldl_cons, wor_out us _ p fun z => h (List.mem_cons_of_mem _ z)]
    unfold setR
    rw [if_neg fun z : p = q => h (z ▸ List.mem_cons_self)]
theorem wor_in (L : LInv G done B b) : ∀ (us : List Pr) (w : Row K), us.Pairwise (fun a c => rank a < rank c) → ∀ p ∈ us, (us.foldl (fun w p => setR w p (wAt B w p)) w) p = wAt B (us.foldl (fun w p => setR w p (wAt B w p)) w) p
  | [], _, _, _, h => absurd h (by simp)
  | q :: us, w, hs, p, h => by
    rw [List.pairwise_cons] at hs
    rw [List.foldl_cons]
    rcases List.mem_cons.mp h with e | e
    · subst e
      have nq : p ∉ us := fun z => Nat.lt_irrefl _ (hs.1 p z)
      rw [wor_out us _ p nq]
      show setR w p (wAt B w p) p = _
      rw [show setR w p (wAt B w p) p = wAt B w p from if_pos rfl]
      refine wAt_congr L fun k hk => ?_
      have nk : k ∉ us := fun z => by have := hs.1 k z; omega
      rw [wor_out us _ k nk]
      unfold setR
      rw [if_neg fun z => by rw [z] at hk; exact Nat.lt_irrefl _ hk]
    · exact wor_in L us _ hs.2 p e
theorem prods_sorted : prods.Pairwise fun a c => rank a < rank c := by decide
theorem univ_sorted (n d : Nat) : (univ n d).Pairwise fun a c => rank a < rank c := prods_sorted.filter _
/-- each row comes to nought -/
theorem wor_rows (L : LInv G done B b) {us : List Pr} (hs : us.Pairwise fun a c => rank a < rank c) (h0 : B 0 = none) (hU : ∀ h, (B h).isSome → h ∈ us) {h : Pr} {r : Row K} {m : MRow K} (e : B h = some (r, m)) : dot (wor B us) r = 0 := by
  have nh : h ≠ 0 := fun z => by rw [z, h0] at e; cases e
  have e1 : wor B us h = wAt B (wor B us) h := wor_in L us _ hs h (hU h (by rw [e]; rfl))
  have e2 : wAt B (wor B us) h = 0 - sumL (prods.filter fun k => decide (k ≠ h)) fun k => r k * wor B us k := by
    unfold wAt
    rw [if_neg nh, e]
  have e3 : dot (wor B us) r = wor B us h * r h + sumL (prods.filter fun k => decide (k ≠ h)) fun k => r k * wor B us k := by
    have key : ∀ l : List Pr, l.Nodup → h ∈ l → sumL l (fun k => wor B us k * r k) = wor B us h * r h + sumL (l.filter fun k => decide (k ≠ h)) fun k => r k * wor B us k := by
      intro l
      induction l with
      | nil => intro _ z; exact absurd z (by simp)
      | cons k l ih =>
        intro hn hm
        rw [List.nodup_cons] at hn
        rw [sumL_cons, List.filter_cons]
        by_cases ek : k = h
        · subst ek
          have e4 : l.filter (fun j => decide (j ≠ k)) = l := List.filter_eq_self.mpr fun j hj => decide_eq_true fun z => hn.1 (z ▸ hj)
          rw [show decide (k ≠ k) = false by simp, if_neg Bool.false_ne_true, e4]
          congr 1
          exact sumL_congr fun j _ => by grind
        · rw [show decide (k ≠ h) = true from decide_eq_true ek, if_pos rfl, sumL_cons, ih hn.2 ((List.mem_cons.mp hm).resolve_left fun z => ek z.symm)]
          grind
    exact key prods prods_nodup (prods_all h)
  rw [e3, L.lead e, e1, e2]; grind
theorem wor_zero (L : LInv G done B b) {us : List Pr} (hs : us.Pairwise fun a c => rank a < rank c) (hm : (0 : Pr) ∈ us) : wor B us 0 = 1 := by
  have e1 : wor B us 0 = wAt B (wor B us) 0 := wor_in L us _ hs 0 hm
  rw [e1]; exact if_pos rfl
theorem wor_none (L : LInv G done B b) {us : List Pr} (hs : us.Pairwise fun a c => rank a < rank c) {k : Pr} (h0 : k ≠ 0) (hB : B k = none) : wor B us k = 0 := by
  by_cases hm : k ∈ us
  · have e1 : wor B us k = wAt B (wor B us) k := wor_in L us _ hs k hm
    rw [e1]; unfold wAt; rw [if_neg h0, hB]
  · exact wor_out us _ k hm
/-- they are worths: what was put in comes to nought -/
theorem wor_worths (L : LInv G done B b) {us : List Pr} (hs : us.Pairwise fun a c => rank a < rank c) (h0 : B 0 = none) (hU : ∀ h, (B h).isSome → h ∈ us) {μ : Mk} (hμ : done μ) : dot (wor B us) (G μ) = 0 :=
  L.span _ (fun _ _ _ e => wor_rows L hs h0 hU e) μ hμ

/-- a functional carried by the heads is told by what the rows come to -/
theorem heads_zero (L : LInv G done B b) {z : Row K} (hz : ∀ k, z k ≠ 0 → (B k).isSome) (hd : ∀ h r m, B h = some (r, m) → dot z r = 0) : ∀ (n : Nat) (k : Pr), rank k < n → z k = 0
  | 0, _, h => absurd h (Nat.not_lt_zero _)
  | n + 1, k, h => by
    by_cases q : z k = 0
    · exact q
    · obtain ⟨⟨r, m⟩, e⟩ := Option.isSome_iff_exists.mp (hz k q)
      have d := hd k r m e
      have e1 : dot z r = z k * r k := sumL_one prods_nodup (prods_all k) fun j _ hj => by
        by_cases q1 : r j = 0
        · rw [q1]; grind
        · have l1 := L.low e q1
          have l2 : rank j ≠ rank k := fun z => hj (rank_inj _ _ z)
          rw [heads_zero L hz hd n j (by omega)]; grind
      rw [e1, L.lead e] at d
      grind
theorem worths_small (L : LInv G done B b) {us : List Pr} (hs : us.Pairwise fun a c => rank a < rank c) (h0 : B 0 = none) (hU : ∀ h, (B h).isSome → h ∈ us) (hm : (0 : Pr) ∈ us) {D : Int} {A : Nat} (hS : Small A D) (hG : ∀ μ k, Num.rep D A (G μ k)) :
    ∃ E : Int, E ≠ 0 ∧ (Num.p K = 0 → E.natAbs ≤ 2 ^ 400) ∧ ∀ k, Num.rep E (2 ^ 400) (wor B us k) := by
  obtain ⟨a1, a2, d0, d2⟩ := hS
  rcases Num.siegel (K := K) with free | sg
  · exact ⟨1, by decide, fun _ => Nat.one_le_two_pow, fun k => free _ _ _⟩
  · let T := prods.filter fun h => (B h).isSome
    have memT : ∀ {h}, h ∈ T ↔ (B h).isSome := fun {h} => by
      show h ∈ prods.filter _ ↔ _
      rw [List.mem_filter]
      exact ⟨fun z => z.2, fun z => ⟨prods_all h, z⟩⟩
    have n0 : (0 : Pr) ∉ T := fun z => by
      have := memT.mp z
      rw [h0] at this; cases this
    have nT : T.Nodup := prods_nodup.filter _
    have lT : T.length ≤ 16 := Nat.le_trans (List.length_filter_le _ _) (by decide)
    have nv : ((0 : Pr) :: T).Nodup := List.nodup_cons.mpr ⟨n0, nT⟩
    have lv : ((0 : Pr) :: T).length = T.length + 1 := List.length_cons
    obtain ⟨y, ⟨v, hv, yv⟩, yb, ye⟩ := sg ((0 : Pr) :: T) T (fun v e => G (b e) v) D A d0 nv (by omega) a1 fun v _ e _ => hG (b e) v
    have yS := y_small (n := ((0 : Pr) :: T).length) (e := T.length) (A := A) (by omega) lT a2 a1 (by omega)
    let y' : Row K := fun k => if k ∈ (0 : Pr) :: T then y k else 0
    have ys : ∀ k, k ∉ (0 : Pr) :: T → y' k = 0 := fun k h => if_neg h
    have yin : ∀ k, k ∈ (0 : Pr) :: T → y' k = y k := fun k h => if_pos h
    have yG : ∀ h, (B h).isSome → dot y' (G (b h)) = 0 := fun h hB => by
      have e1 : dot y' (G (b h)) = sumL ((0 : Pr) :: T) fun k => y' k * G (b h) k := sumL_sub_of prods_nodup nv (fun k _ => prods_all k) fun k _ hk => by rw [ys k hk]; grind
      rw [e1, ← ye h (memT.mpr hB)]
      exact sumL_congr fun k hk => by rw [yin k hk]
    have yr : ∀ h r m, B h = some (r, m) → dot y' r = 0 := fun h r m e => by
      have e1 : r = comb G m := funext fun k => L.made e k
      rw [e1, dot_comb]
      refine sumL_zero fun μ _ => ?_
      by_cases q : m μ = 0
      · rw [q]; grind
      · obtain ⟨h', hs', _, z⟩ := L.supp e q
        rw [z, yG h' hs']; grind
    have y0 : y 0 ≠ 0 := fun q => by
      have z := heads_zero L (z := y') (fun k hk => by
        by_cases hm : k ∈ (0 : Pr) :: T
        · rcases List.mem_cons.mp hm with e | e
          · rw [yin k hm, e] at hk
            exact absurd q hk
          · exact memT.mp e
        · exact absurd (ys k hm) hk) yr 16 v (rank_lt v)
      exact yv (by rw [← yin v hv]; exact z)
    have wy : ∀ k, wor B us k = y' k / y 0 := fun k => by
      have z := heads_zero L (z := fun k => wor B us k - (y 0)⁻¹ * y' k) (fun k hk => by
        by_cases hm' : k ∈ (0 : Pr) :: T
        · rcases List.mem_cons.mp hm' with e | e
          · rw [yin k hm', e, wor_zero L hs hm] at hk
            have := mul_inv y0
            exact absurd (by grind) hk
          · exact memT.mp e
        · have kn : k ≠ 0 := fun z => hm' (z ▸ List.mem_cons_self)
          have kB : B k = none := by
            cases q : B k with
            | none => rfl
            | some x => exact absurd (List.mem_cons_of_mem _ (memT.mpr (by rw [q]; rfl))) hm'
          exact absurd (by rw [ys k hm', wor_none L hs kn kB]; grind) hk) (fun h r m e => by
        have e1 : dot (fun k => wor B us k - (y 0)⁻¹ * y' k) r = dot (wor B us) r - (y 0)⁻¹ * dot y' r := by
          unfold dot
          rw [← sumL_mul, ← sumL_sub]
          exact sumL_congr fun k _ => by grind
        rw [e1, wor_rows L hs h0 hU e, yr h r m e]; grind) 16 k (rank_lt k)
      rw [div_eq]; grind
    obtain ⟨E, e0, eN, eq⟩ := Num.rep_div y0 (yb 0)
    refine ⟨E, e0, fun hp => Nat.le_trans (eN hp) yS, fun k => ?_⟩
    rw [wy k]
    refine Num.rep_mono (eq _ _ ?_) yS
    by_cases hm : k ∈ (0 : Pr) :: T
    · rw [yin k hm]; exact yb k
    · rw [ys k hm]; exact Num.rep_zero (by decide)
end size
end Fs
end
section
/-! A small whole solution of few equations; the fractions; the numbers over a prime. Plain mathematics. -/
set_option exponentiation.threshold 5000
set_option linter.all false
namespace Fs
open Lean.Grind

/-! ### a small solution, by counting -/
section count
theorem split_class {α : Type} (f : α → Nat) (M : Nat) : ∀ (R : Nat) (S : List α), (∀ s ∈ S, f s < R) → R * M < S.length → ∃ c, M < (S.filter fun s => f s == c).length
  | 0, S, h, hl => by
    cases S with
    | nil => simp at hl
    | cons s S => exact absurd (h s List.mem_cons_self) (Nat.not_lt_zero _)
  | R + 1, S, h, hl => by
    by_cases q : M < (S.filter fun s => f s == R).length
    · exact ⟨R, q⟩
    · have e : S.length = (S.filter fun s => f s == R).length + (S.filter fun s => !(f s == R)).length := by
        rw [← List.length_append]
        exact ((List.filter_append_perm (fun s => f s == R) S).length_eq).symm
      obtain ⟨c, hc⟩ := split_class f M R (S.filter fun s => !(f s == R)) (fun s hs => by
        obtain ⟨h1, h2⟩ := List.mem_filter.mp hs
        have h3 := h s h1
        have h4 : f s ≠ R := by simpa using h2
        omega) (by rw [Nat.succ_mul] at hl; omega)
      refine ⟨c, Nat.lt_of_lt_of_le hc ?_⟩
      rw [List.filter_filter]
      have : ∀ l : List α, (l.filter fun a => (f a == c) && !(f a == R)).length ≤ (l.filter fun a => f a == c).length := by
        intro l
        induction l with
        | nil => exact Nat.le_refl _
        | cons a l ih =>
          rw [List.filter_cons, List.filter_cons]
          by_cases q1 : (f a == c) = true
          · rw [q1]
            by_cases q2 : (f a == R) = true
            · simp only [q2, Bool.not_true, Bool.and_false, Bool.false_eq_true, if_false, if_true, List.length_cons]
              omega
            · simp only [Bool.not_eq_true] at q2
              simp only [q2, Bool.not_false, Bool.and_true, if_true, List.length_cons]
              omega
          · simp only [Bool.not_eq_true] at q1
            simp only [q1, Bool.false_and, Bool.false_eq_true, if_false]
            exact ih
      exact this S
theorem agree {ε : Type} (val : ε → Nat → Nat) (R : Nat) : ∀ (eqs : List ε) (S : List Nat), S.Nodup → (∀ e ∈ eqs, ∀ s ∈ S, val e s < R) → R ^ eqs.length < S.length → ∃ i ∈ S, ∃ j ∈ S, i ≠ j ∧ ∀ e ∈ eqs, val e i = val e j
  | [], S, hn, _, hl => by
    match S, hn, hl with
    | [], _, hl => simp at hl
    | [_], _, hl => simp at hl
    | i :: j :: S, hn, _ =>
      refine ⟨i, by simp, j, by simp, fun e => ?_, fun e h => absurd h (by simp)⟩
      rw [List.nodup_cons] at hn
      exact hn.1 (e ▸ List.mem_cons_self)
  | e :: eqs, S, hn, hv, hl => by
    rw [List.length_cons, Nat.pow_succ, Nat.mul_comm] at hl
    obtain ⟨c, hc⟩ := split_class (val e) (R ^ eqs.length) R S (hv e List.mem_cons_self) hl
    obtain ⟨i, hi, j, hj, hij, h⟩ := agree val R eqs (S.filter fun s => val e s == c) (hn.filter _) (fun e' he s hs => hv e' (List.mem_cons_of_mem _ he) s (List.mem_filter.mp hs).1) hc
    obtain ⟨i1, i2⟩ := List.mem_filter.mp hi
    obtain ⟨j1, j2⟩ := List.mem_filter.mp hj
    refine ⟨i, i1, j, j1, hij, fun e' he => ?_⟩
    rcases List.mem_cons.mp he with z | z
    · rw [z, show val e i = c by simpa using i2, show val e j = c by simpa using j2]
    · exact h e' z
/-- the figures of a number, one for each letter -/
def dig {α : Type} [DecidableEq α] (Y : Nat) : List α → Nat → α → Nat
  | [], _, _ => 0
  | v :: vs, i, u => if u = v then i % (Y + 1) else dig Y vs (i / (Y + 1)) u
theorem dig_le {α : Type} [DecidableEq α] (Y : Nat) : ∀ (vs : List α) (i : Nat) (u : α), dig Y vs i u ≤ Y
  | [], _, _ => Nat.zero_le _
  | v :: vs, i, u => by
    unfold dig
    split
    · exact Nat.le_of_lt_succ (Nat.mod_lt _ (Nat.succ_pos _))
    · exact dig_le Y vs _ u
theorem dig_inj {α : Type} [DecidableEq α] (Y : Nat) : ∀ (vs : List α), vs.Nodup → ∀ i j : Nat, i < (Y + 1) ^ vs.length → j < (Y + 1) ^ vs.length → (∀ v ∈ vs, dig Y vs i v = dig Y vs j v) → i = j
  | [], _, i, j, hi, hj, _ => by
    simp only [List.length_nil, Nat.pow_zero] at hi hj
    omega
  | v :: vs, hn, i, j, hi, hj, h => by
    rw [List.nodup_cons] at hn
    rw [List.length_cons, Nat.pow_succ] at hi hj
    have h0 := h v List.mem_cons_self
    unfold dig at h0
    rw [if_pos rfl, if_pos rfl] at h0
    have h1 := dig_inj Y vs hn.2 (i / (Y + 1)) (j / (Y + 1)) (Nat.div_lt_of_lt_mul (by rw [Nat.mul_comm]; exact hi)) (Nat.div_lt_of_lt_mul (by rw [Nat.mul_comm]; exact hj)) fun w hw => by
      have h2 := h w (List.mem_cons_of_mem _ hw)
      unfold dig at h2
      have ne : w ≠ v := fun e => hn.1 (e ▸ hw)
      rw [if_neg ne, if_neg ne] at h2
      exact h2
    rw [← Nat.div_add_mod i (Y + 1), ← Nat.div_add_mod j (Y + 1), h0, h1]
def sumZ {α : Type} (l : List α) (f : α → Int) : Int := l.foldr (fun a s => f a + s) 0
theorem sumZ_cons {α : Type} (a : α) (l : List α) (f : α → Int) : sumZ (a :: l) f = f a + sumZ l f := rfl
theorem sumZ_sub {α : Type} (l : List α) (f g : α → Int) : sumZ l (fun a => f a - g a) = sumZ l f - sumZ l g := by
  induction l with
  | nil => rfl
  | cons a l ih => rw [sumZ_cons, sumZ_cons, sumZ_cons, ih]; omega
theorem sumZ_congr {α : Type} {l : List α} {f g : α → Int} (h : ∀ a ∈ l, f a = g a) : sumZ l f = sumZ l g := by
  induction l with
  | nil => rfl
  | cons a l ih => rw [sumZ_cons, sumZ_cons, h a List.mem_cons_self, ih fun b hb => h b (List.mem_cons_of_mem _ hb)]
theorem sumZ_abs {α : Type} {N : Nat} (l : List α) (f : α → Int) (h : ∀ a ∈ l, (f a).natAbs ≤ N) : (sumZ l f).natAbs ≤ l.length * N := by
  induction l with
  | nil => exact Nat.zero_le _
  | cons a l ih =>
    rw [sumZ_cons, List.length_cons, Nat.succ_mul]
    have h1 := h a List.mem_cons_self
    have h2 := ih fun b hb => h b (List.mem_cons_of_mem _ hb)
    have h3 := Int.natAbs_add_le (f a) (sumZ l f)
    omega
theorem siegelZ {α β : Type} [DecidableEq α] (vars : List α) (eqs : List β) (c : α → β → Int) (A : Nat) (hn : vars.Nodup) (hl : eqs.length < vars.length) (hA : 1 ≤ A) (hc : ∀ v ∈ vars, ∀ e ∈ eqs, (c v e).natAbs ≤ A) :
    ∃ z : α → Int, (∃ v ∈ vars, z v ≠ 0) ∧ (∀ v, (z v).natAbs ≤ (2 * vars.length * A) ^ eqs.length) ∧ ∀ e ∈ eqs, sumZ vars (fun v => z v * c v e) = 0 := by
  generalize hY : (2 * vars.length * A) ^ eqs.length = Y
  have n1 : 1 ≤ vars.length := by omega
  have q1 : 1 ≤ 2 * vars.length * A := Nat.le_trans (by omega : 1 ≤ 2 * vars.length * 1) (Nat.mul_le_mul_left _ hA)
  let sh : Int := ((vars.length * (Y * A) : Nat) : Int)
  let val : β → Nat → Nat := fun e i => (sumZ vars (fun v => (dig Y vars i v : Int) * c v e) + sh).toNat
  have bnd : ∀ e ∈ eqs, ∀ i, (sumZ vars fun v => (dig Y vars i v : Int) * c v e).natAbs ≤ vars.length * (Y * A) := fun e he i => sumZ_abs _ _ fun v hv => by
    rw [Int.natAbs_mul]
    exact Nat.mul_le_mul (by rw [Int.natAbs_natCast]; exact dig_le Y vars i v) (hc v hv e he)
  have key : (2 * (vars.length * (Y * A)) + 1) ^ eqs.length < (Y + 1) ^ vars.length := by
    have e1 : 2 * (vars.length * (Y * A)) + 1 ≤ (2 * vars.length * A) * (Y + 1) := by
      have : 2 * (vars.length * (Y * A)) = (2 * vars.length * A) * Y := by
        rw [Nat.mul_assoc 2, Nat.mul_assoc 2, Nat.mul_assoc vars.length, Nat.mul_comm A Y]
      rw [this, Nat.mul_succ]
      omega
    refine Nat.lt_of_le_of_lt (Nat.pow_le_pow_left e1 _) ?_
    rw [Nat.mul_pow, hY]
    refine Nat.lt_of_lt_of_le (m := (Y + 1) ^ (eqs.length + 1)) ?_ (Nat.pow_le_pow_right (Nat.succ_pos _) hl)
    rw [Nat.pow_succ, Nat.mul_comm]
    exact Nat.mul_lt_mul_of_pos_left (Nat.lt_succ_self _) (Nat.pow_pos (Nat.succ_pos _))
  obtain ⟨i, hi, j, hj, hij, h⟩ := agree val (2 * (vars.length * (Y * A)) + 1) eqs (List.range ((Y + 1) ^ vars.length)) List.nodup_range (fun e he s _ => by
    have := bnd e he s
    show (sumZ vars _ + sh).toNat < _
    omega) (by rw [List.length_range]; exact key)
  refine ⟨fun v => (dig Y vars i v : Int) - (dig Y vars j v : Int), ?_, fun v => ?_, fun e he => ?_⟩
  · by_cases q : ∃ v ∈ vars, dig Y vars i v ≠ dig Y vars j v
    · obtain ⟨v, hv, hne⟩ := q
      exact ⟨v, hv, by show (dig Y vars i v : Int) - (dig Y vars j v : Int) ≠ 0; omega⟩
    · refine absurd (dig_inj Y vars hn i j (List.mem_range.mp hi) (List.mem_range.mp hj) fun v hv => ?_) hij
      by_cases q2 : dig Y vars i v = dig Y vars j v
      · exact q2
      · exact absurd ⟨v, hv, q2⟩ q
  · have h1 := dig_le Y vars i v
    have h2 := dig_le Y vars j v
    show ((dig Y vars i v : Int) - (dig Y vars j v : Int)).natAbs ≤ Y
    omega
  · have e1 : sumZ vars (fun v => ((dig Y vars i v : Int) - (dig Y vars j v : Int)) * c v e) = sumZ vars (fun v => (dig Y vars i v : Int) * c v e) - sumZ vars (fun v => (dig Y vars j v : Int) * c v e) := by
      rw [← sumZ_sub]
      exact sumZ_congr fun v _ => Int.sub_mul _ _ _
    rw [e1]
    have h1 := bnd e he i
    have h2 := bnd e he j
    have h3 : (sumZ vars _ + sh).toNat = (sumZ vars _ + sh).toNat := h e he
    omega
end count

/-! ### the fractions -/
def repQ (D : Int) (N : Nat) (x : Rat) : Prop := D ≠ 0 ∧ ∃ n : Int, n.natAbs ≤ N ∧ x * (D : Rat) = (n : Rat)
theorem castZ {D : Int} (h : D ≠ 0) : (D : Rat) ≠ 0 := fun e => h (by
  have := Rat.intCast_inj.mp (show (D : Rat) = ((0 : Int) : Rat) from e)
  exact this)
theorem sumL_cast {α : Type} (l : List α) (f : α → Int) : sumL l (fun a => ((f a : Int) : Rat)) = ((sumZ l f : Int) : Rat) := by
  induction l with
  | nil => rfl
  | cons a l ih => rw [sumL_cons, sumZ_cons, ih, Rat.intCast_add]
theorem repQ_val {D : Int} {N : Nat} {x : Rat} (h : repQ D N x) : ∃ n : Int, n.natAbs ≤ N ∧ x = Rat.divInt n D := by
  obtain ⟨hD, n, hn, e⟩ := h
  refine ⟨n, hn, ?_⟩
  rw [Rat.divInt_eq_div, ← e]
  exact (Rat.mul_div_cancel (castZ hD)).symm
instance numRat : Num Rat where
  dec := inferInstance
  p := 0
  enc q := (q.num, (q.den : Int))
  frac t b := Rat.divInt t b
  rep := repQ
  p_ok := .inl rfl
  enc_inj x y h := by
    have h1 := congrArg (·.1) h
    have h2 := congrArg (·.2) h
    exact Rat.ext h1 (Int.natCast_inj.mp h2)
  enc_zero := rfl
  enc_one := rfl
  enc_frac t b hb := by
    have hb' : b ≠ 0 := by
      unfold okB at hb
      rwa [if_pos rfl] at hb
    show ((Rat.divInt t b).num, ((Rat.divInt t b).den : Int)) = mkN 0 t b
    unfold mkN
    rw [if_pos rfl, Rat.num_divInt, Rat.den_divInt, if_neg hb', Int.gcd_comm t b]
    rfl
  enc_bot x := by
    unfold okB
    rw [if_pos rfl]
    exact Int.natCast_ne_zero.mpr x.den_nz
  enc_top x h := by
    unfold okB
    rw [if_pos rfl]
    exact fun e => h (Rat.num_eq_zero.mp e)
  frac_enc x := Rat.num_divInt_den x
  frac_add a b c d hb hd := by
    unfold okB at hb hd
    rw [if_pos rfl] at hb hd
    exact Rat.divInt_add_divInt a c hb hd
  frac_sub a b c d hb hd := by
    unfold okB at hb hd
    rw [if_pos rfl] at hb hd
    exact Rat.divInt_sub_divInt a c hb hd
  frac_mul a b c d _ _ := Rat.divInt_mul_divInt a c
  frac_div a b c d _ _ _ := by
    rw [Rat.div_def, Rat.inv_divInt, Rat.divInt_mul_divInt]
  okB_mul b d hb hd := by
    unfold okB at hb hd ⊢
    rw [if_pos rfl] at hb hd ⊢
    exact Int.mul_ne_zero hb hd
  rep_mono h hN := ⟨h.1, h.2.choose, Nat.le_trans h.2.choose_spec.1 hN, h.2.choose_spec.2⟩
  rep_zero hD := ⟨hD, 0, Nat.zero_le _, by rw [Rat.zero_mul]; rfl⟩
  rep_unit {D} hD := ⟨hD, D, Nat.le_refl _, Rat.one_mul _⟩
  rep_add {D N M x y} hx hy := by
    obtain ⟨hD, n, hn, e⟩ := hx
    obtain ⟨_, m, hm, e'⟩ := hy
    exact ⟨hD, n + m, by have := Int.natAbs_add_le n m; omega, by rw [Rat.add_mul, e, e', Rat.intCast_add]⟩
  rep_neg {D N x} hx := by
    obtain ⟨hD, n, hn, e⟩ := hx
    exact ⟨hD, -n, by rw [Int.natAbs_neg]; exact hn, by rw [Rat.neg_mul, e, Rat.intCast_neg]⟩
  rep_mul {D E N M x y} hx hy := by
    obtain ⟨hD, n, hn, e⟩ := hx
    obtain ⟨hE, m, hm, e'⟩ := hy
    refine ⟨Int.mul_ne_zero hD hE, n * m, by rw [Int.natAbs_mul]; exact Nat.mul_le_mul hn hm, ?_⟩
    rw [Rat.intCast_mul, Rat.intCast_mul, ← e, ← e']
    grind
  rep_div {D N y} hy h := by
    obtain ⟨hD, n, hn, e⟩ := h
    have n0 : n ≠ 0 := fun z => by
      rw [z] at e
      rcases Rat.mul_eq_zero.mp (show y * (D : Rat) = 0 from e) with q | q
      · exact hy q
      · exact castZ hD q
    refine ⟨n, n0, fun _ => hn, fun M x hx => ?_⟩
    obtain ⟨_, m, hm, e'⟩ := hx
    refine ⟨n0, m, hm, ?_⟩
    rw [← e', ← e, Rat.div_def]
    have := Rat.inv_mul_cancel y hy
    grind
  rep_sz {D N x} _ h := by
    have hD := h.1
    obtain ⟨n, hn, e⟩ := repQ_val h
    subst e
    show (Rat.divInt n D).num.natAbs ≤ max N 97 ∧ ((Rat.divInt n D).den : Int).natAbs ≤ D.natAbs
    rw [Rat.num_divInt, Rat.den_divInt, if_neg hD]
    constructor
    · have h1 : ((D.sign * n / (D.gcd n : Int)).natAbs) ≤ (D.sign * n).natAbs := Int.natAbs_ediv_le_natAbs _ _
      have h2 : (D.sign * n).natAbs ≤ n.natAbs := by
        rw [Int.natAbs_mul]
        have : D.sign.natAbs ≤ 1 := by
          rcases Int.lt_trichotomy D 0 with q | q | q
          · rw [Int.sign_eq_neg_one_of_neg q]; decide
          · rw [q]; decide
          · rw [Int.sign_eq_one_of_pos q]; decide
        exact Nat.le_trans (Nat.mul_le_mul_right _ this) (by omega)
      exact Nat.le_trans h1 (Nat.le_trans h2 (Nat.le_trans hn (Nat.le_max_left _ _)))
    · rw [Int.natAbs_natCast]
      exact Nat.div_le_self _ _
  siegel := .inr fun {α β} vars eqs a D A hD hn hl hA h => by
    classical
    have hv : ∀ v e, ∃ n : Int, v ∈ vars → e ∈ eqs → n.natAbs ≤ A ∧ a v e * (D : Rat) = (n : Rat) := fun v e => by
      by_cases q : v ∈ vars ∧ e ∈ eqs
      · obtain ⟨_, n, h1, h2⟩ := h v q.1 e q.2
        exact ⟨n, fun _ _ => ⟨h1, h2⟩⟩
      · exact ⟨0, fun h1 h2 => absurd ⟨h1, h2⟩ q⟩
    obtain ⟨z, ⟨v, hv1, hv2⟩, hz, he⟩ := siegelZ vars eqs (fun v e => Classical.choose (hv v e)) A hn hl hA fun v h1 e h2 => (Classical.choose_spec (hv v e) h1 h2).1
    refine ⟨fun v => (z v : Rat), ⟨v, hv1, castZ hv2⟩, fun v => ⟨by decide, z v, hz v, Rat.mul_one _⟩, fun e hE => ?_⟩
    have e1 : sumL vars (fun v => (z v : Rat) * a v e) * (D : Rat) = 0 := by
      rw [← sumL_mul_r]
      have e2 : sumL vars (fun v => (z v : Rat) * a v e * (D : Rat)) = sumL vars fun v => (((z v * Classical.choose (hv v e)) : Int) : Rat) := sumL_congr fun v h1 => by
        rw [Rat.intCast_mul, ← (Classical.choose_spec (hv v e) h1 hE).2]
        grind
      rw [e2, sumL_cast, he e hE]
      rfl
    exact (Rat.mul_eq_zero.mp e1).resolve_right (castZ hD)
end Fs
end
section
/-! The numbers over a prime, as the program writes them. Plain mathematics. -/
set_option linter.all false
namespace Fs
open Lean.Grind

/-- every number below n but nought has an inverse: enough to be a field -/
def PrimeOk (n : Nat) : Bool := decide (2 ≤ n) && decide (n ≤ 97) && (List.range n).all fun a => a == 0 || (List.range n).any fun k => a * k % n == 1
def primes : List Nat := [2, 3, 5, 7, 11, 13, 17, 19, 23, 29, 31, 37, 41, 43, 47, 53, 59, 61, 67, 71, 73, 79, 83, 89, 97]
theorem primes_ok : (primes.all PrimeOk) = true := by decide +kernel

/-- the numbers over n -/
structure Zn (n : Nat) where
  v : Int
  lo : 0 ≤ v
  hi : v < n ∨ n = 0
theorem Zn.ext' {n : Nat} {x y : Zn n} (h : x.v = y.v) : x = y := by
  cases x; cases y; cases h; rfl

section
variable {n : Nat}
/-- a whole number over n -/
def mz (n : Nat) (t : Int) : Zn n := ⟨if n = 0 then t.natAbs else t % n, by
  split
  · omega
  · exact Int.emod_nonneg _ (by omega), by
  by_cases h : n = 0
  · exact .inr h
  · rw [if_neg h]
    exact .inl (Int.emod_lt_of_pos _ (by omega))⟩
variable (hn : PrimeOk n = true)
include hn
theorem ok2 : 2 ≤ n ∧ n ≤ 97 := by
  unfold PrimeOk at hn
  simp only [Bool.and_eq_true, decide_eq_true_eq] at hn
  exact hn.1
theorem mz_v (t : Int) : (mz n t).v = t % n := by
  have := ok2 hn
  show (if n = 0 then (t.natAbs : Int) else t % n) = _
  rw [if_neg (by omega)]
theorem v_mod (x : Zn n) : x.v % n = x.v := by
  have := ok2 hn
  exact Int.emod_eq_of_lt x.lo (x.hi.resolve_right (by omega))
theorem mz_of (x : Zn n) : mz n x.v = x := Zn.ext' ((mz_v hn _).trans (v_mod hn x))
theorem mz_eq {s t : Int} : mz n s = mz n t ↔ s % n = t % n := by
  constructor
  · intro h
    rw [← mz_v hn, ← mz_v hn, h]
  · intro h
    exact Zn.ext' (by rw [mz_v hn, mz_v hn, h])
theorem inv_ok (a : Int) (ha : a % n ≠ 0) : a * invOf n a % n = 1 ∧ 1 ≤ invOf n a ∧ invOf n a < n := by
  have h2 := ok2 hn
  have hl : ∃ k : Int, k ∈ ((List.range ((n : Int).toNat - 1)).map fun (i : Nat) => Int.ofNat i + 1) ∧ (a * k % n == 1) = true := by
    unfold PrimeOk at hn
    simp only [Bool.and_eq_true, decide_eq_true_eq] at hn
    have h3 := List.all_eq_true.mp hn.2 (a % n).toNat (List.mem_range.mpr (by have := Int.emod_nonneg a (show (n : Int) ≠ 0 by omega); have := Int.emod_lt_of_pos a (show (0 : Int) < n by omega); omega))
    have nn := Int.emod_nonneg a (show (n : Int) ≠ 0 by omega)
    rw [Bool.or_eq_true] at h3
    rcases h3 with h3 | h3
    · have : (a % n).toNat = 0 := by simpa using h3
      exact absurd (by omega : a % n = 0) ha
    · obtain ⟨k, hk, e⟩ := List.any_eq_true.mp h3
      have hk' := List.mem_range.mp hk
      have e1 : (a % n).toNat * k % n = 1 := by simpa using e
      have e2 : (a % n) * (k : Int) % n = 1 := by
        have : (((a % n).toNat * k % n : Nat) : Int) = 1 := by rw [e1]; rfl
        rw [Int.natCast_emod, Int.natCast_mul, Int.toNat_of_nonneg nn] at this
        exact this
      have e3 : a * (k : Int) % n = 1 := by
        rw [Int.mul_emod, Int.emod_emod_of_dvd, ← Int.mul_emod] at e2
        · exact e2
        · exact Int.dvd_refl _
      have k0 : k ≠ 0 := fun z => by
        rw [z] at e1
        simp at e1
      refine ⟨(k : Int), List.mem_map.mpr ⟨k - 1, List.mem_range.mpr (by omega), ?_⟩, by simpa using e3⟩
      show ((k - 1 : Nat) : Int) + 1 = k
      omega
  unfold invOf
  obtain ⟨k, hk, e⟩ := hl
  have hm : k ∈ (((List.range ((n : Int).toNat - 1)).map fun (i : Nat) => Int.ofNat i + 1).filter fun k => a * k % n == 1) := List.mem_filter.mpr ⟨hk, e⟩
  cases q : (((List.range ((n : Int).toNat - 1)).map fun (i : Nat) => Int.ofNat i + 1).filter fun k => a * k % n == 1) with
  | nil => rw [q] at hm; cases hm
  | cons x l =>
    have hx : x ∈ (((List.range ((n : Int).toNat - 1)).map fun (i : Nat) => Int.ofNat i + 1).filter fun k => a * k % n == 1) := by rw [q]; exact List.mem_cons_self
    obtain ⟨h1, h3⟩ := List.mem_filter.mp hx
    obtain ⟨i, hi, ei⟩ := List.mem_map.mp h1
    have hi' := List.mem_range.mp hi
    show a * x % n = 1 ∧ 1 ≤ x ∧ x < n
    have ei' : (i : Int) + 1 = x := ei
    refine ⟨by simpa using h3, by omega, by omega⟩
end

section ring
variable {n : Nat} (hn : PrimeOk n = true)
include hn
theorem mz_vv (s : Int) : mz n (mz n s).v = mz n s := mz_of hn _
theorem mz_add (s t : Int) : mz n ((mz n s).v + (mz n t).v) = mz n (s + t) := (mz_eq hn).mpr (by rw [mz_v hn, mz_v hn]; exact (Int.add_emod s t n).symm)
theorem mz_mul (s t : Int) : mz n ((mz n s).v * (mz n t).v) = mz n (s * t) := (mz_eq hn).mpr (by rw [mz_v hn, mz_v hn]; exact (Int.mul_emod s t n).symm)
theorem mz_sub (s t : Int) : mz n ((mz n s).v - (mz n t).v) = mz n (s - t) := (mz_eq hn).mpr (by rw [mz_v hn, mz_v hn]; exact (Int.sub_emod s t n).symm)
theorem mz_neg (s : Int) : mz n (-(mz n s).v) = mz n (-s) := by
  have h := mz_sub hn 0 s
  have e : (mz n 0).v = 0 := by rw [mz_v hn]; simp
  rw [e, Int.zero_sub, Int.zero_sub] at h
  exact h
end ring
/-- the ring -/
@[reducible] def znRing (n : Nat) (hn : PrimeOk n = true) : CommRing (Zn n) :=
  letI a1 : Add (Zn n) := ⟨fun x y => mz n (x.v + y.v)⟩
  letI a2 : Mul (Zn n) := ⟨fun x y => mz n (x.v * y.v)⟩
  letI a3 : Neg (Zn n) := ⟨fun x => mz n (-x.v)⟩
  letI a4 : Sub (Zn n) := ⟨fun x y => mz n (x.v - y.v)⟩
  letI a5 : NatCast (Zn n) := ⟨fun k => mz n k⟩
  letI a6 : IntCast (Zn n) := ⟨fun k => mz n k⟩
  letI a7 : ∀ k, OfNat (Zn n) k := fun k => ⟨mz n k⟩
  letI a8 : SMul Nat (Zn n) := ⟨fun k x => mz n ((mz n k).v * x.v)⟩
  letI a9 : SMul Int (Zn n) := ⟨fun k x => mz n ((mz n k).v * x.v)⟩
  letI a12 : HPow (Zn n) Nat (Zn n) := ⟨fun x k => Nat.rec (mz n 1) (fun _ r => mz n (r.v * x.v)) k⟩
  have add_m : ∀ s t : Int, mz n s + mz n t = mz n (s + t) := mz_add hn
  have mul_m : ∀ s t : Int, mz n s * mz n t = mz n (s * t) := mz_mul hn
  have neg_m : ∀ s : Int, -mz n s = mz n (-s) := mz_neg hn
  have sub_m : ∀ s t : Int, mz n s - mz n t = mz n (s - t) := mz_sub hn
  have ex : ∀ x : Zn n, ∃ s : Int, x = mz n s := fun x => ⟨x.v, (mz_of hn x).symm⟩
  have of_m : ∀ k : Nat, (OfNat.ofNat k : Zn n) = mz n k := fun _ => rfl
  have nat_m : ∀ k : Nat, (NatCast.natCast k : Zn n) = mz n k := fun _ => rfl
  have zero_m : (0 : Zn n) = mz n 0 := rfl
  have one_m : (1 : Zn n) = mz n 1 := rfl
  { add := (· + ·)
    mul := (· * ·)
    neg := (- ·)
    sub := (· - ·)
    nsmul := a8
    zsmul := a9
    npow := a12
    natCast := a5
    ofNat := a7
    intCast := a6
    add_zero := fun x => by
      obtain ⟨s, rfl⟩ := ex x
      rw [zero_m, add_m, Int.add_zero]
    add_comm := fun x y => by
      obtain ⟨s, rfl⟩ := ex x
      obtain ⟨t, rfl⟩ := ex y
      rw [add_m, add_m, Int.add_comm]
    add_assoc := fun x y z => by
      obtain ⟨s, rfl⟩ := ex x
      obtain ⟨t, rfl⟩ := ex y
      obtain ⟨u, rfl⟩ := ex z
      rw [add_m, add_m, add_m, add_m, Int.add_assoc]
    mul_assoc := fun x y z => by
      obtain ⟨s, rfl⟩ := ex x
      obtain ⟨t, rfl⟩ := ex y
      obtain ⟨u, rfl⟩ := ex z
      rw [mul_m, mul_m, mul_m, mul_m, Int.mul_assoc]
    mul_one := fun x => by
      obtain ⟨s, rfl⟩ := ex x
      rw [one_m, mul_m, Int.mul_one]
    one_mul := fun x => by
      obtain ⟨s, rfl⟩ := ex x
      rw [one_m, mul_m, Int.one_mul]
    left_distrib := fun x y z => by
      obtain ⟨s, rfl⟩ := ex x
      obtain ⟨t, rfl⟩ := ex y
      obtain ⟨u, rfl⟩ := ex z
      rw [add_m, mul_m, mul_m, mul_m, add_m, Int.mul_add]
    right_distrib := fun x y z => by
      obtain ⟨s, rfl⟩ := ex x
      obtain ⟨t, rfl⟩ := ex y
      obtain ⟨u, rfl⟩ := ex z
      rw [add_m, mul_m, mul_m, mul_m, add_m, Int.add_mul]
    zero_mul := fun x => by
      obtain ⟨s, rfl⟩ := ex x
      rw [zero_m, mul_m, Int.zero_mul]
    mul_zero := fun x => by
      obtain ⟨s, rfl⟩ := ex x
      rw [zero_m, mul_m, Int.mul_zero]
    mul_comm := fun x y => by
      obtain ⟨s, rfl⟩ := ex x
      obtain ⟨t, rfl⟩ := ex y
      rw [mul_m, mul_m, Int.mul_comm]
    pow_zero := fun x => rfl
    pow_succ := fun x k => rfl
    ofNat_succ := fun k => by
      rw [of_m, of_m, one_m, add_m]
      rfl
    ofNat_eq_natCast := fun k => rfl
    nsmul_eq_natCast_mul := fun k x => rfl
    neg_add_cancel := fun x => by
      obtain ⟨s, rfl⟩ := ex x
      rw [neg_m, add_m, zero_m, Int.add_left_neg]
    sub_eq_add_neg := fun x y => by
      obtain ⟨s, rfl⟩ := ex x
      obtain ⟨t, rfl⟩ := ex y
      rw [sub_m, neg_m, add_m, Int.sub_eq_add_neg]
    neg_zsmul := fun i x => by
      obtain ⟨s, rfl⟩ := ex x
      show mz n (-i) * mz n s = -(mz n i * mz n s)
      rw [mul_m, mul_m, neg_m, Int.neg_mul]
    zsmul_natCast_eq_nsmul := fun k x => rfl
    intCast_ofNat := fun k => rfl
    intCast_neg := fun i => (neg_m i).symm }
section
variable (n : Nat) (hn : PrimeOk n = true)
theorem zr_add (s t : Int) : letI := znRing n hn; mz n s + mz n t = mz n (s + t) := mz_add hn s t
theorem zr_sub (s t : Int) : letI := znRing n hn; mz n s - mz n t = mz n (s - t) := mz_sub hn s t
theorem zr_mul (s t : Int) : letI := znRing n hn; mz n s * mz n t = mz n (s * t) := mz_mul hn s t
theorem zr_one : letI := znRing n hn; (1 : Zn n) = mz n 1 := rfl
theorem zr_zero : letI := znRing n hn; (0 : Zn n) = mz n 0 := rfl
/-- the inverse that the program looks up -/
def zinv (n : Nat) (x : Zn n) : Zn n := mz n (invOf n x.v)
theorem zinv_zero : letI := znRing n hn; zinv n 0 = 0 := by
  letI := znRing n hn
  have e0 : (0 : Zn n).v = 0 := (mz_v hn 0).trans (by simp)
  show mz n (invOf n (0 : Zn n).v) = mz n 0
  rw [e0]
  have e : invOf n 0 = 0 := by
    unfold invOf
    have : ∀ l : List Int, (l.filter fun k => (0 : Int) * k % n == 1) = [] := fun l => List.filter_eq_nil_iff.mpr fun k _ => by simp
    rw [this]
    rfl
  rw [e]
theorem zn_nz {x : Zn n} : letI := znRing n hn; x ≠ 0 → x.v % n ≠ 0 := by
  letI := znRing n hn
  intro hx z
  refine hx (Zn.ext' ?_)
  have e0 : (0 : Zn n).v = 0 := (mz_v hn 0).trans (by simp)
  rw [e0, ← v_mod hn x, z]
theorem zinv_mul {x : Zn n} : letI := znRing n hn; x ≠ 0 → x * zinv n x = 1 := by
  letI := znRing n hn
  intro hx
  have h := (inv_ok hn x.v (zn_nz n hn hx)).1
  have e1 : x * zinv n x = mz n (x.v * invOf n x.v) := by
    rw [← zr_mul n hn, mz_of hn]
    rfl
  rw [e1, zr_one n hn]
  exact (mz_eq hn).mpr (by rw [h]; exact (Int.emod_eq_of_lt (by decide) (by have := ok2 hn; omega)).symm)
include hn in
theorem zinv_inv (x : Zn n) : zinv n (zinv n x) = x := by
  letI := znRing n hn
  by_cases hx : x = 0
  · rw [hx, zinv_zero n hn, zinv_zero n hn]
  · have h1 := zinv_mul n hn hx
    have hz : zinv n x ≠ 0 := fun z => hx (by
      rw [z] at h1
      have : x * 0 = (0 : Zn n) := Semiring.mul_zero x
      rw [this] at h1
      have h3 : x = x * 1 := (Semiring.mul_one x).symm
      rw [h3, ← h1]
      exact Semiring.mul_zero x)
    have h2 := zinv_mul n hn hz
    calc zinv n (zinv n x) = (x * zinv n x) * zinv n (zinv n x) := by rw [h1]; exact (Semiring.one_mul _).symm
      _ = x * (zinv n x * zinv n (zinv n x)) := Semiring.mul_assoc _ _ _
      _ = x := by rw [h2]; exact Semiring.mul_one x
end
/-- the field -/
@[reducible] def znField (n : Nat) (hn : PrimeOk n = true) : Field (Zn n) :=
  letI r := znRing n hn
  letI a10 : Inv (Zn n) := ⟨zinv n⟩
  letI a11 : Div (Zn n) := ⟨fun x y => x * zinv n y⟩
  letI a13 : HPow (Zn n) Int (Zn n) := ⟨fun x k => match k with
    | .ofNat k => x ^ k
    | .negSucc k => zinv n (x ^ (k + 1))⟩
  { r with
    inv := zinv n
    div := a11.div
    zpow := a13
    div_eq_mul_inv := fun x y => rfl
    zero_ne_one := fun e => by
      have h1 := congrArg Zn.v e
      have e0 : (0 : Zn n).v = 0 := (mz_v hn 0).trans (by simp)
      have e1 : (1 : Zn n).v = 1 := (mz_v hn 1).trans (Int.emod_eq_of_lt (by decide) (by have := ok2 hn; omega))
      rw [e0, e1] at h1
      exact absurd h1 (by decide)
    inv_zero := zinv_zero n hn
    mul_inv_cancel := fun hx => zinv_mul n hn hx
    zpow_zero := fun x => rfl
    zpow_succ := fun x k => rfl
    zpow_neg := fun x k => by
      match k with
      | .ofNat 0 =>
        show (1 : Zn n) = zinv n 1
        have h := zinv_mul n hn (x := (1 : Zn n)) (fun e => by
          have h1 := congrArg Zn.v e
          have e0 : (0 : Zn n).v = 0 := (mz_v hn 0).trans (by simp)
          have e1 : (1 : Zn n).v = 1 := (mz_v hn 1).trans (Int.emod_eq_of_lt (by decide) (by have := ok2 hn; omega))
          rw [e0, e1] at h1
          exact absurd h1 (by decide))
        exact h.symm.trans (Semiring.one_mul (zinv n 1))
      | .ofNat (k + 1) => rfl
      | .negSucc k => exact (zinv_inv n hn _).symm }
/-- the numbers over n as the program writes them -/
@[reducible] def numZn (n : Nat) (hn : PrimeOk n = true) : Num (Zn n) :=
  letI f := znField n hn
  have p2 := ok2 hn
  have hp : ((n : Int) = 0) = False := eq_false (by omega)
  have e0 : (0 : Zn n).v = 0 := (mz_v hn 0).trans (by simp)
  have e1 : (1 : Zn n).v = 1 := (mz_v hn 1).trans (Int.emod_eq_of_lt (by decide) (by omega))
  have ok : ∀ b : Int, okB n b ↔ b % n ≠ 0 := fun b => by unfold okB; rw [if_neg (by omega)]
  have mnz : ∀ b : Int, b % n ≠ 0 → mz n b ≠ 0 := fun b h z => h (by
    have := congrArg Zn.v z
    rw [mz_v hn, e0] at this
    exact this)
  have one_mod : ((1 : Int) % n) = 1 := Int.emod_eq_of_lt (by decide) (by omega)
  have fr : ∀ t b : Int, mz n t / mz n b = mz n (t * invOf n b) := fun t b => by
    show mz n t * zinv n (mz n b) = _
    have hb : invOf n (mz n b).v = invOf n b := by
      unfold invOf
      have : ∀ k : Int, ((mz n b).v * k % n == 1) = (b * k % n == 1) := fun k => by
        rw [mz_v hn, Int.mul_emod, Int.emod_emod_of_dvd _ (Int.dvd_refl _), ← Int.mul_emod]
      simp only [this]
    show mz n t * mz n (invOf n (mz n b).v) = _
    rw [hb]
    exact zr_mul n hn t _
  { f with
    dec := fun x y => if h : x.v = y.v then .isTrue (Zn.ext' h) else .isFalse fun e => h (e ▸ rfl)
    p := n
    enc := fun x => (x.v, 1)
    frac := fun t b => mz n t / mz n b
    rep := fun _ _ _ => True
    p_ok := .inr (by omega)
    enc_inj := fun x y h => Zn.ext' (congrArg (·.1) h)
    enc_zero := by rw [e0]
    enc_one := by rw [e1]
    enc_frac := fun t b hb => by
      have hb' := (ok b).mp hb
      rw [fr]
      unfold mkN
      rw [if_neg (by omega), mz_v hn]
      by_cases q : b % n = 1
      · rw [if_pos q]
        have h1 := (inv_ok hn b hb').1
        have h2 : invOf n b % n = 1 := by
          rw [Int.mul_emod, q, Int.one_mul, Int.emod_emod_of_dvd _ (Int.dvd_refl _)] at h1
          exact h1
        rw [Int.mul_emod, h2, Int.mul_one, Int.emod_emod_of_dvd _ (Int.dvd_refl _)]
      · rw [if_neg q]
    enc_bot := fun x => (ok 1).mpr (by rw [one_mod]; decide)
    enc_top := fun x hx => (ok _).mpr (zn_nz n hn hx)
    frac_enc := fun x => by
      show mz n x.v / mz n 1 = x
      rw [mz_of hn, div_eq]
      have : (mz n 1 : Zn n)⁻¹ = 1 := Field.inv_one
      rw [this]
      exact Semiring.mul_one x
    frac_add := fun a b c d hb hd => by
      have h1 := mul_inv (mnz b ((ok b).mp hb))
      have h2 := mul_inv (mnz d ((ok d).mp hd))
      have e : mz n (a * d + c * b) / mz n (b * d) = (mz n a * mz n d + mz n c * mz n b) / (mz n b * mz n d) := by
        rw [zr_mul n hn, zr_mul n hn, zr_mul n hn, zr_add n hn]
      rw [e, div_eq, div_eq, div_eq, Field.inv_mul]
      grind
    frac_sub := fun a b c d hb hd => by
      have h1 := mul_inv (mnz b ((ok b).mp hb))
      have h2 := mul_inv (mnz d ((ok d).mp hd))
      have e : mz n (a * d - c * b) / mz n (b * d) = (mz n a * mz n d - mz n c * mz n b) / (mz n b * mz n d) := by
        rw [zr_mul n hn, zr_mul n hn, zr_mul n hn, zr_sub n hn]
      rw [e, div_eq, div_eq, div_eq, Field.inv_mul]
      grind
    frac_mul := fun a b c d hb hd => by
      have e : mz n (a * c) / mz n (b * d) = (mz n a * mz n c) / (mz n b * mz n d) := by
        rw [zr_mul n hn, zr_mul n hn]
      rw [e, div_eq, div_eq, div_eq, Field.inv_mul]
      grind
    frac_div := fun a b c d hb hd hc => by
      have e : mz n (a * d) / mz n (b * c) = (mz n a * mz n d) / (mz n b * mz n c) := by
        rw [zr_mul n hn, zr_mul n hn]
      rw [e, div_eq, div_eq, div_eq, div_eq, Field.inv_mul, Field.inv_mul, Field.inv_inv]
      grind
    okB_mul := fun b d hb hd => (ok _).mpr fun z => by
      have hb' := mnz b ((ok b).mp hb)
      have hd' := mnz d ((ok d).mp hd)
      have h : mz n b * mz n d = 0 := by
        rw [zr_mul n hn]
        exact (mz_eq hn).mpr (by rw [z]; simp)
      rcases mul_zero_or h with q | q
      · exact hb' q
      · exact hd' q
    rep_mono := fun _ _ => trivial
    rep_zero := fun _ => trivial
    rep_unit := fun _ => trivial
    rep_add := fun _ _ => trivial
    rep_neg := fun _ => trivial
    rep_mul := fun _ _ => trivial
    rep_div := fun _ _ => ⟨1, by decide, fun h => absurd h (by omega), fun _ _ _ => trivial⟩
    rep_sz := fun {D N x} hD _ => by
      have h1 := x.lo
      have h2 := x.hi
      refine ⟨?_, ?_⟩
      · show x.v.natAbs ≤ max N 97
        omega
      · show (1 : Int).natAbs ≤ D.natAbs
        have : D.natAbs ≠ 0 := fun z => hD (Int.natAbs_eq_zero.mp z)
        show 1 ≤ D.natAbs
        omega
    siegel := .inl fun _ _ _ => trivial }
end Fs
end
section
/-! Nested data of whole numbers and tuples; dicts whose keys are such tuples, told by their entries: rules over the hand layer. -/
set_option Elab.async false
set_option linter.all false
set_option maxRecDepth 100000
namespace FsR
open PySem PySem.Spec PyProof.Rows L2

/-! ### data -/
/-- a tuple that stands: tracked, or written by the top -/
def Tp (K : PySem.W.Frag) (H : Hp) (a : Addr) (xs : List V) : Prop :=
  H a = some (.tup xs) ∨ ∃ (o : Obj) (its : Array Value) (n : Nat), K.lookup a = some o ∧ o.cls = .type "tuple" ∧ o.data = .seq its n ∧ its.size ≤ sizeLine ∧ Vals xs its.toList
theorem Tp.sq {K : PySem.W.Frag} {H : Hp} {a : Addr} {xs : List V} (t : Tp K H a xs) : SqT K H a xs := t.elim (fun h => .inl (.inl h)) fun h => .inr h
/-- all tuples stay -/
def Keep (H H' : Hp) : Prop := ∀ b xs, H b = some (.tup xs) → H' b = some (.tup xs)
theorem Keep.refl (H : Hp) : Keep H H := fun _ _ h => h
theorem Keep.trans {H H1 H2 : Hp} (a : Keep H H1) (b : Keep H1 H2) : Keep H H2 := fun c xs h => b c xs (a c xs h)
theorem Keep.of {H H' : Hp} (s : Same H H') : Keep H H' := fun b xs h => s b _ h
/-- what is not a tuple is written -/
theorem Keep.wr {H : Hp} {a : Addr} {o u : HO} (h : H a = some o) (n : ∀ xs, o ≠ .tup xs) : Keep H (upd H a u) := fun b xs e => by
  by_cases q : b = a
  · rw [q, h] at e
    exact absurd (Option.some.inj e) (n xs)
  · rw [upd_ne q]; exact e
theorem Keep.new {H : Hp} {a : Addr} {u : HO} (h : H a = none) : Keep H (upd H a u) := fun b xs e => by
  rw [upd_ne (ne_of_none e h)]; exact e
theorem Tp.keep {K : PySem.W.Frag} {H H' : Hp} {a : Addr} {xs : List V} (t : Tp K H a xs) (k : Keep H H') : Tp K H' a xs := t.elim (fun h => .inl (k _ _ h)) fun h => .inr h

mutual
/-- the value v is the data d: whole numbers, tuples of such -/
def Rp (K : PySem.W.Frag) (H : Hp) : NestedKey → V → Prop
  | .num i, v => v = .int i
  | .tup ds, v => ∃ a xs, v = .ref a ∧ Tp K H a xs ∧ RpL K H ds xs
  | .none, v => v = .non
  | .text x, v => v = .str x
def RpL (K : PySem.W.Frag) (H : Hp) : List NestedKey → List V → Prop
  | [], xs => xs = []
  | d :: ds, xs => ∃ y ys, xs = y :: ys ∧ Rp K H d y ∧ RpL K H ds ys
end
mutual
theorem Rp.keep {K : PySem.W.Frag} {H H' : Hp} (k : Keep H H') : ∀ (d : NestedKey) {v : V}, Rp K H d v → Rp K H' d v
  | .num _, _, h => by
    simp only [Rp] at h ⊢; exact h
  | .none, _, h => by
    simp only [Rp] at h ⊢; exact h
  | .text _, _, h => by
    simp only [Rp] at h ⊢; exact h
  | .tup ds, _, h => by
    simp only [Rp] at h ⊢
    obtain ⟨a, xs, e, t, r⟩ := h
    exact ⟨a, xs, e, t.keep k, RpL.keep k ds r⟩
theorem RpL.keep {K : PySem.W.Frag} {H H' : Hp} (k : Keep H H') : ∀ (ds : List NestedKey) {xs : List V}, RpL K H ds xs → RpL K H' ds xs
  | [], _, h => by
    simp only [RpL] at h ⊢; exact h
  | d :: ds, _, h => by
    simp only [RpL] at h ⊢
    obtain ⟨y, ys, e, r, rs⟩ := h
    exact ⟨y, ys, e, Rp.keep k d r, RpL.keep k ds rs⟩
end
theorem rp_num {K : PySem.W.Frag} {H : Hp} (i : Int) : Rp K H (.num i) (.int i) := by simp only [Rp]
theorem rp_num_iff {K : PySem.W.Frag} {H : Hp} {i : Int} {v : V} : Rp K H (.num i) v ↔ v = .int i := by simp only [Rp]
theorem rp_tup_iff {K : PySem.W.Frag} {H : Hp} {ds : List NestedKey} {v : V} : Rp K H (.tup ds) v ↔ ∃ a xs, v = .ref a ∧ Tp K H a xs ∧ RpL K H ds xs := by simp only [Rp]
theorem rpl_nil {K : PySem.W.Frag} {H : Hp} : RpL K H [] [] := by simp only [RpL]
theorem rpl_cons {K : PySem.W.Frag} {H : Hp} {d : NestedKey} {ds : List NestedKey} {x : V} {xs : List V} (h : Rp K H d x) (t : RpL K H ds xs) : RpL K H (d :: ds) (x :: xs) := by
  simp only [RpL]
  exact ⟨x, xs, rfl, h, t⟩
theorem rpl_nil_iff {K : PySem.W.Frag} {H : Hp} {xs : List V} : RpL K H [] xs ↔ xs = [] := by simp only [RpL]
theorem rpl_cons_iff {K : PySem.W.Frag} {H : Hp} {d : NestedKey} {ds : List NestedKey} {xs : List V} : RpL K H (d :: ds) xs ↔ ∃ y ys, xs = y :: ys ∧ Rp K H d y ∧ RpL K H ds ys := by simp only [RpL]
theorem RpL.length {K : PySem.W.Frag} {H : Hp} : ∀ {ds : List NestedKey} {xs : List V}, RpL K H ds xs → ds.length = xs.length
  | [], _, h => by
    rw [rpl_nil_iff.mp h]
    rfl
  | d :: ds, _, h => by
    obtain ⟨y, ys, e, _, r⟩ := rpl_cons_iff.mp h
    rw [e, List.length_cons, List.length_cons, RpL.length r]
theorem RpL.get {K : PySem.W.Frag} {H : Hp} : ∀ {ds : List NestedKey} {xs : List V} {i : Nat} {d : NestedKey}, RpL K H ds xs → ds[i]? = some d → ∃ x, xs[i]? = some x ∧ Rp K H d x
  | [], _, _, _, _, e => by simp at e
  | d :: ds, _, 0, _, h, e => by
    obtain ⟨y, ys, rfl, r, _⟩ := rpl_cons_iff.mp h
    simp at e
    subst e
    exact ⟨y, rfl, r⟩
  | d :: ds, _, i + 1, d', h, e => by
    obtain ⟨y, ys, rfl, _, r⟩ := rpl_cons_iff.mp h
    obtain ⟨x, h1, h2⟩ := RpL.get (i := i) r (by simpa using e)
    exact ⟨x, by simpa using h1, h2⟩
/-- a tuple of whole numbers -/
theorem rpl_nums {K : PySem.W.Frag} {H : Hp} : ∀ (ns : List Int), RpL K H (ns.map NestedKey.num) (ns.map V.int)
  | [] => rpl_nil
  | n :: ns => rpl_cons (rp_num n) (rpl_nums ns)
theorem rpl_nums_iff {K : PySem.W.Frag} {H : Hp} : ∀ {ns : List Int} {xs : List V}, RpL K H (ns.map NestedKey.num) xs → xs = ns.map V.int
  | [], _, h => rpl_nil_iff.mp h
  | n :: ns, _, h => by
    obtain ⟨y, ys, rfl, r, rs⟩ := rpl_cons_iff.mp h
    rw [rp_num_iff.mp r, rpl_nums_iff rs]
    rfl
theorem Keep.rp {K : PySem.W.Frag} {H H' : Hp} (k : Keep H H') {d : NestedKey} {v : V} (h : Rp K H d v) : Rp K H' d v := Rp.keep k d h

section
variable {X : Cx} {pins : List (Addr × Obj)} {σ : L2.St} {H : Hp} {s : Shared}
mutual
/-- data in the heap -/
theorem rp_is (I : Inv X pins σ H s) : ∀ (d : NestedKey) {v : V} {u : Value}, Rp X.K H d v → RelV v u → NestedIs s.heap d u
  | .num i, _, _, h, r => by
    obtain rfl := rp_num_iff.mp h
    obtain ⟨t, rfl⟩ := r
    exact .int i t
  | .none, _, _, h, r => by
    simp only [Rp] at h
    subst h
    cases r
    exact .none
  | .text x, _, _, h, r => by
    simp only [Rp] at h
    subst h
    obtain ⟨t, rfl⟩ := r
    exact .text x t
  | .tup ds, _, _, h, r => by
    obtain ⟨a, xs, rfl, t, q⟩ := rp_tup_iff.mp h
    cases r
    obtain ⟨its, rv, ⟨o, e1, e2, n, e3⟩, _⟩ := I.tuple t.sq
    exact .tup e1 e2 e3 (by
      have z := rpl_is I ds q rv
      simpa using z)
theorem rpl_is (I : Inv X pins σ H s) : ∀ (ds : List NestedKey) {xs : List V} {us : List Value}, RpL X.K H ds xs → Vals xs us → NestedAll s.heap ds us
  | [], _, _, h, r => by
    obtain rfl := rpl_nil_iff.mp h
    cases r
    exact .nil
  | d :: ds, _, _, h, r => by
    obtain ⟨y, ys, rfl, q, qs⟩ := rpl_cons_iff.mp h
    cases r with
    | cons r rs => exact .cons (rp_is I d q r) (rpl_is I ds qs rs)
end
end
mutual
/-- data as the library's rules of == read it -/
theorem rp_dp {K : PySem.W.Frag} {H : Hp} : ∀ (d : NestedKey) {v : V}, Rp K H d v → Dp K H v d.data
  | .num i, _, h => by
    obtain rfl := rp_num_iff.mp h
    exact .int i
  | .none, _, h => by
    simp only [Rp] at h
    subst h
    exact .non
  | .text x, _, h => by
    simp only [Rp] at h
    subst h
    exact .str x
  | .tup ds, _, h => by
    obtain ⟨a, xs, rfl, t, q⟩ := rp_tup_iff.mp h
    exact .tup t.sq (rpl_dp ds q)
theorem rpl_dp {K : PySem.W.Frag} {H : Hp} : ∀ (ds : List NestedKey) {xs : List V}, RpL K H ds xs → DpAll K H xs (NestedKey.datas ds)
  | [], _, h => by
    obtain rfl := rpl_nil_iff.mp h
    exact .nil
  | d :: ds, _, h => by
    obtain ⟨y, ys, rfl, q, qs⟩ := rpl_cons_iff.mp h
    exact .cons (rp_dp d q) (rpl_dp ds qs)
end
/-- data of whole numbers and tuples alone, not deep -/
def Fine (d : NestedKey) : Prop := SeqAt.shaped d.data = true
mutual
theorem eqv_beq : ∀ (d e : NestedKey), PyData.eqv d.data e.data = NestedKey.beq d e
  | .none, e => by cases e <;> simp [NestedKey.data, PyData.eqv, NestedKey.beq]
  | .num i, e => by
    cases e <;> simp [NestedKey.data, PyData.eqv, NestedKey.beq]
    exact Bool.beq_eq_decide_eq _ _
  | .text i, e => by
    cases e <;> simp [NestedKey.data, PyData.eqv, NestedKey.beq]
    exact Bool.beq_eq_decide_eq _ _
  | .tup ds, e => by
    cases e with
    | tup es => simp only [NestedKey.data, PyData.eqv, NestedKey.beq]; exact eqv_beqAll ds es
    | _ => simp [NestedKey.data, PyData.eqv, NestedKey.beq]
theorem eqv_beqAll : ∀ (ds es : List NestedKey), PyData.eqvAll (NestedKey.datas ds) (NestedKey.datas es) = NestedKey.beqAll ds es
  | [], [] => by simp [NestedKey.datas, PyData.eqvAll, NestedKey.beqAll]
  | [], _ :: _ => by simp [NestedKey.datas, PyData.eqvAll, NestedKey.beqAll]
  | _ :: _, [] => by simp [NestedKey.datas, PyData.eqvAll, NestedKey.beqAll]
  | d :: ds, e :: es => by simp only [NestedKey.datas, PyData.eqvAll, NestedKey.beqAll, eqv_beq d e, eqv_beqAll ds es]
end
section
variable {X : Cx}
/-- x == y, x != y of data -/
def rEqR (K : PySem.W.Frag) (neg : Bool) : R2 := fun x y H Q => ∃ d e, Rp K H d x ∧ Rp K H e y ∧ Fine d ∧ Fine e ∧ Q (.bl (if neg then !decide (d = e) else decide (d = e))) H
theorem op_eqR (hu : X.A.units + 64 < cLine) : OpR X (compareOp .Eq) (rEqR X.K false) := by
  intro pn st sg Hp x y v u Q I rx ry q
  obtain ⟨d, e, h1, h2, f1, f2, q⟩ := q
  refine op_eqD hu pn st sg Hp x y v u Q I rx ry ⟨_, _, rp_dp d h1, rp_dp e h2, f1, f2, ?_⟩
  rw [eqv_beq, ← NestedKey.decide_eq]
  exact q
theorem op_neR (hu : X.A.units + 64 < cLine) : OpR X (compareOp .NotEq) (rEqR X.K true) := by
  intro pn st sg Hp x y v u Q I rx ry q
  obtain ⟨d, e, h1, h2, f1, f2, q⟩ := q
  refine op_neD hu pn st sg Hp x y v u Q I rx ry ⟨_, _, rp_dp d h1, rp_dp e h2, f1, f2, ?_⟩
  rw [eqv_beq, ← NestedKey.decide_eq]
  exact q
/-- lists of data -/
def RpList (K : PySem.W.Frag) (H : Hp) (v : V) (ds : List NestedKey) : Prop := ∃ a xs, v = .ref a ∧ SqL K H a xs ∧ RpL K H ds xs
theorem RpList.dp {K : PySem.W.Frag} {H : Hp} {v : V} {ds : List NestedKey} (h : RpList K H v ds) : Dp K H v (.list (NestedKey.datas ds)) := by
  obtain ⟨a, xs, rfl, t, q⟩ := h
  exact .lst t (rpl_dp ds q)
def FineL (ds : List NestedKey) : Prop := SeqAt.shaped (.list (NestedKey.datas ds)) = true
def rEqRL (K : PySem.W.Frag) (neg : Bool) : R2 := fun x y H Q => ∃ ds es, RpList K H x ds ∧ RpList K H y es ∧ FineL ds ∧ FineL es ∧ Q (.bl (if neg then !decide (ds = es) else decide (ds = es))) H
theorem eqv_list (ds es : List NestedKey) : PyData.eqv (.list (NestedKey.datas ds)) (.list (NestedKey.datas es)) = decide (ds = es) := by
  simp only [PyData.eqv]
  rw [eqv_beqAll]
  have h := NestedKey.decide_eq (.tup ds) (.tup es)
  simp only [NestedKey.beq] at h
  rw [← h]
  by_cases q : ds = es
  · rw [q]; simp
  · rw [decide_eq_false q, decide_eq_false]
    exact fun z => q (NestedKey.tup.inj z)
theorem op_eqRL (hu : X.A.units + 64 < cLine) : OpR X (compareOp .Eq) (rEqRL X.K false) := by
  intro pn st sg Hp x y v u Q I rx ry q
  obtain ⟨d, e, h1, h2, f1, f2, q⟩ := q
  refine op_eqD hu pn st sg Hp x y v u Q I rx ry ⟨_, _, h1.dp, h2.dp, f1, f2, ?_⟩
  rw [eqv_list]
  exact q
theorem op_neRL (hu : X.A.units + 64 < cLine) : OpR X (compareOp .NotEq) (rEqRL X.K true) := by
  intro pn st sg Hp x y v u Q I rx ry q
  obtain ⟨d, e, h1, h2, f1, f2, q⟩ := q
  refine op_neD hu pn st sg Hp x y v u Q I rx ry ⟨_, _, h1.dp, h2.dp, f1, f2, ?_⟩
  rw [eqv_list]
  exact q
end
end FsR
end
section
/-! Dicts whose keys are nested tuples and whose values are objects: rules over the hand layer. -/
set_option Elab.async false
set_option linter.all false
set_option maxRecDepth 100000
namespace FsR
open PySem PySem.Spec PyProof.Rows L2

/-- an entry: the key, the tuple that stands for it, the value -/
abbrev Ent := NestedKey × Addr × Addr
def entOf (w : World) (x : Ent) : DictEntry := ⟨x.1.hash w, .ref x.2.1, .ref x.2.2⟩
def vEnt (x : Ent) : NestedKey × Addr × Value := (x.1, x.2.1, .ref x.2.2)
/-- the dict at a, its entries in order, its epoch -/
def dO (w : World) (a : Addr) (xs : List Ent) (ep : Nat) : HO := .ext fun h => (a == sysModules) = false ∧ xs.length ≤ sizeLine ∧ ∃ o es, h.get? a = some o ∧ o.ExactDict ∧ o.data = .dict es ep ∧ es.toList = xs.map (entOf w)
/-- what is asked of entries: the keys stand, are not deep, no key twice -/
structure Es (K : PySem.W.Frag) (H : Hp) (xs : List Ent) : Prop where
  keys : ∀ x ∈ xs, Rp K H x.1 (.ref x.2.1) ∧ x.1.depth ≤ 8
  nd : (xs.map (·.1)).Nodup
theorem Es.keep {K : PySem.W.Frag} {H H' : Hp} {xs : List Ent} (e : Es K H xs) (k : Keep H H') : Es K H' xs := ⟨fun x hx => ⟨k.rp (e.keys x hx).1, (e.keys x hx).2⟩, e.nd⟩
theorem Es.nil {K : PySem.W.Frag} {H : Hp} : Es K H [] := ⟨fun _ h => absurd h (by simp), List.nodup_nil⟩

def lk (xs : List Ent) (k : NestedKey) : Option (Addr × Addr) := (xs.find? fun x => decide (x.1 = k)).map (·.2)
def putD (xs : List Ent) (k : NestedKey) (b v : Addr) : List Ent := if (lk xs k).isSome then xs.map (fun x => if x.1 = k then (x.1, x.2.1, v) else x) else xs ++ [(k, b, v)]
def rmD (xs : List Ent) (k : NestedKey) : List Ent := xs.filter fun x => decide (x.1 ≠ k)
theorem lk_map (xs : List Ent) (k : NestedKey) : atKey (xs.map vEnt) k = (lk xs k).map fun p => (p.1, Value.ref p.2) := by
  unfold atKey lk
  induction xs with
  | nil => rfl
  | cons x xs ih =>
    rw [List.map_cons, List.find?_cons, List.find?_cons]
    have e : (vEnt x).1 = x.1 := rfl
    rw [e]
    by_cases q : x.1 = k
    · rw [decide_eq_true q]; rfl
    · rw [decide_eq_false q]; exact ih
theorem putD_map (xs : List Ent) (k : NestedKey) (b v : Addr) : storedH (xs.map vEnt) k b (.ref v) = (putD xs k b v).map vEnt := by
  unfold storedH putD
  rw [lk_map, Option.isSome_map]
  by_cases q : (lk xs k).isSome = true
  · rw [if_pos q, if_pos q, List.map_map, List.map_map]
    refine List.map_congr_left fun x _ => ?_
    show putAt k (.ref v) (vEnt x) = vEnt (if x.1 = k then (x.1, x.2.1, v) else x)
    unfold putAt
    have e : (vEnt x).1 = x.1 := rfl
    rw [e]
    by_cases z : x.1 = k
    · rw [if_pos z, if_pos z]; rfl
    · rw [if_neg z, if_neg z]
  · rw [if_neg q, if_neg q, List.map_append]; rfl
theorem rmD_map (xs : List Ent) (k : NestedKey) : withoutH (xs.map vEnt) k = (rmD xs k).map vEnt := by
  unfold withoutH rmD
  rw [List.filter_map]
  rfl
theorem lk_mem {xs : List Ent} {k : NestedKey} {p : Addr × Addr} (h : lk xs k = some p) : (k, p) ∈ xs := by
  unfold lk at h
  obtain ⟨x, h1, h2⟩ := Option.map_eq_some_iff.mp h
  have h3 := List.find?_some h1
  have h4 := List.mem_of_find?_eq_some h1
  have : x.1 = k := of_decide_eq_true h3
  rw [← this, ← h2]
  exact h4
theorem lk_none {xs : List Ent} {k : NestedKey} (h : lk xs k = none) : k ∉ xs.map (·.1) := fun hm => by
  obtain ⟨x, hx, e⟩ := List.mem_map.mp hm
  unfold lk at h
  rw [Option.map_eq_none_iff, List.find?_eq_none] at h
  exact h x hx (decide_eq_true e)
theorem lk_of_mem {xs : List Ent} (nd : (xs.map (·.1)).Nodup) {k : NestedKey} {p : Addr × Addr} (h : (k, p) ∈ xs) : lk xs k = some p := by
  cases e : lk xs k with
  | none => exact absurd (List.mem_map.mpr ⟨_, h, rfl⟩) (lk_none e)
  | some q =>
    have h2 := lk_mem e
    obtain ⟨i, hi, ei⟩ := List.mem_iff_getElem.mp h
    obtain ⟨j, hj, ej⟩ := List.mem_iff_getElem.mp h2
    have hij : i = j := (List.getElem_inj (h₀ := by simpa using hi) (h₁ := by simpa using hj) nd).mp (by simp [ei, ej])
    subst hij
    rw [ei] at ej
    exact congrArg (fun z : Ent => some z.2) ej.symm
theorem putD_keys (xs : List Ent) (k : NestedKey) (b v : Addr) : (putD xs k b v).map (·.1) = if (lk xs k).isSome then xs.map (·.1) else xs.map (·.1) ++ [k] := by
  unfold putD
  by_cases q : (lk xs k).isSome = true
  · rw [if_pos q, if_pos q, List.map_map]
    refine List.map_congr_left fun x _ => ?_
    show (if x.1 = k then (x.1, x.2.1, v) else x).1 = x.1
    by_cases z : x.1 = k
    · rw [if_pos z]
    · rw [if_neg z]
  · rw [if_neg q, if_neg q, List.map_append]; rfl
theorem putD_len (xs : List Ent) (k : NestedKey) (b v : Addr) : (putD xs k b v).length ≤ xs.length + 1 := by
  unfold putD
  split
  · rw [List.length_map]; omega
  · rw [List.length_append]; exact Nat.le_refl _
theorem mem_putD {xs : List Ent} {k : NestedKey} {b v : Addr} {x : Ent} (h : x ∈ putD xs k b v) : x ∈ xs ∨ x = (k, b, v) ∨ ∃ y ∈ xs, y.1 = k ∧ x = (k, y.2.1, v) := by
  unfold putD at h
  split at h
  · obtain ⟨y, hy, e⟩ := List.mem_map.mp h
    by_cases z : y.1 = k
    · rw [if_pos z] at e
      exact .inr (.inr ⟨y, hy, z, by rw [← e, z]⟩)
    · rw [if_neg z] at e
      exact .inl (e ▸ hy)
  · rcases List.mem_append.mp h with h | h
    · exact .inl h
    · exact .inr (.inl (by simpa using h))
theorem Es.put {K : PySem.W.Frag} {H : Hp} {xs : List Ent} {k : NestedKey} {b v : Addr} (e : Es K H xs) (hb : Rp K H k (.ref b)) (hk : k.depth ≤ 8) : Es K H (putD xs k b v) := by
  refine ⟨fun x hx => ?_, ?_⟩
  · rcases mem_putD hx with h | h | ⟨y, hy, e1, e2⟩
    · exact e.keys x h
    · rw [h]; exact ⟨hb, hk⟩
    · rw [e2]
      have := e.keys y hy
      rw [e1] at this
      exact this
  · rw [putD_keys]
    split
    · exact e.nd
    · rename_i q
      refine List.nodup_append.mpr ⟨e.nd, List.nodup_cons.mpr ⟨by simp, List.nodup_nil⟩, fun a ha c hc => ?_⟩
      have hc' : c = k := by simpa using hc
      rintro rfl
      rw [hc'] at ha
      exact lk_none (by simpa using q) ha
theorem Es.rm {K : PySem.W.Frag} {H : Hp} {xs : List Ent} {k : NestedKey} (e : Es K H xs) : Es K H (rmD xs k) :=
  ⟨fun x hx => e.keys x (List.mem_filter.mp hx).1, e.nd.sublist (List.Sublist.map _ List.filter_sublist)⟩
theorem lk_put (xs : List Ent) (k j : NestedKey) (b v : Addr) : lk (putD xs k b v) j = if j = k then some ((lk xs k).map (·.1) |>.getD b, v) else lk xs j := by
  unfold putD
  by_cases q : (lk xs k).isSome = true
  · rw [if_pos q]
    have aux : ∀ l : List Ent, lk (l.map fun x => if x.1 = k then (x.1, x.2.1, v) else x) j = if j = k then (lk l k).map (fun p => (p.1, v)) else lk l j := by
      intro l
      induction l with
      | nil => simp [lk]
      | cons x l ih =>
        unfold lk at ih ⊢
        rw [List.map_cons, List.find?_cons]
        by_cases z : x.1 = k
        · rw [if_pos z]
          by_cases zj : j = k
          · rw [if_pos zj]
            have e1 : decide ((x.1, x.2.1, v).1 = j) = true := decide_eq_true (by rw [zj]; exact z)
            rw [e1, List.find?_cons, decide_eq_true z]
            rfl
          · rw [if_neg zj]
            have e1 : decide ((x.1, x.2.1, v).1 = j) = false := decide_eq_false fun y => zj (y.symm.trans z)
            rw [e1, List.find?_cons, decide_eq_false fun y => zj (y.symm.trans z)]
            rw [if_neg zj] at ih
            exact ih
        · rw [if_neg z]
          by_cases zj : x.1 = j
          · have hjk : ¬ j = k := fun y => z (zj.trans y)
            rw [if_neg hjk, decide_eq_true zj, List.find?_cons, decide_eq_true zj]
          · rw [decide_eq_false zj, List.find?_cons, List.find?_cons, decide_eq_false z, decide_eq_false zj]
            exact ih
    rw [aux xs]
    by_cases zj : j = k
    · rw [if_pos zj, if_pos zj]
      obtain ⟨p, hp⟩ := Option.isSome_iff_exists.mp q
      rw [hp]; rfl
    · rw [if_neg zj, if_neg zj]
  · rw [if_neg q]
    have hn : lk xs k = none := by simpa using q
    unfold lk
    rw [List.find?_append]
    by_cases zj : j = k
    · rw [if_pos zj, zj]
      have h1 : xs.find? (fun x => decide (x.1 = k)) = none := by
        unfold lk at hn
        exact Option.map_eq_none_iff.mp hn
      rw [h1, List.find?_cons, decide_eq_true (rfl : k = k)]
      rfl
    · rw [if_neg zj, List.find?_cons, decide_eq_false fun y => zj y.symm, List.find?_nil, Option.or_none]
theorem lk_rm (xs : List Ent) (k j : NestedKey) : lk (rmD xs k) j = if j = k then none else lk xs j := by
  unfold rmD lk
  rw [List.find?_filter]
  by_cases zj : j = k
  · rw [if_pos zj]
    have : xs.find? (fun a => decide (decide (a.1 ≠ k) = true ∧ decide (a.1 = j) = true)) = none := by
      rw [List.find?_eq_none]
      intro x _
      simp [zj]
    rw [this]; rfl
  · rw [if_neg zj]
    congr 2
    funext a
    by_cases q : a.1 = j
    · have : a.1 ≠ k := fun y => zj (q.symm.trans y)
      simp [q, zj]
    · simp [q]

section
variable {X : Cx} {pins : List (Addr × Obj)} {σ : L2.St} {H : Hp} {s : Shared} {a : Addr} {xs : List Ent} {ep : Nat}
theorem dO_get (I : Inv X pins σ H s) (e : H a = some (dO X.w a xs ep)) : (a == sysModules) = false ∧ xs.length ≤ sizeLine ∧ ∃ o es, s.heap.get? a = some o ∧ o.ExactDict ∧ o.data = .dict es ep ∧ es.toList = xs.map (entOf X.w) := (I.hok a _ e).1
/-- the library's telling of it -/
theorem dO_of (I : Inv X pins σ H s) (e : H a = some (dO X.w a xs ep)) (d : Es X.K H xs) : s.heap.DictOfH (nestedKind X.prog X.w) a (xs.map vEnt) := by
  obtain ⟨_, _, o, es, h1, h2, h3, h4⟩ := dO_get I e
  refine ⟨o, es, ep, h1, h2, h3, ?_, fun x hx => ?_, ?_⟩
  · rw [h4, List.map_map]; rfl
  · obtain ⟨y, hy, rfl⟩ := List.mem_map.mp hx
    obtain ⟨r, dp⟩ := d.keys y hy
    exact ⟨rp_is I _ r rfl, dp⟩
  · rw [List.map_map]; exact d.nd
theorem dO_ok {P : Program} {w : World} {H' : Hp} {h' : Heap} {xs : List Ent} (hd : (a == sysModules) = false) (hl : xs.length ≤ sizeLine) (x : h'.DictOfH (nestedKind P w) a (xs.map vEnt)) : ∃ ep, ObjOk P w H' h' a (dO w a xs ep) := by
  obtain ⟨o, es, ep, h1, h2, h3, h4, _, _⟩ := x
  refine ⟨ep, ⟨hd, hl, o, es, h1, h2, h3, ?_⟩, ⟨o, h1⟩, fun ha hb ⟨y1, y2, o', es', z1, z2, z3, z4⟩ st => ⟨y1, y2, o', es', st _ z1, z2, z3, z4⟩⟩
  rw [h4, List.map_map]; rfl
theorem dO_key (I : Inv X pins σ H s) {k : NestedKey} {b : Addr} (r : Rp X.K H k (.ref b)) (hk : k.depth ≤ 8) : (nestedKind X.prog X.w).is s.heap k b := ⟨rp_is I _ r rfl, hk⟩
theorem dO_ne {xs ys : List V} {ep : Nat} {zs : List Ent} (w : World) (a : Addr) : dO w a zs ep ≠ .tup ys := fun z => by
  unfold dO at z
  cases z
/-- the room that a key asks -/
theorem room_in1 {A : Around} (hu : A.units + 64 < cLine) : (nestedKind X.prog X.w).room A.in1 := by
  show A.units + 1 + 8 < cLine
  omega
theorem room_in2 {A : Around} (hu : A.units + 64 < cLine) : (nestedKind X.prog X.w).room A.in1.in1 := by
  show A.units + 1 + 1 + 8 < cLine
  omega

/-! ### {} and {k: v} -/
def tDic0 (w : World) : TE := fun _ H Q => ∀ p, H p = none → Q (.ref p) (upd H p (dO w p [] 0))
theorem dO_empty (P : Program) (w : World) (H' : Hp) (h : Heap) (hb : sysModules < h.objs.size) : ObjOk P w H' (h.push { cls := .type "dict", data := .dict #[] }) h.objs.size (dO w h.objs.size [] 0) :=
  ⟨⟨beq_eq_false_iff_ne.mpr (Ne.symm (Nat.ne_of_lt hb)), Nat.zero_le _, _, #[], Heap.get?_push_size _ rfl, ⟨rfl, rfl, rfl⟩, rfl, rfl⟩, ⟨_, Heap.get?_push_size _ rfl⟩, fun ha hb ⟨y1, y2, o', es', z1, z2, z3, z4⟩ st => ⟨y1, y2, o', es', st _ z1, z2, z3, z4⟩⟩
theorem pe_dic0 {pos : Pos} : PE X (.Dict [] [] pos) (tDic0 X.w) := ⟨fun pn st sg Hq Q I h =>
  wpAny_Dict_empty ⟨.ref st.heap.objs.size, _, I.laid (t' := st.toks) (fun b u e => Heap.get?_push_of_some _ e) (Nat.le_refl _) (dO_empty X.prog X.w _ st.heap I.big), rfl, h _ (I.hok.fresh (Nat.le_refl _))⟩⟩

/-! ### d[k], k in d, k not in d, d.get(k, z) -/
/-- the dict at a has r for the key k -/
structure Look (K : PySem.W.Frag) (w : World) (H : Hp) (x y : V) (r : Option Addr) : Prop where
  look : ∃ a xs ep k b, x = .ref a ∧ y = .ref b ∧ H a = some (dO w a xs ep) ∧ Es K H xs ∧ Rp K H k (.ref b) ∧ k.depth ≤ 8 ∧ (lk xs k).map (·.2) = r
def rIxD (K : PySem.W.Frag) (w : World) : R2 := fun x y H Q => ∃ v, Look K w H x y (some v) ∧ Q (.ref v) H
theorem ix_dic (hu : X.A.units + 64 < cLine) : IxR X (rIxD X.K X.w) := by
  intro value slice pn st sg Hq x y v u Q I rx ry q hs
  obtain ⟨r, ⟨a, xs, ep, k, b, rfl, rfl, e, d, hb, hk, hl⟩, q⟩ := q
  cases rx
  cases ry
  have hm := dO_of I e d
  obtain ⟨p, hp, hp2⟩ := Option.map_eq_some_iff.mp hl
  have g : wpAny (model X.prog X.w) X.A (getItem (.ref a) (.ref b)) (fun z s' => z = .ref r ∧ EP X pn sg Q z s') X.xe st := by
    refine wpAny_getItem_heap (p := (p.1, .ref p.2)) (room_in1 hu) (dO_key I hb hk) hm (by rw [lk_map, hp]; rfl) ?_
    subst hp2
    exact ⟨rfl, .ref p.2, Hq, I.tok _, rfl, q⟩
  exact subscriptTail_builtinR (x := .ref r) hm.typeIs PySem.F.slot_dict_getitem.lookup g hs
def rInD (K : PySem.W.Frag) (w : World) (neg : Bool) : R2 := fun y x H Q => ∃ r, Look K w H x y r ∧ Q (.bl (if neg then !r.isSome else r.isSome)) H
theorem op_inD' (hu : X.A.units + 64 < cLine) : OpR X (compareOp .In) (rInD X.K X.w false) := by
  intro pn st sg Hq y x v u Q I ry rx q
  obtain ⟨r, ⟨a, xs, ep, k, b, rfl, rfl, e, d, hb, hk, hl⟩, q⟩ := q
  cases rx
  cases ry
  refine wpAny_in_heap (room_in1 hu) (dO_key I hb hk) (dO_get I e).1 (dO_of I e d) ?_
  rw [lk_map, Option.isSome_map]
  rw [← hl, Option.isSome_map] at q
  exact ⟨.bl (lk xs k).isSome, Hq, I.tok _, rfl, q⟩
theorem op_notInD' (hu : X.A.units + 64 < cLine) : OpR X (compareOp .NotIn) (rInD X.K X.w true) := by
  intro pn st sg Hq y x v u Q I ry rx q
  obtain ⟨r, ⟨a, xs, ep, k, b, rfl, rfl, e, d, hb, hk, hl⟩, q⟩ := q
  cases rx
  cases ry
  refine wpAny_notIn_heap (room_in1 hu) (dO_key I hb hk) (dO_get I e).1 (dO_of I e d) ?_
  rw [lk_map, Option.isSome_map]
  rw [← hl, Option.isSome_map] at q
  exact ⟨.bl (!(lk xs k).isSome), Hq, I.tok _, rfl, q⟩
def rGetD (K : PySem.W.Frag) (w : World) : V → List V → Hp → VK → Prop := fun x vs H Q => ∃ y z r, vs = [y, z] ∧ Look K w H x y r ∧ Q ((r.map V.ref).getD z) H
theorem mt_getD (hu : X.A.units + 64 < cLine) : MtR X "dict.get" (rGetD X.K X.w) := by
  intro pn st sg Hq x vs v us Q I rx rs q
  obtain ⟨y, z, r, rfl, ⟨a, xs, ep, k, b, rfl, rfl, e, d, hb, hk, hl⟩, q⟩ := q
  cases rx
  obtain ⟨u1, u2, rfl, r1, r2⟩ := vals2 rs
  cases r1
  have hm := dO_of I e d
  refine call_meetsIn PySem.F.slot_dict_get hm.typeIs PySem.F.entry_dict_get (PySem.F.args_dict_get_3 _ _ _) (meetsH_dict_get_default (nestedKind X.prog X.w) a b (dO_get I e).1 u2) ⟨room_in1 hu, k, _, dO_key I hb hk, hm, ?_⟩
  rw [lk_map]
  refine ⟨_, Hq, I.tok _, ?_, q⟩
  rw [← hl]
  cases lk xs k with
  | none => exact r2
  | some p => exact rfl

/-! ### what writes -/
theorem dO_write {h' : Heap} {t' : Nat} {ys : List Ent} (I : Inv X pins σ H s) (e : H a = some (dO X.w a xs ep)) (hs : Heap.SameBut a s.heap h') (hl : ys.length ≤ sizeLine) (hm : h'.DictOfH (nestedKind X.prog X.w) a (ys.map vEnt)) :
    ∃ ep', Inv X pins σ (upd H a (dO X.w a ys ep')) { s with heap := h', toks := t' } := by
  obtain ⟨ep', ok⟩ := dO_ok (P := X.prog) (w := X.w) (H' := fun _ => none) (dO_get I e).1 hl hm
  obtain ⟨ok1, ⟨o, ho⟩, ok2⟩ := ok
  exact ⟨ep', I.write (x := a) (e := a) (by rw [e]; exact True.intro) (.inl rfl) (fun b u hb z => (hs.2 b hb).trans z) ⟨o, ho⟩ ⟨ok1, ⟨o, ho⟩, ok2⟩⟩
/-- the dict at a before and after: all that a caller learns of a store -/
def Wrt (K : PySem.W.Frag) (w : World) (H : Hp) (x : V) (f : List Ent → Prop) (g : List Ent → Hp → Prop) : Prop := ∃ a xs ep, x = .ref a ∧ H a = some (dO w a xs ep) ∧ Es K H xs ∧ f xs ∧ ∀ ys ep', g ys (upd H a (dO w a ys ep'))
def sPutD (K : PySem.W.Frag) (w : World) : TSet := fun x y v H Q => ∃ a xs ep k b c, x = .ref a ∧ y = .ref b ∧ v = .ref c ∧ H a = some (dO w a xs ep) ∧ Es K H xs ∧ Rp K H k (.ref b) ∧ k.depth ≤ 8 ∧ xs.length < sizeLine ∧ ∀ ep', Q (upd H a (dO w a (putD xs k b c) ep'))
theorem pset_dic (hu : X.A.units + 64 < cLine) : PSet X (sPutD X.K X.w) := by
  intro pn st sg Hq x y v ov iv u Q I rx ry rv q
  obtain ⟨a, xs, ep, k, b, c, rfl, rfl, rfl, e, d, hb, hk, hl, q⟩ := q
  cases rx
  cases ry
  cases rv
  have hm := dO_of I e d
  refine wpAny_setItem_heap (hsz := by rw [List.length_map]; exact (dO_get I e).2.1) (room_in1 hu) (dO_key I hb hk) hm fun h' dd' hs => ?_
  rw [putD_map] at dd'
  obtain ⟨ep', I'⟩ := dO_write (t' := st.toks + (nestedKind X.prog X.w).draws k) I e hs (by have := putD_len xs k b c; omega) dd'
  exact ⟨_, I', q ep'⟩
def rSetdD (K : PySem.W.Frag) (w : World) : V → List V → Hp → VK → Prop := fun x vs H Q => ∃ a xs ep k b c, x = .ref a ∧ vs = [.ref b, .ref c] ∧ H a = some (dO w a xs ep) ∧ Es K H xs ∧ Rp K H k (.ref b) ∧ k.depth ≤ 8 ∧ xs.length < sizeLine ∧
  (∀ p, lk xs k = some p → Q (.ref p.2) H) ∧ (lk xs k = none → ∀ ep', Q (.ref c) (upd H a (dO w a (putD xs k b c) ep')))
theorem mt_setdD (hu : X.A.units + 64 < cLine) : MtR X "dict.setdefault" (rSetdD X.K X.w) := by
  intro pn st sg Hq x vs v us Q I rx rs q
  obtain ⟨a, xs, ep, k, b, c, rfl, rfl, e, d, hb, hk, hl, q1, q2⟩ := q
  cases rx
  obtain ⟨u1, u2, rfl, r1, r2⟩ := vals2 rs
  cases r1
  cases r2
  have hm := dO_of I e d
  refine call_setdefault_heap (hsz := by rw [List.length_map]; exact (dO_get I e).2.1) (room_in1 hu) (dO_key I hb hk) (dO_get I e).1 hm (fun p hp => ?_) fun hn h' dd' hs => ?_
  · rw [lk_map] at hp
    obtain ⟨p', e1, e2⟩ := Option.map_eq_some_iff.mp hp
    rw [← e2]
    exact ⟨.ref p'.2, Hq, I.tok _, rfl, q1 p' e1⟩
  · rw [putD_map] at dd'
    rw [lk_map] at hn
    obtain ⟨ep', I'⟩ := dO_write (t' := st.toks + (nestedKind X.prog X.w).draws k) I e hs (by have := putD_len xs k b c; omega) dd'
    exact ⟨.ref c, _, I', rfl, q2 (Option.map_eq_none_iff.mp hn) ep'⟩
def rPopD (K : PySem.W.Frag) (w : World) : V → List V → Hp → VK → Prop := fun x vs H Q => ∃ a xs ep k b p, x = .ref a ∧ vs = [.ref b] ∧ H a = some (dO w a xs ep) ∧ Es K H xs ∧ Rp K H k (.ref b) ∧ k.depth ≤ 8 ∧
  lk xs k = some p ∧ ∀ ep', Q (.ref p.2) (upd H a (dO w a (rmD xs k) ep'))
theorem mt_popD (hu : X.A.units + 64 < cLine) : MtR X "dict.pop" (rPopD X.K X.w) := by
  intro pn st sg Hq x vs v us Q I rx rs q
  obtain ⟨a, xs, ep, k, b, p, rfl, rfl, e, d, hb, hk, hp, q⟩ := q
  cases rx
  obtain ⟨u1, rfl, r1⟩ := vals1 rs
  cases r1
  have hm := dO_of I e d
  refine call_pop_heap (p := (p.1, .ref p.2)) (hsz := by rw [List.length_map]; exact (dO_get I e).2.1) (.inl rfl) (PySem.F.args_dict_pop_2 _ _) (room_in1 hu) (dO_key I hb hk) (dO_get I e).1 hm (by rw [lk_map, hp]; rfl) fun h' dd' hs => ?_
  rw [rmD_map] at dd'
  obtain ⟨ep', I'⟩ := dO_write (t' := st.toks + (nestedKind X.prog X.w).draws k) I e hs (Nat.le_trans (List.length_filter_le _ _) (dO_get I e).2.1) dd'
  exact ⟨.ref p.2, _, I', rfl, q ep'⟩
def rClrD (w : World) : V → List V → Hp → VK → Prop := fun x vs H Q => ∃ a xs ep, x = .ref a ∧ vs = [] ∧ H a = some (dO w a xs ep) ∧ ∀ ep', Q .non (upd H a (dO w a [] ep'))
theorem mt_clrD : MtR X "dict.clear" (rClrD X.w) := by
  intro pn st sg Hq x vs v us Q I rx rs q
  obtain ⟨a, xs, ep, rfl, rfl, e, q⟩ := q
  cases rx
  obtain rfl := Vals.zero rs
  obtain ⟨h0, hl, o, es, h1, h2, h3, h4⟩ := dO_get I e
  have hz : es.size ≤ sizeLine := by
    have : es.toList.length = xs.length := by rw [h4, List.length_map]
    rw [Array.length_toList] at this
    omega
  refine call_meetsIn PySem.F.slot_dict_clear ⟨o, h1, h2.1⟩ PySem.F.entry_dict_clear (PySem.F.args_dict_clear_1 _) (meets_dict_clear_raw a) ⟨es, ep, ⟨o, h1, h2, h3⟩, hz, fun h' hr' hs' => ?_⟩
  obtain ⟨o', ho', hc', hd'⟩ := hr'
  have hm : h'.DictOfH (nestedKind X.prog X.w) a (([] : List Ent).map vEnt) := ⟨o', #[], ep + 1, ho', hc', hd', rfl, fun _ hx => absurd hx (by simp), List.nodup_nil⟩
  obtain ⟨ep', I'⟩ := dO_write (t' := st.toks) I e hs' (Nat.zero_le _) hm
  exact ⟨.non, _, I', rfl, q ep'⟩

/-! ### a method of such a dict, called -/
section meth
variable {o e : Expr} {es : List Expr} {to : TE} {t : TA} {name : Str} {apos cpos : Pos} {id : String} {r : V → List V → Hp → VK → Prop}
def IsDO (w : World) (x : V) (H : Hp) : Prop := ∃ a xs ep, x = .ref a ∧ H a = some (dO w a xs ep)
theorem isDO_ty {x : V} {v : Value} (I : Inv X pins σ H s) (rx : RelV x v) (d : IsDO X.w x H) : s.TypeIs v "dict" ∧ ∀ a, v = .ref a → ∃ ob, s.heap.get? a = some ob ∧ ob.dict = none := by
  obtain ⟨a, xs, ep, rfl, e⟩ := d
  cases rx
  obtain ⟨_, _, o, es, h1, h2, _⟩ := dO_get I e
  refine ⟨⟨o, h1, h2.1⟩, fun b z => ?_⟩
  cases z
  exact ⟨o, h1, h2.2.1⟩
def tDM0 (w : World) (r : V → List V → Hp → VK → Prop) (to : TE) : TE := fun σ H Q => to σ H fun x H1 => IsDO w x H1 ∧ r x [] H1 Q
def tDM (w : World) (r : V → List V → Hp → VK → Prop) (to : TE) (t : TA) : TE := fun σ H Q => to σ H fun x H1 => IsDO w x H1 ∧ t σ H1 fun xs H2 => r x xs H2 Q
theorem pe_dm0 (slot : Slot "dict" name id) (hty : typeOf (.builtin id) = pure (.type "method_descriptor")) (hm : MtR X id r) (ho : PE X o to)
    (hbase : attributeBase o name X.env (eval o X.env) = eval o X.env := by rfl) (hline : (apos.endLine == cpos.line) = true := by rfl) :
    PE X (.Call (.Attribute o name apos) [] [] cpos) (tDM0 X.w r to) := by
  refine ⟨fun pn st sg Hq Q I h => wpAny_Call_method0_late hbase hline (thn (ho.run pn st sg Hq _ I h) fun v s1 ⟨x, H1, I1, r1, dd, q1⟩ => ?_)⟩
  obtain ⟨h1, h2⟩ := isDO_ty I1 r1 dd
  exact ⟨"dict", id, PySem.F.plainAttrs_dict, slot, hty, h1, h2, Calls.callWith_builtin rfl (PySem.evalArgs_none (hm pn s1 sg H1 x [] v [] Q I1 r1 .nil q1))⟩
theorem pe_dm (slot : Slot "dict" name id) (hty : typeOf (.builtin id) = pure (.type "method_descriptor")) (hm : MtR X id r) (ho : PE X o to) (ha : PA X (e :: es) t)
    (hbase : attributeBase o name X.env (eval o X.env) = eval o X.env := by rfl)
    (hfew : ((backTo cpos (starEach (e :: es) X.env)).all (fun x => !x.1) && (backToKw cpos (keywordEach [] X.env)).all (fun x => x.1.isSome) && decide ((e :: es).length + ([] : List Keyword).length + (if ([] : List Keyword).isEmpty then 0 else 1) < 30)) = true := by rfl)
    (hline : (apos.endLine == cpos.line) = true := by rfl) (hs : starEach (e :: es) X.env = (false, eval e X.env) :: starEach es X.env := by rfl) (hplain : (backTo cpos (starEach es X.env)).any (·.1) = false := by rfl) :
    PE X (.Call (.Attribute o name apos) (e :: es) [] cpos) (tDM X.w r to t) := by
  refine ⟨fun pn st sg Hq Q I h => wpAny_Call_method_late hbase hfew hline rfl (thn (ho.run pn st sg Hq _ I h) fun v s1 ⟨x, H1, I1, r1, dd, q1⟩ => ?_)⟩
  obtain ⟨h1, h2⟩ := isDO_ty I1 r1 dd
  refine ⟨"dict", id, PySem.F.plainAttrs_dict, slot, hty, h1, h2, ?_⟩
  have hA := ha.run cpos pn s1 sg H1 _ I1 q1
  rw [hs] at hA ⊢
  refine Calls.callWith_builtin ?_ (Calls.evalArgs_plain (thn hA fun us s2 ⟨vs, H2, I2, r2, q2⟩ => hm pn s2 sg H2 x vs v us Q I2 r1 r2 q2))
  show (false || (backTo cpos (starEach es X.env)).any (·.1)) = false
  rw [hplain]
  rfl
end meth
end
end FsR
end
section
/-! Such dicts walked, copied, made of pairs, compared, asked for their length. -/
set_option Elab.async false
set_option linter.all false
set_option maxRecDepth 100000
namespace FsR
open PySem PySem.Spec PyProof.Rows L2

/-! ### for k, v in d.items(); for k in d -/
def ItD (w : World) (d : Addr) (xs : List Ent) (ep : Nat) : It :=
  ⟨fun i H => H d = some (dO w d xs ep) ∧ i < xs.length, fun i H x H' => ∃ T y, xs[i]? = some y ∧ x = .ref T ∧ H T = none ∧ H' = upd H T (.tup [.ref y.2.1, .ref y.2.2]), fun i H => H d = some (dO w d xs ep) ∧ xs.length ≤ i⟩
def ItK (w : World) (d : Addr) (xs : List Ent) (ep : Nat) : It :=
  ⟨fun i H => H d = some (dO w d xs ep) ∧ i < xs.length, fun i H x H' => H' = H ∧ ∃ y, xs[i]? = some y ∧ x = .ref y.2.1, fun i H => H d = some (dO w d xs ep) ∧ xs.length ≤ i⟩
section
variable {P : Program} {w : World} {K : PySem.W.Frag} {tg : Expr}
theorem ent_size {es : Array DictEntry} {xs : List Ent} (h : es.toList = xs.map (entOf w)) : es.size = xs.length := by
  rw [← Array.length_toList, h, List.length_map]
theorem ent_at {es : Array DictEntry} {xs : List Ent} {i : Nat} {y : Ent} (h : es.toList = xs.map (entOf w)) (hi : i < es.size) (hy : xs[i]? = some y) : es[i].key = .ref y.2.1 ∧ es[i].val = .ref y.2.2 := by
  have e : es.toList[i]? = some (entOf w y) := by rw [h, List.getElem?_map, hy]; rfl
  rw [Array.getElem?_toList, Array.getElem?_eq_getElem hi] at e
  rw [Option.some.inj e]
  exact ⟨rfl, rfl⟩
theorem turnD {elts : List Expr} {kk : Nat} {tpos : Pos} (it d : Addr) (xs : List Ent) (ep : Nat) :
    Turn P w K (.Tuple elts kk tpos) (ItD w d xs ep) [it] it (fun i h => ∃ ok ov, IsItemIter h it d i xs.length ep ok ov) where
  mem := by simp
  obj := fun i h st b hb => by
    have hbi : b = it := by simpa using hb
    subst hbi
    obtain ⟨_, _, hit⟩ := st
    exact ⟨_, hit, fun v z => nomatch z⟩
  keep := fun i h h' st k => by
    obtain ⟨ok, ov, hit⟩ := st
    exact ⟨ok, ov, k it (by simp) _ hit⟩
  item := by
    intro X hP hw hK hc i pn st sg Hq E I hf stt hg
    subst hP hw hK
    obtain ⟨hd, hi⟩ := hg
    obtain ⟨_, hl, o, es, g1, g2, g3, g4⟩ := dO_get I hd
    have hsz := ent_size g4
    obtain ⟨y, hy⟩ : ∃ y, xs[i]? = some y := ⟨xs[i], List.getElem?_eq_getElem hi⟩
    obtain ⟨ok, ov, hit⟩ := stt
    rw [← hsz] at hit
    have hi' : i < es.size := by omega
    obtain ⟨k1, k2⟩ := ent_at g4 hi' hy
    have hlt : it < st.heap.objs.size := Heap.lt_size hit
    refine DT.nextI hit ⟨o, g1, g2, g3⟩ hi' fun h1 hout hT hz hk => ⟨_, rfl, wpAny_letOwnedTupleGo_items (s := { st with heap := h1 }) hout fun h2 hit2 sb => ?_⟩
    rw [k1, k2] at hT hit2
    have hT2 : h2.get? st.heap.objs.size = some { cls := .type "tuple", data := .seq #[.ref y.2.1, .ref y.2.2] } := (sb.2 _ (Nat.ne_of_gt hlt)).trans hT
    have new : ObjOk X.prog X.w (upd Hq st.heap.objs.size (.tup [.ref y.2.1, .ref y.2.2])) h2 st.heap.objs.size (.tup [.ref y.2.1, .ref y.2.2]) :=
      ⟨by show 2 ≤ sizeLine; decide, [.ref y.2.1, .ref y.2.2], .cons rfl (.cons rfl .nil), _, hT2, rfl, _, rfl⟩
    have I1 : Inv X pn sg (upd Hq st.heap.objs.size (.tup [.ref y.2.1, .ref y.2.2])) { st with heap := h2 } :=
      I.turnedNew (t' := st.toks) (ch := [it]) (fun b ob hb z => (sb.2 b (by simpa using hb)).trans (hk b ob (by simpa using hb) z)) hf (Nat.le_refl _) new
    refine ⟨.ref st.heap.objs.size, _, I1, rfl, ⟨_, y, hy, rfl, I.hok.fresh (Nat.le_refl _), rfl⟩, ⟨.ref y.2.1, .ref y.2.2, ?_⟩, fun b hb => ?_⟩
    · rw [← hsz]; exact hit2
    · have hbi : b = it := by simpa using hb
      rw [hbi, upd_ne (Nat.ne_of_lt hlt)]
      exact (hf it (by simp)).1
  done := by
    intro X hP hw hK hc i pn st sg Hq E I hf stt hg
    subst hP hw hK
    obtain ⟨hd, hi⟩ := hg
    obtain ⟨f0, f1, f2, f3, f4, f5⟩ := hf it (by simp)
    obtain ⟨_, hl, o, es, g1, g2, g3, g4⟩ := dO_get I hd
    have hsz := ent_size g4
    obtain ⟨ok, ov, hit⟩ := stt
    rw [← hsz] at hit
    exact DT.endI (I.ok.hd hc) hit ⟨o, g1, g2, g3⟩ (by omega) fun h1 eb => ⟨rfl, I.turned (t' := st.toks) (fun b ob hb z => eb b ob hb z) f0 f1 f3 f4 f5⟩
  self := fun A i st Q E stt h => by
    obtain ⟨_, _, hit⟩ := stt
    exact PySem.W.kcp_self hit h
theorem turnK (it d : Addr) (xs : List Ent) (ep : Nat) : Turn P w K tg (ItK w d xs ep) [it] it (fun i h => h.IsKeyIter it d i xs.length ep) where
  mem := by simp
  obj := fun i h st b hb => by
    have hbi : b = it := by simpa using hb
    subst hbi
    obtain ⟨o, ho, hc, hd⟩ := st
    exact ⟨o, ho, fun v z => by rw [hd] at z; cases z⟩
  keep := fun i h h' st k => st.at fun o e => k it (by simp) o e
  item := by
    intro X hP hw hK hc i pn st sg Hq E I hf stt hg
    subst hP hw hK
    obtain ⟨hd, hi⟩ := hg
    obtain ⟨f0, f1, f2, f3, f4, f5⟩ := hf it (by simp)
    obtain ⟨_, hl, o, es, g1, g2, g3, g4⟩ := dO_get I hd
    have hsz := ent_size g4
    obtain ⟨y, hy⟩ : ∃ y, xs[i]? = some y := ⟨xs[i], List.getElem?_eq_getElem hi⟩
    rw [← hsz] at stt
    have hi' : i < es.size := by omega
    obtain ⟨k1, _⟩ := ent_at g4 hi' hy
    refine wpAny_pyNext_keys_item_raw stt ⟨o, g1, g2, g3⟩ hi' fun h1 st1 sb => ?_
    have I1 : Inv X pn sg Hq { st with heap := h1 } := I.turned (t' := st.toks) (fun b ob hb z => (sb.2 b hb).trans z) f0 f1 f3 f4 f5
    obtain ⟨oi, ho, hco, hdo⟩ := id st1
    rw [k1]
    refine ⟨_, rfl, go_of (s := { st with heap := h1 }) ho hco hdo (by decide) ⟨.ref y.2.1, Hq, I1, rfl, ⟨rfl, y, hy, rfl⟩, ?_, fun b hb => (hf b hb).1⟩⟩
    rw [← hsz]
    exact st1
  done := by
    intro X hP hw hK hc i pn st sg Hq E I hf stt hg
    subst hP hw hK
    obtain ⟨hd, hi⟩ := hg
    obtain ⟨f0, f1, f2, f3, f4, f5⟩ := hf it (by simp)
    obtain ⟨_, hl, o, es, g1, g2, g3, g4⟩ := dO_get I hd
    have hsz := ent_size g4
    rw [← hsz] at stt
    exact wpAny_pyNext_keys_end_raw (I.ok.hd hc) stt ⟨o, g1, g2, g3⟩ (by omega) fun h1 eb => ⟨rfl, I.turned (t' := st.toks) (fun b ob hb z => eb b ob hb z) f0 f1 f3 f4 f5⟩
  self := fun A i st Q E stt h => wpAny_pyIter_keyiter stt h
end
section
variable {X : Cx} {pins : List (Addr × Obj)} {σ : L2.St} {H : Hp} {s : Shared}
def iItD (w : World) (td : TE) : TI := fun σ H R => td σ H fun x H1 => ∃ d xs ep, x = .ref d ∧ H1 d = some (dO w d xs ep) ∧ R (ItD w d xs ep) H1
def iItK (w : World) (td : TE) : TI := fun σ H R => td σ H fun x H1 => ∃ d xs ep, x = .ref d ∧ H1 d = some (dO w d xs ep) ∧ R (ItK w d xs ep) H1
theorem pi_itD {e : Expr} {td : TE} {apos cpos tpos : Pos} {elts : List Expr} {kk : Nat} (he : PE X e td) (hbase : attributeBase e "items" X.env (eval e X.env) = eval e X.env := by rfl) (hline : (apos.endLine == cpos.line) = true := by rfl) :
    PI X (.Tuple elts kk tpos) (.Call (.Attribute e "items" apos) [] [] cpos) (iItD X.w td) := by
  refine ⟨fun pn st sg Hq R I h => ?_⟩
  refine wpAny_Call_method (T := "dict") (id := "dict.items") hbase rfl hline PySem.F.plainAttrs_dict PySem.F.slot_dict_items PySem.F.type_dict_items (thn (he.run pn st sg Hq _ I h) fun u s1 ⟨x, H1, I1, rx, d, xs, ep, ex, hd, q⟩ => ?_)
  subst ex
  obtain rfl : u = Value.ref d := rx
  obtain ⟨h0, hl, o, es, g1, g2, g3, g4⟩ := dO_get I1 hd
  have hsz := ent_size g4
  have hty : s1.TypeIs (.ref d) "dict" := ⟨o, g1, g2.1⟩
  refine ⟨hty, fun b z => by cases z; exact ⟨o, g1, g2.2.1⟩, ?_⟩
  have I2 : Inv X pn sg H1 { s1 with heap := s1.heap.push { cls := .type "dict_items", data := .fields #[.ref d] } } := I1.kept (t' := s1.toks) fun b ob z => Heap.get?_push_of_some _ z
  have fin : wpAny (model X.prog X.w) X.A (pyIter (.ref s1.heap.objs.size)) (PIE X pn sg (.Tuple elts kk tpos) R) X.xe { s1 with heap := s1.heap.push { cls := .type "dict_items", data := .fields #[.ref d] } } := by
    refine DT.iterI (d := d) (es := es) (ep := ep) ⟨_, Heap.get?_push_size _ rfl, rfl, rfl⟩ ⟨o, Heap.get?_push_of_some _ g1, g2, g3⟩ (pi_one (tk := s1.toks) I2 _ (turnD _ d xs ep) ⟨.none, .none, ?_⟩ q)
    rw [← hsz]
    exact Heap.get?_push_size _ rfl
  show wpAny _ _ (callWith cpos (.builtin "dict.items") [.ref d] [] []) _ X.xe s1
  exact method_meetsIn PySem.F.slot_dict_items PySem.F.entry_dict_items rfl (PySem.evalArgs_none ⟨rfl, hty, PySem.F.args_dict_items_1 _, _, DT.meetsItems (es := es) (ep := ep) h0, ⟨o, g1, g2, g3⟩, fin⟩)
theorem pi_itK {tg e : Expr} {td : TE} (he : PE X e td) : PI X tg e (iItK X.w td) := by
  refine ⟨fun pn st sg Hq R I h => ?_⟩
  refine thn (he.run pn st sg Hq _ I h) fun u s1 ⟨x, H1, I1, rx, d, xs, ep, ex, hd, q⟩ => ?_
  subst ex
  obtain rfl : u = Value.ref d := rx
  obtain ⟨h0, hl, o, es, g1, g2, g3, g4⟩ := dO_get I1 hd
  have hsz := ent_size g4
  refine wpAny_pyIter_dict_raw (es := es) (ep := ep) h0 ⟨o, g1, g2, g3⟩ (pi_one (tk := s1.toks) I1 _ (turnK _ d xs ep) ⟨_, Heap.get?_push_size _ rfl, rfl, ?_⟩ q)
  rw [hsz]
  rfl

/-! ### len(d) -/
theorem call_lenDO : CallR X (.builtin "len") (fun vs H Q => ∃ a xs ep, vs = [V.ref a] ∧ H a = some (dO X.w a xs ep) ∧ Q (.int xs.length) H) := by
  intro pn st sg Hq vs us Q I r h
  obtain ⟨a, xs, ep, rfl, e, q⟩ := h
  obtain ⟨u, rfl, ru⟩ := vals1 r
  cases ru
  obtain ⟨h0, hl, o, es, g1, g2, g3, g4⟩ := dO_get I e
  have hsz := ent_size g4
  refine call_len_slot (n := (xs.length : Int)) ⟨o, g1, g2.1⟩ PySem.F.slot_dict_len (fun Q' hq => call_len_raw (es := es) (ep := ep) h0 ⟨o, g1, g2, g3⟩ (by rw [hsz]; exact hq)) (by omega) (by rw [sizeLine_eq] at hl; omega) ?_
  exact ⟨.int xs.length, Hq, I.tok _, ⟨_, rfl⟩, q⟩

/-! ### dict(d) -/
theorem h_push {K : Type} [DecidableEq K] {prog : Program} {w : World} {knd : HeapKind prog w K} (stt : knd.Stays) {h : Heap} {d : Addr} {xs : List (K × Addr × Value)} (x : h.DictOfH knd d xs) (o : Obj) : (h.push o).DictOfH knd d xs := by
  obtain ⟨ob, es, ep, h1, h2, h3, h4, h5, h6⟩ := x
  exact ⟨ob, es, ep, Heap.get?_push_of_some _ h1, h2, h3, h4, fun y hy => stt.stays (fun b u _ _ e _ => Heap.get?_push_of_some _ e) (h5 y hy), h6⟩
theorem call_copyDict {K : Type} [DecidableEq K] {prog : Program} {w : World} {knd : HeapKind prog w K} (stt : knd.Stays) {A : Around} {E : Value → Shared → Prop} {s : Shared} {d : Addr} {more : List (K × Addr × Value)} {Q : Value → Shared → Prop} (hu : knd.room A.in1.in1) (h0 : (d == sysModules) = false)
    (hm : s.heap.DictOfH knd d more) (hsz : more.length ≤ sizeLine) (hty : ∀ x ∈ more, s.TypeIs (.ref x.2.1) "tuple") (hap : (more.map fun x => knd.hash x.1).Nodup)
    (h : ∀ h', h'.DictOfH knd s.heap.objs.size more → Heap.SameBut s.heap.objs.size (s.heap.push { cls := .type "dict", data := .dict #[] }) h' → Q (.ref s.heap.objs.size) { s with heap := h' }) :
    wpAny (model prog w) A (call (.type "dict") [.ref d]) Q E s := by
  refine callType_codes (Q₁ := fun obj s₁ => obj = .ref s.heap.objs.size ∧ s₁ = { s with heap := s.heap.push { cls := .type "dict", data := .dict #[] } }) F.kt_called_dict (F.kt_typeCall_dict_1 _) F.entry_dict_init (kt_code_dict_new _ ⟨rfl, rfl⟩) ?_
  rintro ob s₁ ⟨rfl, rfl⟩
  have hn0 : (s.heap.push { cls := .type "dict", data := .dict #[] }).DictOfH knd s.heap.objs.size [] := Heap.DictOfH.new s.heap
  have hm1 : (s.heap.push { cls := .type "dict", data := .dict #[] }).DictOfH knd d more := h_push stt hm _
  have hne : s.heap.objs.size ≠ d := by
    obtain ⟨_, _, _, hg, _⟩ := hm
    exact fun e => absurd (Heap.lt_size hg) (by rw [e]; exact Nat.lt_irrefl _)
  refine ⟨hn0.typeIs, F.args_dict_init_2 _ _, ?_⟩
  unfold Builtin.«dict.__init__»
  refine wpAny_bind ?_
  unfold Builtin.Dict.selfAndRest
  refine wpAny_bind (wpAny_notOrdered_dict hn0.typeIs ?_)
  show wpAny _ _ (pure (s.heap.objs.size, [Value.ref d])) _ _ _
  refine wpAny_pure ?_
  show wpAny _ _ (Builtin.Dict.updateFrom "dict.__init__" s.heap.objs.size (.ref d) [] .none) _ _ _
  refine updateFrom_dictH (A := A.in1) .none hu hne h0 hn0 hm1 (.inr ⟨fun x hx => ?_, hap⟩) (by simpa using hsz) fun h' hd' _ hs' => ?_
  · obtain ⟨o, e1, e2⟩ := hty x hx
    exact ⟨o, Heap.get?_push_of_some _ e1, e2⟩
  · rw [storedAllH_nil_of_nodup more hm.nodup] at hd'
    exact ⟨rfl, h h' hd' hs'⟩
/-- the keys hash apart -/
def Apart (w : World) (xs : List Ent) : Prop := (xs.map fun x => x.1.hash w).Nodup
theorem tups_of (I : Inv X pins σ H s) {xs : List Ent} (d : Es X.K H xs) : ∀ x ∈ xs.map vEnt, s.TypeIs (.ref x.2.1) "tuple" := fun x hx => by
  obtain ⟨y, hy, rfl⟩ := List.mem_map.mp hx
  obtain ⟨r, dp⟩ := d.keys y hy
  exact nestedKind_stays.tuple (prog := X.prog) (w := X.w) ⟨rp_is I _ r rfl, dp⟩
def rCopyD (K : PySem.W.Frag) (w : World) : List V → Hp → VK → Prop := fun vs H Q => ∃ a xs ep, vs = [.ref a] ∧ H a = some (dO w a xs ep) ∧ Es K H xs ∧ Apart w xs ∧ ∀ p ep', H p = none → Q (.ref p) (upd H p (dO w p xs ep'))
theorem call_dictDO (hu : X.A.units + 64 < cLine) : CallR X (.type "dict") (rCopyD X.K X.w) := by
  intro pn st sg Hq vs us Q I r h
  obtain ⟨a, xs, ep, rfl, e, d, ap, q⟩ := h
  obtain ⟨u, rfl, ru⟩ := vals1 r
  cases ru
  obtain ⟨h0, hl, _⟩ := dO_get I e
  refine call_copyDict (knd := nestedKind X.prog X.w) nestedKind_stays (room_in2 hu) h0 (dO_of I e d) (by rw [List.length_map]; exact hl) (tups_of I d) (by rw [List.map_map]; exact ap) fun h1 hm hs => ?_
  have hb : (st.heap.objs.size == sysModules) = false := beq_eq_false_iff_ne.mpr (Ne.symm (Nat.ne_of_lt I.big))
  obtain ⟨ep', ok⟩ := dO_ok (P := X.prog) (w := X.w) (H' := fun _ => none) hb hl hm
  have hn : Hq st.heap.objs.size = none := I.hok.fresh (Nat.le_refl _)
  refine ⟨.ref st.heap.objs.size, upd Hq st.heap.objs.size (dO X.w st.heap.objs.size xs ep'), I.laid (t' := st.toks) (fun b ob z => ?_) (Nat.le_refl _) ok, rfl, q _ ep' hn⟩
  exact (hs.2 b (Nat.ne_of_lt (Heap.lt_size z))).trans (Heap.get?_push_of_some _ z)

/-! ### dict([(k, v), ..]) -/
/-- the pairs of a list: each a tuple of a key and a value -/
def PairsOf (K : PySem.W.Frag) (H : Hp) (ts : List Addr) (xs : List Ent) : Prop := ts.length = xs.length ∧ ∀ (i : Nat) (y : Ent), xs[i]? = some y → ∃ t, ts[i]? = some t ∧ Tp K H t [.ref y.2.1, .ref y.2.2]
def rPairsD (K : PySem.W.Frag) (w : World) : List V → Hp → VK → Prop := fun vs H Q => ∃ a ts xs, vs = [.ref a] ∧ H a = some (.lst (ts.map V.ref)) ∧ PairsOf K H ts xs ∧ Es K H xs ∧ ∀ p ep', H p = none → Q (.ref p) (upd H p (dO w p xs ep'))
theorem refs_vals : ∀ {ts : List Addr} {us : List Value}, Vals (ts.map V.ref) us → us = ts.map Value.ref
  | [], _, .nil => rfl
  | t :: ts, _, .cons r rs => by
    cases r
    rw [List.map_cons, ← refs_vals rs]
theorem call_dictPairsDO (hu : X.A.units + 64 < cLine) (hc : X.calm = true) : CallR X (.type "dict") (rPairsD X.K X.w) := by
  intro pn st sg Hq vs us Q I r h
  obtain ⟨a, ts, xs, rfl, e, ⟨hlen, hp⟩, d, q⟩ := h
  obtain ⟨u, rfl, ru⟩ := vals1 r
  cases ru
  obtain ⟨hz, its, n, rv, hob⟩ := I.hok a _ e
  obtain rfl := refs_vals rv
  rw [List.length_map] at hz
  have hat : ∀ (j : Nat) (y : Ent), xs[j]? = some y → (ts.map Value.ref).toArray[j]? = some (.ref (ts.getD j 0)) ∧ PairAt st.heap (ts.getD j 0) (.ref y.2.1) (.ref y.2.2) := fun j y hy => by
    obtain ⟨t, h1, h2⟩ := hp j y hy
    have e1 : ts.getD j 0 = t := by rw [List.getD_eq_getElem?_getD, h1]; rfl
    rw [e1]
    refine ⟨by simp [h1], ?_⟩
    obtain ⟨its2, rv2, p2, _⟩ := I.tuple h2.sq
    obtain ⟨u1, u2, rfl, r1, r2⟩ := vals2 rv2
    cases r1
    cases r2
    exact .inl p2
  have ok : PlainSeq "list" st.heap a (ts.map Value.ref).toArray ∧ PairItems st.heap (ts.map Value.ref).toArray (fun j => ts.getD j 0) (xs.map fun y => (Value.ref y.2.1, Value.ref y.2.2)) := by
    refine ⟨⟨_, n, hob, rfl, rfl, rfl⟩, by simp [hlen], fun j k v hj => ?_⟩
    rw [List.getElem?_map] at hj
    obtain ⟨y, hy, e2⟩ := Option.map_eq_some_iff.mp hj
    cases e2
    exact hat j y hy
  have hh : X.A.handled = none := I.ok.hd hc
  have keys : ∀ (h' : Heap), (∀ b o vs m, st.heap.get? b = some o → o.data = .seq vs m → h'.get? b = some o) → ∀ x ∈ xs.map vEnt, (nestedKind X.prog X.w).is h' x.1 x.2.1 := fun h' hk x hx => by
    obtain ⟨y, hy, rfl⟩ := List.mem_map.mp hx
    obtain ⟨rr, dp⟩ := d.keys y hy
    exact nestedKind_stays.stays hk (show (nestedKind X.prog X.w).is st.heap y.1 y.2.1 from ⟨rp_is I _ rr rfl, dp⟩)
  refine call_dict_pairsH (knd := nestedKind X.prog X.w) (ps := xs.map vEnt) (PairArg.list a (ts.map Value.ref).toArray (fun j => ts.getD j 0) (xs.map fun y => (Value.ref y.2.1, Value.ref y.2.2))) hh (room_in2 hu) ok ⟨by simp, fun i k v hi => ?_⟩ (fun h' hk => keys h' fun b o vs m z _ => hk b o (Nat.ne_of_lt (Heap.lt_size z)) (by simp) z) (by simpa using (by omega : xs.length ≤ sizeLine)) fun h1 tk hm hk => ?_
  · have hi' : (xs.map fun y => (Value.ref y.2.1, Value.ref y.2.2))[i]? = some (k, v) := hi
    rw [List.getElem?_map] at hi'
    obtain ⟨y, hy, e2⟩ := Option.map_eq_some_iff.mp hi'
    cases e2
    exact ⟨y.1, y.2.1, by rw [List.getElem?_map, hy]; rfl, rfl⟩
  · rw [storedAllH_nil_of_nodup _ (by rw [List.map_map]; exact d.nd)] at hm
    have hb : (st.heap.objs.size == sysModules) = false := beq_eq_false_iff_ne.mpr (Ne.symm (Nat.ne_of_lt I.big))
    obtain ⟨ep', ok'⟩ := dO_ok (P := X.prog) (w := X.w) (H' := fun _ => none) hb (by omega) hm
    have hn : Hq st.heap.objs.size = none := I.hok.fresh (Nat.le_refl _)
    exact ⟨.ref st.heap.objs.size, upd Hq st.heap.objs.size (dO X.w st.heap.objs.size xs ep'), I.laid (t' := tk) (fun b ob z => hk b ob (by simp) z) (Nat.le_refl _) ok', rfl, q _ ep' hn⟩

/-! ### d != {} -/
theorem ne_nil {A : Around} {E : Value → Shared → Prop} {prog : Program} {w : World} {a b : Addr} {oa ob : Obj} {es : Array DictEntry} {ep ep2 : Nat} {Q : Value → Shared → Prop} (ha : (a == sysModules) = false) (hb : (b == sysModules) = false)
    (ga : s.heap.get? a = some oa) (xa : oa.ExactDict) (da : oa.data = .dict es ep) (gb : s.heap.get? b = some ob) (xb : ob.ExactDict) (db : ob.data = .dict #[] ep2) (hu : A.units < cLine) (h : Q (.bool (!es.isEmpty)) s) :
    wpAny (model prog w) A (compareOp .NotEq (.ref a) (.ref b)) Q E s := by
  have ta : s.TypeIs (.ref a) "dict" := ⟨oa, ga, xa.1⟩
  have tb : s.TypeIs (.ref b) "dict" := ⟨ob, gb, xb.1⟩
  refine wpAny_richCompare_same_room (op := .NotEq) ta tb PySem.F.slot_dict_ne (wpAny_call_entry PySem.F.slot_dict_ne ta PySem.F.entry_dict_ne ?_ (PySem.F.args_dict_ne_2 _ _)) hu
  show wpAny _ _ (Builtin.Dict.dictSlotArgs "__ne__" ⟨[.ref a, .ref b], []⟩ >>= _) _ _ s
  refine wpAny_bind ?_
  unfold Builtin.Dict.dictSlotArgs
  refine wpAny_bind (wpAny_notOrdered_dict ta ?_)
  show wpAny _ _ (pure (Value.ref a, Value.ref b)) _ _ s
  refine wpAny_pure ?_
  refine wpAny_bind (wpAny_isInstance (T := "dict") tb PySem.F.sub_dict_dict ?_)
  simp only [Bool.not_true, Bool.false_eq_true, if_false]
  refine wpAny_bind (wpAny_pure (wpAny_bind (wpAny_pure ?_)))
  refine wpAny_bind ?_
  have fin : ∀ c : Bool, c = es.isEmpty → wpAny (model prog w) A.in1 (pure c) (fun c s' => wpAny (model prog w) A.in1 (pure (Value.bool (!c))) (fun v s'' => Q v s'') E s') E s := fun c hc => by
    refine wpAny_pure (wpAny_pure ?_)
    rw [hc]
    exact h
  unfold Builtin.Dict.samePairs Builtin.Dict.showsAll
  rw [if_neg (by rw [ha]; exact Bool.false_ne_true), if_neg (by rw [hb]; exact Bool.false_ne_true)]
  refine wpAny_bind (wpAny_pure (wpAny_bind (wpAny_pure ?_)))
  refine wpAny_bind (wpAny_dictEntries ga da ?_)
  dsimp only
  refine wpAny_bind (wpAny_dictEntries gb db ?_)
  by_cases z : es.size = 0
  · have ee : es = #[] := Array.eq_empty_of_size_eq_zero z
    subst ee
    rw [if_neg (by simp)]
    refine wpAny_bind (wpAny_dictEpoch ga da ?_)
    refine wpAny_bind ?_
    rw [Std.Legacy.Range.forIn_eq_forIn_range']
    refine wpAny_pure ?_
    refine wpAny_pure ?_
    refine wpAny_pure ⟨_, rfl, ?_, ?_⟩
    · exact fun x => nomatch x
    · simpa using h
  · rw [if_pos (by simpa using z)]
    refine wpAny_bind (wpAny_rule (wpAny_pure ?_))
    refine wpAny_pure ⟨_, rfl, ?_, ?_⟩
    · exact fun x => nomatch x
    · have : es.isEmpty = false := by
        rw [Array.isEmpty_eq_false_iff]
        intro e
        exact z (by rw [e]; rfl)
      rw [this] at h
      simpa using h
def rNeNil (w : World) : R2 := fun x y H Q => ∃ a b xs ep ep2, x = .ref a ∧ y = .ref b ∧ H a = some (dO w a xs ep) ∧ H b = some (dO w b [] ep2) ∧ Q (.bl (!xs.isEmpty)) H
theorem op_neNil (hu : X.A.units < cLine) : OpR X (compareOp .NotEq) (rNeNil X.w) := by
  intro pn st sg Hq x y v u Q I rx ry q
  obtain ⟨a, b, xs, ep, ep2, rfl, rfl, e1, e2, q⟩ := q
  cases rx
  cases ry
  obtain ⟨h0, hl, o, es, g1, g2, g3, g4⟩ := dO_get I e1
  obtain ⟨k0, _, o2, es2, k1, k2, k3, k4⟩ := dO_get I e2
  have z2 : es2 = #[] := Array.eq_empty_of_size_eq_zero (by rw [ent_size k4]; rfl)
  subst z2
  refine ne_nil h0 k0 g1 g2 g3 k1 k2 k3 hu ⟨.bl (!xs.isEmpty), Hq, I, ?_, q⟩
  have e3 : es.isEmpty = xs.isEmpty := by
    have hs := ent_size g4
    cases xs with
    | nil =>
      have z3 : es = #[] := Array.eq_empty_of_size_eq_zero (by rw [hs]; rfl)
      rw [z3]
      rfl
    | cons x xs =>
      rw [List.isEmpty_cons, Array.isEmpty_eq_false_iff]
      intro z
      rw [z] at hs
      simp at hs
  rw [e3]
  rfl
/-- isinstance(d, dict) -/
theorem call_isDict : CallR X (.builtin "isinstance") (fun vs H Q => ∃ a xs ep, vs = [V.ref a, V.ty "dict"] ∧ H a = some (dO X.w a xs ep) ∧ Q (.bl true) H) := by
  intro pn st sg Hq vs us Q I r h
  obtain ⟨a, xs, ep, rfl, e, q⟩ := h
  obtain ⟨u1, u2, rfl, r1, r2⟩ := vals2 r
  cases r1
  cases r2
  obtain ⟨_, _, o, es, g1, g2, _⟩ := dO_get I e
  exact PySem.W.kia_one PySem.W.kitx_dict I.kIn ⟨o, g1, g2.1⟩ (by rfl) (fun z => nomatch z) fun tk => ⟨.bl true, Hq, I.tok tk, rfl, q⟩
end
end FsR
end
section
/-! max(d.keys(), key=f); {k: v} of one pair. -/
set_option Elab.async false
set_option linter.all false
set_option maxRecDepth 100000
set_option maxHeartbeats 4000000
namespace FsR
open PySem PySem.Spec PyProof.Rows L2 PySem.W

/-! ### {k: v} -/
section
variable {X : Cx}
def tDic1 (w : World) (K : PySem.W.Frag) (tk tv : TE) : TE := fun σ H Q => ∀ p, H p = none → tk σ (upd H p (dO w p [] 0)) fun x H1 => tv σ H1 fun y H2 =>
  H2 p = some (dO w p [] 0) ∧ ∃ k b c, x = .ref b ∧ y = .ref c ∧ Rp K H2 k (.ref b) ∧ k.depth ≤ 8 ∧ ∀ ep, Q (.ref p) (upd H2 p (dO w p [(k, b, c)] ep))
theorem pe_dic1 {k v : Expr} {pos : Pos} {tk tv : TE} (hu : X.A.units + 64 < cLine) (hk : PE X k tk) (hv : PE X v tv) : PE X (.Dict [some k] [v] pos) (tDic1 X.w X.K tk tv) := by
  refine ⟨fun pn st sg Hq Q I q => ?_⟩
  have hn := I.hok.fresh (Nat.le_refl st.heap.objs.size)
  have I1 := I.laid (a := st.heap.objs.size) (o := dO X.w st.heap.objs.size [] 0) (h' := st.heap.push { cls := .type "dict", data := .dict #[] }) (t' := st.toks) (fun b u z => Heap.get?_push_of_some _ z) (Nat.le_refl _) (dO_empty X.prog X.w _ st.heap I.big)
  have q0 := q _ hn
  rw [arm_eval_Dict, zip_pairTrees [some k] [v] X.env pos rfl rfl, dictDisplay_pairs _ (by simp [pairTrees]) (by simp [pairTrees])]
  refine wpAny_bind (wpAny_standAt (wpAny_bind ?_))
  refine wpAny_subDictH (knd := nestedKind X.prog X.w) (show X.A.units + 8 < cLine by omega) (by simp [pairTrees]) ?_
  refine pairTrees_cons_walk (thn (hk.run pn _ sg _ _ I1 q0) fun u s1 ⟨x, H1, I2, rx, q1⟩ => thn (hv.run pn s1 sg H1 _ I2 q1) fun u2 s2 ⟨y, H2, I3, ry, e2, kk, b, c, ex, ey, rk, dk, q2⟩ => ?_)
  subst ex
  subst ey
  cases rx
  cases ry
  refine pairTrees_nil_walk ⟨[(kk, b, .ref c)], ⟨rfl, rfl, dO_key I3 rk dk, trivial⟩, dO_of I3 e2 Es.nil, fun h' tk dd hs => wpAny_pure ?_⟩
  have em : storedAllH [] [(kk, b, Value.ref c)] = ([(kk, b, c)] : List Ent).map vEnt := rfl
  rw [em] at dd
  obtain ⟨ep', I'⟩ := dO_write (t' := tk) I3 e2 hs (by show 1 ≤ sizeLine; decide) dd
  exact ⟨.ref st.heap.objs.size, _, I', rfl, q2 ep'⟩
end

/-! ### d.keys() -/
def kvO (p d : Addr) : HO := .ext fun h => KdlKeysView h p d
section
variable {X : Cx}
theorem kvO_ok {P : Program} {w : World} {H : Hp} {h : Heap} {p d : Addr} (e : KdlKeysView h p d) : ObjOk P w H h p (kvO p d) := by
  obtain ⟨o, h1, h2, h3⟩ := e
  exact ⟨⟨o, h1, h2, h3⟩, ⟨o, h1⟩, fun ha hb ⟨o', a1, a2, a3⟩ st => ⟨o', st _ a1, a2, a3⟩⟩
def rKeysD (w : World) : V → List V → Hp → VK → Prop := fun x vs H Q => ∃ a xs ep, x = .ref a ∧ vs = [] ∧ H a = some (dO w a xs ep) ∧ ∀ p, H p = none → Q (.ref p) (upd H p (kvO p a))
theorem mt_keysD : MtR X "dict.keys" (rKeysD X.w) := by
  intro pn st sg Hq x vs v us Q I rx rs q
  obtain ⟨a, xs, ep, rfl, rfl, e, q⟩ := q
  cases rx
  obtain rfl := Vals.zero rs
  obtain ⟨h0, hl, o, es, h1, h2, h3, h4⟩ := dO_get I e
  refine call_meetsIn PySem.F.slot_dict_keys ⟨o, h1, h2.1⟩ PySem.F.entry_dict_keys (PySem.F.args_dict_keys_1 _) (meets_dict_keys_raw a h0) ⟨⟨es, ep, o, h1, h2, h3⟩, ?_⟩
  have hn := I.hok.fresh (Nat.le_refl st.heap.objs.size)
  exact ⟨.ref st.heap.objs.size, _, I.laid (o := kvO st.heap.objs.size a) (t' := st.toks) (fun b u z => Heap.get?_push_of_some _ z) (Nat.le_refl _) (kvO_ok ⟨_, Heap.get?_push_size _ rfl, rfl, rfl⟩), rfl, q _ hn⟩
end

/-! ### max(d.keys(), key=f) -/
section
variable {X : Cx} {f : Addr} {CX : CXT} {sp : Sp} {k : Nat}
/-- what f tells of a key: data, in any heap that has all that stood -/
def Tells (K : PySem.W.Frag) (sp : Sp) (H0 : Hp) (xs : List Ent) (kd : NestedKey → NestedKey) : Prop :=
  ∀ x ∈ xs, ∀ (H : Hp) (Q : VK), Same H0 H → (∀ v H', Same H H' → Rp K H' (kd x.1) v → Q v H') → sp [.ref x.2.1] H Q E0
/-- the data can be compared with <: as the ranks ρ are -/
def Cmps (xs : List Ent) (kd : NestedKey → NestedKey) (ρ : NestedKey → Nat) : Prop := ∀ x ∈ xs, ∀ y ∈ xs, alike (kd x.1).data (kd y.1).data = true ∧ (kd x.1).data ≠ .none ∧ (kd x.1).data.depth ≤ 8 ∧ dataLt (kd x.1).data (kd y.1).data = decide (ρ x.1 < ρ y.1)
/-- the i-th entry is the first of the greatest among the first n -/
def Best (xs : List Ent) (ρ : NestedKey → Nat) (i n : Nat) : Prop := ∃ y, xs[i]? = some y ∧ i < n ∧ ∀ j z, j < n → xs[j]? = some z → ρ z.1 ≤ ρ y.1
theorem Reads.ofRp {pn : List (Addr × Obj)} {sg : L2.St} {H : Hp} {s : Shared} (I : Inv X pn sg H s) {d : NestedKey} {v : V} {u : Value} (h : Rp X.K H d v) (r : RelV v u) : ∃ as, Reads s.heap u d.data as := Dp.reads I _ _ _ (rp_dp d h) r
/-- a call of f within a built-in: what it leaves -/
theorem tell_one (F : FnR X.prog X.w X.K X.mg X.base CX k f sp) (hr : Room (k + 1) X.A) (hcx : ∀ (s : Shared) (H : Hp) (e : Value) (s' : Shared), CX X.stack H s E0 e s' → False) {H0 H : Hp} {xs : List Ent} {kd : NestedKey → NestedKey} (T : Tells X.K sp H0 xs kd) (sm : Same H0 H) {x : Ent} (hx : x ∈ xs)
    {pn : List (Addr × Obj)} {sg : L2.St} {s : Shared} (I : Inv X pn sg H s) {E : Value → Shared → Prop} {Q : Value → Shared → Prop}
    (h : ∀ v u H' s', Inv X pn sg H' s' → Same H H' → Rp X.K H' (kd x.1) v → RelV v u → (∀ b o, H b = none → s.heap.get? b = some o → b ≠ X.env.locals → b ∉ X.fs → s'.heap.get? b = some o ∧ H' b = none) → Q u s') :
    wpAny (model X.prog X.w) X.A.in1 (call (.ref f) [.ref x.2.1]) Q E s := by
  refine wpAny_call (codeAny_mono (F X.A.in1 X.stack s H [.ref x.2.1] [.ref x.2.1] (fun v H' => Same H H' ∧ Rp X.K H' (kd x.1) v) E0 hr.in1 I.env0.in1 (.cons rfl .nil) (T x hx H _ sm fun v H' s1 r1 => ⟨s1, r1⟩)) fun r s' hq => ?_)
  cases r with
  | error e => exact (hcx s H e s' hq).elim
  | ok fl =>
    cases fl with
    | ret u =>
      obtain ⟨v, H', os, bare, un, hok, rv, s1, r1⟩ := hq
      obtain ⟨hh, g, d, t, os'⟩ := s'
      obtain rfl : os' = s.os := os
      refine h v u H' _ (I.call (h' := hh) (g' := g) (d' := d) (t' := t) (ch := []) un hok bare (fun b z => absurd z (by simp))) s1 r1 rv fun b o n e nl nf => ⟨un.keep b o e n (fun hb => ?_) (by simp), un.free b o e n (by simp)⟩
      rcases List.mem_cons.mp (I.stkSub b hb) with z | z
      · exact nl z
      · exact nf z
    | next => exact False.elim hq
    | brk => exact False.elim hq
    | cont => exact False.elim hq
theorem seq_write {pn : List (Addr × Obj)} {sg : L2.St} {H : Hp} {s : Shared} {S : Addr} {xs ys : List V} {us : List Value} (I : Inv X pn sg H s) (e : H S = some (.lst xs)) (r : Vals ys us) (hl : ys.length ≤ 2) {Q : Unit → Shared → Prop} {A : Around} {E : Value → Shared → Prop}
    (h : ∀ h', Inv X pn sg (upd H S (.lst ys)) { s with heap := h' } → Heap.SameBut S s.heap h' → Q () { s with heap := h' }) :
    wpAny (model X.prog X.w) A (updateSeq S fun _ => us.toArray) Q E s := by
  obtain ⟨hz, its, n, rv, hob⟩ := I.hok S _ e
  have hu : us.length ≤ 2 := by rw [← r.length]; exact hl
  have hline : (2 : Nat) ≤ sizeLine := by decide
  refine wpAny_updateSeq hob rfl ?_ (by rw [List.size_toArray, ← rv.length]; exact hz) (by rw [List.size_toArray]; omega)
  have g := get?_update_seq hob (fun _ => us.toArray)
  have sb := Heap.SameBut.update s.heap S (Obj.mapSeq fun _ => us.toArray)
  exact h _ (I.write (x := S) (e := S) (t' := s.toks) (by rw [e]; exact True.intro) (.inl rfl) (fun b u hb z => (sb.2 b hb).trans z) ⟨_, g⟩ ⟨by omega, us, _, r, g⟩) sb
theorem same_wr {H0 H : Hp} {S : Addr} {o : HO} (s : Same H0 H) (n : H0 S = none) : Same H0 (upd H S o) := fun b u e => by
  rw [upd_ne (ne_of_none e n)]
  exact s b u e
theorem max_loop (F : FnR X.prog X.w X.K X.mg X.base CX k f sp) (hr : Room (k + 1) X.A) (hc : X.calm = true) (hcx : ∀ (s : Shared) (H : Hp) (e : Value) (s' : Shared), CX X.stack H s E0 e s' → False) {H0 : Hp} {a S It : Addr} {xs : List Ent} {ep : Nat} {kd : NestedKey → NestedKey} {ρ : NestedKey → Nat} (T : Tells X.K sp H0 xs kd) (C : Cmps xs kd ρ)
    (h0 : H0 a = some (dO X.w a xs ep)) (hS : H0 S = none) {pn : List (Addr × Obj)} {sg : L2.St} {R : Result → Shared → Prop}
    (hR : ∀ i y H s, Best xs ρ i xs.length → xs[i]? = some y → Inv X pn sg H s → Same H0 H → R (.ok (.ret (.ref y.2.1))) s) :
    ∀ (r j i : Nat) (H : Hp) (s : Shared) (y : Ent) (kv : V), xs.length - j = r → 1 ≤ j → j ≤ xs.length → Inv X pn sg H s → Same H0 H → FpOk X pn H It → s.heap.IsKeyIter It a j xs.length ep → xs[i]? = some y → Best xs ρ i j →
      H S = some (.lst [.ref y.2.1, kv]) → Rp X.K H (kd y.1) kv → codeAny (model X.prog X.w) X.A (.builtin "max.loop" ⟨[.ref It, .ref f, .ref S], []⟩) R s := by
  have hname : (toString "max" ++ toString ".loop" : String) = "max.loop" := by decide
  have hh : X.A.in1.handled = none := hr.hd
  intro r
  induction r with
  | zero =>
    intro j i H s y kv hj h1 hle I sm fp hit hy hb eS rk
    have hjl : j = xs.length := by omega
    subst hjl
    obtain ⟨f0, f1, f2, f3, f4, f5⟩ := fp
    obtain ⟨_, its, n, rv, hob⟩ := I.hok S _ eS
    obtain ⟨u1, u2, rfl, r1, r2⟩ := vals2 rv
    cases r1
    obtain ⟨_, hl, o, es, g1, g2, g3, g4⟩ := dO_get I (sm _ _ h0)
    have hsz := ent_size g4
    refine codeAny_builtin PySem.F.entry_max_loop ?_
    rw [Around.under_plainId PySem.F.plain_max_loop _]
    show wpAny _ X.A.in1 (seqItems? (.ref S) >>= _) _ _ _
    refine wpAny_bind (wpAny_seqItems hob rfl ?_)
    show wpAny _ X.A.in1 (tryCatch (pyNext (.ref It)) _ >>= _) _ _ _
    rw [← hsz] at hit
    refine wpAny_bind (wpAny_tryCatch (wpAny_pyNext_keys_end_raw hh hit ⟨o, g1, g2, g3⟩ (by omega) fun h' eb => ?_))
    have I1 : Inv X pn sg H { s with heap := h' } := I.turned (t' := s.toks) (fun b ob hb z => eb b ob hb z) f0 f1 f3 f4 f5
    show wpAny _ X.A.in1 (updateSeq S (fun _ => #[]) >>= _) _ _ _
    refine wpAny_bind (seq_write I1 eS (ys := []) (us := []) .nil (by decide) fun h2 I2 _ => ?_)
    exact wpAny_bind (wpAny_letGo (wpAny_pure (hR i y _ _ hb hy I2 (same_wr sm hS))))
  | succ r ih =>
    intro j i H s y kv hj h1 hle I sm fp hit hy hb eS rk
    have hlt : j < xs.length := by omega
    obtain ⟨f0, f1, f2, f3, f4, f5⟩ := id fp
    obtain ⟨_, its, n, rv, hob⟩ := I.hok S _ eS
    obtain ⟨u1, u2, rfl, r1, r2⟩ := vals2 rv
    cases r1
    obtain ⟨_, hl, o, es, g1, g2, g3, g4⟩ := dO_get I (sm _ _ h0)
    have hsz := ent_size g4
    obtain ⟨z, hz⟩ : ∃ z, xs[j]? = some z := ⟨xs[j], List.getElem?_eq_getElem hlt⟩
    have hzm : z ∈ xs := List.mem_of_getElem? hz
    have hym : y ∈ xs := List.mem_of_getElem? hy
    refine codeAny_builtin PySem.F.entry_max_loop ?_
    rw [Around.under_plainId PySem.F.plain_max_loop _]
    show wpAny _ X.A.in1 (seqItems? (.ref S) >>= _) _ _ _
    refine wpAny_bind (wpAny_seqItems hob rfl ?_)
    show wpAny _ X.A.in1 (tryCatch (pyNext (.ref It)) _ >>= _) _ _ _
    rw [← hsz] at hit
    have hj' : j < es.size := by omega
    obtain ⟨k1, _⟩ := ent_at g4 hj' hz
    refine wpAny_bind (wpAny_tryCatch (wpAny_pyNext_keys_item_raw hit ⟨o, g1, g2, g3⟩ hj' fun h' hit' sb => ?_))
    rw [k1]
    have I1 : Inv X pn sg H { s with heap := h' } := I.turned (t' := s.toks) (fun b ob hb q => (sb.2 b hb).trans q) f0 f1 f3 f4 f5
    show wpAny _ X.A.in1 (tryCatch (holding [.ref z.2.1] (call (.ref f) [.ref z.2.1])) _ >>= _) _ _ _
    refine wpAny_bind (wpAny_tryCatch (wpAny_holding (tell_one F hr hcx T sm hzm I1 fun v u H2 s2 I2 s12 rz rv2 kp => ?_)))
    have rk2 := (Keep.of s12).rp rk
    obtain ⟨_, its2, n2, rw2, hob2⟩ := I2.hok S _ (s12 _ _ eS)
    obtain ⟨w1, w2, rfl, q1, q2⟩ := vals2 rw2
    obtain ⟨as1, rd1⟩ := Reads.ofRp I2 rz rv2
    obtain ⟨as2, rd2⟩ := Reads.ofRp I2 rk2 r2
    obtain ⟨oi, hoi, hoc, hod⟩ := id hit'
    obtain ⟨kpI, freeI⟩ := kp It oi f0 hoi f1 f2
    have hit2 : s2.heap.IsKeyIter It a (j + 1) es.size ep := ⟨oi, kpI, hoc, hod⟩
    rw [hsz] at hit2
    have fp2 : FpOk X pn H2 It := ⟨freeI, f1, f2, f3, f4, f5⟩
    obtain ⟨al, hno, hdp, _⟩ := C z hzm y hym
    obtain ⟨_, _, _, hlt2⟩ := C y hym z hzm
    have hun : X.A.in1.units + min (kd z.1).data.depth (kd y.1).data.depth < cLine := by
      have := hr.units
      show X.A.units + 1 + _ < cLine
      omega
    show wpAny _ X.A.in1 (tryCatch (holding [.ref z.2.1, u] (richCompare .Gt u u2 >>= _)) _ >>= _) _ _ _
    refine wpAny_bind (wpAny_tryCatch (wpAny_holding (wpAny_bind (gt_data rd1 rd2 al hno hun ?_))))
    refine wpAny_bind (wpAny_holding (wpAny_truthy_bool ?_))
    refine wpAny_bind (wpAny_letGo (wpAny_pure ?_))
    rw [hlt2]
    by_cases hgt : ρ y.1 < ρ z.1
    · rw [decide_eq_true hgt]
      simp only [if_true]
      refine wpAny_bind (seq_write I2 (s12 _ _ eS) (ys := [.ref z.2.1, v]) (us := [.ref z.2.1, u]) (.cons rfl (.cons rv2 .nil)) (Nat.le_refl 2) fun h3 I3 sb3 => ?_)
      refine wpAny_bind (wpAny_letGo ?_)
      rw [hname]
      have hSI : It ≠ S := fun e => by rw [e, eS] at f0; cases f0
      have sm3 : Same H0 (upd H2 S (.lst [.ref z.2.1, v])) := same_wr (sm.trans s12) hS
      refine wpAny_pure ⟨plainId_quiet PySem.F.plain_max_loop _, ih (j + 1) j _ _ z v (by omega) (by omega) hlt I3 sm3 ⟨?_, f1, f2, f3, f4, f5⟩ ⟨oi, (sb3.2 It hSI).trans kpI, hoc, by rw [hod, hsz]⟩ hz ⟨z, hz, by omega, fun j' z' hj' hz' => ?_⟩ upd_same ((Keep.wr (s12 _ _ eS) (fun _ q => by cases q)).rp rz)⟩
      · rw [upd_ne hSI]; exact freeI
      · by_cases e : j' = j
        · subst e
          rw [hz] at hz'
          cases hz'
          exact Nat.le_refl _
        · obtain ⟨y', hy', _, hbst⟩ := hb
          rw [hy] at hy'
          cases hy'
          have h5 := hbst j' z' (by omega) hz'
          omega
    · rw [decide_eq_false hgt]
      simp only [Bool.false_eq_true, if_false]
      refine wpAny_bind (wpAny_letGo ?_)
      rw [hname]
      refine wpAny_pure ⟨plainId_quiet PySem.F.plain_max_loop _, ih (j + 1) i _ _ y kv (by omega) (by omega) hlt I2 (sm.trans s12) fp2 hit2 hy ?_ (s12 _ _ eS) rk2⟩
      obtain ⟨y', hy', hi', hbst⟩ := hb
      rw [hy] at hy'
      cases hy'
      refine ⟨y, hy, by omega, fun j' z' hj' hz' => ?_⟩
      by_cases e : j' = j
      · subst e
        rw [hz] at hz'
        cases hz'
        omega
      · exact hbst j' z' (by omega) hz'
/-- max(d.keys(), key=f): a first greatest key -/
def rMaxK (w : World) (K : PySem.W.Frag) (sp : Sp) (f : Addr) : List V → List V → Hp → VK → Prop := fun vs zs H Q => ∃ (p a : Addr) (xs : List Ent) (ep : Nat) (kd : NestedKey → NestedKey) (ρ : NestedKey → Nat), vs = [.ref p] ∧ zs = [.ref f] ∧ H p = some (kvO p a) ∧ H a = some (dO w a xs ep) ∧
  xs ≠ [] ∧ Tells K sp H xs kd ∧ Cmps xs kd ρ ∧ ∀ y ∈ xs, (∀ z ∈ xs, ρ z.1 ≤ ρ y.1) → ∀ H', Same H H' → Q (.ref y.2.1) H'
theorem call_maxK (F : FnR X.prog X.w X.K X.mg X.base CX k f sp) (hr : Room (k + 1) X.A) (hc : X.calm = true) (hcx : ∀ (s : Shared) (H : Hp) (e : Value) (s' : Shared), CX X.stack H s E0 e s' → False) : CallRK X (.builtin "max") [Str.ofString "key"] (rMaxK X.w X.K sp f) := by
  intro pn st sg H0 vs zs us ws Q I r rz h
  obtain ⟨p, a, xs, ep, kd, ρ, rfl, rfl, ep1, ea, hne, T, C, q⟩ := h
  obtain ⟨u1, rfl, r1⟩ := vals1 r
  obtain ⟨u2, rfl, r2⟩ := vals1 rz
  cases r1
  cases r2
  have hname : (toString "max" ++ toString ".loop" : String) = "max.loop" := by decide
  have hh : X.A.in1.handled = none := hr.hd
  obtain ⟨g0, hl, o, es, g1, g2, g3, g4⟩ := dO_get I ea
  have hsz := ent_size g4
  have hkv : KdlKeysView st.heap p a := (I.hok p _ ep1).1
  have hlen : 0 < xs.length := List.length_pos_iff.mpr hne
  show wpAny _ _ (call (.builtin "max") [.ref p] [(Str.ofString "key", .ref f)]) _ _ _
  refine kmk_tree PySem.F.kind_max PySem.F.plain_max PySem.F.entry_max (kmk_max_key _ _) ?_
  show wpAny _ X.A.in1 (Builtin.Builtins.bindParams "max" ["key", "default"] 0 ⟨[], [(Str.ofString "key", .ref f)]⟩ >>= _) _ _ st
  refine wpAny_bind (wpAny_of_eq (show Builtin.Builtins.bindParams "max" ["key", "default"] 0 ⟨[], [(Str.ofString "key", .ref f)]⟩ = pure [some (.ref f), none] from rfl) ?_)
  refine wpAny_bind (wpAny_pure ?_)
  refine wpAny_bind (wpAny_pyIter_keys_raw (es := es) (ep := ep) hkv ⟨o, g1, g2, g3⟩ ?_)
  refine wpAny_bind (wpAny_newList ?_ (Nat.zero_le _))
  rw [hname]
  refine wpAny_pure ⟨plainId_quiet PySem.F.plain_max_loop _, ?_⟩
  -- the iterator, the list of the best
  generalize hIt : st.heap.objs.size = It
  have IA : Inv X pn sg H0 { st with heap := st.heap.push { cls := .type "dict_keyiterator", data := .fields #[.ref a, .int 0 0, .int es.size 0, .int ep 0] } } := I.kept (t' := st.toks) fun b u z => Heap.get?_push_of_some _ z
  have nIt : H0 It = none := hIt ▸ I.hok.fresh (Nat.le_refl _)
  have fpI : FpOk X pn H0 It := I.fpOk (hIt ▸ Nat.le_refl _) nIt
  have gIt : (st.heap.push { cls := .type "dict_keyiterator", data := .fields #[.ref a, .int 0 0, .int es.size 0, .int ep 0] }).get? It = some { cls := .type "dict_keyiterator", data := .fields #[.ref a, .int 0 0, .int es.size 0, .int ep 0] } := hIt ▸ Heap.get?_push_size _ rfl
  have hS : (st.heap.push { cls := .type "dict_keyiterator", data := .fields #[.ref a, .int 0 0, .int es.size 0, .int ep 0] }).objs.size = It + 1 := by rw [Heap.size_push, hIt]
  generalize hB : st.heap.push { cls := .type "dict_keyiterator", data := .fields #[.ref a, .int 0 0, .int es.size 0, .int ep 0] } = B at IA gIt hS
  have nS : H0 (It + 1) = none := by
    have := IA.hok.fresh (a := It + 1) (by rw [← hS]; exact Nat.le_refl _)
    exact this
  have IB : Inv X pn sg (upd H0 (It + 1) (.lst [])) { st with heap := B.push (seqObj "list" #[] 0) } :=
    IA.laid (a := It + 1) (o := .lst []) (t' := st.toks) (fun b u z => Heap.get?_push_of_some _ z) (by rw [← hS]; exact Nat.le_refl _) ⟨Nat.zero_le _, [], 0, .nil, by rw [← hS]; exact Heap.get?_push_size _ rfl⟩
  have neS : It ≠ It + 1 := Nat.ne_of_lt (Nat.lt_succ_self _)
  have fpB : FpOk X pn (upd H0 (It + 1) (.lst [])) It := ⟨by rw [upd_ne neS]; exact nIt, fpI.2⟩
  have gItB : (B.push (seqObj "list" #[] 0)).IsKeyIter It a 0 xs.length ep := ⟨_, Heap.get?_push_of_some _ gIt, rfl, by rw [← hsz]; rfl⟩
  have smB : Same H0 (upd H0 (It + 1) (.lst [])) := same_wr (Same.refl _) nS
  rw [hS]
  obtain ⟨z, hz⟩ : ∃ z, xs[0]? = some z := ⟨xs[0], List.getElem?_eq_getElem hlen⟩
  have hzm : z ∈ xs := List.mem_of_getElem? hz
  obtain ⟨f0, f1, f2, f3, f4, f5⟩ := id fpB
  obtain ⟨_, _, o', es', k1, k2, k3, k4⟩ := dO_get IB (smB _ _ ea)
  have hsz' := ent_size k4
  have h0 : 0 < es'.size := by omega
  obtain ⟨ky, _⟩ := ent_at k4 h0 hz
  obtain ⟨_, its, n, rv, hob⟩ := IB.hok (It + 1) _ upd_same
  obtain rfl := Vals.zero rv
  refine codeAny_builtin PySem.F.entry_max_loop ?_
  rw [Around.under_plainId PySem.F.plain_max_loop _]
  show wpAny _ X.A.in1 (seqItems? (.ref _) >>= _) _ _ _
  refine wpAny_bind (wpAny_seqItems hob rfl ?_)
  show wpAny _ X.A.in1 (tryCatch (pyNext (.ref It)) _ >>= _) _ _ _
  rw [← hsz'] at gItB
  refine wpAny_bind (wpAny_tryCatch (wpAny_pyNext_keys_item_raw gItB ⟨o', k1, k2, k3⟩ h0 fun h' hit' sb => ?_))
  rw [ky]
  have I1 : Inv X pn sg (upd H0 (It + 1) (.lst [])) { st with heap := h' } := IB.turned (t' := st.toks) (fun b ob hb q => (sb.2 b hb).trans q) f0 f1 f3 f4 f5
  show wpAny _ X.A.in1 (tryCatch (holding [.ref z.2.1] (call (.ref f) [.ref z.2.1])) _ >>= _) _ _ _
  refine wpAny_bind (wpAny_tryCatch (wpAny_holding (tell_one F hr hcx T smB hzm I1 fun v u H2 s2 I2 s12 rz2 rv2 kp => ?_)))
  obtain ⟨oi, hoi, hoc, hod⟩ := id hit'
  obtain ⟨kpI, freeI⟩ := kp It oi f0 hoi f1 f2
  have eS2 := s12 _ _ (upd_same (H := H0) (a := It + 1) (o := .lst []))
  show wpAny _ X.A.in1 (updateSeq (It + 1) (fun _ => #[.ref z.2.1, u]) >>= _) _ _ _
  refine wpAny_bind (seq_write I2 eS2 (ys := [.ref z.2.1, v]) (us := [.ref z.2.1, u]) (.cons rfl (.cons rv2 .nil)) (Nat.le_refl 2) fun h3 I3 sb3 => ?_)
  rw [hname]
  have sm3 : Same H0 (upd H2 (It + 1) (.lst [.ref z.2.1, v])) := same_wr (smB.trans s12) nS
  refine wpAny_pure ⟨plainId_quiet PySem.F.plain_max_loop _, max_loop F hr hc hcx T C ea nS (fun i y H s hb hy I sm => ?_) _ 1 0 _ _ z v rfl (Nat.le_refl _) hlen I3 sm3 ⟨?_, f1, f2, f3, f4, f5⟩ ⟨oi, (sb3.2 It neS).trans kpI, hoc, by rw [hod, hsz']⟩ hz ⟨z, hz, Nat.zero_lt_one, fun j' z' hj' hz' => ?_⟩ upd_same ((Keep.wr eS2 (fun _ q => by cases q)).rp rz2)⟩
  · refine ⟨.ref y.2.1, H, I, rfl, q y (List.mem_of_getElem? hy) (fun z hz => ?_) H sm⟩
    obtain ⟨y', hy', _, hbst⟩ := hb
    rw [hy] at hy'
    cases hy'
    obtain ⟨j, hj, ej⟩ := List.mem_iff_getElem.mp hz
    exact hbst j z hj (by rw [List.getElem?_eq_getElem hj, ej])
  · rw [upd_ne neS]; exact freeI
  · have : j' = 0 := by omega
    subst this
    rw [hz] at hz'
    cases hz'
    exact Nat.le_refl _
end
end FsR
end
section
/-! != of own instances, of lists of them: all equal. -/
set_option Elab.async false
set_option linter.all false
set_option maxRecDepth 100000
namespace FsR
open PySem PySem.Spec PyProof.Rows L2
section lists
open PySem.SeqAt AutoSeq1 MeetsSeq MeetsSeq2 MeetsSeq3 SeqRoads2
open AutoSeq1 (wpAny_loadPart')
variable {prog : Program} {w : World} {A : Around} {R : Result → Shared → Prop}
theorem ne_loopS (l b : Addr) (N : Nat) (J : Nat → Shared → Prop) (hl : GQ.ListI prog w A (fun e st => R (.error e) st) l b N J)
    (fin : ∀ st, J N st → R (.ok (.ret (.bool false))) st) (k : Nat) :
    ∀ i : Nat, N - i = k → i ≤ N → ∀ st, J i st →
      wpAny (model prog w) A.in1 (Builtin.«list.__eq__.loop» ⟨[.ref l, .ref b, rawInt i, rawInt 3], []⟩) (GQ.FinOf prog w A R) (fun e st => R (.error e) st) st := by
  induction k with
  | zero =>
    intro i hk hi st h
    obtain ⟨ys, zs, n, n2, hl1, hb1, hs1, hs2, _⟩ := hl _ _ h
    have hi' : i = N := by omega
    have hR : R (.ok (.ret (.bool false))) st := fin st (hi' ▸ h)
    obtain ⟨hp, g, d, tk, os⟩ := st
    wp_walk using wpAny_loadPart' hl1, wpAny_loadPart' hb1
    have e1 : ys[((i : Nat) : Int).toNat]? = none := by simp; omega
    have e2 : zs[((i : Nat) : Int).toNat]? = none := by simp; omega
    rw [e1, e2]
    wp_walk using wpAny_loadPart' hl1, wpAny_loadPart' hb1
    show R (.ok (.ret (.bool (ys.size != zs.size)))) _
    rw [hs1, hs2]
    simpa using hR
  | succ k ih =>
    intro i hk hi st h
    obtain ⟨ys, zs, n, n2, hl1, hb1, hs1, hs2, turn⟩ := hl _ _ h
    have l1 : i < ys.size := by omega
    have l2 : i < zs.size := by omega
    have ht := turn l1 l2
    obtain ⟨hp, g, d, tk, os⟩ := st
    wp_walk using wpAny_loadPart' hl1, wpAny_loadPart' hb1
    have e1 : ys[((i : Nat) : Int).toNat]? = some ys[i] := by simp [l1]
    have e2 : zs[((i : Nat) : Int).toNat]? = some zs[i] := by simp [l2]
    have hc : ((i : Int) + 1) = ((i + 1 : Nat) : Int) := by omega
    rw [e1, e2]
    refine wpAny_bind (wpAny_mono ht (fun r s2 q => ?_) fun _ _ x => x)
    obtain ⟨hr, q⟩ := q
    subst hr
    have hrec := ih (i + 1) (by omega) (by omega) s2 q
    obtain ⟨hp2, g2, d2, tk2, os2⟩ := s2
    wp_walk
    rw [hc]
    exact ⟨plainId_quiet plain_eq_loop _, codeAny_builtin entry_eq_loop (by
      rw [Around.under_plainId plain_eq_loop _]
      exact hrec)⟩
theorem list_neS (l b : Addr) (N : Nat) (J : Nat → Shared → Prop) (hl : GQ.ListI prog w A (fun e st => R (.error e) st) l b N J)
    (fin : ∀ st, J N st → R (.ok (.ret (.bool false))) st) {st : Shared} (h : J 0 st) :
    wpAny (model prog w) A.in1 (Builtin.«list.__ne__» ⟨[.ref l, .ref b], []⟩) (GQ.FinOf prog w A R) (fun e st => R (.error e) st) st := by
  obtain ⟨ys, zs, n, n2, hl1, hb1, hs1, hs2, _⟩ := hl _ _ h
  have hrec := ne_loopS (A := A) (R := R) l b N J hl fin _ 0 rfl (Nat.zero_le _) st h
  obtain ⟨hp, g, d, tk, os⟩ := st
  have f3 := AutoSeq1.sub_list_list
  have hne : ¬ (ys.size != zs.size) = true := by simp [hs1, hs2]
  wp_walk using wpAny_loadPart' hl1, wpAny_loadPart' hb1
  exact ⟨plainId_quiet plain_eq_loop _, codeAny_builtin entry_eq_loop (by
    rw [Around.under_plainId plain_eq_loop _]
    exact hrec)⟩
end lists
section
variable {prog : Program} {w : World} {A : Around} {E : Value → Shared → Prop} {st : Shared}
theorem rc_listN {l b : Addr} {N : Nat} {Q : Value → Shared → Prop} (hu : A.units < cLine) (J : Nat → Shared → Prop) (hl : GQ.ListI prog w A E l b N J)
    (fin : ∀ s, J N s → Q (.bool false) s) (h : J 0 st) : wpAny (model prog w) A (richCompare .NotEq (.ref l) (.ref b)) Q E st := by
  obtain ⟨ys, zs, n, n2, hl1, hb1, _, _, _⟩ := hl _ _ h
  refine wpAny_richCompare_same_room (op := .NotEq) ⟨_, hl1, rfl⟩ ⟨_, hb1, rfl⟩ F.slot_list_ne (GQ.call_here F.slot_list_ne ⟨_, hl1, rfl⟩ F.entry_list_ne (F.args_list_ne_2 _ _) ?_) hu
  exact list_neS (R := wants (fun v s => v ≠ .notImplemented ∧ Q v s) E) l b N J hl (fun s q => ⟨(fun x => nomatch x), fin s q⟩) h
end
section
variable {X : Cx} {n m : Nat} {D : Eqv}
/-- x != y of what is equal -/
def NeG (X : Cx) (n : Nat) (D : Eqv) : Prop :=
  ∀ (A : Around) (pn : List (Addr × Obj)) (st : Shared) (sg : L2.St) (H : Hp) (x y : V) (u v : Value), Sub X n A → Inv X pn sg H st → RelV x u → RelV y v → D x y H →
    wpAny (model X.prog X.w) A (richCompare .NotEq u v) (fun r s => r = .bool false ∧ ∃ H2, Inv X pn sg H2 s ∧ Ext H H2) X.xe st
theorem neG_list (hD : Mon D) (h : EqG X n D) : NeG X (n + 1) (DList D) := by
  intro A pn st sg H x y u v sb I rx ry d
  obtain ⟨a, b, xs, ys, rfl, rfl, ha, hb, p⟩ := d
  cases rx
  cases ry
  refine rc_listN (N := xs.length) sb.room.units0 (fun _ s => LoopI X pn sg H s) (fun i s q => ?_) (fun s q => ⟨rfl, q⟩) ⟨H, I, Ext.rfl'⟩
  obtain ⟨H1, I1, e1⟩ := id q
  obtain ⟨z, its, k, r, e⟩ := I1.hok a _ (e1 _ _ ha)
  obtain ⟨z2, its2, k2, r2, e2⟩ := I1.hok b _ (e1 _ _ hb)
  refine ⟨its.toArray, its2.toArray, k, k2, e, e2, by rw [List.size_toArray, ← r.length], by rw [List.size_toArray, ← r2.length, ← p.1], fun h1 h2 => ?_⟩
  exact turnG hD h sb p r r2 i h1 h2 s q
def rNeG (D : Eqv) : R2 := fun x y H Q => D x y H ∧ ∀ H2, Ext H H2 → Q (.bl false) H2
theorem op_neG (h : NeG X n D) (hr : Room n X.A) : OpR X (compareOp .NotEq) (rNeG D) := by
  intro pn st sg H x y v u Q I rx ry hq
  obtain ⟨d, q⟩ := hq
  show wpAny (model X.prog X.w) X.A (richCompare .NotEq v u) (EP X pn sg Q) X.xe st
  refine wpAny_mono (h X.A pn st sg H x y v u ⟨hr, rfl⟩ I rx ry d) (fun r s z => ?_) fun _ _ x => x
  obtain ⟨e, H2, I2, x2⟩ := z
  subst e
  exact ⟨.bl false, H2, I2, rfl, q H2 x2⟩
end
end FsR
end
section
/-! != of own instances with an own ==, by the object's own road. -/
set_option Elab.async false
set_option linter.all false
set_option maxRecDepth 100000
namespace FsR
open PySem PySem.Spec PyProof.Rows L2
section
variable {X : Cx} {n m : Nat} {D : Eqv}
/-- the class has no != of its own -/
structure NoNe (K : PySem.W.Frag) (C : Addr) : Prop where
  ne : PySem.W.findIn K (.ref C) "__ne__" = some (some (.builtin "object.__ne__"))
  ob : PySem.W.subIn K (.ref C) (.type "object") = some true
theorem neG_ins {CX : CXT} {C f : Addr} {fd : FuncData} {ps : List Str} {R : Addr → Addr → Hp → Prop} {E : XK} (F : FnOk X.prog X.w X.K X.mg X.base CX n f fd ps (spEq R)) (nn : NoNe X.K C)
    (hs : PySem.W.findIn X.K (.ref C) "__eq__" = some (some (.ref f))) (hf : PySem.W.isFn X.K (.ref f) = true) (hb : Binds X.K fd ps []) (hx : Passes CX X E) : NeG X (n + 1) (DIns C R) := by
  intro A pn st sg H x y u v sb I rx ry d
  obtain ⟨a, b, dx, dy, fs, gs, rfl, rfl, ha, hb2, hr⟩ := d
  cases rx
  cases ry
  obtain ⟨mA, J, _⟩ := ins_get I.hok ha
  obtain ⟨mB, J2, _⟩ := ins_get I.hok hb2
  obtain ⟨od, J, _⟩ := J.look
  obtain ⟨od2, J2, _⟩ := J2.look
  have XK := I.kIn
  have hsp : spEq R [.ref a, .ref b] H (fun v H2 => v = .bl true ∧ Ext H H2) E := ⟨a, b, rfl, hr, fun H2 e => ⟨rfl, e⟩⟩
  have sb1 := sb.in1
  have e0 : Env0 X.prog X.w X.K X.mg X.base A.in1 X.stack st H := by
    have e := I.env0
    exact ⟨by rw [sb1.fr]; exact e.frames, e.mod, e.bs, e.bsz, e.funs, e.frf, e.hok, e.bare⟩
  have hl := F.len _ _ _ _ hsp
  have r2 : Vals [V.ref a, V.ref b] [Value.ref a, Value.ref b] := .cons rfl (.cons rfl .nil)
  have calls : wpAny (model X.prog X.w) A.in1 (call (.ref f) [.ref a, .ref b]) (fun r s => r = .bool true ∧ ∃ H2, Inv X pn sg H2 s ∧ Ext H H2) X.xe st := by
    refine wpAny_call (codeAny_mono (F.run A.in1 X.stack st H ⟨[.ref a, .ref b], []⟩ [.ref a, .ref b] [.ref a, .ref b] _ E sb1.room e0 (by
      have := hb st [.ref a, .ref b] XK (by simpa using hl)
      simpa using this) r2 hsp) fun r s hq => ?_)
    cases r with
    | error e => exact hx pn sg H st e s I hq
    | ok fl =>
      cases fl with
      | ret w =>
        obtain ⟨z, H2, I2, rz, ez, ex⟩ := I.after hq
        subst ez
        cases rz
        exact ⟨rfl, H2, I2, ex⟩
      | next => exact False.elim hq
      | brk => exact False.elim hq
      | cont => exact False.elim hq
  have hob : PySem.W.Looks (model X.prog X.w) st.heap (isInstance (.ref a) (.type "object")) true := J.type.andThen (PySem.W.looks_subIn XK nn.ob)
  have body : wpAny (model X.prog X.w) A (call (.builtin "object.__ne__") [.ref a, .ref b]) (fun r s => r = .bool false ∧ ∃ H2, Inv X pn sg H2 s ∧ Ext H H2) X.xe st := by
    refine wpAny_call (codeAny_call_builtin PySem.F.cmp_object.ne.plain PySem.F.cmpEntry_ne (PySem.W.check_slot PySem.F.cmpKind_ne PySem.F.cmpSplit_ne hob (PySem.F.cmpArgs_ne _ _) ?_))
    unfold Builtin.«object.__ne__»
    refine wpAny_bind (m := slotArgs "__ne__" 1 _) (wpAny_pure ?_)
    refine wpAny_bind (wpAny_cRoomFor sb1.room.units0 ?_)
    refine wpAny_bind (PySem.W.ifBound_K XK J hs hf (wpAny_mono calls (fun r s q => ?_) fun _ _ e => e))
    obtain ⟨rfl, q⟩ := q
    refine wpAny_bind (wpAny_truthy_bool (wpAny_pure ?_))
    exact ⟨rfl, q⟩
  have one : wpAny (model X.prog X.w) A (tryCompare (.ref a) "__ne__" (.ref b)) (fun r s => r = some (.bool false) ∧ ∃ H2, Inv X pn sg H2 s ∧ Ext H H2) X.xe st := by
    unfold tryCompare callSpecialIfBound? bindSpecialIfBound?
    refine wpAny_bind (wpAny_holding (wpAny_bind (wpAny_bind (wpAny_bind (J.type.here ((PySem.W.looks_findIn XK nn.ne).here ?_))))))
    refine wpAny_bind (wpAny_askSetting (wpAny_ite ?_))
    have fin : wpAny (model X.prog X.w) A (call (.builtin "object.__ne__") ([.ref a] ++ [.ref b]) >>= fun v => pure (some v)) (fun r s => wpAny (model X.prog X.w) A (match r with | some .notImplemented | none => pure none | some v => pure (some v)) (fun r s => r = some (.bool false) ∧ ∃ H2, Inv X pn sg H2 s ∧ Ext H H2) X.xe s) X.xe st :=
      wpAny_bind (wpAny_mono body (fun v s ⟨e, q⟩ => wpAny_pure (by subst e; exact wpAny_pure ⟨rfl, q⟩)) fun _ _ h => h)
    simp only [PySem.F.cmp_object.ne.bind]
    split
    · exact wpAny_bind (wpAny_pure (wpAny_pure fin))
    · exact wpAny_tryCatch (wpAny_bind (wpAny_pure (wpAny_pure fin)))
  unfold richCompare
  simp only [oneThing_ref]
  refine wpAny_holding (wpAny_bind (wpAny_cRoomFor sb.room.units0 ?_))
  refine wpAny_bind (J.type.here (wpAny_bind (J2.type.here ?_)))
  split
  · rename_i q
    simp at q
  · refine wpAny_bind (wpAny_pure ?_)
    simp only [Bool.false_eq_true, if_false]
    refine wpAny_bind (wpAny_mono one (fun r s z => ?_) fun _ _ e => e)
    obtain ⟨rfl, q⟩ := z
    exact wpAny_pure ⟨rfl, q⟩
end
end FsR
end
section
/-! max(xs, default=d) over whole numbers. -/
set_option Elab.async false
set_option linter.all false
set_option maxRecDepth 100000
namespace FsR
open PySem PySem.Spec PySem.W PyProof.Rows L2
section
variable {prog : Program} {w : World} {A : Around} {R : Result → Shared → Prop} {It : Addr} {fp wr : List Addr} {n : Nat} {P : Nat → Value → Prop} {Z : Nat → Heap → Prop} {dv : Value}
theorem mxd_name : (toString "max" ++ toString ".loop" : String) = "max.loop" := by decide
theorem mxd_loop (W : Walks prog w A.in1 It fp wr n P Z) (bt : Nat → Nat → Bool) (hcmp : CmpOf prog w A.in1 .Gt P bt) (T : Addr) (hT : T ∉ fp) :
    ∀ (k j : Nat) (st : Shared) (vb : Value) (c : Nat), n - (j + 1) = k → j + 1 ≤ n → Z (j + 1) st.heap → P (argBest bt j) vb →
    st.heap.get? T = some { cls := .type "list", dict := none, data := .seq #[vb, vb] c, slots := #[] } →
    (∀ v h2 tk, P (argBest bt (n - 1)) v → (∀ b o, b ∉ wr → b ≠ T → st.heap.get? b = some o → h2.get? b = some o) → R (.ok (.ret v)) { st with heap := h2, toks := tk }) →
    codeAny (model prog w) A (.builtin "max.loop" ⟨[.ref It, .none, .ref T], [(Str.ofString "default", dv)]⟩) R st := by
  have nT : T ∉ wr := fun h => hT (W.sub _ h)
  intro k
  induction k with
  | zero =>
    intro j st vb c hk hj hz hP eT hR
    have hin : j + 1 = n := by omega
    refine codeAny_builtin PySem.F.entry_max_loop ?_
    rw [Around.under_plainId PySem.F.plain_max_loop _]
    show wpAny _ A.in1 (seqItems? (.ref T) >>= _) _ _ st
    refine wpAny_bind (wpAny_seqItems eT rfl ?_)
    show wpAny _ A.in1 (tryCatch (pyNext (.ref It)) _ >>= _) _ _ st
    refine wpAny_bind (wpAny_tryCatch (W.done st _ _ (hin ▸ hz) fun h2 tk hk2 => ?_))
    have eT2 := hk2 T _ nT eT
    show wpAny _ A.in1 (updateSeq T (fun _ => #[]) >>= _) _ _ _
    refine wpAny_bind ?_
    refine wpAny_updateSeq eT2 rfl (wpAny_bind (wpAny_letGo (wpAny_pure ?_)))
    exact hR vb _ tk (by rw [← hin]; exact hP) fun b o hb hbT e => (Heap.get?_update_other _ _ (Ne.symm hbT)).trans (hk2 b o hb e)
  | succ k ih =>
    intro j st vb c hk hj hz hP eT hR
    have hlt : j + 1 < n := by omega
    refine codeAny_builtin PySem.F.entry_max_loop ?_
    rw [Around.under_plainId PySem.F.plain_max_loop _]
    show wpAny _ A.in1 (seqItems? (.ref T) >>= _) _ _ st
    refine wpAny_bind (wpAny_seqItems eT rfl ?_)
    show wpAny _ A.in1 (tryCatch (pyNext (.ref It)) _ >>= _) _ _ st
    refine wpAny_bind (wpAny_tryCatch (W.item (j + 1) st _ _ hlt hz fun v h2 tk hv hz2 hk2 => ?_))
    have eT2 := hk2 T _ nT eT
    show wpAny _ A.in1 (tryCatch (holding [v, v] (richCompare .Gt v vb >>= _)) _ >>= _) _ _ _
    refine wpAny_bind (wpAny_tryCatch (wpAny_holding (wpAny_bind (hcmp (j + 1) (argBest bt j) v vb _ _ _ hv hP ?_))))
    refine wpAny_bind (wpAny_holding (wpAny_truthy_bool ?_))
    refine wpAny_bind (wpAny_letGo (wpAny_pure ?_))
    cases hb : bt (j + 1) (argBest bt j) with
    | true =>
      simp only [if_true]
      refine wpAny_bind ?_
      refine wpAny_updateSeq eT2 rfl (wpAny_bind (wpAny_letGo ?_))
      rw [mxd_name]
      refine wpAny_pure ⟨plainId_quiet PySem.F.plain_max_loop _, ih (j + 1) _ v _ (by omega) hlt (W.frame _ _ _ hz2 fun b hbf o e => ?_) (by simp only [argBest, hb, if_true]; exact hv) (Heap.get?_update_self _ eT2 rfl) fun u h3 t3 hu hk3 => ?_⟩
      · exact (Heap.get?_update_other _ _ (fun h : T = b => hT (by rw [h]; exact hbf))).trans e
      · exact hR u h3 t3 hu fun b o hbw hbT e => hk3 b o hbw hbT ((Heap.get?_update_other _ _ (Ne.symm hbT)).trans (hk2 b o hbw e))
    | false =>
      simp only [Bool.false_eq_true, if_false]
      refine wpAny_bind (wpAny_letGo ?_)
      rw [mxd_name]
      refine wpAny_pure ⟨plainId_quiet PySem.F.plain_max_loop _, ih (j + 1) _ vb c (by omega) hlt hz2 (by simp only [argBest, hb, Bool.false_eq_true, if_false]; exact hP) eT2 fun u h3 t3 hu hk3 => ?_⟩
      exact hR u h3 t3 hu fun b o hbw hbT e => hk3 b o hbw hbT (hk2 b o hbw e)
theorem mxd_first (W : Walks prog w A.in1 It fp wr n P Z) (bt : Nat → Nat → Bool) (hcmp : CmpOf prog w A.in1 .Gt P bt) (T : Addr) (hT : T ∉ fp) {st : Shared} {c : Nat} (hz : Z 0 st.heap)
    (eT : st.heap.get? T = some { cls := .type "list", dict := none, data := .seq #[] c, slots := #[] })
    (hR : ∀ v h2 tk, (n = 0 ∧ v = dv) ∨ (0 < n ∧ P (argBest bt (n - 1)) v) → (∀ b o, b ∉ wr → b ≠ T → st.heap.get? b = some o → h2.get? b = some o) → R (.ok (.ret v)) { st with heap := h2, toks := tk }) :
    codeAny (model prog w) A (.builtin "max.loop" ⟨[.ref It, .none, .ref T], [(Str.ofString "default", dv)]⟩) R st := by
  have nT : T ∉ wr := fun h => hT (W.sub _ h)
  refine codeAny_builtin PySem.F.entry_max_loop ?_
  rw [Around.under_plainId PySem.F.plain_max_loop _]
  show wpAny _ A.in1 (seqItems? (.ref T) >>= _) _ _ st
  refine wpAny_bind (wpAny_seqItems eT rfl ?_)
  show wpAny _ A.in1 (tryCatch (pyNext (.ref It)) _ >>= _) _ _ st
  by_cases hn : 0 < n
  · refine wpAny_bind (wpAny_tryCatch (W.item 0 st _ _ hn hz fun v h2 tk hv hz2 hk2 => ?_))
    have eT2 := hk2 T _ nT eT
    show wpAny _ A.in1 (updateSeq T (fun _ => #[v, v]) >>= _) _ _ _
    refine wpAny_bind ?_
    refine wpAny_updateSeq eT2 rfl ?_
    rw [mxd_name]
    refine wpAny_pure ⟨plainId_quiet PySem.F.plain_max_loop _, mxd_loop W bt hcmp T hT _ 0 _ v _ rfl hn (W.frame _ _ _ hz2 fun b hbf o e => ?_) hv (Heap.get?_update_self _ eT2 rfl) fun u h3 t3 hu hk3 => ?_⟩
    · exact (Heap.get?_update_other _ _ (fun h : T = b => hT (by rw [h]; exact hbf))).trans e
    · exact hR u h3 t3 (.inr ⟨hn, hu⟩) fun b o hbw hbT e => hk3 b o hbw hbT ((Heap.get?_update_other _ _ (Ne.symm hbT)).trans (hk2 b o hbw e))
  · have h0 : n = 0 := by omega
    subst h0
    refine wpAny_bind (wpAny_tryCatch (W.done st _ _ hz fun h2 tk hk2 => ?_))
    show wpAny _ A.in1 (rule _ >>= fun _ => ret dv) _ _ _
    wp_walk
    exact hR dv h2 tk (.inl ⟨rfl, rfl⟩) fun b o hb hbT e => hk2 b o hb e
end
section
variable {X : Cx}
/-- max(xs, default=d) -/
def rMaxD (K : PySem.W.Frag) : List V → List V → Hp → VK → Prop := fun vs zs H Q => ∃ (a : Addr) (ns : List Int) (d : Int), vs = [.ref a] ∧ zs = [.int d] ∧ SqL K H a (ns.map V.int) ∧
  (ns = [] → Q (.int d) H) ∧ ∀ m, m ∈ ns → (∀ y, y ∈ ns → y ≤ m) → Q (.int m) H
theorem call_maxD (hc : X.calm = true) : CallRK X (.builtin "max") [Str.ofString "default"] (rMaxD X.K) := by
  intro pn st sg Hq vs zs us ws Q I r rz h
  obtain ⟨a, ns, d, rfl, rfl, hs, q0, q⟩ := h
  obtain ⟨u1, rfl, r1⟩ := vals1 r
  obtain ⟨u2, rfl, r2⟩ := vals1 rz
  cases r1
  obtain ⟨tk0, rfl⟩ := r2
  obtain ⟨its, rv, hl, _⟩ := I.list hs
  have hh : X.A.in1.handled = none := I.ok.hd hc
  have hi := rv.ints
  obtain ⟨xs, e⟩ := hi.allInts.items
  have hn : numsOf (intItems xs).toList = ns := by rw [← e]; exact hi.numsOf
  rw [nums_intItems] at hn
  subst hn
  have hl2 := hl.isList
  rw [e] at hl2
  show wpAny _ _ (call (.builtin "max") [.ref a] [(Str.ofString "default", .int d tk0)]) _ _ _
  refine kmk_tree PySem.F.kind_max PySem.F.plain_max PySem.F.entry_max (by unfold argsOk; kernel_rfl) ?_
  show wpAny _ X.A.in1 (Builtin.Builtins.bindParams "max" ["key", "default"] 0 ⟨[], [(Str.ofString "default", .int d tk0)]⟩ >>= _) _ _ st
  refine wpAny_bind (wpAny_of_eq (show Builtin.Builtins.bindParams "max" ["key", "default"] 0 ⟨[], [(Str.ofString "default", .int d tk0)]⟩ = pure [none, some (.int d tk0)] from rfl) ?_)
  refine wpAny_bind (wpAny_pure ?_)
  refine wpAny_bind (iter_intList hl2 fun s2 e2 hst hfp hlI => ?_)
  subst e2
  refine wpAny_bind (wpAny_newList ?_ (Nat.zero_le _))
  rw [mxd_name]
  refine wpAny_pure ⟨plainId_quiet PySem.F.plain_max_loop _, ?_⟩
  have W := Walks.list (A := X.A.in1) (prog := X.prog) (w := X.w) hh st.heap.objs.size a hlI (intItems xs)
  generalize hB : st.heap.push { cls := .type "list_iterator", data := .fields #[.ref a, .int 0 0] } = B at hst hfp
  have kB : ∀ b o, st.heap.get? b = some o → B.get? b = some o := fun b o e => by rw [← hB]; exact Heap.get?_push_of_some _ e
  have nf : B.objs.size ∉ [st.heap.objs.size, a] := fun hm => Nat.lt_irrefl _ (hfp _ hm)
  have nB : st.heap.objs.size < B.objs.size := by rw [← hB, Heap.size_push]; exact Nat.lt_succ_self _
  refine mxd_first W (fun i j => decide (numAt xs i > numAt xs j)) (CmpOf.ints_gt (numAt xs) (fun _ _ => intItems_at)) B.objs.size nf (W.frame _ _ _ hst fun b _ o e => Heap.get?_push_of_some _ e) (Heap.get?_push_size _ rfl) fun v h2 tk hv hk => ?_
  have keep : ∀ b o, st.heap.get? b = some o → h2.get? b = some o := fun b o e => by
    have hb := Heap.lt_size e
    refine hk b o (fun hm => ?_) (Nat.ne_of_lt (Nat.lt_trans hb nB)) (Heap.get?_push_of_some _ (kB b o e))
    rcases List.mem_cons.mp hm with z | z
    · exact Nat.lt_irrefl _ (z ▸ hb)
    · cases z
  rcases hv with ⟨h0, rfl⟩ | ⟨h0, hv⟩
  · refine ⟨.int d, Hq, I.kept keep, ⟨_, rfl⟩, q0 ?_⟩
    have : xs.size = 0 := by simpa [intItems] using h0
    have : xs = #[] := Array.eq_empty_of_size_eq_zero this
    rw [this]; rfl
  · obtain ⟨t, rfl⟩ := intItems_at hv
    obtain ⟨h1, h2'⟩ := argBest_gt (numAt xs) ((intItems xs).size - 1)
    have hsz : (intItems xs).size = xs.size := by simp [intItems]
    rw [hsz] at h1 h2' h0
    refine ⟨.int _, Hq, I.kept keep, ⟨_, by rw [hsz]⟩, q _ ?_ fun y hy => ?_⟩
    · rw [numAt_eq]; exact PySem.getD_mem (by rw [List.length_map, Array.length_toList]; omega)
    · obtain ⟨j, hj, rfl⟩ := mem_getD hy
      rw [List.length_map, Array.length_toList] at hj
      rw [← numAt_eq]; exact h2' j (by omega)
end
end FsR
end
section
/-! sorted(rows, key=lambda row: (len(row[0]), row[0])); sorted(rows): rows of data. -/
set_option Elab.async false
set_option linter.all false
set_option maxRecDepth 100000
set_option maxHeartbeats 4000000
namespace FsR
open PySem PySem.Spec PySem.W PyProof.Rows L2 LamX
/-- all but the tables stay, the tables are such -/
structure Grw (T : List (Addr × Str)) (H H' : Hp) : Prop where
  ext : ExtN H H'
  tabs : Tabs T H → Tabs T H'
theorem Grw.refl {T : List (Addr × Str)} (H : Hp) : Grw T H H := ⟨.refl H, id⟩
theorem Grw.trans {T : List (Addr × Str)} {H H1 H2 : Hp} (a : Grw T H H1) (b : Grw T H1 H2) : Grw T H H2 := ⟨a.ext.trans b.ext, fun t => b.tabs (a.tabs t)⟩
theorem Grw.of {T : List (Addr × Str)} {H H' : Hp} (s : Same H H') : Grw T H H' := ⟨.of s, fun t => t.ext s⟩
theorem Grw.keep {T : List (Addr × Str)} {H H' : Hp} (g : Grw T H H') : Keep H H' := fun b xs h => g.ext b _ h fun _ z => by cases z
mutual
theorem rp_reads0 {X : Cx} {pn : List (Addr × Obj)} {sg : L2.St} {H : Hp} {st : Shared} (I : Inv X pn sg H st) : ∀ (d : NestedKey) {v : V} {u : Value}, Rp X.K H d v → RelV v u → Reads st.heap u d.data []
  | .num i, _, _, h, r => by
    obtain rfl := rp_num_iff.mp h
    obtain ⟨t, rfl⟩ := r
    exact Reads.int i t
  | .none, _, _, h, r => by
    simp only [Rp] at h
    subst h
    cases r
    exact Reads.none
  | .text x, _, _, h, r => by
    simp only [Rp] at h
    subst h
    obtain ⟨t, rfl⟩ := r
    exact Reads.str x t
  | .tup ds, _, _, h, r => by
    obtain ⟨a, xs, rfl, t, q⟩ := rp_tup_iff.mp h
    cases r
    obtain ⟨its, rv, ⟨o, ho, hc, n, hd⟩, _⟩ := I.tuple t.sq
    exact Reads.tuple ho hc hd (by
      have z := rpl_reads0 I ds q rv
      simpa using z)
theorem rpl_reads0 {X : Cx} {pn : List (Addr × Obj)} {sg : L2.St} {H : Hp} {st : Shared} (I : Inv X pn sg H st) : ∀ (ds : List NestedKey) {xs : List V} {us : List Value}, RpL X.K H ds xs → Vals xs us → ReadsAll st.heap us (NestedKey.datas ds) []
  | [], _, _, h, r => by
    obtain rfl := rpl_nil_iff.mp h
    cases r
    exact ReadsAll.nil
  | d :: ds, _, _, h, r => by
    obtain ⟨y, ys, rfl, q, qs⟩ := rpl_cons_iff.mp h
    cases r with
    | cons r rs => exact ReadsAll.cons (rp_reads0 I d q r) (rpl_reads0 I ds qs rs)
end

/-! ### the lambda's call -/
section
variable {X : Cx} {pn : List (Addr × Obj)} {sg : L2.St} {H : Hp} {st : Shared}
variable {p1 p2 p3 p4 p5 p6 p7 p8 p9 : Pos} {j1 j2 j3 : Nat}
/-- (len(row[0]), row[0]) -/
abbrev keyE (p1 p2 p3 p4 p5 p6 p7 p8 p9 : Pos) (j1 j2 j3 : Nat) : Expr :=
  .Tuple [.Call (.Name "len" p1) [.Subscript (.Name "row" p2) (.Constant (.int 0) j1 p3) p4] [] p5, .Subscript (.Name "row" p6) (.Constant (.int 0) j2 p7) p8] j3 p9
structure KeyS (scope : Scope) : Prop where
  kind : scope.kind = .function
  co : scope.isCoroutine = false
  gen : scope.isGenerator = false
  row : scope.names.lookup ("row" : Str) = some .local
  len : scope.names.lookup ("len" : Str) = some .globalImplicit
  nocell : ∀ y ∈ scope.names, y.2 ≠ .cell
/-- row[0] -/
theorem row_zero {A : Around} {env : Env} {E : Value → Shared → Prop} {h : Heap} {tk : Nat} {t b : Addr} {u1 : Value} {Q : Value → Shared → Prop} {pa pb pc : Pos} {j : Nat} {m : Str → Option Value} (hk : env.scope.kind = .function)
    (hl : env.kindOf "row" = some .local) (hn : h.Ns env.locals m) (hm : m "row" = some (.ref t)) (ht : IsTup h t #[.ref b, u1]) (q : ∀ tk, Q (.ref b) { st with heap := h, toks := tk }) :
    wpAny (model X.prog X.w) A (eval (.Subscript (.Name "row" pa) (.Constant (.int 0) j pb) pc) env) Q E { st with heap := h, toks := tk } := by
  refine Subscript_ (wpAny_Name (wpAny_loadName_local hk hl hn hm ?_))
  refine wpAny_Constant_int ?_
  exact subscriptTail_builtinR (x := .ref b) ht.typeIs slot_tuple_getitem.lookup (getItem_tuple (j := 0) (Q := fun r s2 => r = .ref b ∧ Q r s2) ht (by decide) (by decide) rfl rfl ⟨rfl, q _⟩) (by with_unfolding_all rfl)
theorem key_call {A : Around} {q : Str} {params : Arguments} {scope : Scope} {f c t b : Addr} {pm ctv u1 : Value} {ds : List NestedKey} {xs : List V} (I : Inv X pn sg H st) (S : KeyS scope) (hml : X.mg "len" = none)
    (hr : A.depth < recursionLimit) (hf : st.heap.get? f = some (kla_obj "<lambda>" q params (keyE p1 p2 p3 p4 p5 p6 p7 p8 p9 j1 j2 j3) scope [] pm c ctv)) (hc : st.heap.CodeRec (.ref c) q)
    (hbind : ∀ v, bindArgs (kla_fn "<lambda>" q params (keyE p1 p2 p3 p4 p5 p6 p7 p8 p9 j1 j2 j3) scope [] pm (.ref c) ctv) ⟨[v], []⟩ = pure [(("row" : Str), v)])
    (ht : IsTup st.heap t #[.ref b, u1]) (hb : Tp X.K H b xs) (hd : RpL X.K H ds xs) {h : Heap} {tk : Nat} (kp : ∀ a o, st.heap.get? a = some o → h.get? a = some o) :
    wpAny (model X.prog X.w) A (call (.ref f) [.ref t]) (KeyPure (.tuple [.int ds.length, (NestedKey.tup ds).data]) { st with heap := h, toks := tk }) (fun _ _ => False) { st with heap := h, toks := tk } := by
  have I1 : Inv X pn sg H { st with heap := h, toks := tk } := I.kept kp
  have kpc : h.CodeRec (.ref c) q := by
    obtain ⟨c2, oc, vs, tt, e1, e2, e3, e4⟩ := hc
    exact ⟨c2, oc, vs, tt, e1, kp _ _ e2, e3, e4⟩
  refine wpAny_call (kla_callFunE hr (kp _ _ hf) rfl S.co S.gen rfl kpc ?_)
  rw [hbind]
  refine wpAny_pure (wpAny_newFunctionEnv S.nocell (fun y hy => ?_) (fun h1 hns hsb => ⟨I1.nolimit.fresh _ hsb, ?_⟩) S.kind)
  · have : y = (("row" : Str), Value.ref t) := by simpa using hy
    rw [this]; exact S.row
  have k1 : ∀ a o, h.get? a = some o → h1.get? a = some o := fun a o e => hsb.extBut a o (Nat.ne_of_lt (Heap.lt_size e)) (Heap.get?_push_of_some _ e)
  generalize hE : newEnv scope h.objs.size mainGlobals [] (q ++ ".<locals>.") (some f) (.ref c) none builtinsNs = env
  have eK : env.scope = scope := by rw [← hE]; rfl
  have eL : env.locals = h.objs.size := by rw [← hE]; rfl
  have eG : env.globals = mainGlobals := by rw [← hE]; rfl
  have eB : env.builtins = builtinsNs := by rw [← hE]; rfl
  have kd : env.scope.kind = .function := by rw [eK]; exact S.kind
  have kr : env.kindOf "row" = some .local := by
    show env.scope.names.lookup ("row" : Str) = _
    rw [eK]; exact S.row
  have kl : env.kindOf "len" = some .globalImplicit := by
    show env.scope.names.lookup ("len" : Str) = _
    rw [eK]; exact S.len
  have hn : h1.Ns env.locals (fun x => ([("row", Value.ref t)] : List (Str × Value)).reverse.lookup x) := by rw [eL]; exact hns
  have ht1 : IsTup h1 t #[.ref b, u1] := by
    obtain ⟨o, e1, e2, e3⟩ := ht
    exact ⟨o, k1 _ _ (kp _ _ e1), e2, e3⟩
  have I2 : Inv X pn sg H { st with heap := h1, toks := tk } := I1.kept k1
  obtain ⟨its, rv, pl, hz⟩ := I2.tuple hb.sq
  have hlen := rv.length
  have hdl := hd.length
  have line := line63
  refine kla_codeExpr ?_
  refine wpAny_Tuple_spliced ?_
  show wpAny _ _ (spliced ((false, eval (.Call (.Name "len" p1) [.Subscript (.Name "row" p2) (.Constant (.int 0) j1 p3) p4] [] p5) env) :: backTo p9 (starEach [.Subscript (.Name "row" p6) (.Constant (.int 0) j2 p7) p8] env))) _ _ _
  refine Calls.spliced_cons (wpAny_Call_Name_kw ?_)
  obtain ⟨mb, b1, b2⟩ := I1.mod.blt
  refine Calls.Name_function_global kd kl (Calls.loadGlobal_builtin (by rw [eG]; exact (I1.mod.glob.keeps I1.bk).keeps k1) hml (by rw [eB]; exact (b1.keeps I1.bk).keeps k1) ((b2 _ (by decide)).trans PySem.boot_len) ?_) (by decide)
  refine PyProof.Rows.callWith_builtin1 ?_ rfl rfl
  show wpAny _ _ (spliced ((false, eval (.Subscript (.Name "row" p2) (.Constant (.int 0) j1 p3) p4) env) :: backTo p5 (starEach [] env))) _ _ _
  refine Calls.spliced_cons (row_zero kd kr hn rfl ht1 fun tk2 => Calls.spliced_nil ?_)
  refine PyProof.Rows.len_tuple pl (by simp only [List.size_toArray]; omega) ?_
  show wpAny _ _ (spliced ((false, eval (.Subscript (.Name "row" p6) (.Constant (.int 0) j2 p7) p8) env) :: backTo p9 (starEach [] env))) _ _ _
  refine Calls.spliced_cons (row_zero kd kr hn rfl ht1 fun tk3 => Calls.spliced_nil ⟨(by decide : 2 ≤ sizeLine), ?_⟩)
  have I3 : Inv X pn sg H { st with heap := h1.push { cls := .type "tuple", data := .seq #[.int (its.toArray.size : Int) (tk2 + 1), .ref b] }, toks := tk3 } := I2.kept fun a o e => Heap.get?_push_of_some _ e
  have rb : Rp X.K H (.tup ds) (.ref b) := rp_tup_iff.mpr ⟨b, xs, rfl, hb, hd⟩
  have e1 : (its.toArray.size : Int) = ds.length := by rw [List.size_toArray, ← hlen, hdl]
  refine ⟨_, _, rfl, fun a o e => Heap.get?_push_of_some _ (k1 a o e), ?_⟩
  rw [← e1]
  exact Reads.tuple (n := 0) (Heap.get?_push_size _ rfl) rfl rfl (ReadsAll.cons (Reads.int _ _) (ReadsAll.cons (rp_reads0 I3 _ rb rfl) ReadsAll.nil))
end
end FsR
end
section
/-! sorted(rows, key=lambda row: (len(row[0]), row[0])); sorted(rows): as rules. -/
set_option Elab.async false
set_option linter.all false
set_option maxRecDepth 100000
set_option maxHeartbeats 4000000
namespace FsR
open PySem PySem.Spec PySem.W PyProof.Rows L2 LamX
/-- a row to be sorted: its tuple, its product -/
abbrev SRow := Addr × List NestedKey
def keyOf (y : SRow) : PyData := .tuple [.int y.2.length, (NestedKey.tup y.2).data]
theorem each_refs {β : Type} (f : β → Addr) : ∀ (bs : List β), EachIs (fun (v : Value) (x : β) => v = .ref (f x)) (bs.map fun x => Value.ref (f x)) bs
  | [] => .nil
  | x :: bs => .cons rfl (each_refs f bs)
theorem refs_each {β : Type} {f : β → Addr} : ∀ {vs : List Value} {bs : List β}, EachIs (fun (v : Value) (x : β) => v = .ref (f x)) vs bs → Vals (bs.map fun x => V.ref (f x)) vs
  | _, _, .nil => .nil
  | _, _, .cons h t => by
    rw [h]
    exact .cons rfl (refs_each t)
theorem refs_valsF {β : Type} {f : β → Addr} : ∀ {bs : List β} {us : List Value}, Vals (bs.map fun x => V.ref (f x)) us → us = bs.map fun x => Value.ref (f x)
  | [], _, .nil => rfl
  | b :: bs, _, .cons r rs => by
    cases r
    rw [List.map_cons, ← refs_valsF rs]
section
variable {X : Cx} {T : List (Addr × Str)} {c P : Addr} {params : Arguments} {scope : Scope} {q : Str} {e : Expr} {te : TE} {p0 pos lpos kpos : Pos}
variable {p1 p2 p3 p4 p5 p6 p7 p8 p9 : Pos} {j1 j2 j3 : Nat}
/-- a row is a tuple of its product and something -/
def SRowOk (K : PySem.W.Frag) (H : Hp) (y : SRow) : Prop := ∃ b z xs, Tp K H y.1 [.ref b, z] ∧ Tp K H b xs ∧ RpL K H y.2 xs ∧ (NestedKey.tup y.2).data.depth ≤ 8
def rSortLam (K : PySem.W.Frag) (T : List (Addr × Str)) : List V → Hp → VK → Prop := fun vs H1 Q => ∃ (a : Addr) (bs : List SRow), vs = [.ref a] ∧ SqL K H1 a (bs.map fun y => V.ref y.1) ∧ (∀ y ∈ bs, SRowOk K H1 y) ∧ Tabs T H1 ∧ AllAlike (bs.map keyOf) ∧
  ∀ p H2, Grw T H1 H2 → H2 p = none → Q (.ref p) (upd H2 p (.lst ((bs.mergeSort (dataLe false keyOf)).map fun y => V.ref y.1)))
theorem SRowOk.keep {K : PySem.W.Frag} {H H' : Hp} {y : SRow} (h : SRowOk K H y) (k : Keep H H') : SRowOk K H' y := by
  obtain ⟨b, z, xs, h1, h2, h3, h4⟩ := h
  exact ⟨b, z, xs, h1.keep k, h2.keep k, RpL.keep k _ h3, h4⟩
theorem SqL.grw {K : PySem.W.Frag} {H H' : Hp} {a : Addr} {xs : List V} (h : SqL K H a xs) (g : Grw T H H') : SqL K H' a xs :=
  h.elim (fun h => .inl (h.elim (fun h => .inl (g.ext _ _ h fun _ z => by cases z)) fun ⟨o, h⟩ => .inr ⟨o, g.ext _ _ h fun _ z => by cases z⟩)) fun h => .inr h
theorem pe_sortedLam (TB : TabB X.base X.mg c P) (hcode : X.env.code = .ref c) (hq : X.env.qual ++ "<lambda>" = q) (hm : (P, q) ∈ T) (hu : ∀ p ∈ T, p.1 = P → p.2 = q) (hdef : defaultsOf params X.env = ([], []))
    (S : KeyS scope) (hfree : ∀ y ∈ scope.names, y.2 ≠ .free) (hcl : cloFrom X.env.cells scope.names [] = []) (hr : Room 3 X.A)
    (hbind : ∀ pm cv ctv v, bindArgs (kla_fn "<lambda>" q params (keyE p1 p2 p3 p4 p5 p6 p7 p8 p9 j1 j2 j3) scope [] pm cv ctv) ⟨[v], []⟩ = pure [(("row" : Str), v)])
    (hg : Gl X "sorted") (hms : X.mg "sorted" = none) (hml : X.mg "len" = none) (hv : bootBuiltins "sorted" = some (.builtin "sorted")) (he : PE X e te)
    (hse : starEach [e] X.env = (false, eval e X.env) :: starEach [] X.env := by rfl) (hst : backTo pos (starEach [e] X.env) = (false, eval e X.env) :: backTo pos (starEach [] X.env) := by rfl) (hpl : (backTo pos (starEach [e] X.env)).any (·.1) = false := by rfl) :
    PE X (.Call (.Name "sorted" p0) [e] [⟨some "key", .Lambda params (keyE p1 p2 p3 p4 p5 p6 p7 p8 p9 j1 j2 j3) scope lpos, kpos⟩] pos) (tCB (rSortLam X.K T) (tCons te tNil)) := by
  subst hq
  refine ⟨fun pn st sg Hq Q I h => ?_⟩
  refine wpAny_Call_Name_kw (ld_blt I hg hms hv ?_ (by decide) (by decide))
  refine PyProof.Rows.callWith_kw (thn ((pa_cons he pa_nil (hs := hse)).run pos pn st sg Hq _ I h) fun us s1 ⟨vs, H1, I1, r1, a, bs, ev, hs, hrow, hT, hal, hQ⟩ => ?_) hst hpl rfl rfl
  subst ev
  obtain ⟨u0, rfl, ru⟩ := vals1 r1
  cases ru
  show wpAny _ _ (evalAll ((do let v ← eval (.Lambda params (keyE p1 p2 p3 p4 p5 p6 p7 p8 p9 j1 j2 j3) scope lpos) X.env; standAt pos; pure v) :: (backToKw pos (keywordEach [] X.env)).map (·.2))) _ _ s1
  refine wpAny_evalAll_cons (wpAny_bind (lam_make2 I1 TB hcode hm hu hT hdef (fun y hy e => absurd e (hfree y hy)) fun f c2 pm ctv H2 s2 I2 e2 t2 hf n2 nf hc => wpAny_bind (wpAny_standAt (wpAny_pure ?_))))
  refine wpAny_evalAll_nil ?_
  rw [hcl] at hf
  have g2 : Grw T H1 H2 := ⟨e2, fun _ => t2⟩
  have hs2 := SqL.grw hs g2
  obtain ⟨its, rv, pl, hz⟩ := I2.list hs2
  have eit := refs_valsF rv
  have hcr : s2.heap.CodeRec (.ref c2) (X.env.qual ++ "<lambda>") := by
    obtain ⟨⟨oc, vs, t, b1, b2, b3⟩, _, _⟩ := I2.hok c2 _ hc
    exact ⟨c2, oc, vs, t, rfl, b1, b2, b3⟩
  have hbl : bs.length ≤ sizeLine := by simpa using hz
  have hdep : X.A.in1.in1.depth < recursionLimit := (hr.in1.in1).depth
  have hun := hr.units
  show wpAny _ _ (call (.builtin "sorted") [.ref a] [(Str.ofString "key", .ref f)]) _ _ _
  refine sorted_key_data (k := keyOf) (bs := bs) (vs := its) (R := fun v (x : SRow) => v = .ref x.1) pl.isList (by rw [eit]; exact each_refs _ bs) hal (Sortable.tuples fun y => ⟨_, _, rfl⟩) hbl (fun y hy => ?_) (ksk_s1 _ _) (fun x => by unfold argsOk; kernel_rfl) (fun x => ksk_t1 f x)
    (fun v y hv hy h tk kp => ?_) fun out cc h2 tk kp fr hD hlen hout => ?_
  · obtain ⟨b, z, xs, _, _, _, hd⟩ := hrow y hy
    have : (keyOf y).depth ≤ 9 := by
      show (PyData.tuple [.int y.2.length, (NestedKey.tup y.2).data]).depth ≤ 9
      simp only [PyData.depth, PyData.depthAll]
      omega
    omega
  · subst hv
    obtain ⟨b, z, xs, h1, h2, h3, _⟩ := (hrow y hy).keep g2.keep
    obtain ⟨its2, rv2, pl2, _⟩ := I2.tuple h1.sq
    obtain ⟨u1, u2, rfl, r1, r2⟩ := vals2 rv2
    cases r1
    exact key_call I2 S hml hdep hf hcr (fun v => hbind _ _ _ v) pl2 h2 h3 kp
  · have ev := refs_each hout
    have nn : H2 (s2.heap.objs.size + 1) = none := I2.hok.fresh (Nat.le_succ _)
    refine ⟨.ref (s2.heap.objs.size + 1), _, I2.laid (o := .lst ((bs.mergeSort (dataLe false keyOf)).map fun y => V.ref y.1)) (t' := tk) kp (Nat.le_succ _) ⟨?_, out, cc, ev, hD⟩, rfl, hQ _ H2 g2 nn⟩
    rw [List.length_map, List.length_mergeSort]
    exact hbl
end
/-! ### sorted(rows) -/
abbrev DRow := Addr × NestedKey
def rSortR (K : PySem.W.Frag) : List V → Hp → VK → Prop := fun vs H Q => ∃ (a : Addr) (bs : List DRow), vs = [.ref a] ∧ SqL K H a (bs.map fun y => V.ref y.1) ∧ (∀ y ∈ bs, Rp K H y.2 (.ref y.1) ∧ y.2.data.depth ≤ 8 ∧ ∃ x r, y.2.data = .tuple (x :: r)) ∧ AllAlike (bs.map fun y => y.2.data) ∧
  ∀ p, H p = none → Q (.ref p) (upd H p (.lst ((bs.mergeSort (dataLe false fun y => y.2.data)).map fun y => V.ref y.1)))
theorem each_mem {β : Type} {R : Value → β → Prop} (f : β → Addr) : ∀ (bs : List β), (∀ x ∈ bs, R (.ref (f x)) x) → EachIs R (bs.map fun x => Value.ref (f x)) bs
  | [], _ => .nil
  | x :: bs, h => .cons (h x List.mem_cons_self) (each_mem f bs fun y hy => h y (List.mem_cons_of_mem _ hy))
theorem cr_sortedR {X : Cx} (hun : X.A.units + 64 < cLine) : CallR X (.builtin "sorted") (rSortR X.K) := by
  intro pn st sg Hq vs us Q I r h
  obtain ⟨a, bs, rfl, hs, hrow, hal, hQ⟩ := h
  obtain ⟨u, rfl, ru⟩ := vals1 r
  cases ru
  obtain ⟨its, rv, pl, hz⟩ := I.list hs
  have eit := refs_valsF rv
  have hbl : bs.length ≤ sizeLine := by simpa using hz
  have hk : Sortable (bs.map fun y => y.2.data) := .inl fun d hd => by
    obtain ⟨y, hy, rfl⟩ := List.mem_map.mp hd
    exact (hrow y hy).2.2
  refine sorted_data (enc := fun y : DRow => y.2.data) (bs := bs) (vs := its) (R := fun v (x : DRow) => v = .ref x.1) pl.isList (by rw [eit]; exact each_refs _ bs) (by rw [eit]; exact each_mem _ bs fun y hy => ⟨[], rp_reads0 I _ (hrow y hy).1 rfl⟩) hal hk hbl (fun y hy => ?_) fun out hlen hout => ?_
  · have := (hrow y hy).2.1
    omega
  · have ev := refs_each hout
    have nn : Hq (st.heap.objs.size + 1) = none := I.hok.fresh (Nat.le_succ _)
    obtain ⟨ep, he⟩ := PyProof.Rows.sortedAll_at st.heap its (List.toArray out)
    refine ⟨.ref (st.heap.objs.size + 1), _, I.laid (o := .lst ((bs.mergeSort (dataLe false fun y => y.2.data)).map fun y => V.ref y.1)) (t' := st.toks) (fun _ _ => PyProof.Rows.sortedAll_old) (Nat.le_succ _) ⟨?_, out, ep, ev, he⟩, rfl, hQ _ nn⟩
    rw [List.length_map, List.length_mergeSort]
    exact hbl
end FsR
end
section
/-! set(tuple of ints), xs.count(flat). -/
set_option Elab.async false
set_option linter.all false
set_option maxRecDepth 100000
namespace FsR
open PySem PySem.Spec PyProof.Rows L2
section
variable {X : Cx}
def rSetT (K : PySem.W.Frag) (w : World) : List V → Hp → VK → Prop := fun vs H Q => ∃ (p : Addr) (ns : List Int), vs = [.ref p] ∧ SqT K H p (ns.map V.int) ∧ ns.length ≤ 60 ∧
  ∀ a c, c ≤ ns.length → H a = none → Q (.ref a) (upd H a (SetO w a (fun j => decide (j ∈ ns)) c))
theorem cr_setT (hc : X.calm = true) : CallR X (.type "set") (rSetT X.K X.w) := by
  intro pn st sg Hq vs us Q I r h
  obtain ⟨p, ns, rfl, hs, hl, q⟩ := h
  obtain ⟨u, rfl, ru⟩ := vals1 r
  cases ru
  obtain ⟨its, rv, pt, hz⟩ := I.tuple hs
  have hi : IntsAre its.toArray.toList ns := ints_of_vals rv
  refine call_set_tupI ns (I.ok.hd hc) (show st.heap.IsTuple p its.toArray from pt) hi (by unfold scanBound; omega) fun h2 tk c R1 hcn k => ?_
  exact ⟨.ref st.heap.objs.size, _, I.laid (t' := tk) k (Nat.le_refl _) (setO_new R1), rfl, q _ c hcn (I.hok.fresh (Nat.le_refl _))⟩
def rCntF (K : PySem.W.Frag) : V → List V → Hp → VK → Prop := fun x vs H Q => ∃ (a : Addr) (ys : List V) (y : V), x = V.ref a ∧ vs = [y] ∧ SqL K H a ys ∧ flatV y = true ∧ ys.all flatV = true ∧ Q (.int (ys.countP fun z => eqV z y)) H
theorem cnt_flat {y : V} {uy : Value} (ry : RelV y uy) (fy : flatV y = true) : ∀ {ys : List V} {us : List Value}, Vals ys us → ys.all flatV = true → us.countP (eqU y) = ys.countP fun z => eqV z y
  | [], _, .nil, _ => rfl
  | z :: ys, _, .cons r rs, f => by
    rw [List.all_cons, Bool.and_eq_true] at f
    rw [List.countP_cons, List.countP_cons, cnt_flat ry fy rs f.2, eqU_of r f.1]
theorem mt_lcountF : MtR X "list.count" (rCntF X.K) := by
  intro pn st sg Hq x vs v us Q I rx rxs h
  obtain ⟨a, ys, y, rfl, rfl, hs, fy, fys, q⟩ := h
  cases rx
  obtain ⟨uy, rfl, ry⟩ := vals1 rxs
  obtain ⟨its, rv, ⟨⟨cls, dd, data, sl⟩, n, ho, hc, hdn, hd⟩, hlen⟩ := I.list hs
  simp only at hc hd
  subst hc hd
  refine call_meets PySem.F.slot_list_count ⟨_, ho, rfl⟩ PySem.F.entry_list_count (PySem.F.args_list_count_2 _ _)
    (SeqAt.list_countAt a its.toArray n dd sl uy (eqU y)) ⟨ho, fun u' hu' => mem_eqAt ry fy rv fys u' (by simpa using hu'), ?_⟩
  have ec : its.toArray.toList.countP (eqU y) = ys.countP fun z => eqV z y := cnt_flat ry fy rv fys
  refine ⟨.int (ys.countP fun z => eqV z y), Hq, I.tok _, ⟨st.toks, ?_⟩, q⟩
  show Value.int ((its.toArray.toList.countP (eqU y) : Nat) : Int) st.toks = _
  rw [ec]
end
end FsR
end
section
/-! Defs as they are called; the data of the program; its objects. -/
set_option Elab.async false
set_option linter.all false
set_option maxRecDepth 100000
namespace FsR
open PySem PySem.Spec PyProof.Rows L2 LamX
/-! ### the text -/
def topS (i : Nat) : Stmt := PySem.Challenge.pw_falsesums_k30_whole_one_of_the_two.main.body.getD i (.Pass ⟨0, 0, 0, 0⟩)
/-- a def of the module -/
structure Gd (K : PySem.W.Frag) (mg : Str → Option Value) (x : Str) (st : Stmt) (dvs : List V) : Prop where
  ex : ∃ f fd, FunD K x x (defArgs st) (defBody st) (defScope st) dvs [] f fd ∧ mg x = some (.ref f)
/-- a method of the class at C -/
structure Md (K : PySem.W.Frag) (C : Addr) (x q : Str) (st : Stmt) (dvs : List V) : Prop where
  ex : ∃ f fd, FunD K x q (defArgs st) (defBody st) (defScope st) dvs [] f fd ∧ PySem.W.findIn K (.ref C) x = some (some (.ref f)) ∧ PySem.W.isFn K (.ref f) = true
/-- a def that can be called: its promise -/
structure Cal (P : Program) (w : World) (K : PySem.W.Frag) (mg : Str → Option Value) (base : Heap) (CX : CXT) (k : Nat) (x : Str) (ps : List Str) (ds : List V) (sp : Sp) : Prop where
  ex : ∃ f fd us, FnOk P w K mg base CX k f fd ps sp ∧ mg x = some (.ref f) ∧ PySem.W.keepIn K (.ref f) = true ∧ Binds K fd ps us ∧ Vals ds us
structure MCal (P : Program) (w : World) (K : PySem.W.Frag) (mg : Str → Option Value) (base : Heap) (CX : CXT) (C : Addr) (k : Nat) (x : Str) (ps : List Str) (ds : List V) (sp : Sp) : Prop where
  ex : ∃ f fd us, FnOk P w K mg base CX k f fd ps sp ∧ Meth K C x f ∧ Binds K fd ps us ∧ Vals ds us
section
variable {P : Program} {w : World} {K : PySem.W.Frag} {mg : Str → Option Value} {base : Heap} {CX : CXT} {k : Nat} {x q : Str} {C : Addr} {st : Stmt} {N ps : List Str} {dvs : List V} {sp : Sp}
/-- how arguments bind, none left out -/
def BndAll (x q : Str) (st : Stmt) (ps : List Str) : Prop := ∀ (kV doc pm : Value) (an : Option Addr) (cdv ct : Value) (us : List Value), us.length = ps.length → bindArgs (PySem.W.fnOf x q (defArgs st) (defBody st) (defScope st) .none kV doc pm an cdv ct) ⟨us, []⟩ = pure (ps.zip us)
/-- how they bind where defaults from the j-th on fill up, n written -/
def BndD (x q : Str) (st : Stmt) (ps : List Str) (m n j : Nat) : Prop := ∀ (T : Addr) (kV doc pm : Value) (an : Option Addr) (cdv ct : Value) (us its : List Value), us.length = n → its.length = m →
  ∃ k, bindArgs (PySem.W.fnOf x q (defArgs st) (defBody st) (defScope st) (.ref T) kV doc pm an cdv ct) ⟨us, []⟩ = seqItems? (.ref T) >>= k ∧ k (some its.toArray) = pure (ps.zip (us ++ its.drop j))
def BodyOk (P : Program) (w : World) (K : PySem.W.Frag) (mg : Str → Option Value) (base : Heap) (CX : CXT) (q : Str) (st : Stmt) (N : List Str) (k : Nat) (sp : Sp) : Prop :=
  ∀ (f : Addr) (cdv : Value) (A : Around) (outer : List Env) (s : Shared) (H : Hp) (vs : List V) (Q : VK) (E : XK), Room k (A.deeper (envOfC q (defScope st) s.heap.objs.size f cdv)) → sp vs H Q E →
    ∃ t, PSs (cxOf CX P w K mg base N q (defScope st) f cdv A outer s H E).nox (defBody st) t ∧ t { nx := fun _ H' => Q .non H', rt := Q } (start N vs) H
/-- .. of a def that may raise -/
def BodyX (P : Program) (w : World) (K : PySem.W.Frag) (mg : Str → Option Value) (base : Heap) (CX : CXT) (q : Str) (st : Stmt) (N : List Str) (k : Nat) (sp : Sp) : Prop :=
  ∀ (f : Addr) (cdv : Value) (A : Around) (outer : List Env) (s : Shared) (H : Hp) (vs : List V) (Q : VK) (E : XK), Room k (A.deeper (envOfC q (defScope st) s.heap.objs.size f cdv)) → sp vs H Q E →
    ∃ t, PSs (cxOf CX P w K mg base N q (defScope st) f cdv A outer s H E) (defBody st) t ∧ t { nx := fun _ H' => Q .non H', rt := Q } (start N vs) H
theorem BodyOk.toX (h : BodyOk P w K mg base CX q st N k sp) : BodyX P w K mg base CX q st N k sp := fun f cdv A outer s H vs Q E hr hs =>
  let ⟨t, a, b⟩ := h f cdv A outer s H vs Q E hr hs
  ⟨t, a.nox, b⟩
theorem cal_mkX (D : Gd K mg x st []) (hb : BndAll x x st ps) (S : FnScope N ps (defScope st)) (len : ∀ vs H Q E, sp vs H Q E → vs.length = ps.length) (body : BodyX P w K mg base CX x st N k sp) : Cal P w K mg base CX (k + 1) x ps [] sp := by
  obtain ⟨f, fd, F, hm⟩ := D.ex
  exact ⟨f, fd, [], F.ok S len (fun cdv A outer s H vs Q E hr h => body f cdv A outer s H vs Q E hr h), hm, F.kp, F.bindsN hb, .nil⟩
theorem cal_mk (D : Gd K mg x st []) (hb : BndAll x x st ps) (S : FnScope N ps (defScope st)) (len : ∀ vs H Q E, sp vs H Q E → vs.length = ps.length) (body : BodyOk P w K mg base CX x st N k sp) : Cal P w K mg base CX (k + 1) x ps [] sp := by
  obtain ⟨f, fd, F, hm⟩ := D.ex
  exact ⟨f, fd, [], F.ok S len (fun cdv A outer s H vs Q E hr h => (BodyOk.toX body) f cdv A outer s H vs Q E hr h), hm, F.kp, F.bindsN hb, .nil⟩
theorem mcal_mk (D : Md K C x q st []) (hb : BndAll x q st ps) (S : FnScope N ps (defScope st)) (len : ∀ vs H Q E, sp vs H Q E → vs.length = ps.length) (body : BodyOk P w K mg base CX q st N k sp) : MCal P w K mg base CX C (k + 1) x ps [] sp := by
  obtain ⟨f, fd, F, h1, h2⟩ := D.ex
  exact ⟨f, fd, [], F.ok S len (fun cdv A outer s H vs Q E hr h => (BodyOk.toX body) f cdv A outer s H vs Q E hr h), ⟨h1, h2, F.kp⟩, F.bindsN hb, .nil⟩
theorem mcal_mkD (D : Md K C x q st dvs) (n j : Nat) (hd : dvs ≠ []) (hn : n + (dvs.length - j) = ps.length) (hb : BndD x q st ps dvs.length n j) (S : FnScope N ps (defScope st)) (len : ∀ vs H Q E, sp vs H Q E → vs.length = ps.length) (body : BodyOk P w K mg base CX q st N k sp) :
    MCal P w K mg base CX C (k + 1) x ps (dvs.drop j) sp := by
  obtain ⟨f, fd, F, h1, h2⟩ := D.ex
  obtain ⟨ds, r, b⟩ := F.binds1 n j hd hn hb
  exact ⟨f, fd, ds, F.ok S len (fun cdv A outer s H vs Q E hr h => (BodyOk.toX body) f cdv A outer s H vs Q E hr h), ⟨h1, h2, F.kp⟩, b, r⟩
end
section
variable {X : Cx} {CX : CXT} {k : Nat} {x m : Str} {C : Addr} {ps : List Str} {ds : List V} {sp : Sp} {E : XK} {p pos apos : Pos} {o e : Expr} {es : List Expr} {t : TA} {ta : TE}
theorem pc (c : Cal X.prog X.w X.K X.mg X.base CX0 k x ps ds sp) (hr : Room k X.A) (ha : PA X (e :: es) t) (hg : Gl X x := by rfl) (hdb : (x == ("__debug__" : Str)) = false := by decide)
    (he : starEach (e :: es) X.env = (false, eval e X.env) :: starEach es X.env := by rfl) (hpl : (backTo pos (starEach es X.env)).any (·.1) = false := by rfl) : PE X (.Call (.Name x p) (e :: es) [] pos) (tCall sp ds E0 t) := by
  obtain ⟨f, fd, us, F, hm, hk, hb, hd⟩ := c.ex
  exact pe_call F hr hg hm hk hb hd pass0 ha hdb he hpl
theorem pcm (c : MCal X.prog X.w X.K X.mg X.base CX0 C k m ps ds sp) (hc : Cls X.K C) (hr : Room k X.A) {pl : Sem Bool} (he : PE X o ta) (ha : PA X (e :: es) t)
    (hst : starEach (e :: es) X.env = (false, eval e X.env) :: starEach es X.env := by rfl) (hpl : (backTo pos (starEach es X.env)).any (·.1) = false := by rfl)
    (ht : eval (.Call (.Attribute o m apos) (e :: es) [] pos) X.env = (do
      let ov ← eval o X.env
      standAt apos.atName
      let (f, first) ← holding [ov] (getMethod ov m pl)
      callWith pos f first (backTo pos (starEach (e :: es) X.env)) (backToKw pos (keywordEach [] X.env))) := by rfl) : PE X (.Call (.Attribute o m apos) (e :: es) [] pos) (tMeth C m sp ds E0 ta t) := by
  obtain ⟨f, fd, us, F, hm, hb, hd⟩ := c.ex
  exact pe_meth he hc hm F hr hb hd pass0 ha hst hpl ht
theorem pcm0 (c : MCal X.prog X.w X.K X.mg X.base CX0 C k m ps ds sp) (hc : Cls X.K C) (hr : Room k X.A) {pl : Sem Bool} (he : PE X o ta)
    (ht : eval (.Call (.Attribute o m apos) [] [] pos) X.env = (do
      let ov ← eval o X.env
      standAt apos.atName
      let (f, first) ← holding [ov] (getMethod ov m pl)
      callWith pos f first (backTo pos (starEach [] X.env)) (backToKw pos (keywordEach [] X.env))) := by rfl) : PE X (.Call (.Attribute o m apos) [] [] pos) (tMeth C m sp ds E0 ta tNil) := by
  obtain ⟨f, fd, us, F, hm, hb, hd⟩ := c.ex
  exact pe_meth0 he hc hm F hr hb hd pass0 ht
/-- a class of the program that makes instances by its __init__ -/
structure MkC (K : PySem.W.Frag) (mg : Str → Option Value) (C : Addr) (x : Str) : Prop where
  makes : PySem.W.makesIn K C = true
  kp : PySem.W.keepIn K (.ref C) = true
  mg : mg x = some (.ref C)
theorem pmk (c : MCal X.prog X.w X.K X.mg X.base CX0 C k "__init__" ps ds sp) (M : MkC X.K X.mg C x) (hr : Room (k + 1) X.A) (ha : PA X (e :: es) t) (hg : Gl X x := by rfl) (hdb : (x == ("__debug__" : Str)) = false := by decide)
    (he : starEach (e :: es) X.env = (false, eval e X.env) :: starEach es X.env := by rfl) (hpl : (backTo pos (starEach es X.env)).any (·.1) = false := by rfl) : PE X (.Call (.Name x p) (e :: es) [] pos) (tMake C sp ds E0 t) := by
  obtain ⟨f, fd, us, F, hm, hb, hd⟩ := c.ex
  exact pe_make ⟨M.makes, hm.at_, hm.fn, M.kp⟩ F hr hg M.mg hb hd pass0 ha hdb he hpl
end

/-! ### data -/
open Fs
section
variable {K : Type} [Num K]
def nk (x : K) : NestedKey := .tup [.num (Num.enc x).1, .num (Num.enc x).2]
end
def pk (q : Pr) : NestedKey := .tup ((places q).map fun (i : Nat) => .num (i : Int))
def mkk (u : Mk) : NestedKey := .tup [.num (u.1.val : Int), pk u.2]
mutual
def numB : NestedKey → Bool
  | .num _ => true
  | .tup ds => numsB ds
  | _ => false
def numsB : List NestedKey → Bool
  | [] => true
  | d :: ds => numB d && numsB ds
end
theorem numsB_all {ds : List NestedKey} (h : ∀ d ∈ ds, numB d = true) : numsB ds = true := by
  induction ds with
  | nil => simp [numsB]
  | cons d ds ih => simp [numsB, h d List.mem_cons_self, ih fun e he => h e (List.mem_cons_of_mem _ he)]
mutual
theorem lay_of : ∀ d : NestedKey, numB d = true → d.data.canLay0 = true
  | .num _, _ => by simp [NestedKey.data, PyData.canLay0]
  | .none, h => by simp [numB] at h
  | .text _, h => by simp [numB] at h
  | .tup ds, h => by
    simp only [NestedKey.data, PyData.canLay0]
    exact lay_ofs ds (by simpa [numB] using h)
theorem lay_ofs : ∀ ds : List NestedKey, numsB ds = true → PyData.canLayAll0 (NestedKey.datas ds) = true
  | [], _ => by simp [NestedKey.datas, PyData.canLayAll0]
  | d :: ds, h => by
    simp only [numsB, Bool.and_eq_true] at h
    simp [NestedKey.datas, PyData.canLayAll0, lay_of d h.1, lay_ofs ds h.2]
end
theorem fine_of {d : NestedKey} (n : numB d = true) (h : d.data.depth ≤ 64) : Fine d := by
  show (d.data.canLay0 && decide (d.data.depth ≤ 64)) = true
  rw [lay_of d n, decide_eq_true h]
  rfl
theorem fineL_of {ds : List NestedKey} (n : numsB ds = true) (h : PyData.depthAll (NestedKey.datas ds) ≤ 63) : FineL ds := by
  show ((PyData.list (NestedKey.datas ds)).canLay0 && decide ((PyData.list (NestedKey.datas ds)).depth ≤ 64)) = true
  have e : (PyData.list (NestedKey.datas ds)).canLay0 = true := by
    simp only [PyData.canLay0]
    exact lay_ofs ds n
  rw [e, decide_eq_true (by simp only [PyData.depth]; omega)]
  rfl
theorem depthAll_le {n : Nat} : ∀ {ds : List NestedKey}, (∀ d ∈ ds, d.data.depth ≤ n) → PyData.depthAll (NestedKey.datas ds) ≤ n
  | [], _ => by simp [NestedKey.datas, PyData.depthAll]
  | d :: ds, h => by
    have h1 := h d List.mem_cons_self
    have h2 := depthAll_le (n := n) (ds := ds) fun e he => h e (List.mem_cons_of_mem _ he)
    simp only [NestedKey.datas, PyData.depthAll]
    omega
theorem fine_pk (q : Pr) : Fine (pk q) ∧ (pk q).depth ≤ 8 ∧ (pk q).data.depth ≤ 8 := by
  have h : ∀ q : Pr, (SeqAt.shaped (pk q).data = true ∧ decide ((pk q).depth ≤ 8) = true) ∧ decide ((pk q).data.depth ≤ 8) = true := by decide +kernel
  exact ⟨(h q).1.1, of_decide_eq_true (h q).1.2, of_decide_eq_true (h q).2⟩
theorem pk_inj {p q : Pr} (h : pk p = pk q) : p = q := by
  have e : ∀ {as bs : List Nat}, as.map (fun (i : Nat) => NestedKey.num (i : Int)) = bs.map (fun (i : Nat) => NestedKey.num (i : Int)) → as = bs := by
    intro as
    induction as with
    | nil => intro bs h; cases bs with
      | nil => rfl
      | cons _ _ => cases h
    | cons a as ih => intro bs h; cases bs with
      | nil => cases h
      | cons b bs =>
        rw [List.map_cons, List.map_cons] at h
        injection h with h1 h2
        injection h1 with h1
        rw [Int.ofNat_inj.mp h1, ih h2]
  exact places_inj p q (e (NestedKey.tup.inj h))
theorem mkk_inj {a b : Mk} (h : mkk a = mkk b) : a = b := by
  have e := NestedKey.tup.inj h
  injection e with e1 e2
  injection e2 with e2 _
  injection e1 with e1
  exact Prod.ext (Fin.ext (Int.ofNat_inj.mp e1)) (pk_inj e2)
theorem fine_mkk (u : Mk) : (mkk u).depth ≤ 8 := by
  have h : ∀ (i : Fin 4) (q : Pr), decide ((mkk (i, q)).depth ≤ 8) = true := by decide +kernel
  exact of_decide_eq_true (h u.1 u.2)
section
variable {K : Type} [Num K]
theorem nk_inj {x y : K} (h : nk x = nk y) : x = y := by
  have e := NestedKey.tup.inj h
  injection e with e1 e2
  injection e2 with e2 _
  injection e1 with e1
  injection e2 with e2
  exact Num.enc_inj _ _ (Prod.ext e1 e2)
theorem fine_nums (a b : Int) : Fine (.tup [.num a, .num b]) := fine_of (by simp [numB, numsB]) (by simp [NestedKey.data, NestedKey.datas, PyData.depth, PyData.depthAll])
theorem fine_nk (x : K) : Fine (nk x) := fine_nums _ _
/-- a term: its product, its number -/
def tk (t : Pr × K) : NestedKey := .tup [pk t.1, nk t.2]
theorem numB_pk : ∀ q : Pr, numB (pk q) = true := by decide +kernel
theorem numB_nk (x : K) : numB (nk x) = true := by simp [nk, numB, numsB]
theorem numB_tk (t : Pr × K) : numB (tk t) = true := by simp [tk, numB, numsB, numB_pk, numB_nk]
theorem dep_nk (x : K) : (nk x).data.depth ≤ 2 ∧ (nk x).depth ≤ 8 := by
  constructor
  · simp [nk, NestedKey.data, NestedKey.datas, PyData.depth, PyData.depthAll]
  · simp [nk, NestedKey.depth, NestedKey.depthAll]
theorem dep_tk (t : Pr × K) : (tk t).data.depth ≤ 9 := by
  have h1 := (fine_pk t.1).2.2
  have h2 := (dep_nk t.2).1
  simp only [tk, NestedKey.data, NestedKey.datas, PyData.depth, PyData.depthAll]
  omega
theorem fineL_tks (ts : List (Pr × K)) : FineL (ts.map tk) := fineL_of (numsB_all fun d hd => by
  obtain ⟨t, _, rfl⟩ := List.mem_map.mp hd
  exact numB_tk t) (Nat.le_trans (depthAll_le (n := 9) fun d hd => by
  obtain ⟨t, _, rfl⟩ := List.mem_map.mp hd
  exact dep_tk t) (by decide))
/-- the terms of a row, in the program's order -/
def canon (f : Row K) : List (Pr × K) := (prods.filter fun q => decide (f q ≠ 0)).map fun q => (q, f q)
end
end FsR
end
section
/-! What the walks ask of the program's top. -/
set_option Elab.async false
set_option linter.all false
set_option maxRecDepth 100000
namespace FsR
open PySem PySem.Spec PyProof.Rows L2 LamX
/-- where the classes and the two constant tuples stand -/
structure Ad where
  F : Addr
  L : Addr
  S : Addr
  Y : Addr
  Z : Addr
  O : Addr
  gc : Addr
  gP : Addr
  lc : Addr
  lP : Addr
def KTup (K : PySem.W.Frag) (a : Addr) (xs : List V) : Prop := ∃ (o : Obj) (its : Array Value) (n : Nat), K.lookup a = some o ∧ o.cls = .type "tuple" ∧ o.data = .seq its n ∧ its.size ≤ sizeLine ∧ Vals xs its.toList
/-- a def of the module, its code object -/
structure GdC (K : PySem.W.Frag) (mg : Str → Option Value) (x : Str) (st : Stmt) (dvs : List V) (cdv : Value) : Prop where
  ex : ∃ f fd, FunD K x x (defArgs st) (defBody st) (defScope st) dvs [] f fd ∧ mg x = some (.ref f) ∧ fd.code = cdv
/-- what the top has left -/
structure Txt (K : PySem.W.Frag) (mg : Str → Option Value) (A : Ad) : Prop where
  len : mg "len" = none
  abs : mg "abs" = none
  min : mg "min" = none
  max : mg "max" = none
  isinstance : mg "isinstance" = none
  range : mg "range" = none
  list : mg "list" = none
  tuple : mg "tuple" = none
  sorted : mg "sorted" = none
  set : mg "set" = none
  dict : mg "dict" = none
  int : mg "int" = none
  bool : mg "bool" = none
  enumerate : mg "enumerate" = none
  zip : mg "zip" = none
  MOST_PRIME : ∃ u, mg "MOST_PRIME" = some u ∧ RelV (.int 97) u
  MOST_PLACES : ∃ u, mg "MOST_PLACES" = some u ∧ RelV (.int 60) u
  MOST_WISHES : ∃ u, mg "MOST_WISHES" = some u ∧ RelV (.int 200) u
  MOST_DEGREE : ∃ u, mg "MOST_DEGREE" = some u ∧ RelV (.int 300) u
  MOST_PRODUCTS : ∃ u, mg "MOST_PRODUCTS" = some u ∧ RelV (.int 600) u
  MOST_PAIRS : ∃ u, mg "MOST_PAIRS" = some u ∧ RelV (.int 2000) u
  ZERO : mg "ZERO" = some (.ref A.Z)
  ONE : mg "ONE" = some (.ref A.O)
  zero : KTup K A.Z [.int 0, .int 1]
  one : KTup K A.O [.int 1, .int 1]
  Field : mg "Field" = some (.ref A.F)
  clF : Cls K A.F
  mkF : MkC K mg A.F "Field"
  nF_own_prime : NoAttr K A.F "own_prime"
  Lines : mg "Lines" = some (.ref A.L)
  clL : Cls K A.L
  mkL : MkC K mg A.L "Lines"
  nL_line_field : NoAttr K A.L "line_field"
  nL_by_head : NoAttr K A.L "by_head"
  Sum : mg "Sum" = some (.ref A.S)
  clS : Cls K A.S
  mkS : MkC K mg A.S "Sum"
  nS_own_field : NoAttr K A.S "own_field"
  nS_row : NoAttr K A.S "row"
  System : mg "System" = some (.ref A.Y)
  clY : Cls K A.Y
  mkY : MkC K mg A.Y "System"
  nY_own_field : NoAttr K A.Y "own_field"
  nY_many_places : NoAttr K A.Y "many_places"
  nY_nought_sums : NoAttr K A.Y "nought_sums"
  nY_upper_sums : NoAttr K A.Y "upper_sums"
  isF : C8.InsC K A.F
  neF : NoNe K A.F
  isS : C8.InsC K A.S
  neS : NoNe K A.S
  isY : C8.InsC K A.Y
  neY : NoNe K A.Y
  g_is_whole : Gd K mg "is_whole" (topS 15) []
  g_is_prime : Gd K mg "is_prime" (topS 16) []
  g_lowest : Gd K mg "lowest" (topS 17) []
  g_order_of : Gd K mg "order_of" (topS 20) []
  g_is_place : Gd K mg "is_place" (topS 24) []
  g_is_product : Gd K mg "is_product" (topS 25) []
  g_joined_product : Gd K mg "joined_product" (topS 26) []
  g_look_at_terms : Gd K mg "look_at_terms" (topS 31) []
  g_gathered : GdC K mg "gathered" (topS 32) [] (.ref A.gc)
  g_is_wish : Gd K mg "is_wish" (topS 36) []
  g_look_at_wishes : Gd K mg "look_at_wishes" (topS 37) []
  g_look_at_degree : Gd K mg "look_at_degree" (topS 41) []
  g_products_many : Gd K mg "products_many" (topS 42) []
  g_products_of : Gd K mg "products_of" (topS 43) []
  g_pairs_of : Gd K mg "pairs_of" (topS 47) []
  g_look_at_many : Gd K mg "look_at_many" (topS 48) []
  g_beside : Gd K mg "beside" (topS 49) []
  g_lines_of : Gd K mg "lines_of" (topS 50) []
  g_showing_by : Gd K mg "showing_by" (topS 51) []
  g_told : Gd K mg "told" (topS 52) []
  g__law_room : Gd K mg "_law_room" (topS 54) []
  g__law_take : Gd K mg "_law_take" (topS 55) []
  g__law_lowest : Gd K mg "_law_lowest" (topS 56) []
  g__law_make : Gd K mg "_law_make" (topS 57) []
  g__law_plus : Gd K mg "_law_plus" (topS 58) []
  g__law_times : Gd K mg "_law_times" (topS 59) []
  g__law_prime : Gd K mg "_law_prime" (topS 60) []
  g__law_number : Gd K mg "_law_number" (topS 61) []
  g__law_product : Gd K mg "_law_product" (topS 62) []
  g__law_terms : Gd K mg "_law_terms" (topS 63) []
  g__law_gather : Gd K mg "_law_gather" (topS 64) []
  g__law_worth : Gd K mg "_law_worth" (topS 65) []
  g__law_filling : Gd K mg "_law_filling" (topS 66) []
  g__law_whole : Gd K mg "_law_whole" (topS 67) []
  g__law_is_number : Gd K mg "_law_is_number" (topS 68) []
  g__law_wish : Gd K mg "_law_wish" (topS 69) []
  g__law_upper : Gd K mg "_law_upper" (topS 70) []
  g__law_wishes : Gd K mg "_law_wishes" (topS 71) []
  g__law_mult : Gd K mg "_law_mult" (topS 72) []
  g__law_products : Gd K mg "_law_products" (topS 73) []
  g__law_degree : Gd K mg "_law_degree" (topS 74) []
  g__law_is_showing : Gd K mg "_law_is_showing" (topS 75) []
  g__law_is_worths : Gd K mg "_law_is_worths" (topS 76) []
  g__law_system : Gd K mg "_law_system" (topS 77) []
  g__law_all : Gd K mg "_law_all" (topS 78) []
  g__law_kind : Gd K mg "_law_kind" (topS 79) []
  g__law_word : Gd K mg "_law_word" (topS 80) []
  g__law_right : Gd K mg "_law_right" (topS 81) []
  g__law_told_anew : Gd K mg "_law_told_anew" (topS 82) []
  m_Field_init : Md K A.F "__init__" "Field.__init__" (inClass (topS 18) 0) [.int 0]
  m_Field_eq : Md K A.F "__eq__" "Field.__eq__" (inClass (topS 18) 1) []
  m_Field_prime : Md K A.F "prime" "Field.prime" (inClass (topS 18) 3) []
  m_Field_made : Md K A.F "made" "Field.made" (inClass (topS 18) 4) [.int 1]
  m_Field_plus : Md K A.F "plus" "Field.plus" (inClass (topS 18) 5) []
  m_Field_minus : Md K A.F "minus" "Field.minus" (inClass (topS 18) 6) []
  m_Field_times : Md K A.F "times" "Field.times" (inClass (topS 18) 7) []
  m_Field_over : Md K A.F "over" "Field.over" (inClass (topS 18) 8) []
  m_Field_is_number : Md K A.F "is_number" "Field.is_number" (inClass (topS 18) 9) []
  m_Lines_init : Md K A.L "__init__" "Lines.__init__" (inClass (topS 21) 0) []
  m_Lines_less : Md K A.L "less" "Lines.less" (inClass (topS 21) 1) []
  m_Lines_put : Md K A.L "put" "Lines.put" (inClass (topS 21) 2) []
  m_Lines_made_of : Md K A.L "made_of" "Lines.made_of" (inClass (topS 21) 3) []
  m_Lines_nought_on_all : Md K A.L "nought_on_all" "Lines.nought_on_all" (inClass (topS 21) 5) []
  m_Sum_init : Md K A.S "__init__" "Sum.__init__" (inClass (topS 33) 0) [.non]
  m_Sum_eq : Md K A.S "__eq__" "Sum.__eq__" (inClass (topS 33) 1) []
  m_Sum_field : Md K A.S "field" "Sum.field" (inClass (topS 33) 5) []
  m_Sum_terms : Md K A.S "terms" "Sum.terms" (inClass (topS 33) 6) []
  m_Sum_degree : Md K A.S "degree" "Sum.degree" (inClass (topS 33) 7) []
  m_Sum_reach : Md K A.S "reach" "Sum.reach" (inClass (topS 33) 8) []
  m_System_init : Md K A.Y "__init__" "System.__init__" (inClass (topS 38) 0) [.non]
  m_System_eq : Md K A.Y "__eq__" "System.__eq__" (inClass (topS 38) 1) []
  m_System_field : Md K A.Y "field" "System.field" (inClass (topS 38) 3) []
  m_System_places : Md K A.Y "places" "System.places" (inClass (topS 38) 4) []
  m_System_noughts : Md K A.Y "noughts" "System.noughts" (inClass (topS 38) 5) []


theorem pe_const {X : Cx} {x : Str} {v : V} {pos : Pos} (h : ∃ u, X.mg x = some u ∧ RelV v u) (hg : Gl X x := by rfl) (hd : (x == ("__debug__" : Str)) = false := by decide) : PE X (.Name x pos) (tC v) := by
  obtain ⟨u, h1, h2⟩ := h
  exact pe_glob hg h1 h2 hd
theorem KTup.tp {K : PySem.W.Frag} {a : Addr} {xs : List V} (t : KTup K a xs) (H : Hp) : Tp K H a xs := .inr t
/-- the tables of the two lambdas -/
def Ad.tabs (A : Ad) : List (Addr × Str) := [(A.gP, "gathered.<locals>.<lambda>"), (A.lP, "law.<locals>.<lambda>")]
structure TX (base : Heap) (mg : Str → Option Value) (A : Ad) : Prop where
  gath : TabB base mg A.gc A.gP
  law : TabB base mg A.lc A.lP
  ne : A.gP ≠ A.lP
theorem tp_ty {K : PySem.W.Frag} {H : Hp} {a : Addr} {xs : List V} (t : Tp K H a xs) : TyX K H (.ref a) (.type "tuple") := by
  rcases t with t | ⟨o, its, n, h1, h2, _⟩
  · exact .base (.tup t)
  · exact .kTuple h1 h2
end FsR
end
section
/-! Rules as they stand within a comprehension's block: the written part named. -/
set_option Elab.async false
set_option linter.all false
set_option maxRecDepth 100000
namespace FsR
open PySem PySem.Spec PyProof.Rows L2 LamX
section
variable {X : Cx} (K : PySem.W.Frag) (w : World)
theorem pe_fldB {e : Expr} {ta : TE} {f : Str} {pos : Pos} (h : X.K = K) (he : PE X e ta) (hb : attributeBase e f X.env (eval e X.env) = eval e X.env) : PE X (.Attribute e f pos) (tFld K ta f) := by
  subst h
  exact pe_fld he hb
theorem ix_tupB (h : X.K = K) : IxR X (rIxT K) := by
  subst h
  exact ix_tup
theorem ix_listB (h : X.K = K) : IxR X (rIxL K) := by
  subst h
  exact ix_list
theorem ix_dicB (h : X.K = K) (hw : X.w = w) (hu : X.A.units + 64 < cLine) : IxR X (rIxD K w) := by
  subst h hw
  exact ix_dic hu
theorem op_inDB (h : X.K = K) (hw : X.w = w) (hu : X.A.units + 64 < cLine) : OpR X (compareOp .In) (rInD K w false) := by
  subst h hw
  exact op_inD' hu
def rLenS (K : PySem.W.Frag) : List V → Hp → VK → Prop := fun xs H Q => ∃ p ys, xs = [V.ref p] ∧ (SqL K H p ys ∨ SqT K H p ys) ∧ Q (.int ys.length) H
theorem call_lenB (h : X.K = K) : CallR X (.builtin "len") (rLenS K) := by
  subst h
  exact call_len_seq
theorem call_isiB (h : X.K = K) : CallR X (.builtin "isinstance") (rIsi K) := by
  subst h
  exact call_isi
theorem op_catAB (h : X.K = K) : OpR X (binaryOp .Add) (rCatA K) := by
  subst h
  exact op_catA
theorem op_eqRB (h : X.K = K) (hu : X.A.units + 64 < cLine) : OpR X (compareOp .Eq) (rEqR K false) := by
  subst h
  exact op_eqR hu
theorem op_neRB (h : X.K = K) (hu : X.A.units + 64 < cLine) : OpR X (compareOp .NotEq) (rEqR K true) := by
  subst h
  exact op_neR hu
theorem op_eqRLB (h : X.K = K) (hu : X.A.units + 64 < cLine) : OpR X (compareOp .Eq) (rEqRL K false) := by
  subst h
  exact op_eqRL hu
theorem pg_tupB {es : List Expr} {k : Nat} {t : TGs} {n : Nat} {pos : Pos} (h : X.K = K) (hc : X.calm = true) (hh : PGs X es t)
    (hn : (assignEach es X.env).length = n := by rfl) (hst : (assignEach es X.env).findIdx? (·.1) = none := by rfl) : PG X (.Tuple es k pos) (gTup K n t) := by
  subst h
  exact pg_tup hc hh hn hst
end
/-! ### a def by its code object -/
section
variable {P : Program} {w : World} {K : PySem.W.Frag} {mg : Str → Option Value} {base : Heap} {k : Nat} {x : Str} {st : Stmt} {N ps : List Str} {sp : Sp} {cdv : Value}
theorem cal_mkC (D : GdC K mg x st [] cdv) (hb : BndAll x x st ps) (S : FnScope N ps (defScope st)) (len : ∀ vs H Q E, sp vs H Q E → vs.length = ps.length)
    (body : ∀ (f : Addr) (A : Around) (outer : List Env) (s : Shared) (H : Hp) (vs : List V) (Q : VK) (E : XK), Room k (A.deeper (envOfC x (defScope st) s.heap.objs.size f cdv)) → sp vs H Q E →
      ∃ t, PSs (cxOf CX0 P w K mg base N x (defScope st) f cdv A outer s H E).nox (defBody st) t ∧ t { nx := fun _ H' => Q .non H', rt := Q } (start N vs) H) : Cal P w K mg base CX0 (k + 1) x ps [] sp := by
  obtain ⟨f, fd, F, hm, hc⟩ := D.ex
  have F0 := F
  obtain ⟨oc, od, dV, kV, doc, pm, an, cdv', ct, osl, rfl, lk, hcd, _, _⟩ := F.ex
  obtain rfl : cdv' = cdv := hc
  refine ⟨f, _, [], fn_of lk hcd S len fun A outer s H vs Q E hr hsp => ?_, hm, F0.kp, F0.bindsN hb, .nil⟩
  obtain ⟨t, a, b⟩ := body f A outer s H vs Q E hr hsp
  exact ⟨t, a.nox, b⟩
end
end FsR
end
section
/-! Numbers and fields: the walks. -/
set_option Elab.async false
set_option linter.all false
set_option maxRecDepth 100000
namespace FsR
open PySem PySem.Spec PyProof.Rows L2 LamX Fs
section
variable {X : Cx}
theorem ip_mod : PIp X .Mod (fun x y H Q => ∃ i j, x = .int i ∧ y = .int j ∧ j ≠ 0 ∧ Q (.int (i.fmod j)) H) := by
  intro pn st sg Hq x y v u Q I r1 r2 h
  obtain ⟨i, j, rfl, rfl, hj, q⟩ := h
  obtain ⟨t, rfl⟩ := r1
  obtain ⟨t', rfl⟩ := r2
  exact PyProof.Rows.imod_int hj ⟨.int _, Hq, I.tok _, ⟨_, rfl⟩, q⟩
theorem ip_mul : PIp X .Mult (fun x y H Q => ∃ i j, x = .int i ∧ y = .int j ∧ CMulW i j ∧ Q (.int (i * j)) H) := by
  intro pn st sg Hq x y v u Q I r1 r2 h
  obtain ⟨i, j, rfl, rfl, hj, q⟩ := h
  obtain ⟨t, rfl⟩ := r1
  obtain ⟨t', rfl⟩ := r2
  exact imul_int ⟨.int _, Hq, I.tok _, ⟨_, rfl⟩, q⟩ hj.ok
end
/-! ### sizes -/
def Sz (n : Nat) (i : Int) : Prop := i.natAbs < 2 ^ n
theorem Sz.mono {n m : Nat} {i : Int} (h : Sz n i) (k : n ≤ m) : Sz m i := Nat.lt_of_lt_of_le h (Nat.pow_le_pow_right (by decide) k)
theorem Sz.mul {n m : Nat} {i j : Int} (h : Sz n i) (k : Sz m j) : Sz (n + m) (i * j) := wide_lt h k
theorem Sz.add {n : Nat} {i j : Int} (h : Sz n i) (k : Sz n j) : Sz (n + 1) (i + j) := by
  unfold Sz at *
  rw [Nat.pow_succ]
  have := Int.natAbs_add_le i j
  omega
theorem Sz.neg {n : Nat} {i : Int} (h : Sz n i) : Sz n (-i) := by
  unfold Sz at *
  rw [Int.natAbs_neg]; exact h
theorem Sz.sub {n : Nat} {i j : Int} (h : Sz n i) (k : Sz n j) : Sz (n + 1) (i - j) := by
  rw [Int.sub_eq_add_neg]; exact h.add k.neg
theorem Sz.le {n : Nat} {i j : Int} (h : Sz n j) (k : i.natAbs ≤ j.natAbs) : Sz n i := Nat.lt_of_le_of_lt k h
theorem Sz.cmul {n m : Nat} {i j : Int} (h : Sz (n + 1) i) (k : Sz (m + 1) j) (b : n + m + 2 ≤ 1000000) : CMulW i j := wide_mul h k (Nat.succ_pos _) (Nat.succ_pos _) (by omega)
theorem Sz.small {n : Nat} {i : Int} (h : i.natAbs ≤ 200) : Sz (n + 8) i := Nat.lt_of_lt_of_le (by omega : i.natAbs < 2 ^ 8) (Nat.pow_le_pow_right (by decide) (by omega))
/-! ### tests -/
section
variable {c U W : Prop} [Decidable c]
theorem itT (hc : c) (h : U) : if decide c = true then U else W := by
  rw [decide_eq_true hc]; exact iteT h
theorem itF (hc : ¬ c) (h : W) : if decide c = true then U else W := by
  rw [decide_eq_false hc]; exact iteF h
theorem itNT (hc : ¬ c) (h : U) : if (!decide c) = true then U else W := by
  rw [decide_eq_false hc]; exact iteT h
theorem itNF (hc : c) (h : W) : if (!decide c) = true then U else W := by
  rw [decide_eq_true hc]; exact iteF h
theorem it2 (h1 : c → U) (h2 : ¬ c → W) : if decide c = true then U else W := by
  by_cases h : c
  · exact itT h (h1 h)
  · exact itF h (h2 h)
theorem itN2 (h1 : ¬ c → U) (h2 : c → W) : if (!decide c) = true then U else W := by
  by_cases h : c
  · exact itNF h (h2 h)
  · exact itNT h (h1 h)
end
theorem vi {i j : Int} (h : i = j) : V.int i = V.int j := congrArg _ h
theorem vn {i j : Int} (h : i ≠ j) : V.int i ≠ V.int j := fun e => h (V.int.inj e)
theorem ivl {i j : Int} (h : -100000 ≤ i) (h2 : i ≤ 100000) (h3 : -100000 ≤ j) (h4 : j ≤ 100000) : -2 ^ 62 ≤ i ∧ i < 2 ^ 62 ∧ -2 ^ 62 ≤ j ∧ j < 2 ^ 62 := ⟨by omega, by omega, by omega, by omega⟩
/-! ### objects -/
def Pok (p : Int) : Prop := p = 0 ∨ ∃ n ∈ primes, p = (n : Int)
/-- a field of the prime p stands at a -/
def Fld (A : Ad) (H : Hp) (a : Addr) (p : Int) : Prop := Pok p ∧ ∃ dx, H a = some (.ins A.F dx [("own_prime", .int p)])
theorem Fld.grw {A : Ad} {T : List (Addr × Str)} {H H' : Hp} {a : Addr} {p : Int} (f : Fld A H a p) (g : Grw T H H') : Fld A H' a p := ⟨f.1, f.2.imp fun dx h => g.ext _ _ h fun _ z => by cases z⟩
theorem Fld.same {A : Ad} {H H' : Hp} {a : Addr} {p : Int} (f : Fld A H a p) (s : Same H H') : Fld A H' a p := ⟨f.1, f.2.imp fun dx h => s _ _ h⟩
theorem fs_prime (p : Int) : ([(("own_prime" : Str), V.int p)] : List (Str × V)).lookup ("own_prime" : Str) = some (V.int p) := rfl
theorem same_upd {H : Hp} {p : Addr} {o : HO} (h : H p = none) : Same H (upd H p o) := fun b u e => by rw [upd_ne (ne_of_none e h)]; exact e
theorem same_upd' {H H1 : Hp} {p : Addr} {o : HO} (s : Same H H1) (h : H1 p = none) : Same H (upd H1 p o) := s.trans (same_upd h)
/-- a pair of whole numbers, new -/
theorem rp_pair {K : PySem.W.Frag} {H : Hp} {p : Addr} {a b : Int} : Rp K (upd H p (.tup [.int a, .int b])) (.tup [.num a, .num b]) (.ref p) :=
  rp_tup_iff.mpr ⟨p, _, rfl, .inl upd_same, rpl_cons (rp_num a) (rpl_cons (rp_num b) rpl_nil)⟩
/-- two items of a tuple -/
theorem rp_two {K : PySem.W.Frag} {H : Hp} {d e : NestedKey} {v : V} (h : Rp K H (.tup [d, e]) v) : ∃ a x y, v = .ref a ∧ Tp K H a [x, y] ∧ Rp K H d x ∧ Rp K H e y := by
  obtain ⟨a, xs, rfl, t, r⟩ := rp_tup_iff.mp h
  obtain ⟨x, xs, rfl, r1, r⟩ := rpl_cons_iff.mp r
  obtain ⟨y, xs, rfl, r2, r⟩ := rpl_cons_iff.mp r
  obtain rfl := rpl_nil_iff.mp r
  exact ⟨a, x, y, rfl, t, r1, r2⟩
theorem rp_ints {K : PySem.W.Frag} {H : Hp} {a b : Int} {v : V} (h : Rp K H (.tup [.num a, .num b]) v) : ∃ p, v = .ref p ∧ Tp K H p [.int a, .int b] := by
  obtain ⟨p, x, y, rfl, t, r1, r2⟩ := rp_two h
  rw [rp_num_iff.mp r1, rp_num_iff.mp r2] at t
  exact ⟨p, rfl, t⟩

section
variable {P : Program} {w : World} {K : PySem.W.Frag} {mg : Str → Option Value} {base : Heap} {A : Ad}
/-! ### is_whole -/
theorem sc_is_whole : FnScope ["thing"] ["thing"] (defScope (topS 15)) := ⟨rfl, rfl, rfl, by decide +kernel, rfl, by decide +kernel, by decide +kernel⟩
def spWhole : Sp := fun vs H Q _ => ∃ v, vs = [v] ∧ ((∃ i, v = .int i ∧ Q (.bl true) H) ∨ ((v = .non ∨ (∃ z, v = .str z) ∨ ∃ b, v = .bl b) ∧ Q (.bl false) H))
theorem c_is_whole (T : Txt K mg A) : Cal P w K mg base CX0 1 "is_whole" ["thing"] [] spWhole := by
  refine cal_mk T.g_is_whole (fun _ _ _ _ _ _ us hl => match us, hl with | [_], _ => rfl) sc_is_whole (fun vs H Q E h => ?_) (fun f cdv Ar outer s H vs Q E hr h => ?_)
  · obtain ⟨v, rfl, _⟩ := h
    rfl
  · obtain ⟨v, rfl, h⟩ := h
    refine ⟨_, (pss_one (ps_ret (pe_and (pe_callB call_isi (by rfl) T.isinstance (by decide +kernel) (pa_cons (pv 0) (pa_cons (pe_bltn (v := .ty "int") (by rfl) T.int (by decide +kernel) rfl) pa_nil))) (pe_one (pe_not (pe_callB call_isi (by rfl) T.isinstance (by decide +kernel) (pa_cons (pv 0) (pa_cons (pe_bltn (v := .ty "bool") (by rfl) T.bool (by decide +kernel) rfl) pa_nil)))))))), ?_⟩
    rcases h with ⟨i, rfl, q⟩ | ⟨h1, q⟩
    · refine ⟨_, rfl, _, _, .type "int", _, _, rfl, .ty _, .base (.int i), kit_ty (by decide +kernel), true, rfl, ?_⟩
      exact ⟨_, rfl, _, _, .type "int", _, _, rfl, .ty _, .base (.int i), kit_ty (by decide +kernel), false, rfl, q⟩
    · rcases h1 with rfl | ⟨z, rfl⟩ | ⟨b, rfl⟩
      · exact ⟨_, rfl, _, _, .type "NoneType", _, _, rfl, .ty _, .base .non, kit_ty (by decide +kernel), false, rfl, q⟩
      · exact ⟨_, rfl, _, _, .type "str", _, _, rfl, .ty _, .base (.str z), kit_ty (by decide +kernel), false, rfl, q⟩
      · refine ⟨_, rfl, _, _, .type "bool", _, _, rfl, .ty _, .base (.bl b), kit_ty (by decide +kernel), true, rfl, ?_⟩
        exact ⟨_, rfl, _, _, .type "bool", _, _, rfl, .ty _, .base (.bl b), kit_ty (by decide +kernel), true, rfl, q⟩

theorem fineL_nil : FineL [] := fineL_of (by simp [numsB]) (by simp [NestedKey.datas, PyData.depthAll])
/-! ### is_prime -/
theorem sc_is_prime : FnScope ["thing", "part"] ["thing"] (defScope (topS 16)) := ⟨rfl, rfl, rfl, by decide +kernel, rfl, by decide +kernel, by decide +kernel⟩
def spPrime : Sp := fun vs H Q _ => ∃ n : Nat, vs = [.int n] ∧ n ∈ primes ∧ ∀ H', Same H H' → Q (.bl true) H'
theorem prime_parts : ∀ n ∈ primes, (2 ≤ n ∧ n ≤ 97) ∧ ∀ k ∈ List.range n, ¬ ((2 ≤ k ∧ k < n) ∧ n % k = 0) := by decide +kernel
theorem prime_part {n : Nat} (h : n ∈ primes) {k : Nat} (h2 : 2 ≤ k) (hk : k < n) : ¬ ((n : Int).fmod (k : Int) = 0) := fun e => by
  refine (prime_parts n h).2 k (List.mem_range.mpr hk) ⟨⟨h2, hk⟩, ?_⟩
  rw [Int.fmod_eq_emod_of_nonneg _ (by omega)] at e
  omega
theorem c_is_prime (T : Txt K mg A) : Cal P w K mg base CX0 2 "is_prime" ["thing"] [] spPrime := by
  refine cal_mk T.g_is_prime (fun _ _ _ _ _ _ us hl => match us, hl with | [_], _ => rfl) sc_is_prime (fun vs H Q E h => ?_) (fun f cdv Ar outer s H vs Q E hr h => ?_)
  · obtain ⟨v, rfl, _⟩ := h
    rfl
  · obtain ⟨n, rfl, hn, q⟩ := h
    obtain ⟨⟨h2, h97⟩, _⟩ := prime_parts n hn
    refine ⟨_, (pss_cons (ps_if (PW.pt (pw_or (pt_not (pt_val (pc (c_is_whole T) (hr.mono (by decide)) (pa_cons (pv 0) pa_nil)))) (pw_or1 (pt_not (pt_chain op_le op_le pe_int (pv 0) (pe_const T.MOST_PRIME)))))) (pss_one (ps_ret pe_bl))
      pss_nil)
      (pss_one (ps_ret (pe_cmpR (op_eqRL hr.units) (pe_lc (own := [("part", 1)]) (g := gName 1) rfl sc_is_prime.nd (pi_range2 rfl T.range (pa_cons pe_int (pa_cons (pv 0) pa_nil))) (blkOk_by (N := ["thing", "part"]) (sc := defScope (topS 16)) (by decide +kernel)) (fun _ _ _ _ _ => pg_name (i := 1) sc_is_prime.nd rfl (by first | exact Or.inl rfl | exact Or.inr rfl)) (fun _ _ _ _ _ => pts_one (pt_cmpR op_eq (pe_op op_modN (pv 0) (pv 1)) pe_int (nomark _))) (fun _ _ _ _ _ => (pv 1))) (pe_lst pa_nil) (nomark _))))), ?_⟩
    refine ⟨_, rfl, .int n, rfl, .inl ⟨_, rfl, _, rfl, iteF ?_⟩⟩
    refine ⟨_, rfl, _, _, rfl, rfl, _, rfl, itT (by omega) ⟨_, _, rfl, rfl, _, rfl, ?_⟩⟩
    refine (show if (!decide ((n : Int) ≤ 97)) = true then _ else _ from itNF (by omega) ?_)
    refine ⟨_, rfl, _, _, rfl, ivl (by decide) (by decide) (by omega) (by omega), fun D hD => ?_⟩
    refine lc_range (fun _ H1 => Same H H1 ∧ H1 D = some (.lst [])) ⟨same_upd hD, upd_same⟩ (fun i H1 hi ⟨sm, e⟩ => ?_) (fun H1 ⟨sm, e⟩ => ?_)
    · refine ⟨rfl, _, rfl, _, rfl, _, _, rfl, rfl, by omega, rfl, _, rfl, ?_⟩
      have e2 : (2 : Int) + (i : Nat) = ((2 + i : Nat) : Int) := by omega
      refine itF (vn ?_) ⟨sm, e⟩
      rw [e2]
      exact prime_part hn (by omega) (by omega)
    · refine ⟨Nat.zero_le _, fun p hp => ⟨[], [], ⟨D, [], rfl, ?_, rpl_nil⟩, ⟨p, [], rfl, SqL.of upd_same, rpl_nil⟩, fineL_nil, fineL_nil, ?_⟩⟩
      · exact SqL.of (by rw [upd_ne (ne_of_none e hp)]; exact e)
      · exact q _ (same_upd' sm hp)

/-! ### lowest -/
theorem sc_lowest : FnScope ["top", "bottom", "sign", "e", "one", "other"] ["top", "bottom"] (defScope (topS 17)) := ⟨rfl, rfl, rfl, by decide +kernel, rfl, by decide +kernel, by decide +kernel⟩
/-- the pair that two whole numbers make -/
def rpN (K : PySem.W.Frag) (H : Hp) (n : Int × Int) (v : V) : Prop := Rp K H (.tup [.num n.1, .num n.2]) v
def spLowest (K : PySem.W.Frag) : Sp := fun vs H Q _ => ∃ t b : Int, vs = [.int t, .int b] ∧ b ≠ 0 ∧ Sz 4000 t ∧ Sz 4000 b ∧ ∀ H' v, Same H H' → rpN K H' (mkN 0 t b) v → Q v H'
theorem abs_if (i : Int) : (if i < 0 then -i else i) = (i.natAbs : Int) := by
  split <;> omega
theorem fmod_nat (x y : Nat) : ((x : Int).fmod (y : Int)) = ((x % y : Nat) : Int) := by
  rw [Int.fmod_eq_emod_of_nonneg _ (by omega)]
  rfl
theorem sign_div {b : Int} (h : b ≠ 0) : b / (b.natAbs : Int) = b.sign := by
  rcases Int.lt_or_gt_of_ne h with q | q
  · rw [Int.sign_eq_neg_one_of_neg q, show ((b.natAbs : Nat) : Int) = -b by omega, Int.ediv_neg, Int.ediv_self h]
  · rw [Int.sign_eq_one_of_pos q, show ((b.natAbs : Nat) : Int) = b by omega, Int.ediv_self h]
theorem sz_nat {n : Nat} {a : Nat} {b : Int} (h : Sz n b) (k : a ≤ b.natAbs) : Sz n (a : Int) := h.le (by omega)
theorem gcd_mod (x y : Nat) : Nat.gcd y (x % y) = Nat.gcd x y := by
  rw [Nat.gcd_comm x y, Nat.gcd_rec y x, Nat.gcd_comm]
theorem c_lowest (T : Txt K mg A) : Cal P w K mg base CX0 1 "lowest" ["top", "bottom"] [] (spLowest K) := by
  refine cal_mk T.g_lowest (fun _ _ _ _ _ _ us hl => match us, hl with | [_, _], _ => rfl) sc_lowest (fun vs H Q E h => ?_) (fun f cdv Ar outer s H vs Q E hr h => ?_)
  · obtain ⟨t, b, rfl, _⟩ := h
    rfl
  · obtain ⟨t, b, rfl, hb, st, sb, q⟩ := h
    refine ⟨_, (pss_cons (ps_try_thru0 (pss_one (ps_set (i := 2) sc_lowest.nd rfl (by first | exact Or.inl rfl | exact Or.inr rfl) (pe_op op_fdivW (pv 1) (pe_callB call_abs (by rfl) T.abs (by decide +kernel) (pa_cons (pv 1) pa_nil))))))
      (pss_cons (ps_par (i := 4) (j := 5) rfl sc_lowest.nd rfl rfl (by decide) rfl rfl (pa_cons (pe_callB call_abs (by rfl) T.abs (by decide +kernel) (pa_cons (pv 0) pa_nil)) (pa_cons (pe_callB call_abs (by rfl) T.abs (by decide +kernel) (pa_cons (pv 1) pa_nil)) pa_nil)) (by rfl))
      (pss_cons (ps_while PassesOwn.never (pt_cmpR op_ne (pv 5) pe_int (nomark _))
      (pss_one (ps_par (i := 4) (j := 5) rfl sc_lowest.nd rfl rfl (by decide) rfl rfl (pa_cons (pv 5) (pa_cons (pe_op op_modN (pv 4) (pv 5)) pa_nil)) (by rfl))))
      (pss_one (ps_ret (pe_tup (pa_cons (pe_op op_fdivW (pe_op op_mulW (pv 2) (pv 0)) (pv 4)) (pa_cons (pe_op op_fdivW (pe_callB call_abs (by rfl) T.abs (by decide +kernel) (pa_cons (pv 1) pa_nil)) (pv 4)) pa_nil)))))))), ?_⟩
    refine ⟨_, rfl, _, rfl, _, rfl, _, _, rfl, rfl, ?_, ?_⟩
    · rw [abs_if]
      exact wide_div (by omega) (b := 4000) (by rw [Int.natAbs_natCast]; exact sb) (by decide) (by decide)
    refine ⟨_, rfl, _, rfl, _, rfl, _, rfl, _, _, rfl, ?_⟩
    have e0 : ([some (.int t), some (.int b), some (.int (b / (if b < 0 then -b else b))), none, some (.int (if t < 0 then -t else t)), some (.int (if b < 0 then -b else b))] : L2.St) = [some (.int t), some (.int b), some (.int b.sign), none, some (.int t.natAbs), some (.int b.natAbs)] := by
      rw [abs_if, abs_if, sign_div hb]
    refine ⟨fun m σ H1 => ∃ x y : Nat, σ = [some (.int t), some (.int b), some (.int b.sign), none, some (.int x), some (.int y)] ∧ H1 = H ∧ y = m ∧ Nat.gcd x y = Int.gcd t b, ⟨_, t.natAbs, b.natAbs, e0, rfl, rfl, rfl⟩, ?_⟩
    rintro m σ H1 ⟨x, y, rfl, rfl, rfl, hg⟩
    refine ⟨_, rfl, rfl, _, rfl, itN2 (fun hy => ?_) (fun hy => ?_)⟩
    · have hy0 : y ≠ 0 := fun z => hy (by rw [z]; rfl)
      refine ⟨fun σ H2 => ∃ x2 y2 : Nat, σ = [some (.int t), some (.int b), some (.int b.sign), none, some (.int x2), some (.int y2)] ∧ H2 = H1 ∧ y2 < y ∧ Nat.gcd x2 y2 = Int.gcd t b, fun σ H2 ⟨x2, y2, e1, e2, e3, e4⟩ => ⟨y2, e3, x2, y2, e1, e2, rfl, e4⟩, ?_⟩
      refine ⟨_, rfl, _, rfl, _, rfl, _, _, rfl, rfl, by omega, _, _, rfl, y, x % y, ?_, rfl, Nat.mod_lt _ (by omega), ?_⟩
      · show ([some (V.int t), some (V.int b), some (V.int b.sign), none, some (V.int y), some (V.int ((x : Int).fmod y))] : L2.St) = _
        rw [fmod_nat]
      · rw [gcd_mod]; exact hg
    · have hy0 : y = 0 := Int.ofNat_inj.mp (V.int.inj hy)
      subst hy0
      rw [Nat.gcd_zero_right] at hg
      subst hg
      have gp : 0 < Int.gcd t b := Int.gcd_pos_of_ne_zero_right _ hb
      have gb : Int.gcd t b ≤ b.natAbs := Nat.le_of_dvd (by omega) (Int.gcd_dvd_natAbs_right _ _)
      have sg : Sz 4000 ((Int.gcd t b : Nat) : Int) := sz_nat sb gb
      refine ⟨_, rfl, _, rfl, _, _, rfl, rfl, ?_, _, rfl, _, _, rfl, rfl, ?_, _, rfl, _, rfl, _, rfl, _, _, rfl, rfl, ?_, ?_⟩
      · exact Sz.cmul (n := 7) (m := 3999) (Sz.small (n := 0) (by rcases Int.sign_trichotomy b with z | z | z <;> rw [z] <;> decide)) st (by decide)
      · exact wide_div (by omega) (b := 4000) sg (by decide) (by decide)
      · exact wide_div (by omega) (b := 4000) sg (by decide) (by decide)
      refine ⟨(by decide : 2 ≤ sizeLine), fun p hp => q _ _ (same_upd hp) ?_⟩
      have e : mkN 0 t b = (b.sign * t / (Int.gcd t b : Int), (b.natAbs : Int) / (Int.gcd t b : Int)) := by
        unfold mkN
        rw [if_pos rfl]
      rw [e, ← abs_if b]
      exact rp_pair
end
end FsR
end
section
/-! Fields: the walks. -/
set_option Elab.async false
set_option linter.all false
set_option maxRecDepth 100000
namespace FsR
open PySem PySem.Spec PyProof.Rows L2 LamX Fs
/-- an instance that its __init__ gets -/
def Fresh (C : Addr) (H0 H : Hp) (x dx : Addr) : Prop := H0 x = none ∧ H0 dx = none ∧ dx ≠ x ∧ H = upd (upd H0 dx (.own x)) x (.ins C dx [])
theorem Fresh.at_ {C : Addr} {H0 H : Hp} {x dx : Addr} (f : Fresh C H0 H x dx) : H x = some (.ins C dx []) := by
  obtain ⟨_, _, _, rfl⟩ := f
  exact upd_same
theorem Fresh.same {C : Addr} {H0 H H1 : Hp} {x dx : Addr} (f : Fresh C H0 H x dx) (k : ∀ b o, H b = some o → b ≠ x → H1 b = some o) : Same H0 H1 := by
  obtain ⟨h1, h2, _, rfl⟩ := f
  exact Same.made h1 h2 k
theorem Fresh.old {C : Addr} {H0 H : Hp} {x dx : Addr} (f : Fresh C H0 H x dx) : Same H0 H := f.same fun b o e _ => e
theorem Fresh.mk {C : Addr} {H : Hp} {x dx : Addr} (h1 : H x = none) (h2 : H dx = none) (h3 : dx ≠ x) : Fresh C H (upd (upd H dx (.own x)) x (.ins C dx [])) x dx := ⟨h1, h2, h3, rfl⟩
section
variable {P : Program} {w : World} {K : PySem.W.Frag} {mg : Str → Option Value} {base : Heap} {A : Ad}
/-! ### Field.__init__ -/
theorem sc_Field_init : FnScope ["self", "prime"] ["self", "prime"] (defScope (inClass (topS 18) 0)) := ⟨rfl, rfl, rfl, by decide +kernel, rfl, by decide +kernel, by decide +kernel⟩
def spFInit (A : Ad) : Sp := fun vs H Q _ => ∃ (x dx : Addr) (H0 : Hp) (p : Int), vs = [.ref x, .int p] ∧ Fresh A.F H0 H x dx ∧ Pok p ∧ ∀ H', Same H0 H' → Fld A H' x p → Q .non H'
theorem c_Field_init (T : Txt K mg A) : MCal P w K mg base CX0 A.F 3 "__init__" ["self", "prime"] [] (spFInit A) := by
  refine mcal_mkD (dvs := [.int 0]) T.m_Field_init 2 1 (by simp) rfl (fun _ _ _ _ _ _ _ us its h1 h2 => match us, h1, its, h2 with | [_, _], _, [_], _ => ⟨_, rfl, rfl⟩) sc_Field_init (fun vs H Q E h => ?_) (fun f cdv Ar outer s H vs Q E hr h => ?_)
  · obtain ⟨x, dx, H0, p, rfl, _⟩ := h
    rfl
  · obtain ⟨x, dx, H0, p, rfl, fr, hp, q⟩ := h
    refine ⟨_, (pss_cons (ps_if (PW.pt (pw_or (pt_not (pt_val (pc (c_is_whole T) (hr.mono (by decide)) (pa_cons (pv 1) pa_nil)))) (pw_or1 (PW.pt (pw_and (pt_cmpR op_ne (pv 1) pe_int (nomark _)) (pw_and1 (pt_not (pt_val (pc (c_is_prime T) (hr.mono (by decide)) (pa_cons (pv 1) pa_nil)))))))))) (pss_one ps_never)
      pss_nil)
      (pss_one (ps_fld (pv 0) (pv 1) rfl))), ?_⟩
    have fin : ∀ H1, Same H H1 → sFld K (tVar 0) (tVar 1) "own_prime" { nx := fun _ H' => Q .non H', rt := Q } [some (.ref x), some (.int p)] H1 := fun H1 sm => by
      refine ⟨_, rfl, _, rfl, x, A.F, dx, [], rfl, sm _ _ fr.at_, T.clF, T.nF_own_prime, (by show 0 < 1000; decide), q _ (fr.same fun b o e nb => ?_) ⟨hp, dx, upd_same⟩⟩
      rw [upd_ne nb]; exact sm _ _ e
    refine ⟨_, rfl, _, rfl, .inl ⟨_, rfl, _, rfl, iteF ?_⟩⟩
    refine ⟨_, rfl, rfl, _, rfl, itN2 (fun h0 => ?_) (fun h0 => ?_)⟩
    · rcases hp with rfl | ⟨n, hn, rfl⟩
      · exact absurd rfl h0
      · exact ⟨_, rfl, n, rfl, hn, fun H1 sm => ⟨_, rfl, iteF (fin H1 sm)⟩⟩
    · exact iteF (fin H (Same.refl _))

/-! ### Field.prime, Field.__eq__ -/
theorem sc_Field_prime : FnScope ["self"] ["self"] (defScope (inClass (topS 18) 3)) := ⟨rfl, rfl, rfl, by decide +kernel, rfl, by decide +kernel, by decide +kernel⟩
def spFPrime (A : Ad) : Sp := fun vs H Q _ => ∃ (a : Addr) (p : Int), vs = [.ref a] ∧ Fld A H a p ∧ Q (.int p) H
theorem c_Field_prime (T : Txt K mg A) : MCal P w K mg base CX0 A.F 1 "prime" ["self"] [] (spFPrime A) := by
  refine mcal_mk T.m_Field_prime (fun _ _ _ _ _ _ us hl => match us, hl with | [_], _ => rfl) sc_Field_prime (fun vs H Q E h => ?_) (fun f cdv Ar outer s H vs Q E hr h => ?_)
  · obtain ⟨a, p, rfl, _⟩ := h
    rfl
  · obtain ⟨a, p, rfl, ⟨hp, dx, hf⟩, q⟩ := h
    refine ⟨_, (pss_one (ps_ret (pe_fld (pv 0) (by rfl)))), ?_⟩
    exact ⟨_, rfl, a, A.F, dx, _, _, rfl, hf, T.clF, T.nF_own_prime, fs_prime p, q⟩
theorem sc_Field_eq : FnScope ["self", "other"] ["self", "other"] (defScope (inClass (topS 18) 1)) := ⟨rfl, rfl, rfl, by decide +kernel, rfl, by decide +kernel, by decide +kernel⟩
def eqFld (A : Ad) (a b : Addr) (H : Hp) : Prop := ∃ p, Fld A H a p ∧ Fld A H b p
theorem c_Field_eq (T : Txt K mg A) : MCal P w K mg base CX0 A.F 1 "__eq__" ["self", "other"] [] (spEq (eqFld A)) := by
  refine mcal_mk T.m_Field_eq (fun _ _ _ _ _ _ us hl => match us, hl with | [_, _], _ => rfl) sc_Field_eq (fun vs H Q E h => ?_) (fun f cdv Ar outer s H vs Q E hr h => ?_)
  · obtain ⟨a, b, rfl, _⟩ := h
    rfl
  · obtain ⟨a, b, rfl, ⟨p, ⟨hp, dx, hf⟩, ⟨_, dy, hg⟩⟩, q⟩ := h
    refine ⟨_, (pss_one (ps_ret (pe_and (pe_callB (C8.call_isC T.isF) (by rfl) T.isinstance (by decide +kernel) (pa_cons (pv 1) (pa_cons (pe_glob (v := .ref A.F) rfl T.Field rfl) pa_nil))) (pe_one (pe_cmpR op_eq (pe_fld (pv 0) (by rfl)) (pe_fld (pv 1) (by rfl)) (nomark _)))))), ?_⟩
    refine ⟨_, rfl, b, dy, _, rfl, hg, _, rfl, ?_⟩
    refine ⟨_, rfl, a, A.F, dx, _, _, rfl, hf, T.clF, T.nF_own_prime, fs_prime p, _, rfl, b, A.F, dy, _, _, rfl, hg, T.clF, T.nF_own_prime, fs_prime p, rfl, ?_⟩
    show Q (.bl (decide (V.int p = V.int p))) H
    rw [decide_eq_true rfl]
    exact q H fun _ _ h => h

/-! ### Field.made -/
theorem sc_Field_made : FnScope ["self", "top", "bottom", "k"] ["self", "top", "bottom"] (defScope (inClass (topS 18) 4)) := ⟨rfl, rfl, rfl, by decide +kernel, rfl, by decide +kernel, by decide +kernel⟩
theorem emod_mul_e (a k n : Int) : a % n * k % n = a * k % n := by
  rw [Int.mul_emod, Int.emod_emod, ← Int.mul_emod]
/-- the inverses found among the first -/
def invs (p b : Int) (n : Nat) : List Int := ((List.range n).map fun (i : Nat) => Int.ofNat i + 1).filter fun k => b * k % p == 1
theorem invs_succ (p b : Int) (n : Nat) : invs p b (n + 1) = if (b * (1 + (n : Nat))) % p = 1 then invs p b n ++ [1 + (n : Int)] else invs p b n := by
  unfold invs
  rw [List.range_succ, List.map_append, List.filter_append]
  have e : (Int.ofNat n + 1 : Int) = 1 + (n : Nat) := by rw [Int.add_comm]; rfl
  simp only [List.map_cons, List.map_nil, e]
  by_cases h : (b * (1 + (n : Nat))) % p = 1
  · rw [if_pos h, List.filter_cons, if_pos (by rw [beq_iff_eq]; exact h)]
    rfl
  · rw [if_neg h, List.filter_cons, if_neg (by rw [beq_iff_eq]; exact h)]
    rw [List.filter_nil, List.append_nil]
theorem invs_some {n : Nat} (hn : n ∈ primes) {b : Int} (h : b % (n : Int) ≠ 0) : ∃ k r, invs n b (n - 1) = k :: r ∧ invOf n b = k ∧ 1 ≤ k ∧ k ≤ 97 := by
  have ok := List.all_eq_true.mp primes_ok n hn
  unfold PrimeOk at ok
  simp only [Bool.and_eq_true, decide_eq_true_eq, List.all_eq_true, Bool.or_eq_true, beq_iff_eq, List.any_eq_true] at ok
  obtain ⟨⟨h2, h97⟩, hinv⟩ := ok
  have hb0 : 0 ≤ b % (n : Int) := Int.emod_nonneg _ (by omega)
  have hbn : b % (n : Int) < n := Int.emod_lt_of_pos _ (by omega)
  have e : ((b % (n : Int)).toNat : Int) = b % (n : Int) := Int.toNat_of_nonneg hb0
  obtain ⟨k, hk, hk1⟩ := (hinv (b % (n : Int)).toNat (List.mem_range.mpr (by omega))).resolve_left (by omega)
  have hkn := List.mem_range.mp hk
  have hk1' : (b * (k : Int)) % (n : Int) = 1 := by
    have z : (((b % (n : Int)).toNat * k % n : Nat) : Int) = 1 := by rw [hk1]; rfl
    rw [Int.natCast_emod, Int.natCast_mul, e] at z
    rw [← z, emod_mul_e]
  have k0 : k ≠ 0 := fun z => by
    rw [z] at hk1'
    simp at hk1'
  have hm : (k : Int) ∈ invs n b (n - 1) := by
    unfold invs
    refine List.mem_filter.mpr ⟨List.mem_map.mpr ⟨k - 1, List.mem_range.mpr (by omega), ?_⟩, ?_⟩
    · show ((k - 1 : Nat) : Int) + 1 = k
      omega
    · rw [beq_iff_eq]; exact hk1'
  cases ei : invs n b (n - 1) with
  | nil => rw [ei] at hm; cases hm
  | cons x r =>
    have hx : x ∈ invs n b (n - 1) := by rw [ei]; exact List.mem_cons_self
    unfold invs at hx
    obtain ⟨h1, _⟩ := List.mem_filter.mp hx
    obtain ⟨i, hi, rfl⟩ := List.mem_map.mp h1
    have := List.mem_range.mp hi
    refine ⟨_, r, rfl, ?_, ?_, ?_⟩
    · unfold invOf
      have e2 : ((n : Int).toNat - 1) = n - 1 := by omega
      rw [e2]
      unfold invs at ei
      rw [ei]
      rfl
    · show 1 ≤ (i : Int) + 1
      omega
    · show (i : Int) + 1 ≤ 97
      omega
def spMade (K : PySem.W.Frag) (A : Ad) : Sp := fun vs H Q _ => ∃ (a : Addr) (p t b : Int), vs = [.ref a, .int t, .int b] ∧ Fld A H a p ∧ okB p b ∧ Sz 4000 t ∧ Sz 4000 b ∧ ∀ H' v, Same H H' → rpN K H' (mkN p t b) v → Q v H'
theorem b_Field_made (T : Txt K mg A) : BodyOk P w K mg base CX0 "Field.made" (inClass (topS 18) 4) ["self", "top", "bottom", "k"] 1 (spMade K A) := by
  intro f cdv Ar outer s H vs Q E hr h
  obtain ⟨a, p, t, b, rfl, F0, ob, st, sb, q⟩ := h
  have F1 := F0
  obtain ⟨hp, dx, hf⟩ := F1
  refine ⟨_, (pss_cons (ps_if (PW.pt (pw_or (pt_not (pt_val (pc (c_is_whole T) (hr.mono (by decide)) (pa_cons (pv 1) pa_nil)))) (pw_or1 (pt_not (pt_val (pc (c_is_whole T) (hr.mono (by decide)) (pa_cons (pv 2) pa_nil))))))) (pss_one ps_never)
      pss_nil)
      (pss_cons (ps_if (pt_cmpR op_eq (pe_fld (pv 0) (by rfl)) pe_int (nomark _)) (pss_one (ps_ret (pc (c_lowest T) (hr.mono (by decide)) (pa_cons (pv 1) (pa_cons (pv 2) pa_nil)))))
      pss_nil)
      (pss_cons (ps_aug (i := 2) sc_Field_made.nd rfl (by first | exact Or.inl rfl | exact Or.inr rfl) (pe_fld (pv 0) (by rfl)) ip_mod)
      (pss_cons (ps_if (pt_cmpR op_eq (pv 2) pe_int (nomark _)) (pss_one ps_never)
      pss_nil)
      (pss_cons (ps_if (pt_cmpR op_ne (pv 2) pe_int (nomark _)) (pss_one (ps_aug (i := 1) sc_Field_made.nd rfl (by first | exact Or.inl rfl | exact Or.inr rfl) (pe_ix ix_list (pe_lc (own := [("k", 3)]) (g := gName 3) rfl sc_Field_made.nd (pi_range2 rfl T.range (pa_cons pe_int (pa_cons (pe_fld (pv 0) (by rfl)) pa_nil))) (blkOk_by (N := ["self", "top", "bottom", "k"]) (sc := defScope (inClass (topS 18) 4)) (by decide +kernel)) (fun _ _ _ _ _ => pg_name (i := 3) sc_Field_made.nd rfl (by first | exact Or.inl rfl | exact Or.inr rfl)) (fun _ _ _ _ _ => pts_one (pt_cmpR op_eq (pe_op op_modN (pe_op op_mulW (pv 2) (pv 3)) (pe_fldB K (by rfl) (pv 0) (by rfl))) pe_int (nomark _))) (fun _ _ _ _ _ => (pv 3))) pe_int (fun _ _ => rfl)) ip_mul))
      pss_nil)
      (pss_one (ps_ret (pe_tup (pa_cons (pe_op op_modN (pv 1) (pe_fld (pv 0) (by rfl))) (pa_cons pe_int pa_nil)))))))))), ?_⟩
  refine ⟨_, rfl, .int t, rfl, .inl ⟨_, rfl, _, rfl, iteF ?_⟩⟩
  refine ⟨_, rfl, .int b, rfl, .inl ⟨_, rfl, _, rfl, iteF ?_⟩⟩
  refine ⟨_, rfl, a, A.F, dx, _, _, rfl, hf, T.clF, T.nF_own_prime, fs_prime p, rfl, _, rfl, it2 (fun h0 => ?_) (fun h0 => ?_)⟩
  · have hp0 : p = 0 := V.int.inj h0
    subst hp0
    have hb : b ≠ 0 := by
      unfold okB at ob
      rw [if_pos rfl] at ob
      exact ob
    exact ⟨_, rfl, _, rfl, t, b, rfl, hb, st, sb, q⟩
  · have hp0 : p ≠ 0 := fun z => h0 (by rw [z])
    obtain ⟨n, hn, rfl⟩ := hp.resolve_left hp0
    obtain ⟨⟨h2, h97⟩, _⟩ := prime_parts n hn
    have hb : b % (n : Int) ≠ 0 := by
      unfold okB at ob
      rw [if_neg hp0] at ob
      exact ob
    have ef : b.fmod n = b % n := Int.fmod_eq_emod_of_nonneg _ (by omega)
    refine ⟨_, rfl, _, rfl, a, A.F, dx, _, _, rfl, hf, T.clF, T.nF_own_prime, fs_prime n, _, _, rfl, rfl, hp0, ?_⟩
    refine ⟨_, rfl, rfl, _, rfl, itF (vn (by rw [ef]; exact hb)) ?_⟩
    have fin : ∀ H1 t1, Same H H1 → t1 % (n : Int) = (mkN n t b).1 → ∀ c : Int, tRet (tTup (tCons (tOp (rI (fun _ j => j ≠ 0) fun i j => V.int (i.fmod j)) (tVar 1) (tFld K (tVar 0) "own_prime")) (tCons (tC (.int 1)) tNil))) { nx := fun _ H' => Q .non H', rt := Q } [some (.ref a), some (.int t1), some (.int c), none] H1 := fun H1 t1 sm et c => by
      refine ⟨_, rfl, _, rfl, a, A.F, dx, _, _, rfl, sm _ _ hf, T.clF, T.nF_own_prime, fs_prime n, _, _, rfl, rfl, hp0, (by decide : 2 ≤ sizeLine), fun p hp => q _ _ (same_upd' sm hp) ?_⟩
      have e2 : (mkN n t b).2 = 1 := by
        unfold mkN
        rw [if_neg hp0]
      have e3 : t1.fmod n = (mkN n t b).1 := by rw [Int.fmod_eq_emod_of_nonneg _ (by omega), et]
      unfold rpN
      rw [e2, ← e3]
      exact rp_pair
    refine ⟨_, rfl, rfl, _, rfl, itN2 (fun h1 => ?_) (fun h1 => ?_)⟩
    · have h1' : b % (n : Int) ≠ 1 := fun z => h1 (vi (by rw [ef, z]))
      obtain ⟨k, r, ek, eo, k1, k97⟩ := invs_some hn hb
      have eL : ∀ i, invs n (b % n) i = invs n b i := fun i => by
        unfold invs
        congr 1
        funext k
        rw [emod_mul_e]
      refine ⟨_, rfl, _, rfl, a, A.F, dx, _, _, rfl, hf, T.clF, T.nF_own_prime, fs_prime n, _, _, rfl, ivl (by decide) (by decide) (by omega) (by omega), fun D hD => ?_⟩
      refine lc_range (fun i H1 => Same H H1 ∧ H1 D = some (.lst ((invs n b i).map V.int))) ⟨same_upd hD, upd_same⟩ (fun i H1 hi ⟨sm, e⟩ => ?_) (fun H1 ⟨sm, e⟩ => ?_)
      · have hi97 : i < 97 := by omega
        refine ⟨rfl, _, rfl, _, rfl, _, _, rfl, rfl, ?_, _, rfl, a, A.F, dx, _, _, rfl, sm _ _ hf, T.clF, T.nF_own_prime, fs_prime n, _, _, rfl, rfl, hp0, rfl, _, rfl, ?_⟩
        · rw [ef]
          have b0 : 0 ≤ b % (n : Int) := Int.emod_nonneg _ hp0
          have b1 : b % (n : Int) < n := Int.emod_lt_of_pos _ (by omega)
          exact Sz.cmul (n := 7) (m := 7) (Sz.small (n := 0) (by omega)) (Sz.small (n := 0) (by omega)) (by decide)
        have em : (b.fmod n * (1 + (i : Nat))).fmod n = (b * (1 + (i : Nat))) % n := by
          rw [ef, Int.fmod_eq_emod_of_nonneg _ (by omega), emod_mul_e]
        have es := invs_succ n b i
        refine it2 (fun hy => ?_) (fun hy => ?_)
        · have hy' : (b * (1 + (i : Nat))) % (n : Int) = 1 := em.symm.trans (V.int.inj hy)
          rw [if_pos hy'] at es
          refine ⟨_, rfl, _, e, ?_, fun b o hb => ?_, ?_⟩
          · rw [List.length_map]
            refine Nat.lt_of_le_of_lt (List.length_filter_le _ _) ?_
            rw [List.length_map, List.length_range]
            exact Nat.lt_of_lt_of_le hi97 (by decide)
          · have nb : b ≠ D := ne_of_none hb hD
            rw [upd_ne nb]; exact sm _ _ hb
          · rw [upd_same, es, List.map_append]
            rfl
        · have hy' : ¬ (b * (1 + (i : Nat))) % (n : Int) = 1 := fun z => hy (vi (em.trans z))
          rw [if_neg hy'] at es
          exact ⟨sm, by rw [es]; exact e⟩
      · have en : ((n : Int) - 1).toNat = n - 1 := by omega
        rw [en, ek] at e
        refine ⟨D, _, _, .int k, rfl, rfl, SqL.of e, at_of (j := 0) rfl rfl, _, _, rfl, rfl, ?_, ?_⟩
        · exact Sz.cmul (n := 3999) (m := 7) st (Sz.small (n := 0) (by omega)) (by decide)
        · refine fin H1 _ sm ?_ _
          unfold mkN
          rw [if_neg hp0, if_neg h1', eo]
    · have h1' : b % (n : Int) = 1 := ef.symm.trans (V.int.inj h1)
      refine fin H t (Same.refl _) ?_ _
      unfold mkN
      rw [if_neg hp0, if_pos h1']
theorem c_Field_made (T : Txt K mg A) : MCal P w K mg base CX0 A.F 2 "made" ["self", "top", "bottom"] [] (spMade K A) :=
  mcal_mkD (dvs := [.int 1]) T.m_Field_made 3 1 (by simp) rfl (fun _ _ _ _ _ _ _ us its h1 h2 => match us, h1, its, h2 with | [_, _, _], _, [_], _ => ⟨_, rfl, rfl⟩) sc_Field_made (fun vs H Q E ⟨a, p, t, b, e, _⟩ => by rw [e]; rfl) (b_Field_made T)
theorem c_Field_made1 (T : Txt K mg A) : MCal P w K mg base CX0 A.F 2 "made" ["self", "top", "bottom"] [.int 1] (spMade K A) :=
  mcal_mkD (dvs := [.int 1]) T.m_Field_made 2 0 (by simp) rfl (fun _ _ _ _ _ _ _ us its h1 h2 => match us, h1, its, h2 with | [_, _], _, [_], _ => ⟨_, rfl, rfl⟩) sc_Field_made (fun vs H Q E ⟨a, p, t, b, e, _⟩ => by rw [e]; rfl) (b_Field_made T)
end
end FsR
end
section
/-! The field's operations: the walks. -/
set_option Elab.async false
set_option linter.all false
set_option maxRecDepth 100000
namespace FsR
open PySem PySem.Spec PyProof.Rows L2 LamX Fs
section
variable {F : Type} [Num F]
/-- a number of moderate size -/
def NSz (x : F) : Prop := Sz 1000 (Num.enc x).1 ∧ Sz 1000 (Num.enc x).2
theorem rpN_nk {K : PySem.W.Frag} {H : Hp} {x : F} {n : Int × Int} {v : V} (e : Num.enc x = n) (h : rpN K H n v) : Rp K H (nk x) v := by
  subst e
  exact h
end
section
variable {P : Program} {w : World} {K : PySem.W.Frag} {mg : Str → Option Value} {base : Heap} {A : Ad} {F : Type} [Num F]
def spOp (K : PySem.W.Frag) (A : Ad) (F : Type) [Num F] (c : F → F → Prop) (op : F → F → F) : Sp := fun vs H Q _ => ∃ (a : Addr) (x y : F) (u v : V), vs = [.ref a, u, v] ∧ Fld A H a (Num.p F) ∧ Rp K H (nk x) u ∧ Rp K H (nk y) v ∧ NSz x ∧ NSz y ∧ c x y ∧ ∀ H' v, Same H H' → Rp K H' (nk (op x y)) v → Q v H'
/-! ### plus -/
theorem sc_Field_plus : FnScope ["self", "one", "other"] ["self", "one", "other"] (defScope (inClass (topS 18) 5)) := ⟨rfl, rfl, rfl, by decide +kernel, rfl, by decide +kernel, by decide +kernel⟩
theorem c_Field_plus (T : Txt K mg A) : MCal P w K mg base CX0 A.F 3 "plus" ["self", "one", "other"] [] (spOp K A F (fun _ _ => True) (fun x y => x + y)) := by
  refine mcal_mk T.m_Field_plus (fun _ _ _ _ _ _ us hl => match us, hl with | [_, _, _], _ => rfl) sc_Field_plus (fun vs H Q E h => ?_) (fun f cdv Ar outer s H vs Q E hr h => ?_)
  · obtain ⟨a, x, y, u, v, rfl, _⟩ := h
    rfl
  · obtain ⟨a, x, y, u, v, rfl, F0, ru, rv, sx, sy, hc, q⟩ := h
    have F1 := F0
    obtain ⟨hp, dx, hf⟩ := F1
    obtain ⟨p1, rfl, t0⟩ := rp_ints ru
    obtain ⟨p2, rfl, t1⟩ := rp_ints rv
    refine ⟨_, (pss_one (ps_ret (pcm (c_Field_made T) T.clF (hr.mono (by decide)) (pv 0) (pa_cons (pe_op op_add (pe_op op_mulW (pe_ix ix_tup (pv 1) pe_int (fun _ _ => rfl)) (pe_ix ix_tup (pv 2) pe_int (fun _ _ => rfl))) (pe_op op_mulW (pe_ix ix_tup (pv 2) pe_int (fun _ _ => rfl)) (pe_ix ix_tup (pv 1) pe_int (fun _ _ => rfl)))) (pa_cons (pe_op op_mulW (pe_ix ix_tup (pv 1) pe_int (fun _ _ => rfl)) (pe_ix ix_tup (pv 2) pe_int (fun _ _ => rfl))) pa_nil))))), ?_⟩
    exact ⟨_, rfl, a, dx, _, rfl, hf, rfl, _, rfl, _, _, _, .int _, rfl, rfl, t0.sq, at_of (j := 0) rfl rfl, _, rfl, _, _, _, .int _, rfl, rfl, t1.sq, at_of (j := 1) rfl rfl, _, _, rfl, rfl, Sz.cmul (n := 999) (m := 999) sx.1 sy.2 (by decide), _, rfl, _, _, _, .int _, rfl, rfl, t1.sq, at_of (j := 0) rfl rfl, _, rfl, _, _, _, .int _, rfl, rfl, t0.sq, at_of (j := 1) rfl rfl, _, _, rfl, rfl, Sz.cmul (n := 999) (m := 999) sy.1 sx.2 (by decide), _, _, rfl, rfl, _, rfl, _, _, _, .int _, rfl, rfl, t0.sq, at_of (j := 1) rfl rfl, _, rfl, _, _, _, .int _, rfl, rfl, t1.sq, at_of (j := 1) rfl rfl, _, _, rfl, rfl, Sz.cmul (n := 999) (m := 999) sx.2 sy.2 (by decide), a, _, _, _, rfl, F0, Num.okB_mul _ _ (Num.enc_bot x) (Num.enc_bot y), (Sz.add (sx.1.mul sy.2) (sy.1.mul sx.2)).mono (by decide), (sx.2.mul sy.2).mono (by decide), fun H1 v sm r => q _ _ sm (rpN_nk (enc_add x y) r)⟩
/-! ### minus -/
theorem sc_Field_minus : FnScope ["self", "one", "other"] ["self", "one", "other"] (defScope (inClass (topS 18) 6)) := ⟨rfl, rfl, rfl, by decide +kernel, rfl, by decide +kernel, by decide +kernel⟩
theorem c_Field_minus (T : Txt K mg A) : MCal P w K mg base CX0 A.F 3 "minus" ["self", "one", "other"] [] (spOp K A F (fun _ _ => True) (fun x y => x - y)) := by
  refine mcal_mk T.m_Field_minus (fun _ _ _ _ _ _ us hl => match us, hl with | [_, _, _], _ => rfl) sc_Field_minus (fun vs H Q E h => ?_) (fun f cdv Ar outer s H vs Q E hr h => ?_)
  · obtain ⟨a, x, y, u, v, rfl, _⟩ := h
    rfl
  · obtain ⟨a, x, y, u, v, rfl, F0, ru, rv, sx, sy, hc, q⟩ := h
    have F1 := F0
    obtain ⟨hp, dx, hf⟩ := F1
    obtain ⟨p1, rfl, t0⟩ := rp_ints ru
    obtain ⟨p2, rfl, t1⟩ := rp_ints rv
    refine ⟨_, (pss_one (ps_ret (pcm (c_Field_made T) T.clF (hr.mono (by decide)) (pv 0) (pa_cons (pe_op op_sub (pe_op op_mulW (pe_ix ix_tup (pv 1) pe_int (fun _ _ => rfl)) (pe_ix ix_tup (pv 2) pe_int (fun _ _ => rfl))) (pe_op op_mulW (pe_ix ix_tup (pv 2) pe_int (fun _ _ => rfl)) (pe_ix ix_tup (pv 1) pe_int (fun _ _ => rfl)))) (pa_cons (pe_op op_mulW (pe_ix ix_tup (pv 1) pe_int (fun _ _ => rfl)) (pe_ix ix_tup (pv 2) pe_int (fun _ _ => rfl))) pa_nil))))), ?_⟩
    exact ⟨_, rfl, a, dx, _, rfl, hf, rfl, _, rfl, _, _, _, .int _, rfl, rfl, t0.sq, at_of (j := 0) rfl rfl, _, rfl, _, _, _, .int _, rfl, rfl, t1.sq, at_of (j := 1) rfl rfl, _, _, rfl, rfl, Sz.cmul (n := 999) (m := 999) sx.1 sy.2 (by decide), _, rfl, _, _, _, .int _, rfl, rfl, t1.sq, at_of (j := 0) rfl rfl, _, rfl, _, _, _, .int _, rfl, rfl, t0.sq, at_of (j := 1) rfl rfl, _, _, rfl, rfl, Sz.cmul (n := 999) (m := 999) sy.1 sx.2 (by decide), _, _, rfl, rfl, _, rfl, _, _, _, .int _, rfl, rfl, t0.sq, at_of (j := 1) rfl rfl, _, rfl, _, _, _, .int _, rfl, rfl, t1.sq, at_of (j := 1) rfl rfl, _, _, rfl, rfl, Sz.cmul (n := 999) (m := 999) sx.2 sy.2 (by decide), a, _, _, _, rfl, F0, Num.okB_mul _ _ (Num.enc_bot x) (Num.enc_bot y), (Sz.sub (sx.1.mul sy.2) (sy.1.mul sx.2)).mono (by decide), (sx.2.mul sy.2).mono (by decide), fun H1 v sm r => q _ _ sm (rpN_nk (enc_sub x y) r)⟩
/-! ### times -/
theorem sc_Field_times : FnScope ["self", "one", "other"] ["self", "one", "other"] (defScope (inClass (topS 18) 7)) := ⟨rfl, rfl, rfl, by decide +kernel, rfl, by decide +kernel, by decide +kernel⟩
theorem c_Field_times (T : Txt K mg A) : MCal P w K mg base CX0 A.F 3 "times" ["self", "one", "other"] [] (spOp K A F (fun _ _ => True) (fun x y => x * y)) := by
  refine mcal_mk T.m_Field_times (fun _ _ _ _ _ _ us hl => match us, hl with | [_, _, _], _ => rfl) sc_Field_times (fun vs H Q E h => ?_) (fun f cdv Ar outer s H vs Q E hr h => ?_)
  · obtain ⟨a, x, y, u, v, rfl, _⟩ := h
    rfl
  · obtain ⟨a, x, y, u, v, rfl, F0, ru, rv, sx, sy, hc, q⟩ := h
    have F1 := F0
    obtain ⟨hp, dx, hf⟩ := F1
    obtain ⟨p1, rfl, t0⟩ := rp_ints ru
    obtain ⟨p2, rfl, t1⟩ := rp_ints rv
    refine ⟨_, (pss_one (ps_ret (pcm (c_Field_made T) T.clF (hr.mono (by decide)) (pv 0) (pa_cons (pe_op op_mulW (pe_ix ix_tup (pv 1) pe_int (fun _ _ => rfl)) (pe_ix ix_tup (pv 2) pe_int (fun _ _ => rfl))) (pa_cons (pe_op op_mulW (pe_ix ix_tup (pv 1) pe_int (fun _ _ => rfl)) (pe_ix ix_tup (pv 2) pe_int (fun _ _ => rfl))) pa_nil))))), ?_⟩
    exact ⟨_, rfl, a, dx, _, rfl, hf, rfl, _, rfl, _, _, _, .int _, rfl, rfl, t0.sq, at_of (j := 0) rfl rfl, _, rfl, _, _, _, .int _, rfl, rfl, t1.sq, at_of (j := 0) rfl rfl, _, _, rfl, rfl, Sz.cmul (n := 999) (m := 999) sx.1 sy.1 (by decide), _, rfl, _, _, _, .int _, rfl, rfl, t0.sq, at_of (j := 1) rfl rfl, _, rfl, _, _, _, .int _, rfl, rfl, t1.sq, at_of (j := 1) rfl rfl, _, _, rfl, rfl, Sz.cmul (n := 999) (m := 999) sx.2 sy.2 (by decide), a, _, _, _, rfl, F0, Num.okB_mul _ _ (Num.enc_bot x) (Num.enc_bot y), (sx.1.mul sy.1).mono (by decide), (sx.2.mul sy.2).mono (by decide), fun H1 v sm r => q _ _ sm (rpN_nk (enc_mul x y) r)⟩
/-! ### over -/
theorem sc_Field_over : FnScope ["self", "one", "other"] ["self", "one", "other"] (defScope (inClass (topS 18) 8)) := ⟨rfl, rfl, rfl, by decide +kernel, rfl, by decide +kernel, by decide +kernel⟩
theorem c_Field_over (T : Txt K mg A) : MCal P w K mg base CX0 A.F 3 "over" ["self", "one", "other"] [] (spOp K A F (fun _ y => y ≠ 0) (fun x y => x / y)) := by
  refine mcal_mk T.m_Field_over (fun _ _ _ _ _ _ us hl => match us, hl with | [_, _, _], _ => rfl) sc_Field_over (fun vs H Q E h => ?_) (fun f cdv Ar outer s H vs Q E hr h => ?_)
  · obtain ⟨a, x, y, u, v, rfl, _⟩ := h
    rfl
  · obtain ⟨a, x, y, u, v, rfl, F0, ru, rv, sx, sy, hc, q⟩ := h
    have F1 := F0
    obtain ⟨hp, dx, hf⟩ := F1
    obtain ⟨p1, rfl, t0⟩ := rp_ints ru
    obtain ⟨p2, rfl, t1⟩ := rp_ints rv
    refine ⟨_, (pss_one (ps_ret (pcm (c_Field_made T) T.clF (hr.mono (by decide)) (pv 0) (pa_cons (pe_op op_mulW (pe_ix ix_tup (pv 1) pe_int (fun _ _ => rfl)) (pe_ix ix_tup (pv 2) pe_int (fun _ _ => rfl))) (pa_cons (pe_op op_mulW (pe_ix ix_tup (pv 1) pe_int (fun _ _ => rfl)) (pe_ix ix_tup (pv 2) pe_int (fun _ _ => rfl))) pa_nil))))), ?_⟩
    exact ⟨_, rfl, a, dx, _, rfl, hf, rfl, _, rfl, _, _, _, .int _, rfl, rfl, t0.sq, at_of (j := 0) rfl rfl, _, rfl, _, _, _, .int _, rfl, rfl, t1.sq, at_of (j := 1) rfl rfl, _, _, rfl, rfl, Sz.cmul (n := 999) (m := 999) sx.1 sy.2 (by decide), _, rfl, _, _, _, .int _, rfl, rfl, t0.sq, at_of (j := 1) rfl rfl, _, rfl, _, _, _, .int _, rfl, rfl, t1.sq, at_of (j := 0) rfl rfl, _, _, rfl, rfl, Sz.cmul (n := 999) (m := 999) sx.2 sy.1 (by decide), a, _, _, _, rfl, F0, Num.okB_mul _ _ (Num.enc_bot x) (Num.enc_top y hc), (sx.1.mul sy.2).mono (by decide), (sx.2.mul sy.1).mono (by decide), fun H1 v sm r => q _ _ sm (rpN_nk (enc_div x y hc) r)⟩
end
end FsR
end
section
/-! is_number; order_of: the walks. -/
set_option Elab.async false
set_option linter.all false
set_option maxRecDepth 100000
namespace FsR
open PySem PySem.Spec PyProof.Rows L2 LamX Fs
section
variable {F : Type} [Num F]
theorem enc_form (x : F) : Num.enc x = mkN (Num.p F) (Num.enc x).1 (Num.enc x).2 := by
  have h := Num.enc_frac (K := F) (Num.enc x).1 (Num.enc x).2 (Num.enc_bot x)
  rw [Num.frac_enc] at h
  exact h
theorem enc_prime (x : F) (h : Num.p F ≠ 0) : (Num.enc x).2 = 1 ∧ 0 ≤ (Num.enc x).1 ∧ (Num.enc x).1 < Num.p F := by
  have e := enc_form x
  have hp : 0 < Num.p F := by
    rcases Num.p_ok (K := F) with z | z
    · exact absurd z h
    · omega
  unfold mkN at e
  rw [if_neg h] at e
  have e1 := congrArg Prod.fst e
  have e2 := congrArg Prod.snd e
  refine ⟨e2, ?_, ?_⟩
  · rw [e1]; exact Int.emod_nonneg _ (by omega)
  · rw [e1]; exact Int.emod_lt_of_pos _ hp
theorem enc_zero_p (x : F) (h : Num.p F = 0) : 0 < (Num.enc x).2 ∧ (Num.enc x).2 ≠ 0 ∧ mkN 0 (Num.enc x).1 (Num.enc x).2 = Num.enc x := by
  have e := enc_form x
  rw [h] at e
  have hb : (Num.enc x).2 ≠ 0 := by
    have := Num.enc_bot x
    unfold okB at this
    rw [if_pos h] at this
    exact this
  refine ⟨?_, hb, e.symm⟩
  unfold mkN at e
  rw [if_pos rfl] at e
  have e2 : (Num.enc x).2 = ((Num.enc x).2.natAbs : Int) / (Int.gcd (Num.enc x).1 (Num.enc x).2 : Int) := congrArg Prod.snd e
  rw [e2]
  rw [e2] at hb
  have : 0 ≤ ((Num.enc x).2.natAbs : Int) / (Int.gcd (Num.enc x).1 (Num.enc x).2 : Int) := Int.ediv_nonneg (by omega) (by omega)
  omega
end
section
variable {P : Program} {w : World} {K : PySem.W.Frag} {mg : Str → Option Value} {base : Heap} {A : Ad} {F : Type} [Num F]
theorem sc_Field_is_number : FnScope ["self", "thing"] ["self", "thing"] (defScope (inClass (topS 18) 9)) := ⟨rfl, rfl, rfl, by decide +kernel, rfl, by decide +kernel, by decide +kernel⟩
def spIsNum (K : PySem.W.Frag) (A : Ad) (F : Type) [Num F] : Sp := fun vs H Q _ => ∃ (a : Addr) (x : F) (v : V), vs = [.ref a, v] ∧ Fld A H a (Num.p F) ∧ Rp K H (nk x) v ∧ NSz x ∧ ∀ H', Same H H' → Q (.bl true) H'
theorem c_Field_is_number (T : Txt K mg A) : MCal P w K mg base CX0 A.F 2 "is_number" ["self", "thing"] [] (spIsNum K A F) := by
  refine mcal_mk T.m_Field_is_number (fun _ _ _ _ _ _ us hl => match us, hl with | [_, _], _ => rfl) sc_Field_is_number (fun vs H Q E h => ?_) (fun f cdv Ar outer s H vs Q E hr h => ?_)
  · obtain ⟨a, x, v, rfl, _⟩ := h
    rfl
  · obtain ⟨a, x, v, rfl, F0, rv, sx, q⟩ := h
    have F1 := F0
    obtain ⟨hp, dx, hf⟩ := F1
    have rv0 := rv
    obtain ⟨p1, rfl, t0⟩ := rp_ints rv0
    refine ⟨_, (pss_cons (ps_if (PW.pt (pw_or (pt_not (pt_val (pe_callB call_isi (by rfl) T.isinstance (by decide +kernel) (pa_cons (pv 1) (pa_cons (pe_bltn (v := .ty "tuple") (by rfl) T.tuple (by decide +kernel) rfl) pa_nil))))) (pw_or (pt_cmpR op_ne (pe_callB call_len_seq (by rfl) T.len (by decide +kernel) (pa_cons (pv 1) pa_nil)) pe_int (nomark _)) (pw_or (pt_not (pt_val (pc (c_is_whole T) (hr.mono (by decide)) (pa_cons (pe_ix ix_tup (pv 1) pe_int (fun _ _ => rfl)) pa_nil)))) (pw_or1 (pt_not (pt_val (pc (c_is_whole T) (hr.mono (by decide)) (pa_cons (pe_ix ix_tup (pv 1) pe_int (fun _ _ => rfl)) pa_nil))))))))) (pss_one (ps_ret pe_bl))
      pss_nil)
      (pss_cons (ps_if (pt_cmpR op_ne (pe_fld (pv 0) (by rfl)) pe_int (nomark _)) (pss_one (ps_ret (pe_and (pe_cmpR op_eq (pe_ix ix_tup (pv 1) pe_int (fun _ _ => rfl)) pe_int (nomark _)) (pe_one (pe_chain op_le op_lt pe_int (pe_ix ix_tup (pv 1) pe_int (fun _ _ => rfl)) (pe_fld (pv 0) (by rfl)))))))
      pss_nil)
      (pss_one (ps_ret (pe_and (pe_cmpR op_gt (pe_ix ix_tup (pv 1) pe_int (fun _ _ => rfl)) pe_int (nomark _)) (pe_one (pe_cmpR (op_eqR hr.units) (pc (c_lowest T) (hr.mono (by decide)) (pa_cons (pe_ix ix_tup (pv 1) pe_int (fun _ _ => rfl)) (pa_cons (pe_ix ix_tup (pv 1) pe_int (fun _ _ => rfl)) pa_nil))) (pv 1) (nomark _)))))))), ?_⟩
    refine ⟨_, rfl, _, _, .type "tuple", _, _, rfl, .ty _, tp_ty t0, kit_ty (by decide +kernel), true, rfl, iteF ?_⟩
    refine ⟨_, rfl, _, _, rfl, .inr t0.sq, rfl, _, rfl, itNF rfl ?_⟩
    refine ⟨_, rfl, _, _, _, .int _, rfl, rfl, t0.sq, at_of (j := 0) rfl rfl, _, rfl, .inl ⟨_, rfl, true, rfl, iteF ?_⟩⟩
    refine ⟨_, rfl, _, _, _, .int _, rfl, rfl, t0.sq, at_of (j := 1) rfl rfl, _, rfl, .inl ⟨_, rfl, true, rfl, iteF ?_⟩⟩
    refine ⟨_, rfl, a, A.F, dx, _, _, rfl, hf, T.clF, T.nF_own_prime, fs_prime _, rfl, _, rfl, itN2 (fun h0 => ?_) (fun h0 => ?_)⟩
    · obtain ⟨e1, e2, e3⟩ := enc_prime x (fun z => h0 (vi z))
      refine ⟨_, rfl, _, _, _, .int _, rfl, rfl, t0.sq, at_of (j := 1) rfl rfl, rfl, _, rfl, itT (vi e1) ?_⟩
      refine ⟨_, rfl, _, _, _, .int _, rfl, rfl, t0.sq, at_of (j := 0) rfl rfl, _, _, rfl, rfl, _, rfl, itT e2 ?_⟩
      refine ⟨_, rfl, a, A.F, dx, _, _, rfl, hf, T.clF, T.nF_own_prime, fs_prime _, _, _, rfl, rfl, ?_⟩
      show Q (.bl (decide ((Num.enc x).1 < Num.p F))) H
      rw [decide_eq_true e3]
      exact q H (Same.refl _)
    · obtain ⟨e1, e2, e3⟩ := enc_zero_p x (V.int.inj h0)
      refine ⟨_, rfl, _, _, _, .int _, rfl, rfl, t0.sq, at_of (j := 1) rfl rfl, _, _, rfl, rfl, _, rfl, itT e1 ?_⟩
      refine ⟨_, rfl, _, _, _, .int _, rfl, rfl, t0.sq, at_of (j := 0) rfl rfl, _, rfl, _, _, _, .int _, rfl, rfl, t0.sq, at_of (j := 1) rfl rfl, _, _, rfl, e2, sx.1.mono (by decide), sx.2.mono (by decide), fun H1 v1 sm r => ?_⟩
      rw [e3] at r
      refine ⟨_, rfl, nk x, nk x, r, (Keep.of sm).rp rv, fine_nk x, fine_nk x, ?_⟩
      show Q (.bl (decide (nk x = nk x))) H1
      rw [decide_eq_true rfl]
      exact q H1 sm
/-! ### order_of -/
theorem sc_order_of : FnScope ["product"] ["product"] (defScope (topS 20)) := ⟨rfl, rfl, rfl, by decide +kernel, rfl, by decide +kernel, by decide +kernel⟩
def ordk (q : Pr) : NestedKey := .tup [.num (size q), pk q]
def spOrder (K : PySem.W.Frag) : Sp := fun vs H Q _ => ∃ (q : Pr) (v : V), vs = [v] ∧ Rp K H (pk q) v ∧ ∀ H' v, Same H H' → Rp K H' (ordk q) v → Q v H'
theorem rp_prod {K : PySem.W.Frag} {H : Hp} {q : Pr} {v : V} (h : Rp K H (pk q) v) : ∃ p, v = .ref p ∧ Tp K H p ((places q).map fun (i : Nat) => V.int i) := by
  obtain ⟨p, xs, rfl, t, r⟩ := rp_tup_iff.mp h
  refine ⟨p, rfl, ?_⟩
  have e : ((places q).map fun (i : Nat) => NestedKey.num (i : Int)) = ((places q).map fun (i : Nat) => (i : Int)).map NestedKey.num := by rw [List.map_map]; rfl
  rw [e] at r
  rw [rpl_nums_iff r, List.map_map] at t
  exact t
theorem c_order_of (T : Txt K mg A) : Cal P w K mg base CX0 1 "order_of" ["product"] [] (spOrder K) := by
  refine cal_mk T.g_order_of (fun _ _ _ _ _ _ us hl => match us, hl with | [_], _ => rfl) sc_order_of (fun vs H Q E h => ?_) (fun f cdv Ar outer s H vs Q E hr h => ?_)
  · obtain ⟨q, v, rfl, _⟩ := h
    rfl
  · obtain ⟨q, v, rfl, r, k⟩ := h
    obtain ⟨p, rfl, t⟩ := rp_prod r
    refine ⟨_, (pss_one (ps_ret (pe_tup (pa_cons (pe_callB call_len_seq (by rfl) T.len (by decide +kernel) (pa_cons (pv 0) pa_nil)) (pa_cons (pv 0) pa_nil))))), ?_⟩
    refine ⟨_, rfl, _, _, rfl, .inr t.sq, _, rfl, (by decide : 2 ≤ sizeLine), fun p2 h2 => k _ _ (same_upd h2) ?_⟩
    refine rp_tup_iff.mpr ⟨p2, _, rfl, .inl upd_same, rpl_cons ?_ (rpl_cons ((Keep.of (same_upd h2)).rp r) rpl_nil)⟩
    rw [List.length_map]
    exact rp_num _
end
end FsR
end
section
/-! Dicts as functions from products, from marks, to numbers. -/
set_option Elab.async false
set_option linter.all false
set_option maxRecDepth 100000
namespace FsR
open PySem PySem.Spec PyProof.Rows L2 LamX Fs
/-! ### hashes -/
mutual
def hashN : NestedKey → Int
  | .num i => hashInt i
  | .tup ks => reduceHash (Builtin.Tuple.tupleHashOf (hashNs ks))
  | _ => 0
def hashNs : List NestedKey → List Int
  | [] => []
  | k :: ks => hashN k :: hashNs ks
end
mutual
theorem hash_num (w : World) : ∀ d : NestedKey, numB d = true → d.hash w = hashN d
  | .num i, _ => by simp only [NestedKey.hash, hashN]
  | .none, h => by simp [numB] at h
  | .text _, h => by simp [numB] at h
  | .tup ds, h => by
    simp only [NestedKey.hash, hashN]
    rw [hashes_num w ds (by simpa [numB] using h)]
theorem hashes_num (w : World) : ∀ ds : List NestedKey, numsB ds = true → NestedKey.hashes w ds = hashNs ds
  | [], _ => by simp only [NestedKey.hashes, hashNs]
  | d :: ds, h => by
    simp only [numsB, Bool.and_eq_true] at h
    simp only [NestedKey.hashes, hashNs]
    rw [hash_num w d h.1, hashes_num w ds h.2]
end
/-- keys that stand for the elements of U, all hashes apart -/
structure Emb {κ : Type} (ek : κ → NestedKey) (U : List κ) : Prop where
  inj : ∀ i j, hashN (ek i) = hashN (ek j) → i = j
  num : ∀ i, numB (ek i) = true
  dep : ∀ i, (ek i).depth ≤ 8
  all : ∀ i, i ∈ U
  len : U.length ≤ 64
theorem Emb.eq {κ : Type} {ek : κ → NestedKey} {U : List κ} (e : Emb ek U) {i j : κ} (h : ek i = ek j) : i = j := e.inj i j (congrArg hashN h)
theorem nodup_inj {α β : Type} (f : α → β) : ∀ {l : List α}, (l.map f).Nodup → ∀ a ∈ l, ∀ b ∈ l, f a = f b → a = b
  | x :: l, h, a, ha, b, hb, e => by
    rw [List.map_cons, List.nodup_cons] at h
    rcases List.mem_cons.mp ha with ea | ma
    · rcases List.mem_cons.mp hb with eb | mb
      · rw [ea, eb]
      · exact absurd (by rw [← ea, e]; exact List.mem_map_of_mem mb) h.1
    · rcases List.mem_cons.mp hb with eb | mb
      · exact absurd (by rw [← eb, ← e]; exact List.mem_map_of_mem ma) h.1
      · exact nodup_inj f h.2 a ma b mb e
theorem nodup_le {α : Type} [DecidableEq α] : ∀ {l r : List α}, l.Nodup → (∀ a ∈ l, a ∈ r) → l.length ≤ r.length
  | [], _, _, _ => Nat.zero_le _
  | a :: l, r, h, hs => by
    rw [List.nodup_cons] at h
    have h1 := nodup_le (l := l) (r := r.erase a) h.2 fun b hb => (List.mem_erase_of_ne (fun z : b = a => h.1 (by rw [← z]; exact hb))).mpr (hs b (List.mem_cons_of_mem _ hb))
    have h2 := List.length_erase_of_mem (hs a List.mem_cons_self)
    have h3 : 0 < r.length := List.length_pos_of_mem (hs a List.mem_cons_self)
    rw [List.length_cons]
    omega
theorem emb_pk : Emb pk prods where
  inj := fun i j h => nodup_inj (fun q => hashN (pk q)) (l := prods) (by decide +kernel) i (prods_all i) j (prods_all j) h
  num := numB_pk
  dep := fun q => (fine_pk q).2.1
  all := prods_all
  len := by decide
theorem emb_mkk : Emb mkk marks where
  inj := fun i j h => nodup_inj (fun q => hashN (mkk q)) (l := marks) (by decide +kernel) i (marks_all i) j (marks_all j) h
  num := fun u => by
    have h : ∀ (i : Fin 4) (q : Pr), numB (mkk (i, q)) = true := by decide +kernel
    exact h u.1 u.2
  dep := fine_mkk
  all := marks_all
  len := by decide +kernel
/-! ### entries as a function -/
section
variable {α κ : Type} [DecidableEq κ] {K : PySem.W.Frag} {H H' : Hp} {ek : κ → NestedKey} {U : List κ} {pv : α → Addr → Prop} {g : κ → Option α} {xs : List Ent}
structure EG (K : PySem.W.Frag) (H : Hp) (ek : κ → NestedKey) (pv : α → Addr → Prop) (g : κ → Option α) (xs : List Ent) : Prop where
  es : Es K H xs
  of : ∀ e ∈ xs, ∃ k x, e.1 = ek k ∧ g k = some x ∧ pv x e.2.2
  to : ∀ k x, g k = some x → ek k ∈ xs.map (·.1)
theorem EG.keep {pv' : α → Addr → Prop} (e : EG K H ek pv g xs) (k : Keep H H') (hp : ∀ x a, pv x a → pv' x a) : EG K H' ek pv' g xs := ⟨e.es.keep k, fun y hy => let ⟨i, x, a, b, c⟩ := e.of y hy; ⟨i, x, a, b, hp _ _ c⟩, e.to⟩
theorem EG.nil : EG K H ek pv (fun _ => (none : Option α)) [] := ⟨Es.nil, fun _ h => absurd h (by simp), fun _ _ h => by cases h⟩
theorem EG.some (e : EG K H ek pv g xs) (E : Emb ek U) {k : κ} {x : α} (h : g k = some x) : ∃ p, lk xs (ek k) = some p ∧ pv x p.2 := by
  cases hl : lk xs (ek k) with
  | none => exact absurd (e.to k x h) (lk_none hl)
  | some p =>
    obtain ⟨j, y, e1, e2, e3⟩ := e.of _ (lk_mem hl)
    have : k = j := E.eq e1
    subst this
    rw [h] at e2
    cases e2
    exact ⟨p, rfl, e3⟩
theorem EG.none (e : EG K H ek pv g xs) (E : Emb ek U) {k : κ} (h : g k = none) : lk xs (ek k) = none := by
  cases hl : lk xs (ek k) with
  | none => rfl
  | some p =>
    obtain ⟨j, y, e1, e2, e3⟩ := e.of _ (lk_mem hl)
    have : k = j := E.eq e1
    subst this
    rw [h] at e2
    cases e2
theorem EG.isSome (e : EG K H ek pv g xs) (E : Emb ek U) (k : κ) : (lk xs (ek k)).isSome = (g k).isSome := by
  cases h : g k with
  | none => rw [e.none E h]; rfl
  | some x =>
    obtain ⟨p, hp, _⟩ := e.some E h
    rw [hp]; rfl
theorem EG.put (e : EG K H ek pv g xs) (E : Emb ek U) {k : κ} {x : α} {b c : Addr} (hb : Rp K H (ek k) (.ref b)) (hc : pv x c) : EG K H ek pv (fun j => if j = k then Option.some x else g j) (putD xs (ek k) b c) := by
  refine ⟨e.es.put hb (E.dep k), fun y hy => ?_, fun j z hz => ?_⟩
  · have hl := lk_of_mem (e.es.put (v := c) hb (E.dep k)).nd (k := y.1) (p := y.2) hy
    rw [lk_put] at hl
    by_cases q : y.1 = ek k
    · refine ⟨k, x, q, by rw [if_pos rfl], ?_⟩
      rw [if_pos q] at hl
      have : y.2.2 = c := by
        cases h0 : lk xs (ek k) <;> rw [h0] at hl <;> simp at hl <;> rw [← hl]
      rw [this]; exact hc
    · rw [if_neg q] at hl
      obtain ⟨j, z, e1, e2, e3⟩ := e.of _ (lk_mem hl)
      refine ⟨j, z, e1, ?_, e3⟩
      rw [if_neg fun h => q (by rw [← h]; exact e1)]
      exact e2
  · have hs : (lk (putD xs (ek k) b c) (ek j)).isSome = true := by
      rw [lk_put]
      by_cases q : j = k
      · subst q
        rw [if_pos rfl]; simp
      · rw [if_neg fun h => q (E.eq h)]
        rw [if_neg q] at hz
        obtain ⟨p, hp, _⟩ := e.some E hz
        rw [hp]; rfl
    obtain ⟨p, hp⟩ := Option.isSome_iff_exists.mp hs
    exact List.mem_map.mpr ⟨_, lk_mem hp, rfl⟩
theorem EG.rm (e : EG K H ek pv g xs) (E : Emb ek U) (k : κ) : EG K H ek pv (fun j => if j = k then Option.none else g j) (rmD xs (ek k)) := by
  refine ⟨e.es.rm, fun y hy => ?_, fun j z hz => ?_⟩
  · unfold rmD at hy
    obtain ⟨h1, h2⟩ := List.mem_filter.mp hy
    obtain ⟨j, z, e1, e2, e3⟩ := e.of y h1
    refine ⟨j, z, e1, ?_, e3⟩
    rw [if_neg fun h => (of_decide_eq_true h2) (by rw [e1, h])]
    exact e2
  · by_cases q : j = k
    · rw [if_pos q] at hz; cases hz
    · rw [if_neg q] at hz
      obtain ⟨y, hy, e1⟩ := List.mem_map.mp (e.to j z hz)
      refine List.mem_map.mpr ⟨y, List.mem_filter.mpr ⟨hy, decide_eq_true fun h => q (E.eq (e1.symm.trans h))⟩, e1⟩
theorem EG.len (e : EG K H ek pv g xs) (E : Emb ek U) : xs.length ≤ 64 := by
  have h1 : (xs.map (·.1)).Nodup := e.es.nd
  have h2 : ∀ a ∈ xs.map (·.1), a ∈ U.map ek := fun a ha => by
    obtain ⟨y, hy, rfl⟩ := List.mem_map.mp ha
    obtain ⟨k, _, e1, _⟩ := e.of y hy
    rw [e1]; exact List.mem_map_of_mem (E.all k)
  have h3 : (xs.map (·.1)).length ≤ (U.map ek).length := nodup_le h1 h2
  rw [List.length_map, List.length_map] at h3
  exact Nat.le_trans h3 E.len
theorem EG.line (e : EG K H ek pv g xs) (E : Emb ek U) : xs.length < sizeLine := Nat.lt_of_le_of_lt (e.len E) (by decide)
theorem EG.apart (e : EG K H ek pv g xs) (E : Emb ek U) (w : World) : Apart w xs := by
  unfold Apart
  have h : ∀ a ∈ xs, ∀ b ∈ xs, a.1.hash w = b.1.hash w → a.1 = b.1 := fun a ha b hb z => by
    obtain ⟨i, _, e1, _⟩ := e.of a ha
    obtain ⟨j, _, e2, _⟩ := e.of b hb
    rw [e1, e2, hash_num w _ (E.num i), hash_num w _ (E.num j)] at z
    rw [e1, e2, E.inj i j z]
  have nd := e.es.nd
  clear e
  induction xs with
  | nil => exact List.nodup_nil
  | cons y ys ih =>
    rw [List.map_cons, List.nodup_cons] at nd ⊢
    refine ⟨fun hm => ?_, ih (fun a ha b hb => h a (List.mem_cons_of_mem _ ha) b (List.mem_cons_of_mem _ hb)) nd.2⟩
    obtain ⟨z, hz, e⟩ := List.mem_map.mp hm
    exact nd.1 (by rw [← h z (List.mem_cons_of_mem _ hz) y List.mem_cons_self e]; exact List.mem_map_of_mem hz)
theorem EG.congr {g2 : κ → Option α} (e : EG K H ek pv g xs) (h : ∀ k, g k = g2 k) : EG K H ek pv g2 xs := by
  have : g = g2 := funext h
  rw [← this]; exact e
end
section
variable {F : Type} [Num F] {κ : Type} [DecidableEq κ] {K : PySem.W.Frag} {H H' : Hp} {ek : κ → NestedKey} {U : List κ} {g : κ → Option F} {xs : List Ent}
/-- the number x stands at a -/
def nv (K : PySem.W.Frag) (H : Hp) : F → Addr → Prop := fun x a => Rp K H (nk x) (.ref a)
theorem nv.keep (k : Keep H H') (x : F) (a : Addr) (h : nv K H x a) : nv K H' x a := k.rp h
/-- where the function is not nought -/
def supp (f : κ → F) : κ → Option F := fun k => if f k = 0 then Option.none else Option.some (f k)
theorem supp_some {f : κ → F} {k : κ} {x : F} : supp f k = some x ↔ f k ≠ 0 ∧ f k = x := by
  unfold supp
  by_cases h : f k = 0
  · rw [if_pos h]; simp [h]
  · rw [if_neg h]; simp [h]
theorem supp_none {f : κ → F} {k : κ} : supp f k = none ↔ f k = 0 := by
  unfold supp
  by_cases h : f k = 0
  · rw [if_pos h]; simp [h]
  · rw [if_neg h]; simp [h]
/-- the dict at d tells g -/
def DG (K : PySem.W.Frag) (w : World) (H : Hp) (d : Addr) (ek : κ → NestedKey) (g : κ → Option F) : Prop := ∃ xs ep, H d = some (dO w d xs ep) ∧ EG K H ek (nv K H) g xs
theorem DG.grw {T : List (Addr × Str)} {w : World} {d : Addr} (h : DG K w H d ek g) (s : Grw T H H') : DG K w H' d ek g := by
  obtain ⟨xs, ep, h1, h2⟩ := h
  exact ⟨xs, ep, s.ext _ _ h1 (fun _ z => by unfold dO at z; cases z), h2.keep s.keep (nv.keep s.keep)⟩
theorem DG.same {w : World} {d : Addr} (h : DG K w H d ek g) (s : Same H H') : DG K w H' d ek g := by
  obtain ⟨xs, ep, h1, h2⟩ := h
  exact ⟨xs, ep, s _ _ h1, h2.keep (Keep.of s) (nv.keep (Keep.of s))⟩
end
end FsR
end
section
/-! Lines: the walks of __init__, less, made_of. -/
set_option Elab.async false
set_option linter.all false
set_option maxRecDepth 100000
namespace FsR
open PySem PySem.Spec PyProof.Rows L2 LamX Fs
section
variable {F : Type} [Num F] {κ : Type} [DecidableEq κ] {K : PySem.W.Frag} {w : World} {H H' : Hp} {A : Ad}
/-- the rows kept, by their heads -/
def pairV (K : PySem.W.Frag) (w : World) (H : Hp) (bh : Addr) : Row F × MRow F → Addr → Prop := fun rm a => ∃ dr dm, Tp K H a [.ref dr, .ref dm] ∧ dr ≠ bh ∧ dm ≠ bh ∧ DG K w H dr pk (supp rm.1) ∧ DG K w H dm mkk (supp rm.2)
def BG (K : PySem.W.Frag) (w : World) (H : Hp) (bh : Addr) (B : Bs F) : Prop := ∃ xs ep, H bh = some (dO w bh xs ep) ∧ EG K H pk (pairV K w H bh) B xs
/-- the object Lines at a: its field at fa, its dict at bh -/
def LnAt (A : Ad) (H : Hp) (a fa bh : Addr) : Prop := ∃ dx, H a = some (.ins A.L dx [("line_field", .ref fa), ("by_head", .ref bh)])
theorem fs_lf (fa bh : Addr) : ([(("line_field" : Str), V.ref fa), (("by_head" : Str), V.ref bh)] : List (Str × V)).lookup ("line_field" : Str) = some (.ref fa) := rfl
theorem fs_bh (fa bh : Addr) : ([(("line_field" : Str), V.ref fa), (("by_head" : Str), V.ref bh)] : List (Str × V)).lookup ("by_head" : Str) = some (.ref bh) := rfl
theorem BG.grw {T : List (Addr × Str)} {bh : Addr} {B : Bs F} (h : BG K w H bh B) (s : Grw T H H') : BG K w H' bh B := by
  obtain ⟨xs, ep, h1, h2⟩ := h
  exact ⟨xs, ep, s.ext _ _ h1 (fun _ z => by unfold dO at z; cases z), h2.keep s.keep fun x a ⟨dr, dm, t, n1, n2, d1, d2⟩ => ⟨dr, dm, t.keep s.keep, n1, n2, d1.grw s, d2.grw s⟩⟩
/-! ### what is asked and left at a dict, by its function -/
/-- all but what stands at p stays -/
def SB (p : Addr) (H H' : Hp) : Prop := ∀ b o, b ≠ p → H b = some o → H' b = some o
theorem SB.refl (p : Addr) (H : Hp) : SB p H H := fun _ _ _ h => h
theorem SB.of {p : Addr} (s : Same H H') : SB p H H' := fun b o _ h => s b o h
theorem SB.trans {p : Addr} {H1 : Hp} (a : SB p H H1) (b : SB p H1 H') : SB p H H' := fun c o n h => b c o n (a c o n h)
theorem SB.upd {p : Addr} {o : HO} : SB p H (upd H p o) := fun b u n h => by rw [upd_ne n]; exact h
theorem SB.same {p : Addr} {H1 : Hp} (a : Same H H1) (b : SB p H1 H') (n : H p = none) : Same H H' := fun c o h => b c o (ne_of_none h n) (a c o h)
theorem SB.keep {p : Addr} {w : World} {xs : List Ent} {ep : Nat} (s : SB p H H') (h : H p = some (dO w p xs ep)) : Keep H H' := fun b ys e => s b _ (fun z => by
  rw [z, h] at e
  have e := Option.some.inj e
  unfold dO at e
  cases e) e
theorem rp_ref {x : F} {v : V} (h : Rp K H (nk x) v) : ∃ c, v = .ref c := by
  obtain ⟨c, _, rfl, _⟩ := rp_tup_iff.mp h
  exact ⟨c, rfl⟩
theorem keep_dO {p : Addr} {fs fs2 : List Ent} {ep ep2 : Nat} (h : H p = some (dO w p fs ep)) : Keep H (upd H p (dO w p fs2 ep2)) := Keep.wr h fun xs z => by
  unfold dO at z
  cases z
structure SetdP (K : PySem.W.Frag) (w : World) (x : V) (vs : List V) (H : Hp) (Q : VK) : Prop where
  h : rSetdD K w x vs H Q
structure PopP (K : PySem.W.Frag) (w : World) (x : V) (vs : List V) (H : Hp) (Q : VK) : Prop where
  h : rPopD K w x vs H Q
structure PutP (K : PySem.W.Frag) (w : World) (x y z : V) (H : Hp) (Q : Hp → Prop) : Prop where
  h : sPutD K w x y z H Q
theorem mt_setdP {X : Cx} (hu : X.A.units + 64 < cLine) : MtR X "dict.setdefault" (SetdP X.K X.w) := fun pn st sg Hq x vs v us Q I rx rs q => mt_setdD hu pn st sg Hq x vs v us Q I rx rs q.h
theorem mt_popP {X : Cx} (hu : X.A.units + 64 < cLine) : MtR X "dict.pop" (PopP X.K X.w) := fun pn st sg Hq x vs v us Q I rx rs q => mt_popD hu pn st sg Hq x vs v us Q I rx rs q.h
theorem pset_dicP {X : Cx} (hu : X.A.units + 64 < cLine) : PSet X (PutP X.K X.w) := fun pn st sg Hq x y v ov iv u Q I rx ry rv q => pset_dic hu pn st sg Hq x y v ov iv u Q I rx ry rv q.h
section
variable {ek : κ → NestedKey} {U : List κ} {g : κ → Option F} {fs : List Ent} {ep : Nat} {p b c : Addr} {k : κ}
theorem setd_of {Q : VK} {z : F} (E : Emb ek U) (h1 : H p = some (dO w p fs ep)) (eg : EG K H ek (nv K H) g fs) (hk : Rp K H (ek k) (.ref b)) (hc : Rp K H (nk z) (.ref c))
    (q : ∀ u H3 fs3 ep3, SB p H H3 → H3 p = some (dO w p fs3 ep3) → Rp K H3 (nk ((g k).getD z)) u → EG K H3 ek (nv K H3) (fun j => if j = k then some ((g k).getD z) else g j) fs3 → Q u H3) : SetdP K w (.ref p) [.ref b, .ref c] H Q := by
  refine ⟨p, fs, ep, ek k, b, c, rfl, rfl, h1, eg.es, hk, E.dep k, eg.line E, fun p2 hp2 => ?_, fun hn ep2 => ?_⟩
  · obtain ⟨j, x, e1, e2, e3⟩ := eg.of _ (lk_mem hp2)
    have : k = j := E.eq e1
    subst this
    refine q _ H fs ep (SB.refl p H) h1 ?_ (eg.congr fun j => ?_)
    · rw [e2]; exact e3
    · by_cases hj : j = k
      · rw [if_pos hj, hj, e2]; rfl
      · rw [if_neg hj]
  · have hg : g k = none := by
      cases hg : g k with
      | none => rfl
      | some x =>
        obtain ⟨p3, h3, _⟩ := eg.some E hg
        rw [hn] at h3
        cases h3
    have kp := keep_dO (fs2 := putD fs (ek k) b c) (ep2 := ep2) h1
    refine q _ _ _ ep2 SB.upd upd_same ?_ ?_
    · rw [hg]; exact kp.rp hc
    · rw [hg]
      exact (eg.keep kp (nv.keep kp)).put E (kp.rp hk) (kp.rp hc)
theorem putd_of {Q : Hp → Prop} {z : F} (E : Emb ek U) (h1 : H p = some (dO w p fs ep)) (eg : EG K H ek (nv K H) g fs) (hk : Rp K H (ek k) (.ref b)) (hc : Rp K H (nk z) (.ref c))
    (q : ∀ H3 fs3 ep3, SB p H H3 → H3 p = some (dO w p fs3 ep3) → EG K H3 ek (nv K H3) (fun j => if j = k then some z else g j) fs3 → Q H3) : PutP K w (.ref p) (.ref b) (.ref c) H Q := by
  refine ⟨p, fs, ep, ek k, b, c, rfl, rfl, rfl, h1, eg.es, hk, E.dep k, eg.line E, fun ep2 => ?_⟩
  have kp := keep_dO (fs2 := putD fs (ek k) b c) (ep2 := ep2) h1
  exact q _ _ ep2 SB.upd upd_same ((eg.keep kp (nv.keep kp)).put E (kp.rp hk) (kp.rp hc))
theorem popd_of {Q : VK} {x : F} (E : Emb ek U) (h1 : H p = some (dO w p fs ep)) (eg : EG K H ek (nv K H) g fs) (hk : Rp K H (ek k) (.ref b)) (hg : g k = some x)
    (q : ∀ u H3 fs3 ep3, SB p H H3 → H3 p = some (dO w p fs3 ep3) → EG K H3 ek (nv K H3) (fun j => if j = k then none else g j) fs3 → Q u H3) : PopP K w (.ref p) [.ref b] H Q := by
  obtain ⟨p2, h2, _⟩ := eg.some E hg
  refine ⟨p, fs, ep, ek k, b, p2, rfl, rfl, h1, eg.es, hk, E.dep k, h2, fun ep2 => ?_⟩
  have kp := keep_dO (fs2 := rmD fs (ek k)) (ep2 := ep2) h1
  exact q _ _ _ ep2 SB.upd upd_same ((eg.keep kp (nv.keep kp)).rm E k)
end
section
variable {α : Type} {ek : κ → NestedKey} {U : List κ} {pv : α → Addr → Prop} {g : κ → Option α} {fs : List Ent} {ep : Nat} {p b : Addr} {k : κ}
theorem look_of (E : Emb ek U) (h1 : H p = some (dO w p fs ep)) (eg : EG K H ek pv g fs) (hk : Rp K H (ek k) (.ref b)) : ∃ r, Look K w H (.ref p) (.ref b) r ∧ (r.isSome = (g k).isSome) ∧ ∀ v, r = some v → ∃ x, g k = some x ∧ pv x v := by
  refine ⟨(lk fs (ek k)).map (·.2), ⟨p, fs, ep, ek k, b, rfl, rfl, h1, eg.es, hk, E.dep k, rfl⟩, ?_, fun v hv => ?_⟩
  · rw [Option.isSome_map]; exact eg.isSome E k
  · obtain ⟨p2, h2, rfl⟩ := Option.map_eq_some_iff.mp hv
    obtain ⟨j, x, e1, e2, e3⟩ := eg.of _ (lk_mem h2)
    have : k = j := E.eq e1
    subst this
    exact ⟨x, e2, e3⟩
theorem look_some {x : α} (E : Emb ek U) (h1 : H p = some (dO w p fs ep)) (eg : EG K H ek pv g fs) (hk : Rp K H (ek k) (.ref b)) (hg : g k = some x) : ∃ v, Look K w H (.ref p) (.ref b) (some v) ∧ pv x v := by
  obtain ⟨p2, h2, h3⟩ := eg.some E hg
  exact ⟨p2.2, ⟨p, fs, ep, ek k, b, rfl, rfl, h1, eg.es, hk, E.dep k, by rw [h2]; rfl⟩, h3⟩
end
/-- a whole number that is written -/
theorem rp_zero {a : Addr} (t : KTup K a [.int 0, .int 1]) (H : Hp) : Rp K H (nk (0 : F)) (.ref a) := by
  unfold nk
  rw [Num.enc_zero]
  exact rp_tup_iff.mpr ⟨a, _, rfl, t.tp H, rpl_cons (rp_num 0) (rpl_cons (rp_num 1) rpl_nil)⟩
theorem nsz_zero : NSz (0 : F) := by
  unfold NSz
  rw [Num.enc_zero]
  exact ⟨by unfold Sz; decide, by unfold Sz; decide⟩
theorem nsz_one : NSz (1 : F) := by
  unfold NSz
  rw [Num.enc_one]
  exact ⟨by unfold Sz; decide, by unfold Sz; decide⟩
end
theorem walk_itD {w : World} {d : Addr} {xs : List Ent} {ep : Nat} : Walk (ItD w d xs ep) xs.length (fun H => H d = some (dO w d xs ep)) (fun i H x H' => ∃ T y, xs[i]? = some y ∧ x = .ref T ∧ H T = none ∧ H' = upd H T (.tup [.ref y.2.1, .ref y.2.2])) :=
  ⟨fun _ _ hi q => ⟨q, hi⟩, fun _ q => ⟨q, Nat.le_refl _⟩, fun _ _ _ _ _ _ y => y⟩
theorem walk_itK {w : World} {d : Addr} {xs : List Ent} {ep : Nat} : Walk (ItK w d xs ep) xs.length (fun H => H d = some (dO w d xs ep)) (fun i H x H' => H' = H ∧ ∃ y, xs[i]? = some y ∧ x = .ref y.2.1) :=
  ⟨fun _ _ hi q => ⟨q, hi⟩, fun _ q => ⟨q, Nat.le_refl _⟩, fun _ _ _ _ _ _ y => y⟩
/-- the i-th key is not among the first i -/
theorem take_fresh {xs : List Ent} (nd : (xs.map (·.1)).Nodup) {i : Nat} {y : Ent} (hi : xs[i]? = some y) : y.1 ∉ (xs.take i).map (·.1) := fun hm => by
  obtain ⟨z, hz, e⟩ := List.mem_map.mp hm
  obtain ⟨j, hj, ej⟩ := List.mem_iff_getElem.mp hz
  rw [List.length_take] at hj
  rw [List.getElem_take] at ej
  obtain ⟨hi1, hi2⟩ := List.getElem?_eq_some_iff.mp hi
  have h2 : (xs.map (·.1))[j]? = (xs.map (·.1))[i]? := by
    rw [List.getElem?_map, List.getElem?_map, hi, List.getElem?_eq_getElem (by omega), ej]
    exact congrArg some e
  have h3 := (List.getElem?_inj (by rw [List.length_map]; omega) nd).mp h2
  omega
theorem take_snoc {xs : List Ent} {i : Nat} {y : Ent} (hi : xs[i]? = some y) : (xs.take (i + 1)).map (·.1) = (xs.take i).map (·.1) ++ [y.1] := by
  rw [List.take_add_one, hi]
  simp
section
variable {P : Program} {w : World} {K : PySem.W.Frag} {mg : Str → Option Value} {base : Heap} {A : Ad} {F : Type} [Num F]
theorem sc_Lines_init : FnScope ["self", "field"] ["self", "field"] (defScope (inClass (topS 21) 0)) := ⟨rfl, rfl, rfl, by decide +kernel, rfl, by decide +kernel, by decide +kernel⟩
def spLInit (K : PySem.W.Frag) (w : World) (A : Ad) (F : Type) [Num F] : Sp := fun vs H Q _ => ∃ (x dx : Addr) (H0 : Hp) (fa : Addr), vs = [.ref x, .ref fa] ∧ Fresh A.L H0 H x dx ∧ ∀ H' bh, Same H0 H' → H0 bh = none → bh ≠ x → LnAt A H' x fa bh → BG (F := F) K w H' bh (fun _ => none) → Q .non H'
theorem c_Lines_init (T : Txt K mg A) : MCal P w K mg base CX0 A.L 1 "__init__" ["self", "field"] [] (spLInit K w A F) := by
  refine mcal_mk T.m_Lines_init (fun _ _ _ _ _ _ us hl => match us, hl with | [_, _], _ => rfl) sc_Lines_init (fun vs H Q E h => ?_) (fun f cdv Ar outer s H vs Q E hr h => ?_)
  · obtain ⟨x, dx, H0, fa, rfl, _⟩ := h
    rfl
  · obtain ⟨x, dx, H0, fa, rfl, fr, q⟩ := h
    refine ⟨_, (pss_cons (ps_fld (pv 0) (pv 1) rfl)
      (pss_one (ps_fld (pv 0) pe_dic0 rfl))), ?_⟩
    refine ⟨_, rfl, _, rfl, x, A.L, dx, [], rfl, fr.at_, T.clL, T.nL_line_field, (by show 0 < 1000; decide), fun bh hb => ?_⟩
    have nb : bh ≠ x := fun z => by
      rw [z, upd_same] at hb
      cases hb
    have hb1 : H bh = none := by
      rw [upd_ne nb] at hb
      exact hb
    refine ⟨_, rfl, x, A.L, dx, _, rfl, (by rw [upd_ne nb.symm, upd_same]), T.clL, T.nL_by_head, (by show 1 < 1000; decide), q _ bh (fr.same fun b o e n => ?_) (fr.old.free hb1) nb ⟨dx, upd_same⟩ ⟨[], 0, Eq.trans (upd_ne nb) upd_same, EG.nil⟩⟩
    rw [upd_ne n, upd_ne (ne_of_none e hb1), upd_ne n]
    exact e

/-! ### less -/
theorem sc_Lines_less : FnScope ["self", "row", "other", "share", "field", "found", "key", "number", "here"] ["self", "row", "other", "share"] (defScope (inClass (topS 21) 1)) := ⟨rfl, rfl, rfl, by decide +kernel, rfl, by decide +kernel, by decide +kernel⟩
def spLess (K : PySem.W.Frag) (w : World) (A : Ad) (F : Type) [Num F] : Sp := fun vs H Q _ => ∃ (κ : Type) (_ : DecidableEq κ) (ek : κ → NestedKey) (U : List κ) (a fa bh dr d : Addr) (sv : V) (r o : κ → F) (c : F), vs = [.ref a, .ref dr, .ref d, sv] ∧ Emb ek U ∧ LnAt A H a fa bh ∧ Fld A H fa (Num.p F) ∧
  DG K w H dr ek (supp r) ∧ DG K w H d ek (supp o) ∧ Rp K H (nk c) sv ∧ NSz c ∧ (∀ k, NSz (r k)) ∧ (∀ k, NSz (o k)) ∧ (∀ k, NSz (o k * c)) ∧ ∀ H' d', Same H H' → H d' = none → DG K w H' d' ek (supp fun k => r k - o k * c) → Q (.ref d') H'
/-- what stands after some of the keys -/
def lessAt {κ : Type} (ek : κ → NestedKey) (r o : κ → F) (c : F) (ys : List Ent) : κ → F := fun k => if ek k ∈ ys.map (·.1) then r k - o k * c else r k
theorem lessAt_step {κ : Type} [DecidableEq κ] {ek : κ → NestedKey} {U : List κ} (E : Emb ek U) (r o : κ → F) (c : F) {xs : List Ent} (nd : (xs.map (·.1)).Nodup) {i : Nat} {y : Ent} (hi : xs[i]? = some y) {k : κ} (hy : y.1 = ek k) :
    lessAt ek r o c (xs.take i) k = r k ∧ ∀ j, lessAt ek r o c (xs.take (i + 1)) j = if j = k then r k - o k * c else lessAt ek r o c (xs.take i) j := by
  have hf := take_fresh nd hi
  refine ⟨?_, fun j => ?_⟩
  · unfold lessAt
    rw [if_neg (by rw [← hy]; exact hf)]
  · unfold lessAt
    rw [take_snoc hi]
    by_cases q : j = k
    · subst q
      rw [if_pos (List.mem_append_right _ (by rw [hy]; exact List.mem_singleton.mpr rfl)), if_pos rfl]
    · rw [if_neg q]
      by_cases z : ek j ∈ (xs.take i).map (·.1)
      · rw [if_pos (List.mem_append_left _ z), if_pos z]
      · rw [if_neg (fun h => (List.mem_append.mp h).elim z fun h => q (E.eq ((List.mem_singleton.mp h).trans hy))), if_neg z]
theorem c_Lines_less (T : Txt K mg A) : MCal P w K mg base CX0 A.L 4 "less" ["self", "row", "other", "share"] [] (spLess K w A F) := by
  refine mcal_mk T.m_Lines_less (fun _ _ _ _ _ _ us hl => match us, hl with | [_, _, _, _], _ => rfl) sc_Lines_less (fun vs H Q E h => ?_) (fun f cdv Ar outer s H vs Q E hr h => ?_)
  · obtain ⟨κ, _, ek, U, a, fa, bh, dr, d, sv, r, o, c, rfl, _⟩ := h
    rfl
  · obtain ⟨κ, dk, ek, U, a, fa, bh, dr, d, sv, r, o, c, rfl, E0, ⟨dx, hl⟩, hF, ⟨xr, er, hr1, hr2⟩, ⟨xs, ep, ho1, ho2⟩, hc, sc, sr, so, soc, q⟩ := h
    refine ⟨_, (pss_cons (ps_set (i := 4) sc_Lines_less.nd rfl (by first | exact Or.inl rfl | exact Or.inr rfl) (pe_fld (pv 0) (by rfl)))
      (pss_cons (ps_set (i := 5) sc_Lines_less.nd rfl (by first | exact Or.inl rfl | exact Or.inr rfl) (pe_callTy (call_dictDO hr.units) (by rfl) T.dict (by decide +kernel) (pa_cons (pv 1) pa_nil)))
      (pss_cons (ps_for PassesOwn.never rfl (pi_itD (pv 2)) ((pg_tup rfl (pgs_cons (pg_name (i := 6) sc_Lines_less.nd rfl (by first | exact Or.inl rfl | exact Or.inr rfl)) (pgs_cons (pg_name (i := 7) sc_Lines_less.nd rfl (by first | exact Or.inl rfl | exact Or.inr rfl)) pgs_nil))))
      (pss_cons (ps_set (i := 8) sc_Lines_less.nd rfl (by first | exact Or.inl rfl | exact Or.inr rfl) (pcm (c_Field_minus (F := F) T) T.clF (hr.mono (by decide)) (pv 4) (pa_cons (pe_dm PySem.F.slot_dict_setdefault PySem.F.type_dict_setdefault (mt_setdP hr.units) (pv 5) (pa_cons (pv 6) (pa_cons (pe_glob (v := .ref A.Z) rfl T.ZERO rfl) pa_nil))) (pa_cons (pcm (c_Field_times (F := F) T) T.clF (hr.mono (by decide)) (pv 4) (pa_cons (pv 7) (pa_cons (pv 3) pa_nil))) pa_nil))))
      (pss_one (ps_if (pt_cmpR (op_eqR hr.units) (pv 8) (pe_glob (v := .ref A.Z) rfl T.ZERO rfl) (nomark _)) (pss_one (ps_expr (pe_dm PySem.F.slot_dict_pop PySem.F.type_dict_pop (mt_popP hr.units) (pv 5) (pa_cons (pv 6) pa_nil))))
      (pss_one (ps_asg (pv 8) (pg_sub (pv 5) (pv 6) (pset_dicP hr.units))))))))
      (pss_one (ps_ret (pv 5)))))), ?_⟩
    refine ⟨_, rfl, a, A.L, dx, _, _, rfl, hl, T.clL, T.nL_line_field, fs_lf fa bh, ?_⟩
    refine ⟨_, rfl, dr, xr, er, rfl, hr1, hr2.es, hr2.apart E0 _, fun p ep1 hp => ?_⟩
    refine ⟨_, rfl, d, xs, ep, rfl, (by rw [upd_ne (ne_of_none ho1 hp)]; exact ho1), ?_⟩
    refine for_it walk_itD (fun i σ H1 => ∃ fs ep' s6 s7 s8, σ = [some (.ref a), some (.ref dr), some (.ref d), some sv, some (.ref fa), some (.ref p), s6, s7, s8] ∧ Same H H1 ∧ H1 p = some (dO w p fs ep') ∧ EG K H1 ek (nv K H1) (supp (lessAt ek r o c (xs.take i))) fs)
      ⟨xr, ep1, none, none, none, rfl, same_upd hp, upd_same, (hr2.keep (Keep.of (same_upd hp)) (nv.keep (Keep.of (same_upd hp)))).congr fun k => by rw [List.take_zero]; rfl⟩ (fun i σ H1 _ ⟨_, _, _, _, _, _, sm, _⟩ => sm _ _ ho1) ?_ ?_
    · rintro i x σ H1 H2 hi ⟨fs, ep', s6, s7, s8, rfl, sm, h1, eg⟩ ⟨T0, y, hy, rfl, hT, rfl⟩
      obtain ⟨k, ok, ek1, ek2, ek3⟩ := ho2.of y (List.mem_of_getElem? hy)
      obtain ⟨hok, rfl⟩ := supp_some.mp ek2
      obtain ⟨l1, l2⟩ := lessAt_step E0 r o c ho2.es.nd hy ek1
      have hkey := (ho2.es.keys y (List.mem_of_getElem? hy)).1
      rw [ek1] at hkey
      have sm2 : Same H1 (upd H1 T0 (.tup [.ref y.2.1, .ref y.2.2])) := same_upd hT
      have nTp : p ≠ T0 := ne_of_none h1 hT
      have kp2 := Keep.of (sm.trans sm2)
      have eg2 := eg.keep (Keep.of sm2) (nv.keep (Keep.of sm2))
      have hp2 := sm2 _ _ h1
      refine ⟨T0, _, rfl, SqT.of upd_same, rfl, _, _, rfl, _, _, rfl, rfl, ?_⟩
      have zr := rp_zero (F := F) T.zero (upd H1 T0 (.tup [.ref y.2.1, .ref y.2.2]))
      refine ⟨_, rfl, fa, _, _, rfl, (sm.trans sm2) _ _ hF.2.choose_spec, rfl, _, rfl, ⟨p, fs, ep', rfl, hp2⟩, _, rfl, setd_of E0 hp2 eg2 (kp2.rp hkey) zr fun u H3 fs3 ep3 sb h3 ru eg3 => ?_⟩
      have sm3 : Same H H3 := SB.same (sm.trans sm2) sb hp
      have hg : (supp (lessAt ek r o c (xs.take i)) k).getD 0 = r k := by
        unfold supp
        rw [l1]
        by_cases z : r k = 0
        · rw [if_pos z, z]; rfl
        · rw [if_neg z]; rfl
      rw [hg] at ru eg3
      have kp3 := Keep.of sm3
      refine ⟨_, rfl, fa, _, _, rfl, sm3 _ _ hF.2.choose_spec, rfl, _, rfl, _, rfl, fa, o k, c, _, _, rfl, hF.same sm3, kp3.rp ek3, kp3.rp hc, so k, sc, True.intro, fun H4 v4 sm4 r4 => ?_⟩
      refine ⟨fa, r k, o k * c, _, _, rfl, hF.same (sm3.trans sm4), (Keep.of sm4).rp ru, r4, sr k, soc k, True.intro, fun H5 v5 sm5 r5 => ?_⟩
      have sm35 := sm4.trans sm5
      have sm05 := sm3.trans sm35
      obtain ⟨c5, rfl⟩ := rp_ref r5
      have h5 := sm35 _ _ h3
      have eg5 := eg3.keep (Keep.of sm35) (nv.keep (Keep.of sm35))
      have hkey5 := (Keep.of sm05).rp hkey
      have zr5 := rp_zero (F := F) T.zero H5
      refine ⟨_, rfl, _, _, r5, zr5, fine_nk _, fine_nk _, _, rfl, it2 (fun hz => ?_) (fun hz => ?_)⟩
      · have hz0 : r k - o k * c = 0 := nk_inj hz
        refine ⟨_, rfl, ⟨p, _, _, rfl, h5⟩, _, rfl, popd_of E0 h5 eg5 hkey5 (x := r k) (if_pos rfl) fun u6 H6 fs6 ep6 sb6 h6 eg6 => ?_⟩
        refine ⟨fs6, ep6, _, _, _, rfl, SB.same sm05 sb6 hp, h6, eg6.congr fun j => ?_⟩
        by_cases q : j = k
        · rw [if_pos q]
          unfold supp
          rw [l2 j, if_pos q, if_pos hz0]
        · rw [if_neg q, if_neg q]
          unfold supp
          rw [l2 j, if_neg q]
      · have hz0 : r k - o k * c ≠ 0 := fun z => hz (congrArg nk z)
        refine ⟨_, rfl, _, rfl, _, rfl, putd_of E0 h5 eg5 hkey5 r5 fun H6 fs6 ep6 sb6 h6 eg6 => ?_⟩
        refine ⟨fs6, ep6, _, _, _, rfl, SB.same sm05 sb6 hp, h6, eg6.congr fun j => ?_⟩
        by_cases q : j = k
        · rw [if_pos q]
          unfold supp
          rw [l2 j, if_pos q, if_neg hz0]
        · rw [if_neg q, if_neg q]
          unfold supp
          rw [l2 j, if_neg q]
    · rintro σ H1 ⟨fs, ep', s6, s7, s8, rfl, sm, h1, eg⟩
      refine ⟨_, rfl, q H1 p sm hp ⟨fs, ep', h1, eg.congr fun k => ?_⟩⟩
      have e : lessAt ek r o c (xs.take xs.length) k = r k - o k * c := by
        rw [List.take_length]
        unfold lessAt
        by_cases z : ek k ∈ xs.map (·.1)
        · rw [if_pos z]
        · rw [if_neg z]
          have ok0 : o k = 0 := by
            by_cases z2 : o k = 0
            · exact z2
            · exact absurd (ho2.to k (o k) (supp_some.mpr ⟨z2, rfl⟩)) z
          rw [ok0]
          grind
      unfold supp
      rw [e]
end
end FsR
end
section
/-! Lines: the walks of made_of, put. -/
set_option Elab.async false
set_option linter.all false
set_option maxRecDepth 100000
namespace FsR
open PySem PySem.Spec PyProof.Rows L2 LamX Fs
section
variable {P : Program} {w : World} {K : PySem.W.Frag} {mg : Str → Option Value} {base : Heap} {A : Ad} {F : Type} [Num F]
theorem rp_pref {K : PySem.W.Frag} {H : Hp} {q : Pr} {v : V} (h : Rp K H (pk q) v) : ∃ c, v = .ref c := by
  obtain ⟨c, _, rfl, _⟩ := rp_tup_iff.mp h
  exact ⟨c, rfl⟩
theorem sc_Lines_made_of : FnScope ["self", "head"] ["self", "head"] (defScope (inClass (topS 21) 3)) := ⟨rfl, rfl, rfl, by decide +kernel, rfl, by decide +kernel, by decide +kernel⟩
def spMadeOf (K : PySem.W.Frag) (w : World) (A : Ad) (F : Type) [Num F] : Sp := fun vs H Q _ => ∃ (a fa bh : Addr) (hv : V) (q : Pr) (B : Bs F), vs = [.ref a, hv] ∧ LnAt A H a fa bh ∧ BG K w H bh B ∧ Rp K H (pk q) hv ∧
  (B q = none → Q .non H) ∧ ∀ r m, B q = some (r, m) → ∀ H' d', Same H H' → H d' = none → DG K w H' d' mkk (supp m) → Q (.ref d') H'
theorem c_Lines_made_of (T : Txt K mg A) : MCal P w K mg base CX0 A.L 1 "made_of" ["self", "head"] [] (spMadeOf K w A F) := by
  refine mcal_mk T.m_Lines_made_of (fun _ _ _ _ _ _ us hl => match us, hl with | [_, _], _ => rfl) sc_Lines_made_of (fun vs H Q E h => ?_) (fun f cdv Ar outer s H vs Q E hr h => ?_)
  · obtain ⟨a, fa, bh, hv, q, B, rfl, _⟩ := h
    rfl
  · obtain ⟨a, fa, bh, hv, q, B, rfl, ⟨dx, hl⟩, ⟨xs, ep, hb1, hb2⟩, hk, k0, k1⟩ := h
    obtain ⟨b, rfl⟩ := rp_pref hk
    refine ⟨_, (pss_cons (ps_if (pt_cmpR (op_notInD' hr.units) (pv 1) (pe_fld (pv 0) (by rfl)) (by rfl)) (pss_one (ps_ret pe_non))
      pss_nil)
      (pss_one (ps_ret (pe_callTy (call_dictDO hr.units) (by rfl) T.dict (by decide +kernel) (pa_cons (pe_ix ix_tup (pe_ix (ix_dic hr.units) (pe_fld (pv 0) (by rfl)) (pv 1) (fun _ _ => rfl)) pe_int (fun _ _ => rfl)) pa_nil))))), ?_⟩
    obtain ⟨o, lo, l1, l2⟩ := look_of emb_pk hb1 hb2 hk
    refine ⟨_, rfl, _, rfl, a, A.L, dx, _, _, rfl, hl, T.clL, T.nL_by_head, fs_bh fa bh, o, lo, _, rfl, ?_⟩
    cases o with
    | none =>
      refine iteT (k0 ?_)
      cases e : B q with
      | none => rfl
      | some x => rw [e] at l1; cases l1
    | some v =>
      obtain ⟨⟨r, m⟩, e, dr, dm, t, n1, n2, d1, ⟨ys, em, d2, d3⟩⟩ := l2 v rfl
      refine iteF ?_
      refine ⟨_, rfl, a, A.L, dx, _, _, rfl, hl, T.clL, T.nL_by_head, fs_bh fa bh, _, rfl, v, lo, _, _, _, .ref dm, rfl, rfl, t.sq, at_of (j := 1) rfl rfl, dm, ys, em, rfl, d2, d3.es, d3.apart emb_mkk _, fun p ep' hp => ?_⟩
      exact k1 r m e _ p (same_upd hp) hp ⟨ys, ep', upd_same, d3.keep (Keep.of (same_upd hp)) (nv.keep (Keep.of (same_upd hp)))⟩
end
end FsR
end
section
/-! Lines.put: sizes. -/
set_option Elab.async false
set_option linter.all false
set_option maxRecDepth 100000
namespace FsR
open PySem PySem.Spec PyProof.Rows L2 LamX Fs
section
variable {F : Type} [Num F]
/-- over a prime all is small; over the fractions a bottom and a bound are wanted -/
theorem nsz_of {x : F} (h : Num.p F = 0 → ∃ (D : Int) (N : Nat), D ≠ 0 ∧ Num.rep D N x ∧ N < 2 ^ 1000 ∧ D.natAbs < 2 ^ 1000) : NSz x := by
  by_cases hp : Num.p F = 0
  · obtain ⟨D, N, d0, r, h1, h2⟩ := h hp
    obtain ⟨e1, e2⟩ := Num.rep_sz d0 r
    refine ⟨Nat.lt_of_le_of_lt e1 ?_, Nat.lt_of_le_of_lt e2 h2⟩
    rcases Nat.le_total N 97 with z | z
    · rw [Nat.max_eq_right z]
      exact Nat.lt_of_lt_of_le (by decide : 97 < 2 ^ 7) (Nat.pow_le_pow_right (by decide) (by decide))
    · rw [Nat.max_eq_left z]; exact h1
  · obtain ⟨e1, e2, e3⟩ := enc_prime x hp
    have h97 : Num.p F ≤ 97 := by
      rcases Num.p_ok (K := F) with z | z
      · exact absurd z hp
      · exact z.2
    refine ⟨?_, ?_⟩
    · exact Nat.lt_of_lt_of_le (by omega : (Num.enc x).1.natAbs < 2 ^ 7) (Nat.pow_le_pow_right (by decide) (by decide))
    · rw [e1]; unfold Sz; decide
theorem p2_mul {x y a b : Nat} (h : x ≤ 2 ^ a) (k : y ≤ 2 ^ b) : x * y ≤ 2 ^ (a + b) := by
  rw [Nat.pow_add]; exact Nat.mul_le_mul h k
theorem p2_lt {x a : Nat} (h : x ≤ 2 ^ a) (k : a < 1000) : x < 2 ^ 1000 := Nat.lt_of_le_of_lt h (Nat.pow_lt_pow_right (by decide) k)
theorem p2_add {x y a : Nat} (h : x ≤ 2 ^ a) (k : y ≤ 2 ^ a) : x + y ≤ 2 ^ (a + 1) := by
  rw [Nat.pow_succ]; omega
theorem p2_up {x a b : Nat} (h : x ≤ 2 ^ a) (k : a ≤ b) : x ≤ 2 ^ b := Nat.le_trans h (Nat.pow_le_pow_right (by decide) k)
variable {G : Mk → Row F} {done : Mk → Prop} {B : Bs F} {b : Pr → Mk} {u : Mk} {r r1 : Row F} {m m1 : MRow F} {h : Pr}
/-- all numbers that the rows' reckoning meets at a stage -/
structure StSz (r : Row F) (m : MRow F) : Prop where
  rows : ∀ k, NSz (r k)
  mks : ∀ μ, NSz (m μ)
  inv : ∀ h, r h ≠ 0 → NSz (1 / r h) ∧ NSz (1 - 1 / r h) ∧ (∀ k, NSz (r k * (1 - 1 / r h))) ∧ ∀ μ, NSz (m μ * (1 - 1 / r h))
theorem st_sz {E : Int} (e0 : E ≠ 0) (e1 : Num.p F = 0 → E.natAbs ≤ 2 ^ 406) (hr : ∀ k, Num.rep E (2 ^ 424) (r k)) (hm : ∀ μ, Num.rep E (2 ^ 406) (m μ)) : StSz r m := by
  refine ⟨fun k => nsz_of fun hp => ⟨E, _, e0, hr k, p2_lt (Nat.le_refl _) (by decide), p2_lt (e1 hp) (by decide)⟩, fun μ => nsz_of fun hp => ⟨E, _, e0, hm μ, p2_lt (Nat.le_refl _) (by decide), p2_lt (e1 hp) (by decide)⟩, fun h hh => ?_⟩
  obtain ⟨E2, z0, z1, z2⟩ := Num.rep_div hh (hr h)
  have i1 : Num.rep E2 E.natAbs ((1 : F) / r h) := z2 _ _ (Num.rep_unit e0)
  have i2 : Num.rep E2 (E2.natAbs + E.natAbs) (1 - 1 / r h) := rep_sub (Num.rep_unit z0) i1
  have s2 : Num.p F = 0 → E2.natAbs + E.natAbs ≤ 2 ^ 425 := fun hp => p2_add (z1 hp) (p2_up (e1 hp) (by decide))
  refine ⟨nsz_of fun hp => ⟨E2, _, z0, i1, p2_lt (e1 hp) (by decide), p2_lt (z1 hp) (by decide)⟩, nsz_of fun hp => ⟨E2, _, z0, i2, p2_lt (s2 hp) (by decide), p2_lt (z1 hp) (by decide)⟩, fun k => nsz_of fun hp => ⟨E * E2, _, Int.mul_ne_zero e0 z0, Num.rep_mul (hr k) i2, p2_lt (p2_mul (Nat.le_refl _) (s2 hp)) (by decide), ?_⟩, fun μ => nsz_of fun hp => ⟨E * E2, _, Int.mul_ne_zero e0 z0, Num.rep_mul (hm μ) i2, p2_lt (p2_mul (Nat.le_refl _) (s2 hp)) (by decide), ?_⟩⟩
  · rw [Int.natAbs_mul]; exact p2_lt (p2_mul (e1 hp) (z1 hp)) (by decide)
  · rw [Int.natAbs_mul]; exact p2_lt (p2_mul (e1 hp) (z1 hp)) (by decide)
/-- .. where a kept row is taken off -/
theorem st_sz2 {E : Int} (e0 : E ≠ 0) (e1 : Num.p F = 0 → E.natAbs ≤ 2 ^ 406) (hr : ∀ k, Num.rep E (2 ^ 424) (r k)) {E1 : Int} (f0 : E1 ≠ 0) (f1 : Num.p F = 0 → E1.natAbs ≤ 2 ^ 424) (hr1 : ∀ k, Num.rep E1 (2 ^ 424) (r1 k)) (hm1 : ∀ μ, Num.rep E1 (2 ^ 424) (m1 μ)) :
    (∀ k, NSz (r1 k)) ∧ (∀ μ, NSz (m1 μ)) ∧ (∀ k, NSz (r1 k * r h)) ∧ ∀ μ, NSz (m1 μ * r h) := by
  refine ⟨fun k => nsz_of fun hp => ⟨E1, _, f0, hr1 k, p2_lt (Nat.le_refl _) (by decide), p2_lt (f1 hp) (by decide)⟩, fun μ => nsz_of fun hp => ⟨E1, _, f0, hm1 μ, p2_lt (Nat.le_refl _) (by decide), p2_lt (f1 hp) (by decide)⟩,
    fun k => nsz_of fun hp => ⟨E1 * E, _, Int.mul_ne_zero f0 e0, Num.rep_mul (hr1 k) (hr h), p2_lt (p2_mul (Nat.le_refl _) (Nat.le_refl _)) (by decide), ?_⟩, fun μ => nsz_of fun hp => ⟨E1 * E, _, Int.mul_ne_zero f0 e0, Num.rep_mul (hm1 μ) (hr h), p2_lt (p2_mul (Nat.le_refl _) (Nat.le_refl _)) (by decide), ?_⟩⟩
  · rw [Int.natAbs_mul]; exact p2_lt (p2_mul (f1 hp) (e1 hp)) (by decide)
  · rw [Int.natAbs_mul]; exact p2_lt (p2_mul (f1 hp) (e1 hp)) (by decide)
/-! ### the greatest key -/
def ordD : NestedKey → NestedKey
  | .tup ds => .tup [.num ds.length, .tup ds]
  | d => d
theorem ordD_pk : ∀ q : Pr, ordD (pk q) = ordk q := by decide +kernel
def rhoD (d : NestedKey) : Nat := (prods.map pk).idxOf d
theorem cmp_pk : ∀ p q : Pr, (PySem.W.alike (ordD (pk p)).data (ordD (pk q)).data && decide ((ordD (pk p)).data.depth ≤ 8) && (PySem.W.dataLt (ordD (pk p)).data (ordD (pk q)).data == decide (rank p < rank q)) && decide (rhoD (pk p) = rank p)) = true := by decide +kernel
theorem ordD_some (q : Pr) : (ordD (pk q)).data ≠ .none := by
  rw [ordD_pk]
  unfold ordk
  simp [NestedKey.data]
end
end FsR
end
section
/-! Lines.put: the walk. -/
set_option Elab.async false
set_option linter.all false
set_option maxRecDepth 100000
namespace FsR
open PySem PySem.Spec PyProof.Rows L2 LamX Fs
section
variable {F : Type} [Num F]
theorem one_ok : okB (Num.p F) 1 := by
  have h := Num.enc_bot (1 : F)
  rw [Num.enc_one] at h
  exact h
theorem one_rp {K : PySem.W.Frag} {H : Hp} {v : V} (h : rpN K H (mkN (Num.p F) 1 1) v) : Rp K H (nk (1 : F)) v := by
  refine rpN_nk ?_ h
  have e := enc_form (1 : F)
  rw [Num.enc_one] at e
  rw [Num.enc_one]
  exact e
theorem sz_one : Sz 4000 1 := Sz.small (n := 3992) (by decide)
theorem iteBF {b : Bool} {U W : Prop} (hb : b = false) (h : W) : if b = true then U else W := by
  rw [hb]; exact iteF h
theorem iteBT {b : Bool} {U W : Prop} (hb : b = true) (h : U) : if b = true then U else W := by
  rw [hb]; exact iteT h
theorem supp_empty {K : PySem.W.Frag} {H : Hp} {κ : Type} [DecidableEq κ] {ek : κ → NestedKey} {r : κ → F} (e : EG K H ek (nv K H) (supp r) []) (k : κ) : r k = 0 := by
  by_cases h : r k = 0
  · exact h
  · exact absurd (e.to k (r k) (supp_some.mpr ⟨h, rfl⟩)) (by simp)
/-- the marks at the start -/
theorem eg_unit {K : PySem.W.Frag} {H : Hp} {u : Mk} {b c : Addr} (hb : Rp K H (mkk u) (.ref b)) (hc : Rp K H (nk (1 : F)) (.ref c)) : EG K H mkk (nv K H) (supp fun ν => if ν = u then (1 : F) else 0) [(mkk u, b, c)] := by
  refine ⟨⟨fun x hx => ?_, by simp⟩, fun x hx => ?_, fun k x hx => ?_⟩
  · obtain rfl := List.mem_singleton.mp hx
    exact ⟨hb, fine_mkk u⟩
  · obtain rfl := List.mem_singleton.mp hx
    refine ⟨u, 1, rfl, supp_some.mpr ⟨?_, ?_⟩, hc⟩
    · rw [if_pos rfl]; exact one_ne
    · rw [if_pos rfl]
  · obtain ⟨h1, _⟩ := supp_some.mp hx
    by_cases e : k = u
    · rw [e]; simp
    · exact absurd (if_neg e) h1
theorem head_of {K : PySem.W.Frag} {H : Hp} {r : Row F} {xs : List Ent} (e : EG K H pk (nv K H) (supp r) xs) {y : Ent} (hy : y ∈ xs) (hm : ∀ z ∈ xs, rhoD z.1 ≤ rhoD y.1) : ∃ h, y.1 = pk h ∧ Fs.Head r h := by
  obtain ⟨h, x, e1, e2, _⟩ := e.of y hy
  obtain ⟨h1, _⟩ := supp_some.mp e2
  have rho : ∀ q : Pr, rhoD (pk q) = rank q := fun q => by
    have := cmp_pk q q
    simp only [Bool.and_eq_true, decide_eq_true_eq] at this
    exact this.2
  refine ⟨h, e1, ⟨h1, fun k hk => ?_⟩⟩
  obtain ⟨z, hz, ez⟩ := List.mem_map.mp (e.to k (r k) (supp_some.mpr ⟨hk, rfl⟩))
  have := hm z hz
  rw [ez, e1, rho, rho] at this
  exact this
theorem cut_lt {r r2 : Row F} {h : Pr} (hd : Fs.Head r h) (hl : ∀ k, r2 k ≠ 0 → rank k < rank h) : cutAt r2 < cutAt r := by
  have h1 : cutAt r2 ≤ rank h := cut_iff.mp hl
  have h2 : ¬ cutAt r ≤ rank h := fun z => Nat.lt_irrefl _ (cut_iff.mpr z h hd.at_)
  omega
theorem cmps_pk {K : PySem.W.Frag} {H : Hp} {r : Row F} {xs : List Ent} (e : EG K H pk (nv K H) (supp r) xs) : Cmps xs ordD rhoD := fun x hx y hy => by
  obtain ⟨p, _, e1, _⟩ := e.of x hx
  obtain ⟨q, _, e2, _⟩ := e.of y hy
  have h1 := cmp_pk p q
  have h2 := cmp_pk q q
  simp only [Bool.and_eq_true, decide_eq_true_eq, beq_iff_eq] at h1 h2
  rw [e1, e2]
  exact ⟨h1.1.1.1, ordD_some p, h1.1.1.2, by rw [h1.1.2, h1.2, h2.2]⟩
theorem tells_pk {K : PySem.W.Frag} {H : Hp} {r : Row F} {xs : List Ent} (e : EG K H pk (nv K H) (supp r) xs) : Tells K (spOrder K) H xs ordD := fun x hx H1 Q sm q => by
  obtain ⟨p, _, e1, _⟩ := e.of x hx
  have hk := (e.es.keys x hx).1
  rw [e1] at hk
  refine ⟨p, .ref x.2.1, rfl, (Keep.of sm).rp hk, fun H2 v s2 r2 => q v H2 s2 ?_⟩
  rw [e1, ordD_pk]
  exact r2
end
section
variable {P : Program} {w : World} {K : PySem.W.Frag} {mg : Str → Option Value} {base : Heap} {A : Ad} {F : Type} [Num F]
theorem sc_Lines_put : FnScope ["self", "row", "mark", "field", "marks", "head", "share", "back", "other", "others"] ["self", "row", "mark"] (defScope (inClass (topS 21) 2)) := ⟨rfl, rfl, rfl, by decide +kernel, rfl, by decide +kernel, by decide +kernel⟩
def spPut (K : PySem.W.Frag) (w : World) (A : Ad) (F : Type) [Num F] : Sp := fun vs H Q _ => ∃ (a fa bh dr : Addr) (mv : V) (G : Mk → Row F) (done : Mk → Prop) (B : Bs F) (b : Pr → Mk) (u : Mk) (D : Int) (N : Nat), vs = [.ref a, .ref dr, mv] ∧ LnAt A H a fa bh ∧ Fld A H fa (Num.p F) ∧ BG K w H bh B ∧ DG K w H dr pk (supp (G u)) ∧ Rp K H (mkk u) mv ∧
  LInv G done B b ∧ LSz B ∧ ¬ done u ∧ Small N D ∧ (∀ μ k, Num.rep D N (G μ k)) ∧
  ∀ (H' : Hp) (B' : Bs F) (b' : Pr → Mk) (v : Bool), SB bh H H' → BG K w H' bh B' → LInv G (fun μ => done μ ∨ μ = u) B' b' → LSz B' → Q (.bl v) H'
/-- what stands at each turn -/
def putW (K : PySem.W.Frag) (w : World) (a bm fa : Addr) (H : Hp) (G : Mk → Row F) (B : Bs F) (b : Pr → Mk) (u : Mk) : Nat → L2.St → Hp → Prop := fun m σ H2 => ∃ (r : Row F) (mm : MRow F) (d1 d2 : Addr) (s5 s6 s7 s8 s9 : Option V), σ = [some (.ref a), some (.ref d1), some (.ref bm), some (.ref fa), some (.ref d2), s5, s6, s7, s8, s9] ∧ Same H H2 ∧ DG K w H2 d1 pk (supp r) ∧ DG K w H2 d2 mkk (supp mm) ∧ Stg G B b u r mm ∧ m = cutAt r
theorem DG.sb {H H' : Hp} {d bh : Addr} {κ : Type} [DecidableEq κ] {ek : κ → NestedKey} {g : κ → Option F} (h : DG K w H d ek g) (n : d ≠ bh) (s : SB bh H H') (k : Keep H H') : DG K w H' d ek g := by
  obtain ⟨xs, ep, h1, h2⟩ := h
  exact ⟨xs, ep, s _ _ n h1, h2.keep k (nv.keep k)⟩
theorem DG.ne {H : Hp} {d d2 : Addr} {κ : Type} [DecidableEq κ] {ek : κ → NestedKey} {g : κ → Option F} (h : DG K w H d ek g) (n : H d2 = none) : d2 ≠ d := fun z => by
  obtain ⟨xs, ep, h1, _⟩ := h
  rw [z, h1] at n
  cases n
theorem DG.fn {H : Hp} {d : Addr} {κ : Type} [DecidableEq κ] {ek : κ → NestedKey} {r r2 : κ → F} (h : DG K w H d ek (supp r)) (e : ∀ k, r k = r2 k) : DG K w H d ek (supp r2) := by
  have : r = r2 := funext e
  rw [← this]; exact h
theorem c_Lines_put (T : Txt K mg A) : MCal P w K mg base CX0 A.L 5 "put" ["self", "row", "mark"] [] (spPut K w A F) := by
  refine mcal_mk T.m_Lines_put (fun _ _ _ _ _ _ us hl => match us, hl with | [_, _, _], _ => rfl) sc_Lines_put (fun vs H Q E h => ?_) (fun f cdv Ar outer s H vs Q E hr h => ?_)
  · obtain ⟨a, fa, bh, dr, mv, G, done, B, b, u, D, N, rfl, _⟩ := h
    rfl
  · obtain ⟨a, fa, bh, dr, mv, G, done, B, b, u, D, N, rfl, ⟨dx, hl⟩, hF, hB, hR, hm, L, LS, hu, hS, hG, q⟩ := h
    obtain ⟨fo, fdo, uso, FO, ho, hko, hbo, hdo⟩ := (c_order_of (P := P) (w := w) (base := base) T).ex
    have HF : FnR P w K mg base CX0 1 fo (spOrder K) := (FO.raw hbo hdo).imp fun vs H Q E h => by
      rw [List.append_nil]; exact h
    obtain ⟨bm, rfl⟩ : ∃ c, mv = .ref c := by
      obtain ⟨c, _, e, _⟩ := rp_tup_iff.mp hm
      exact ⟨c, e⟩
    refine ⟨_, (pss_cons (ps_set (i := 3) sc_Lines_put.nd rfl (by first | exact Or.inl rfl | exact Or.inr rfl) (pe_fld (pv 0) (by rfl)))
      (pss_cons (ps_set (i := 4) sc_Lines_put.nd rfl (by first | exact Or.inl rfl | exact Or.inr rfl) (pe_dic1 hr.units (pv 2) (pcm (c_Field_made1 T) T.clF (hr.mono (by decide)) (pv 3) (pa_cons pe_int pa_nil))))
      (pss_cons (ps_while PassesOwn.never (pt_cmpR (op_neNil hr.units0) (pv 1) pe_dic0 (nomark _))
      (pss_cons (ps_set (i := 5) sc_Lines_put.nd rfl (by first | exact Or.inl rfl | exact Or.inr rfl) (pe_callBK (call_maxK HF (hr.mono (by decide)) rfl (fun _ _ _ _ z => z.elim)) rfl T.max (by decide +kernel) (pa_cons (pe_dm0 PySem.F.slot_dict_keys PySem.F.type_dict_keys mt_keysD (pv 1)) pa_nil) (pk_cons (pe_glob (v := .ref fo) rfl ho rfl) pk_nil)))
      (pss_cons (ps_if (pt_cmpR (op_notInD' hr.units) (pv 5) (pe_fld (pv 0) (by rfl)) (by rfl)) (pss_cons (ps_set (i := 6) sc_Lines_put.nd rfl (by first | exact Or.inl rfl | exact Or.inr rfl) (pcm (c_Field_over (F := F) T) T.clF (hr.mono (by decide)) (pv 3) (pa_cons (pcm (c_Field_made1 T) T.clF (hr.mono (by decide)) (pv 3) (pa_cons pe_int pa_nil)) (pa_cons (pe_ix (ix_dic hr.units) (pv 1) (pv 5) (fun _ _ => rfl)) pa_nil))))
      (pss_cons (ps_set (i := 7) sc_Lines_put.nd rfl (by first | exact Or.inl rfl | exact Or.inr rfl) (pcm (c_Field_minus (F := F) T) T.clF (hr.mono (by decide)) (pv 3) (pa_cons (pcm (c_Field_made1 T) T.clF (hr.mono (by decide)) (pv 3) (pa_cons pe_int pa_nil)) (pa_cons (pv 6) pa_nil))))
      (pss_cons (ps_asg (pe_tup (pa_cons (pcm (c_Lines_less (F := F) T) T.clL (hr.mono (by decide)) (pv 0) (pa_cons (pv 1) (pa_cons (pv 1) (pa_cons (pv 7) pa_nil)))) (pa_cons (pcm (c_Lines_less (F := F) T) T.clL (hr.mono (by decide)) (pv 0) (pa_cons (pv 4) (pa_cons (pv 4) (pa_cons (pv 7) pa_nil)))) pa_nil))) (pg_sub (pe_fld (pv 0) (by rfl)) (pv 5) (pset_dicP hr.units)))
      (pss_one (ps_ret pe_bl)))))
      pss_nil)
      (pss_cons (ps_asg (pe_ix (ix_dic hr.units) (pe_fld (pv 0) (by rfl)) (pv 5) (fun _ _ => rfl)) (pg_tup rfl (pgs_cons (pg_name (i := 8) sc_Lines_put.nd rfl (by first | exact Or.inl rfl | exact Or.inr rfl)) (pgs_cons (pg_name (i := 9) sc_Lines_put.nd rfl (by first | exact Or.inl rfl | exact Or.inr rfl)) pgs_nil))))
      (pss_cons (ps_set (i := 6) sc_Lines_put.nd rfl (by first | exact Or.inl rfl | exact Or.inr rfl) (pe_ix (ix_dic hr.units) (pv 1) (pv 5) (fun _ _ => rfl)))
      (pss_cons (ps_set (i := 1) sc_Lines_put.nd rfl (by first | exact Or.inl rfl | exact Or.inr rfl) (pcm (c_Lines_less (F := F) T) T.clL (hr.mono (by decide)) (pv 0) (pa_cons (pv 1) (pa_cons (pv 8) (pa_cons (pv 6) pa_nil)))))
      (pss_one (ps_set (i := 4) sc_Lines_put.nd rfl (by first | exact Or.inl rfl | exact Or.inr rfl) (pcm (c_Lines_less (F := F) T) T.clL (hr.mono (by decide)) (pv 0) (pa_cons (pv 4) (pa_cons (pv 9) (pa_cons (pv 6) pa_nil))))))))))))
      (pss_one (ps_ret pe_bl))))), ?_⟩
    refine ⟨_, rfl, a, A.L, dx, _, _, rfl, hl, T.clL, T.nL_line_field, fs_lf fa bh, fun d2 hd2 => ?_⟩
    have sa := same_upd (o := dO w d2 [] 0) hd2
    refine ⟨_, rfl, _, rfl, fa, _, _, rfl, sa _ _ hF.2.choose_spec, rfl, fa, _, 1, 1, rfl, hF.same sa, one_ok, sz_one, sz_one, fun H1 v1 sm1 r1 => ?_⟩
    have r1 := one_rp r1
    obtain ⟨c1, rfl⟩ := rp_ref r1
    have h2 := sm1 _ _ (upd_same (H := H) (a := d2) (o := dO w d2 [] 0))
    have kp1 := Keep.of (sa.trans sm1)
    refine ⟨h2, mkk u, bm, c1, rfl, rfl, kp1.rp hm, fine_mkk u, fun ep1 => ?_⟩
    have kd2 := keep_dO (w := w) (fs2 := [(mkk u, bm, c1)]) (ep2 := ep1) h2
    have s0 : Same H (upd H1 d2 (dO w d2 [(mkk u, bm, c1)] ep1)) := SB.same (sa.trans sm1) SB.upd hd2
    have ru : Rp K (upd H1 d2 (dO w d2 [(mkk u, bm, c1)] ep1)) (mkk u) (.ref bm) := (Keep.of s0).rp hm
    refine ⟨putW K w a bm fa H G B b u,
      ⟨_, G u, _, dr, d2, none, none, none, none, none, rfl, s0, hR.same s0, ⟨_, ep1, upd_same, eg_unit ru (kd2.rp r1)⟩, stg_start G B b u, rfl⟩, ?_⟩
    rintro m σ H2 ⟨r, mm, d1, d2', s5, s6, s7, s8, s9, rfl, sm2, ⟨xs, ep, hx1, hx2⟩, hM, St, rfl⟩
    obtain ⟨E1, e0, e1, er, em⟩ := stage_small L St hu hS hG
    have Z := st_sz (r := r) (m := mm) e0 e1 er em
    refine ⟨_, rfl, fun p hp => ⟨d1, p, xs, ep, 0, rfl, rfl, (same_upd hp) _ _ hx1, upd_same, _, rfl, ?_⟩⟩
    have sp : Same H2 (upd H2 p (dO w p [] 0)) := same_upd hp
    by_cases hne : xs = []
    · refine iteBF (by rw [hne]; rfl) ?_
      rw [hne] at hx2
      exact q _ B b false (SB.of (sm2.trans sp)) (hB.grw (.of (T := []) (sm2.trans sp))) (linv_zero L St (supp_empty hx2)) LS
    · have hne' : (!xs.isEmpty) = true := by
        cases xs with
        | nil => exact absurd rfl hne
        | cons _ _ => rfl
      refine iteBT hne' ⟨fun σ' H' => ∃ m', m' < cutAt r ∧ putW K w a bm fa H G B b u m' σ' H', fun σ' H' h => h, ?_⟩
      refine ⟨_, rfl, ⟨d1, xs, ep, rfl, sp _ _ hx1⟩, d1, xs, ep, rfl, rfl, sp _ _ hx1, fun kv hkv => ?_⟩
      have skv := sp.trans (same_upd (o := kvO kv d1) hkv)
      have eg1 := hx2.keep (Keep.of skv) (nv.keep (Keep.of skv))
      refine ⟨kv, d1, xs, ep, ordD, rhoD, rfl, rfl, upd_same, skv _ _ hx1, hne, tells_pk eg1, cmps_pk eg1, fun y hy hmax H3 sm3 => ?_⟩
      obtain ⟨h, ey, hd⟩ := head_of hx2 hy hmax
      have s23 := skv.trans sm3
      have s3 : Same H H3 := sm2.trans s23
      have hkey : Rp K H3 (pk h) (.ref y.2.1) := by
        have z := (hx2.es.keys y hy).1
        rw [ey] at z
        exact (Keep.of s23).rp z
      obtain ⟨xb, eb, hb1, hb2⟩ := hB.grw (.of (T := []) s3)
      obtain ⟨o, lo, l1, l2⟩ := look_of emb_pk hb1 hb2 hkey
      have hD3 : DG K w H3 d1 pk (supp r) := ⟨xs, ep, s23 _ _ hx1, hx2.keep (Keep.of s23) (nv.keep (Keep.of s23))⟩
      have hM3 : DG K w H3 d2' mkk (supp mm) := hM.same s23
      obtain ⟨xr3, er3, hr1, hr2⟩ := id hD3
      refine ⟨_, rfl, _, rfl, a, A.L, dx, _, _, rfl, s3 _ _ hl, T.clL, T.nL_by_head, fs_bh fa bh, o, lo, _, rfl, ?_⟩
      cases o with
      | none =>
        have Bn : B h = none := by
          cases e : B h with
          | none => rfl
          | some x => rw [e] at l1; cases l1
        obtain ⟨z1, z2, z3, z4⟩ := Z.inv h hd.at_
        refine iteT ?_
        refine ⟨_, rfl, fa, _, _, rfl, s3 _ _ hF.2.choose_spec, rfl, _, rfl, fa, _, _, rfl, s3 _ _ hF.2.choose_spec, rfl, fa, _, 1, 1, rfl, hF.same s3, one_ok, sz_one, sz_one, fun H4 v4 sm4 r4 => ?_⟩
        obtain ⟨v5, lk5, n5⟩ := look_some (k := h) emb_pk (sm4 _ _ hr1) (hr2.keep (Keep.of sm4) (nv.keep (Keep.of sm4))) ((Keep.of sm4).rp hkey) (supp_some.mpr ⟨hd.at_, rfl⟩)
        refine ⟨_, rfl, _, rfl, v5, lk5, fa, 1, r h, _, _, rfl, hF.same (s3.trans sm4), one_rp r4, n5, nsz_one, Z.rows h, hd.at_, fun H5 v6 sm5 r5 => ?_⟩
        have s5 := (s3.trans sm4).trans sm5
        refine ⟨_, rfl, fa, _, _, rfl, s5 _ _ hF.2.choose_spec, rfl, _, rfl, fa, _, _, rfl, s5 _ _ hF.2.choose_spec, rfl, fa, _, 1, 1, rfl, hF.same s5, one_ok, sz_one, sz_one, fun H6 v7 sm6 r6 => ?_⟩
        refine ⟨_, rfl, fa, 1, 1 / r h, _, _, rfl, hF.same (s5.trans sm6), one_rp r6, (Keep.of sm6).rp r5, nsz_one, z1, True.intro, fun H7 v8 sm7 r7 => ?_⟩
        have s37 := (sm4.trans sm5).trans (sm6.trans sm7)
        have s7 := s3.trans s37
        refine ⟨_, rfl, a, dx, _, rfl, s7 _ _ hl, rfl, _, rfl, _, rfl, _, rfl, Pr, inferInstance, pk, prods, a, fa, bh, d1, d1, v8, r, r, 1 - 1 / r h, rfl, emb_pk, ⟨dx, s7 _ _ hl⟩, hF.same s7, hD3.same s37, hD3.same s37, r7, z2, Z.rows, Z.rows, z3, fun H8 d8 sm8 n8 D8 => ?_⟩
        have s8 := s7.trans sm8
        refine ⟨_, rfl, a, dx, _, rfl, s8 _ _ hl, rfl, _, rfl, _, rfl, _, rfl, Mk, inferInstance, mkk, marks, a, fa, bh, d2', d2', v8, mm, mm, 1 - 1 / r h, rfl, emb_mkk, ⟨dx, s8 _ _ hl⟩, hF.same s8, hM3.same (s37.trans sm8), hM3.same (s37.trans sm8), (Keep.of sm8).rp r7, z2, Z.mks, Z.mks, z4, fun H9 d9 sm9 n9 D9 => ?_⟩
        refine ⟨(by decide : 2 ≤ sizeLine), fun t ht => ?_⟩
        have s9 := s8.trans sm9
        have sT := s9.trans (same_upd (o := .tup [.ref d8, .ref d9]) ht)
        have s3T : Same H3 _ := ((s37.trans sm8).trans sm9).trans (same_upd (o := .tup [.ref d8, .ref d9]) ht)
        have hbT := s3T _ _ hb1
        refine ⟨_, rfl, a, A.L, dx, _, _, rfl, sT _ _ hl, T.clL, T.nL_by_head, fs_bh fa bh, _, rfl, ⟨bh, xb, eb, pk h, y.2.1, t, rfl, rfl, rfl, hbT, hb2.es.keep (Keep.of s3T), (Keep.of s3T).rp hkey, (fine_pk h).2.1, hb2.line emb_pk, fun ep' => ?_⟩⟩
        have kT := keep_dO (w := w) (fs2 := putD xb (pk h) y.2.1 t) (ep2 := ep') hbT
        have k3 := (Keep.of s3T).trans kT
        have sb3 : SB bh H3 _ := (SB.of s3T).trans (SB.upd (o := dO w bh (putD xb (pk h) y.2.1 t) ep'))
        have nb8 : d8 ≠ bh := fun z => by
          have := s37 _ _ hb1
          rw [← z, n8] at this
          cases this
        have nb9 : d9 ≠ bh := fun z => by
          have := (s37.trans sm8) _ _ hb1
          rw [← z, n9] at this
          cases this
        have D8' : DG K w _ d8 pk (supp fun k => r k * (1 / r h)) := ((D8.same (sm9.trans (same_upd (o := .tup [.ref d8, .ref d9]) ht))).sb nb8 SB.upd kT).fn fun k => by grind
        have D9' : DG K w _ d9 mkk (supp fun k => mm k * (1 / r h)) := ((D9.same (same_upd (o := .tup [.ref d8, .ref d9]) ht)).sb nb9 SB.upd kT).fn fun k => by grind
        have egN := hb2.keep (pv' := pairV K w _ bh) k3 fun x ad ⟨dr', dm', t1, n1, n2, D1, D2⟩ => ⟨dr', dm', t1.keep k3, n1, n2, D1.sb n1 sb3 k3, D2.sb n2 sb3 k3⟩
        refine q _ (kept B h r mm) _ true ((SB.of s3).trans sb3) ⟨_, ep', upd_same, (egN.put emb_pk (x := (fun k => r k * (1 / r h), fun μ => mm μ * (1 / r h))) (k3.rp hkey) ⟨d8, d9, Tp.keep (.inl upd_same) kT, nb8, nb9, D8', D9'⟩).congr fun k => rfl⟩ (linv_put L St hd Bn hu) (lsz_put LS hd e0 er em)
      | some v =>
        obtain ⟨⟨r1, m1⟩, Bs, dr1, dm1, t, n1, n2, D1, D2⟩ := l2 v rfl
        obtain ⟨E2, f0, f1, fr, fm⟩ := LS h r1 m1 Bs
        obtain ⟨z1, z2, z3, z4⟩ := st_sz2 (h := h) e0 e1 er f0 f1 fr fm
        refine iteF ?_
        refine ⟨_, rfl, a, A.L, dx, _, _, rfl, s3 _ _ hl, T.clL, T.nL_by_head, fs_bh fa bh, _, rfl, v, lo, v, _, rfl, t.sq, rfl, _, _, rfl, _, _, rfl, rfl, ?_⟩
        obtain ⟨v5, lk5, n5⟩ := look_some (k := h) emb_pk hr1 hr2 hkey (supp_some.mpr ⟨hd.at_, rfl⟩)
        refine ⟨_, rfl, _, rfl, v5, lk5, ?_⟩
        refine ⟨_, rfl, a, dx, _, rfl, s3 _ _ hl, rfl, _, rfl, _, rfl, _, rfl, Pr, inferInstance, pk, prods, a, fa, bh, d1, dr1, .ref v5, r, r1, r h, rfl, emb_pk, ⟨dx, s3 _ _ hl⟩, hF.same s3, hD3, D1, n5, Z.rows h, Z.rows, z1, z3, fun H5 d5 sm5 n5' D5 => ?_⟩
        refine ⟨_, rfl, a, dx, _, rfl, (s3.trans sm5) _ _ hl, rfl, _, rfl, _, rfl, _, rfl, Mk, inferInstance, mkk, marks, a, fa, bh, d2', dm1, .ref v5, mm, m1, r h, rfl, emb_mkk, ⟨dx, (s3.trans sm5) _ _ hl⟩, hF.same (s3.trans sm5), hM3.same sm5, D2.same sm5, (Keep.of sm5).rp n5, Z.rows h, Z.mks, z2, z4, fun H6 d6 sm6 n6 D6 => ?_⟩
        refine ⟨_, cut_lt hd (r2 := fun k => r k - r h * r1 k) (fun k hk => ?_), (fun k => r k - r h * r1 k), (fun μ => mm μ - r h * m1 μ), d5, d6, _, _, _, _, _, rfl, (s3.trans sm5).trans sm6, (D5.same sm6).fn fun k => by grind, D6.fn fun k => by grind, stg_step L St hd Bs hu, rfl⟩
        have z : r h - r h * r1 h = 0 := by rw [L.lead Bs]; grind
        rcases Nat.lt_or_ge (rank k) (rank h) with q1 | q1
        · exact q1
        · exfalso
          by_cases ek : k = h
          · rw [ek] at hk; exact hk z
          · have a1 : r k = 0 := by
              by_cases c : r k = 0
              · exact c
              · have := hd.top k c
                exact absurd (rank_inj k h (by omega)) ek
            have a2 : r1 k = 0 := by
              by_cases c : r1 k = 0
              · exact c
              · have := L.low Bs c
                exact absurd (rank_inj k h (by omega)) ek
            refine hk ?_
            rw [a1, a2]
            grind
end
end FsR
end
section
/-! Lines.nought_on_all: the walk. -/
set_option Elab.async false
set_option linter.all false
set_option maxRecDepth 100000
namespace FsR
open PySem PySem.Spec PyProof.Rows L2 LamX Fs
section
variable {F : Type} [Num F] {κ α : Type} [DecidableEq κ] {K : PySem.W.Frag} {H : Hp} {ek : κ → NestedKey} {U : List κ} {pv : α → Addr → Prop} {g : κ → Option α} {xs : List Ent}
theorem eg_keysOf (e : EG K H ek pv g xs) : ∃ ks : List κ, xs.map (·.1) = ks.map ek ∧ ks.Nodup ∧ (∀ k ∈ ks, (g k).isSome = true) := by
  have of := e.of
  have nd := e.es.nd
  clear e
  induction xs with
  | nil => exact ⟨[], rfl, List.nodup_nil, fun k hk => absurd hk (by simp)⟩
  | cons y ys ih =>
    rw [List.map_cons, List.nodup_cons] at nd
    obtain ⟨ks, h1, h2, h3⟩ := ih (fun e he => of e (List.mem_cons_of_mem _ he)) nd.2
    obtain ⟨k, x, e1, e2, _⟩ := of y List.mem_cons_self
    refine ⟨k :: ks, by rw [List.map_cons, List.map_cons, h1, e1], ?_, fun j hj => ?_⟩
    · rw [List.nodup_cons]
      refine ⟨fun hm => nd.1 ?_, h2⟩
      rw [h1, e1]
      exact List.mem_map_of_mem hm
    · rcases List.mem_cons.mp hj with rfl | hj
      · rw [e2]; rfl
      · exact h3 j hj
theorem eg_keyAt (e : EG K H ek pv g xs) (E : Emb ek U) {ks : List κ} (hk : xs.map (·.1) = ks.map ek) {i : Nat} {y : Ent} (hy : xs[i]? = some y) : ∃ k x, ks[i]? = some k ∧ y.1 = ek k ∧ g k = some x ∧ pv x y.2.2 := by
  obtain ⟨k, x, e1, e2, e3⟩ := e.of y (List.mem_of_getElem? hy)
  have z : (ks.map ek)[i]? = some y.1 := by rw [← hk, List.getElem?_map, hy]; rfl
  rw [List.getElem?_map] at z
  obtain ⟨j, h1, h2⟩ := Option.map_eq_some_iff.mp z
  have : j = k := E.eq (h2.trans e1)
  subst this
  exact ⟨j, x, h1, e1, e2, e3⟩
/-- the sum so far -/
def accAt (r W : Row F) (p : Pr) (ks : List Pr) : F := 0 - sumL (ks.filter fun k => decide (k ≠ p)) fun k => r k * W k
theorem accAt_snoc (r W : Row F) (p : Pr) {ks : List Pr} {i : Nat} {k : Pr} (h : ks[i]? = some k) : accAt r W p (ks.take (i + 1)) = if k = p then accAt r W p (ks.take i) else accAt r W p (ks.take i) - r k * W k := by
  unfold accAt
  rw [List.take_add_one, h, List.filter_append, sumL_append]
  by_cases e : k = p
  · rw [if_pos e]
    have : ([k] : List Pr).filter (fun k => decide (k ≠ p)) = [] := by simp [e]
    rw [show (some k).toList = [k] from rfl, this, sumL_nil]
    grind
  · rw [if_neg e]
    have : ([k] : List Pr).filter (fun k => decide (k ≠ p)) = [k] := by simp [e]
    rw [show (some k).toList = [k] from rfl, this, sumL_cons, sumL_nil]
    grind
theorem accAt_all (r W : Row F) (p : Pr) {ks : List Pr} (nd : ks.Nodup) (hk : ∀ k, r k ≠ 0 → k ∈ ks) : accAt r W p ks = 0 - sumL (prods.filter fun k => decide (k ≠ p)) fun k => r k * W k := by
  unfold accAt
  rw [sumL_sub_of (l := prods.filter fun k => decide (k ≠ p)) (r := ks.filter fun k => decide (k ≠ p)) (prods_nodup.filter _) (nd.filter _) (fun a ha => ?_) fun a ha hn => ?_]
  · obtain ⟨_, h2⟩ := List.mem_filter.mp ha
    exact List.mem_filter.mpr ⟨prods_all a, h2⟩
  · obtain ⟨_, h2⟩ := List.mem_filter.mp ha
    have : r a = 0 := by
      by_cases z : r a = 0
      · exact z
      · exact absurd (List.mem_filter.mpr ⟨hk a z, h2⟩) hn
    rw [this]; grind
theorem acc_small {r W : Row F} {p : Pr} {ks : List Pr} (nd : ks.Nodup) {E1 E2 : Int} (e0 : E1 ≠ 0) (f0 : E2 ≠ 0) (e1 : Num.p F = 0 → E1.natAbs ≤ 2 ^ 424) (f1 : Num.p F = 0 → E2.natAbs ≤ 2 ^ 400) (hr : ∀ k, Num.rep E1 (2 ^ 424) (r k)) (hw : ∀ k, Num.rep E2 (2 ^ 400) (W k)) (i : Nat) : NSz (accAt r W p (ks.take i)) := by
  have e2 : E1 * E2 ≠ 0 := Int.mul_ne_zero e0 f0
  have h1 := rep_sum ((ks.take i).filter fun k => decide (k ≠ p)) (fun k => r k * W k) e2 fun k _ => Num.rep_mul (hr k) (hw k)
  have h2 : Num.rep (E1 * E2) (0 + ((ks.take i).filter fun k => decide (k ≠ p)).length * (2 ^ 424 * 2 ^ 400)) (accAt r W p (ks.take i)) := rep_sub (Num.rep_zero e2) h1
  have hl : ((ks.take i).filter fun k => decide (k ≠ p)).length ≤ 2 ^ 4 := by
    refine Nat.le_trans (List.length_filter_le _ _) ?_
    refine Nat.le_trans (nodup_le (nd.sublist (List.take_sublist i ks)) fun a _ => prods_all a) (by decide)
  refine nsz_of fun hp => ⟨E1 * E2, _, e2, h2, ?_, ?_⟩
  · rw [Nat.zero_add]
    exact p2_lt (p2_mul hl (p2_mul (Nat.le_refl _) (Nat.le_refl _))) (by decide)
  · rw [Int.natAbs_mul]; exact p2_lt (p2_mul (e1 hp) (f1 hp)) (by decide)
theorem w_small {W : Row F} {E2 : Int} (f0 : E2 ≠ 0) (f1 : Num.p F = 0 → E2.natAbs ≤ 2 ^ 400) (hw : ∀ k, Num.rep E2 (2 ^ 400) (W k)) (k : Pr) : NSz (W k) := nsz_of fun hp => ⟨E2, _, f0, hw k, p2_lt (Nat.le_refl _) (by decide), p2_lt (f1 hp) (by decide)⟩
theorem rw_small {r W : Row F} {E1 E2 : Int} (e0 : E1 ≠ 0) (f0 : E2 ≠ 0) (e1 : Num.p F = 0 → E1.natAbs ≤ 2 ^ 424) (f1 : Num.p F = 0 → E2.natAbs ≤ 2 ^ 400) (hr : ∀ k, Num.rep E1 (2 ^ 424) (r k)) (hw : ∀ k, Num.rep E2 (2 ^ 400) (W k)) (k : Pr) : NSz (r k * W k) :=
  nsz_of fun hp => ⟨E1 * E2, _, Int.mul_ne_zero e0 f0, Num.rep_mul (hr k) (hw k), p2_lt (p2_mul (Nat.le_refl _) (Nat.le_refl _)) (by decide), by rw [Int.natAbs_mul]; exact p2_lt (p2_mul (e1 hp) (f1 hp)) (by decide)⟩
theorem r_small {r : Row F} {E1 : Int} (e0 : E1 ≠ 0) (e1 : Num.p F = 0 → E1.natAbs ≤ 2 ^ 424) (hr : ∀ k, Num.rep E1 (2 ^ 424) (r k)) (k : Pr) : NSz (r k) := nsz_of fun hp => ⟨E1, _, e0, hr k, p2_lt (Nat.le_refl _) (by decide), p2_lt (e1 hp) (by decide)⟩
/-- the products told so far -/
def toldAt (W : Row F) (us : List Pr) : Pr → Option F := fun k => if k ∈ us then some (W k) else none
end
/-- a list of products -/
def PrList (K : PySem.W.Frag) (H : Hp) (a : Addr) (us : List Pr) : Prop := ∃ xs, H a = some (.lst xs) ∧ RpL K H (us.map pk) xs
theorem PrList.same {K : PySem.W.Frag} {H H' : Hp} {a : Addr} {us : List Pr} (h : PrList K H a us) (s : Same H H') : PrList K H' a us := by
  obtain ⟨xs, h1, h2⟩ := h
  exact ⟨xs, s _ _ h1, RpL.keep (Keep.of s) _ h2⟩
theorem RpL.at_ {K : PySem.W.Frag} {H : Hp} {β : Type} {f : β → NestedKey} {us : List β} {xs : List V} (h : RpL K H (us.map f) xs) {i : Nat} {x : V} (hx : xs[i]? = some x) : ∃ u, us[i]? = some u ∧ Rp K H (f u) x := by
  have hl := h.length
  rw [List.length_map] at hl
  obtain ⟨h1, h2⟩ := List.getElem?_eq_some_iff.mp hx
  have hi : us[i]? = some us[i] := List.getElem?_eq_getElem (by omega)
  obtain ⟨x2, e1, e2⟩ := h.get (i := i) (d := f us[i]) (by rw [List.getElem?_map, hi]; rfl)
  rw [hx] at e1
  cases e1
  exact ⟨_, hi, e2⟩
section
variable {P : Program} {w : World} {K : PySem.W.Frag} {mg : Str → Option Value} {base : Heap} {A : Ad} {F : Type} [Num F]
theorem sc_Lines_nought_on_all : FnScope ["self", "products", "field", "found", "product", "key", "number"] ["self", "products"] (defScope (inClass (topS 21) 5)) := ⟨rfl, rfl, rfl, by decide +kernel, rfl, by decide +kernel, by decide +kernel⟩
def spNought (K : PySem.W.Frag) (w : World) (A : Ad) (F : Type) [Num F] : Sp := fun vs H Q _ => ∃ (a fa bh pl : Addr) (B : Bs F) (us : List Pr) (E2 : Int), vs = [.ref a, .ref pl] ∧ LnAt A H a fa bh ∧ Fld A H fa (Num.p F) ∧ BG K w H bh B ∧ PrList K H pl us ∧
  us.Pairwise (fun a c => rank a < rank c) ∧ B 0 = none ∧ LSz B ∧ (∀ p ∈ us, wor B us p = wAt B (wor B us) p) ∧ (∀ h r m, B h = some (r, m) → ∀ k, r k ≠ 0 → rank k ≤ rank h ∧ (h ∈ us → k ∈ us)) ∧ E2 ≠ 0 ∧ (Num.p F = 0 → E2.natAbs ≤ 2 ^ 400) ∧ (∀ k, Num.rep E2 (2 ^ 400) (wor B us k)) ∧
  ∀ H' d, Same H H' → H d = none → DG K w H' d pk (toldAt (wor B us) us) → Q (.ref d) H'
theorem toldAt_snoc {W : Row F} {us : List Pr} {i : Nat} {p : Pr} (h : us[i]? = some p) (k : Pr) : toldAt W (us.take (i + 1)) k = if k = p then some (W p) else toldAt W (us.take i) k := by
  unfold toldAt
  rw [List.take_add_one, h]
  by_cases e : k = p
  · rw [if_pos e, if_pos (List.mem_append_right _ (by rw [e]; simp)), e]
  · rw [if_neg e]
    by_cases z : k ∈ us.take i
    · rw [if_pos z, if_pos (List.mem_append_left _ z)]
    · rw [if_neg z, if_neg fun y => (List.mem_append.mp y).elim z fun y => e (by simpa using y)]
theorem before_of {us : List Pr} (hs : us.Pairwise fun a c => rank a < rank c) {i : Nat} {p k : Pr} (h : us[i]? = some p) (hk : k ∈ us) (hr : rank k < rank p) : k ∈ us.take i := by
  obtain ⟨j, hj, ej⟩ := List.mem_iff_getElem.mp hk
  obtain ⟨hi, ei⟩ := List.getElem?_eq_some_iff.mp h
  rcases Nat.lt_or_ge j i with q | q
  · rw [← ej]
    exact List.mem_iff_getElem.mpr ⟨j, by rw [List.length_take]; omega, by rw [List.getElem_take]⟩
  · exfalso
    rcases Nat.eq_or_lt_of_le q with e | l
    · subst e
      rw [ei] at ej
      rw [ej] at hr
      exact Nat.lt_irrefl _ hr
    · have := List.pairwise_iff_getElem.mp hs i j hi hj l
      rw [ei, ej] at this
      omega
theorem not_before {us : List Pr} (hs : us.Pairwise fun a c => rank a < rank c) {i : Nat} {p : Pr} (h : us[i]? = some p) : p ∉ us.take i := fun hm => by
  obtain ⟨j, hj, ej⟩ := List.mem_iff_getElem.mp hm
  rw [List.length_take] at hj
  rw [List.getElem_take] at ej
  obtain ⟨hi, ei⟩ := List.getElem?_eq_some_iff.mp h
  have := List.pairwise_iff_getElem.mp hs j i (by omega) hi (by omega)
  rw [ei, ej] at this
  omega
theorem c_Lines_nought_on_all (T : Txt K mg A) : MCal P w K mg base CX0 A.L 4 "nought_on_all" ["self", "products"] [] (spNought K w A F) := by
  refine mcal_mk T.m_Lines_nought_on_all (fun _ _ _ _ _ _ us hl => match us, hl with | [_, _], _ => rfl) sc_Lines_nought_on_all (fun vs H Q E h => ?_) (fun f cdv Ar outer s H vs Q E hr h => ?_)
  · obtain ⟨a, fa, bh, pl, B, us, E2, rfl, _⟩ := h
    rfl
  · obtain ⟨a, fa, bh, pl, B, us, E2, rfl, ⟨dx, hl⟩, hF, hB, ⟨vs, hp1, hp2⟩, hs, B0, LS, hW, hU, f0, f1, fw, q⟩ := h
    refine ⟨_, (pss_cons (ps_set (i := 2) sc_Lines_nought_on_all.nd rfl (by first | exact Or.inl rfl | exact Or.inr rfl) (pe_fld (pv 0) (by rfl)))
      (pss_cons (ps_set (i := 3) sc_Lines_nought_on_all.nd rfl (by first | exact Or.inl rfl | exact Or.inr rfl) pe_dic0)
      (pss_cons (ps_for PassesOwn.never rfl (pi_list (pv 1)) (pg_name (i := 4) sc_Lines_nought_on_all.nd rfl (by first | exact Or.inl rfl | exact Or.inr rfl))
      (pss_cons (ps_asg (pe_glob (v := .ref A.Z) rfl T.ZERO rfl) (pg_sub (pv 3) (pv 4) (pset_dicP hr.units)))
      (pss_one (ps_if (pt_cmpR (op_eqR hr.units) (pv 4) (pe_tup pa_nil) (nomark _)) (pss_one (ps_asg (pcm (c_Field_made1 T) T.clF (hr.mono (by decide)) (pv 2) (pa_cons pe_int pa_nil)) (pg_sub (pv 3) (pv 4) (pset_dicP hr.units))))
      (pss_one (ps_if (pt_cmpR (op_inD' hr.units) (pv 4) (pe_fld (pv 0) (by rfl)) (by rfl)) (pss_one (ps_for PassesOwn.never rfl (pi_itD (pe_ix ix_tup (pe_ix (ix_dic hr.units) (pe_fld (pv 0) (by rfl)) (pv 4) (fun _ _ => rfl)) pe_int (fun _ _ => rfl))) ((pg_tup rfl (pgs_cons (pg_name (i := 5) sc_Lines_nought_on_all.nd rfl (by first | exact Or.inl rfl | exact Or.inr rfl)) (pgs_cons (pg_name (i := 6) sc_Lines_nought_on_all.nd rfl (by first | exact Or.inl rfl | exact Or.inr rfl)) pgs_nil))))
      (pss_one (ps_if (pt_cmpR (op_neR hr.units) (pv 5) (pv 4) (nomark _)) (pss_one (ps_asg (pcm (c_Field_minus (F := F) T) T.clF (hr.mono (by decide)) (pv 2) (pa_cons (pe_ix (ix_dic hr.units) (pv 3) (pv 4) (fun _ _ => rfl)) (pa_cons (pcm (c_Field_times (F := F) T) T.clF (hr.mono (by decide)) (pv 2) (pa_cons (pv 6) (pa_cons (pe_ix (ix_dic hr.units) (pv 3) (pv 5) (fun _ _ => rfl)) pa_nil))) pa_nil))) (pg_sub (pv 3) (pv 4) (pset_dicP hr.units))))
      pss_nil))))
      pss_nil))))))
      (pss_one (ps_ret (pv 3)))))), ?_⟩
    refine ⟨_, rfl, a, A.L, dx, _, _, rfl, hl, T.clL, T.nL_line_field, fs_lf fa bh, fun d hd => ?_⟩
    have hlen : us.length = vs.length := by
      have := hp2.length
      rw [List.length_map] at this
      exact this
    refine ⟨_, rfl, pl, rfl, ⟨_, SqL.of ((same_upd hd) _ _ hp1)⟩, for_list (K := K) (a := pl) (xs := vs) (fun i σ H1 => ∃ (s4 s5 s6 : Option V), σ = [some (.ref a), some (.ref pl), some (.ref fa), some (.ref d), s4, s5, s6] ∧ Same H H1 ∧ DG K w H1 d pk (toldAt (wor B us) (us.take i)))
      ⟨none, none, none, rfl, same_upd hd, [], 0, upd_same, EG.nil.congr fun k => ?_⟩ (fun i σ H1 _ ⟨_, _, _, _, sm, _⟩ => SqL.of (sm _ _ hp1)) ?_ ?_⟩
    · unfold toldAt
      rw [List.take_zero, if_neg (by simp)]
    · rintro i x σ H1 hi ⟨s4, s5, s6, rfl, sm, xs, ep, hd1, hd2⟩
      obtain ⟨p, hp, rp0⟩ := RpL.at_ hp2 hi
      obtain ⟨b, rfl⟩ := rp_pref rp0
      have rp := (Keep.of sm).rp rp0
      have hpu : p ∈ us := List.mem_of_getElem? hp
      have zr := rp_zero (F := F) T.zero H1
      have nb := not_before hs hp
      have Wp := hW p hpu
      -- what stands behind the turn
      have fin : ∀ (x5 x6 : Option V) (H2 : Hp), Same H H2 → DG K w H2 d pk (fun k => if k = p then some (wor B us p) else toldAt (wor B us) (us.take i) k) → ∃ (s4 s5 s6 : Option V), [some (.ref a), some (.ref pl), some (.ref fa), some (.ref d), some (.ref b), x5, x6] = ([some (.ref a), some (.ref pl), some (.ref fa), some (.ref d), s4, s5, s6] : L2.St) ∧ Same H H2 ∧ DG K w H2 d pk (toldAt (wor B us) (us.take (i + 1))) := fun x5 x6 H2 sm2 D => by
        refine ⟨_, _, _, rfl, sm2, ?_⟩
        obtain ⟨ys, ey, y1, y2⟩ := D
        exact ⟨ys, ey, y1, y2.congr fun k => (toldAt_snoc hp k).symm⟩
      refine ⟨_, rfl, _, rfl, putd_of emb_pk hd1 hd2 rp zr fun H2 fs2 ep2 sb2 h2 eg2 => ?_⟩
      have kp2 := sb2.keep hd1
      have s2 : Same H H2 := SB.same sm sb2 hd
      refine ⟨_, rfl, Nat.zero_le _, fun t ht => ⟨pk p, .tup [], (Keep.of (same_upd ht)).rp (kp2.rp rp), rp_tup_iff.mpr ⟨t, [], rfl, .inl upd_same, rpl_nil⟩, (fine_pk p).1, (fine_pk 0).1, _, rfl, ?_⟩⟩
      have st := same_upd (o := .tup []) ht
      have s3 := s2.trans st
      have rp3 := (Keep.of st).rp (kp2.rp rp)
      have h3 := st _ _ h2
      have eg3 := eg2.keep (Keep.of st) (nv.keep (Keep.of st))
      refine it2 (fun e0 => ?_) (fun e0 => ?_)
      · have p0 : p = 0 := pk_inj (q := 0) e0
        refine ⟨_, rfl, fa, _, _, rfl, s3 _ _ hF.2.choose_spec, rfl, fa, _, 1, 1, rfl, hF.same s3, one_ok, sz_one, sz_one, fun H4 v4 sm4 r4 => ?_⟩
        obtain ⟨c4, rfl⟩ := rp_ref (one_rp r4)
        refine ⟨_, rfl, _, rfl, putd_of emb_pk (sm4 _ _ h3) (eg3.keep (Keep.of sm4) (nv.keep (Keep.of sm4))) ((Keep.of sm4).rp rp3) (one_rp r4) fun H5 fs5 ep5 sb5 h5 eg5 => ?_⟩
        refine fin _ _ _ (SB.same (s3.trans sm4) sb5 hd) ⟨fs5, ep5, h5, eg5.congr fun k => ?_⟩
        by_cases e : k = p
        · rw [if_pos e, if_pos e, Wp, p0]
          rfl
        · rw [if_neg e, if_neg e, if_neg e]
      · have p0 : p ≠ 0 := fun z => e0 (by rw [z]; rfl)
        obtain ⟨xb, eb, hb1, hb2⟩ := id hB
        obtain ⟨o, lo, l1, l2⟩ := look_of emb_pk (s3 _ _ hb1) (hb2.keep (Keep.of s3) fun _ _ h => h) rp3
        refine ⟨_, rfl, _, rfl, a, A.L, dx, _, _, rfl, s3 _ _ hl, T.clL, T.nL_by_head, fs_bh fa bh, o, lo, _, rfl, ?_⟩
        cases o with
        | none =>
          have Bn : B p = none := by
            cases e : B p with
            | none => rfl
            | some x => rw [e] at l1; cases l1
          refine iteF (fin _ _ _ s3 ⟨fs2, ep2, h3, eg3.congr fun k => ?_⟩)
          by_cases e : k = p
          · rw [if_pos e, if_pos e, Wp]
            unfold wAt
            rw [if_neg p0, Bn]
          · rw [if_neg e, if_neg e]
        | some v =>
          obtain ⟨⟨r, m⟩, Bs, dr, dm, t1, n1, n2, D1, D2⟩ := l2 v rfl
          obtain ⟨ys, ey, hr1, hr2⟩ := D1
          obtain ⟨E1, g0, g1, gr, gm⟩ := LS p r m Bs
          obtain ⟨ks, k1, k2, k3⟩ := eg_keysOf hr2
          have hkr : ∀ k, r k ≠ 0 → k ∈ ks := fun k hk => by
            have := hr2.to k (r k) (supp_some.mpr ⟨hk, rfl⟩)
            rw [k1] at this
            obtain ⟨j, hj, ej⟩ := List.mem_map.mp this
            rw [← pk_inj ej]
            exact hj
          refine iteT ⟨_, rfl, a, A.L, dx, _, _, rfl, s3 _ _ hl, T.clL, T.nL_by_head, fs_bh fa bh, _, rfl, v, lo, _, _, _, .ref dr, rfl, rfl, (t1.keep (Keep.of s3)).sq, at_of (j := 0) rfl rfl, dr, ys, ey, rfl, s3 _ _ hr1, ?_⟩
          refine for_it walk_itD (fun j σ H4 => ∃ (s5 s6 : Option V) (fs : List Ent) (ep : Nat), σ = [some (.ref a), some (.ref pl), some (.ref fa), some (.ref d), some (.ref b), s5, s6] ∧ Same H H4 ∧ H4 d = some (dO w d fs ep) ∧ EG K H4 pk (nv K H4) (fun k => if k = p then some (accAt r (wor B us) p (ks.take j)) else toldAt (wor B us) (us.take i) k) fs)
            ⟨_, _, fs2, ep2, rfl, s3, h3, eg3.congr fun k => ?_⟩ (fun j σ H4 _ ⟨_, _, _, _, _, sm, _⟩ => sm _ _ hr1) ?_ ?_
          · by_cases e : k = p
            · rw [if_pos e, if_pos e]
              unfold accAt
              rw [List.take_zero, List.filter_nil, sumL_nil]
              congr 1
              grind
            · rw [if_neg e, if_neg e]
          · rintro j x5 σ H4 H5 hj ⟨s5', s6', fs, ep4, rfl, sm4, h4, eg4⟩ ⟨T0, y, hy, rfl, hT, rfl⟩
            obtain ⟨k, z, hk, ek, gk, vk⟩ := eg_keyAt hr2 emb_pk k1 hy
            obtain ⟨hrk, rfl⟩ := supp_some.mp gk
            have sT := same_upd (o := .tup [.ref y.2.1, .ref y.2.2]) hT
            have sm5 := sm4.trans sT
            have kT := Keep.of sT
            have hkey : Rp K (upd H4 T0 (.tup [.ref y.2.1, .ref y.2.2])) (pk k) (.ref y.2.1) := by
              have w1 := (hr2.es.keys y (List.mem_of_getElem? hy)).1
              rw [ek] at w1
              exact (Keep.of sm5).rp w1
            have rp5 := (Keep.of sm5).rp rp0
            refine ⟨T0, _, rfl, SqT.of upd_same, rfl, _, _, rfl, _, _, rfl, rfl, ?_⟩
            refine ⟨_, rfl, _, rfl, pk k, pk p, hkey, rp5, (fine_pk k).1, (fine_pk p).1, _, rfl, itN2 (fun hne => ?_) (fun heq => ?_)⟩
            · have kp : k ≠ p := fun z => hne (by rw [z])
              obtain ⟨u1, u2⟩ := hU p r m Bs k hrk
              have hku : k ∈ us := u2 hpu
              have hlt : rank k < rank p := by
                rcases Nat.lt_or_ge (rank k) (rank p) with q1 | q1
                · exact q1
                · exact absurd (rank_inj k p (by omega)) kp
              have hbef := before_of hs hp hku hlt
              have h5 := sT _ _ h4
              have eg5 := eg4.keep kT (nv.keep kT)
              obtain ⟨v1, lk1, n1'⟩ := look_some (k := p) emb_pk h5 eg5 rp5 (if_pos rfl)
              obtain ⟨v2, lk2, n2'⟩ := look_some (k := k) (x := wor B us k) emb_pk h5 eg5 hkey (by rw [if_neg kp]; unfold toldAt; rw [if_pos hbef])
              refine ⟨_, rfl, fa, _, _, rfl, sm5 _ _ hF.2.choose_spec, rfl, _, rfl, _, rfl, v1, lk1, ?_⟩
              refine ⟨_, rfl, fa, _, _, rfl, sm5 _ _ hF.2.choose_spec, rfl, _, rfl, _, rfl, _, rfl, v2, lk2, fa, r k, wor B us k, _, _, rfl, hF.same sm5, (Keep.of sm5).rp vk, n2', r_small g0 g1 gr k, w_small f0 f1 fw k, True.intro, fun H6 v6 sm6 r6 => ?_⟩
              refine ⟨fa, accAt r (wor B us) p (ks.take j), r k * wor B us k, _, _, rfl, hF.same (sm5.trans sm6), (Keep.of sm6).rp n1', r6, acc_small k2 g0 f0 g1 f1 gr fw j, rw_small g0 f0 g1 f1 gr fw k, True.intro, fun H7 v7 sm7 r7 => ?_⟩
              have s57 := sm6.trans sm7
              obtain ⟨c7, rfl⟩ := rp_ref r7
              refine ⟨_, rfl, _, rfl, putd_of emb_pk (s57 _ _ h5) (eg5.keep (Keep.of s57) (nv.keep (Keep.of s57))) ((Keep.of s57).rp rp5) r7 fun H8 fs8 ep8 sb8 h8 eg8 => ?_⟩
              refine ⟨_, _, fs8, ep8, rfl, SB.same (sm5.trans s57) sb8 hd, h8, eg8.congr fun i' => ?_⟩
              rw [accAt_snoc r (wor B us) p hk, if_neg kp]
              by_cases e : i' = p
              · rw [if_pos e, if_pos e]
              · rw [if_neg e, if_neg e, if_neg e]
            · have kp : k = p := pk_inj heq
              refine ⟨_, _, fs, ep4, rfl, sm5, sT _ _ h4, (eg4.keep kT (nv.keep kT)).congr fun i' => ?_⟩
              rw [accAt_snoc r (wor B us) p hk, if_pos kp]
          · rintro σ H4 ⟨s5', s6', fs, ep4, rfl, sm4, h4, eg4⟩
            refine fin _ _ _ sm4 ⟨fs, ep4, h4, eg4.congr fun k => ?_⟩
            have hlen2 : ks.length = ys.length := by
              have := congrArg List.length k1
              rw [List.length_map, List.length_map] at this
              exact this.symm
            rw [← hlen2, List.take_length, accAt_all r (wor B us) p k2 hkr]
            by_cases e : k = p
            · rw [if_pos e, if_pos e, Wp]
              unfold wAt
              rw [if_neg p0, Bs]
            · rw [if_neg e, if_neg e]
    · rintro σ H1 ⟨s4, s5, s6, rfl, sm, D⟩
      refine ⟨_, rfl, q H1 d sm hd ?_⟩
      rw [← hlen, List.take_length] at D
      exact D
end
end FsR
end
section
/-! Sums: is_place, is_product, joined_product, look_at_terms. -/
set_option Elab.async false
set_option linter.all false
set_option maxRecDepth 100000
namespace FsR
open PySem PySem.Spec PyProof.Rows L2 LamX Fs
/-! ### tuples put together -/
structure CatP (K : PySem.W.Frag) (x y : V) (H : Hp) (Q : VK) : Prop where
  h : rCatA K x y H Q
section
variable {X : Cx}
theorem op_catP : OpR X (binaryOp .Add) (CatP X.K) := fun pn st sg Hq x y v u Q I rx ry q => op_catA pn st sg Hq x y v u Q I rx ry q.h
theorem op_catPB (K : PySem.W.Frag) (h : X.K = K) : OpR X (binaryOp .Add) (CatP K) := by
  subst h
  exact op_catP
end
theorem cat_of {K : PySem.W.Frag} {H : Hp} {a b : Addr} {xs ys : List V} {Q : VK} (ha : Tp K H a xs) (hb : Tp K H b ys) (hz : xs.length + ys.length ≤ sizeLine) (q : ∀ H' c, Same H H' → Tp K H' c (xs ++ ys) → Q (.ref c) H') : CatP K (.ref a) (.ref b) H Q := by
  refine ⟨a, b, xs, ys, rfl, rfl, ha.sq, hb.sq, hz, fun e => ?_, fun _ e => ?_, fun _ _ p hp => ?_⟩
  · subst e
    exact q H b (Same.refl _) hb
  · subst e
    refine q H a (Same.refl _) ?_
    rw [List.append_nil]; exact ha
  · exact q _ p (same_upd hp) (.inl upd_same)
/-! ### lists that are sorted alike -/
theorem lt_ext {α : Type} (R : α → α → Prop) (irr : ∀ a, ¬ R a a) (asym : ∀ a b, R a b → ¬ R b a) : ∀ {l1 l2 : List α}, l1.Pairwise R → l2.Pairwise R → (∀ a, a ∈ l1 ↔ a ∈ l2) → l1 = l2
  | [], [], _, _, _ => rfl
  | [], b :: _, _, _, h => absurd ((h b).mpr List.mem_cons_self) (by simp)
  | a :: _, [], _, _, h => absurd ((h a).mp List.mem_cons_self) (by simp)
  | a :: l1, b :: l2, h1, h2, h => by
    rw [List.pairwise_cons] at h1 h2
    have e : a = b := by
      rcases List.mem_cons.mp ((h a).mp List.mem_cons_self) with z | z
      · exact z
      · rcases List.mem_cons.mp ((h b).mpr List.mem_cons_self) with y | y
        · exact y.symm
        · exact absurd (h1.1 b y) (asym _ _ (h2.1 a z))
    subst e
    rw [lt_ext R irr asym h1.2 h2.2 fun c => ?_]
    constructor
    · intro hc
      rcases List.mem_cons.mp ((h c).mp (List.mem_cons_of_mem _ hc)) with z | z
      · exact absurd (h1.1 c hc) (by rw [z]; exact irr _)
      · exact z
    · intro hc
      rcases List.mem_cons.mp ((h c).mpr (List.mem_cons_of_mem _ hc)) with z | z
      · exact absurd (h2.1 c hc) (by rw [z]; exact irr _)
      · exact z
/-- the places as whole numbers -/
def plc (q : Pr) : List Int := (places q).map fun (i : Nat) => (i : Int)
theorem plc_lt : ∀ q : Pr, (plc q).Pairwise (· < ·) := by decide +kernel
theorem plc_jn : ∀ p q : Pr, ∀ i ∈ ([0, 1, 2, 3] : List Int), (decide (i ∈ plc (jn p q)) = decide (i ∈ plc p ++ plc q)) := by decide +kernel
theorem plc_in : ∀ q : Pr, ∀ i ∈ plc q, i ∈ ([0, 1, 2, 3] : List Int) := by decide +kernel
theorem plc_len : ∀ q : Pr, (plc q).length ≤ 4 := by decide +kernel
theorem plc_join {p q : Pr} {ns : List Int} (h : ns.Pairwise (· < ·)) (hm : ∀ k : Int, k ∈ ns ↔ decide (k ∈ plc p ++ plc q) = true) : ns = plc (jn p q) := by
  refine lt_ext (· < ·) (fun a => by omega) (fun a b => by omega) h (plc_lt _) fun k => ?_
  rw [hm k, decide_eq_true_eq]
  constructor
  · intro hk
    have h4 : k ∈ ([0, 1, 2, 3] : List Int) := (List.mem_append.mp hk).elim (plc_in p k) (plc_in q k)
    have := plc_jn p q k h4
    rw [decide_eq_true hk] at this
    exact of_decide_eq_true this
  · intro hk
    have h4 := plc_in _ k hk
    have := plc_jn p q k h4
    rw [decide_eq_true hk] at this
    exact of_decide_eq_true this.symm
theorem pk_plc (q : Pr) : pk q = .tup ((plc q).map NestedKey.num) := by
  unfold pk plc
  rw [List.map_map]
  rfl
theorem rp_plc {K : PySem.W.Frag} {H : Hp} {q : Pr} {v : V} (h : Rp K H (pk q) v) : ∃ p, v = .ref p ∧ Tp K H p ((plc q).map V.int) := by
  rw [pk_plc] at h
  obtain ⟨p, xs, rfl, t, r⟩ := rp_tup_iff.mp h
  rw [rpl_nums_iff r] at t
  exact ⟨p, rfl, t⟩
theorem plc_rp {K : PySem.W.Frag} {H : Hp} {q : Pr} {p : Addr} (h : Tp K H p ((plc q).map V.int)) : Rp K H (pk q) (.ref p) := by
  rw [pk_plc]
  exact rp_tup_iff.mpr ⟨p, _, rfl, h, rpl_nums _⟩
section
variable {P : Program} {w : World} {K : PySem.W.Frag} {mg : Str → Option Value} {base : Heap} {A : Ad} {F : Type} [Num F]
theorem sc_is_place : FnScope ["thing"] ["thing"] (defScope (topS 24)) := ⟨rfl, rfl, rfl, by decide +kernel, rfl, by decide +kernel, by decide +kernel⟩
def spPlace : Sp := fun vs H Q _ => ∃ i : Int, vs = [.int i] ∧ 0 ≤ i ∧ i < 60 ∧ Q (.bl true) H
theorem c_is_place (T : Txt K mg A) : Cal P w K mg base CX0 2 "is_place" ["thing"] [] spPlace := by
  refine cal_mk T.g_is_place (fun _ _ _ _ _ _ us hl => match us, hl with | [_], _ => rfl) sc_is_place (fun vs H Q E h => ?_) (fun f cdv Ar outer s H vs Q E hr h => ?_)
  · obtain ⟨i, rfl, _⟩ := h
    rfl
  · obtain ⟨i, rfl, h0, h1, q⟩ := h
    refine ⟨_, (pss_one (ps_ret (pe_and (pc (c_is_whole T) (hr.mono (by decide)) (pa_cons (pv 0) pa_nil)) (pe_one (pe_chain op_le op_lt pe_int (pv 0) (pe_const T.MOST_PLACES)))))), ?_⟩
    refine ⟨_, rfl, .int i, rfl, .inl ⟨_, rfl, true, rfl, iteT ?_⟩⟩
    refine ⟨_, rfl, _, _, rfl, rfl, _, rfl, itT h0 ⟨_, _, rfl, rfl, ?_⟩⟩
    show Q (.bl (decide (i < 60))) H
    rw [decide_eq_true h1]
    exact q
theorem sc_is_product : FnScope ["thing", "last", "place"] ["thing"] (defScope (topS 25)) := ⟨rfl, rfl, rfl, by decide +kernel, rfl, by decide +kernel, by decide +kernel⟩
def spIsProd (K : PySem.W.Frag) : Sp := fun vs H Q _ => ∃ (q : Pr) (v : V), vs = [v] ∧ Rp K H (pk q) v ∧ Q (.bl true) H
theorem c_is_product (T : Txt K mg A) : Cal P w K mg base CX0 3 "is_product" ["thing"] [] (spIsProd K) := by
  refine cal_mk T.g_is_product (fun _ _ _ _ _ _ us hl => match us, hl with | [_], _ => rfl) sc_is_product (fun vs H Q E h => ?_) (fun f cdv Ar outer s H vs Q E hr h => ?_)
  · obtain ⟨q, v, rfl, _⟩ := h
    rfl
  · obtain ⟨q, v, rfl, r, k⟩ := h
    obtain ⟨p, rfl, t⟩ := rp_plc r
    refine ⟨_, (pss_cons (ps_if (pt_not (pt_val (pe_callB call_isi (by rfl) T.isinstance (by decide +kernel) (pa_cons (pv 0) (pa_cons (pe_bltn (v := .ty "tuple") (by rfl) T.tuple (by decide +kernel) rfl) pa_nil))))) (pss_one (ps_ret pe_bl))
      pss_nil)
      (pss_cons (ps_set (i := 1) sc_is_product.nd rfl (by first | exact Or.inl rfl | exact Or.inr rfl) (pe_un un_neg pe_int))
      (pss_cons (ps_for PassesOwn.never rfl (pi_tup (pv 0)) (pg_name (i := 2) sc_is_product.nd rfl (by first | exact Or.inl rfl | exact Or.inr rfl))
      (pss_cons (ps_if (PW.pt (pw_or (pt_not (pt_val (pc (c_is_place T) (hr.mono (by decide)) (pa_cons (pv 2) pa_nil)))) (pw_or1 (pt_cmpR op_le (pv 2) (pv 1) (nomark _))))) (pss_one (ps_ret pe_bl))
      pss_nil)
      (pss_one (ps_set (i := 1) sc_is_product.nd rfl (by first | exact Or.inl rfl | exact Or.inr rfl) (pv 2)))))
      (pss_one (ps_ret pe_bl))))), ?_⟩
    refine ⟨_, rfl, _, _, .type "tuple", _, _, rfl, .ty _, tp_ty t, kit_ty (by decide +kernel), true, rfl, iteF ?_⟩
    refine ⟨_, rfl, _, rfl, p, rfl, ⟨_, t.sq⟩, for_tup (K := K) (a := p) (xs := (plc q).map V.int) (fun i σ H1 => ∃ (l : Int) (s2 : Option V), σ = [some (.ref p), some (.int l), s2] ∧ H1 = H ∧ ∀ (j : Nat) (x : Int), i ≤ j → (plc q)[j]? = some x → l < x) ⟨-1, none, rfl, rfl, fun j x _ hx => ?_⟩ (fun i σ H1 _ ⟨_, _, _, e, _⟩ => by rw [e]; exact t.sq) ?_ ?_⟩
    · have := plc_in q x (List.mem_of_getElem? hx)
      simp at this
      omega
    · rintro i x σ H1 hi ⟨l, s2, rfl, rfl, hl⟩
      rw [List.getElem?_map] at hi
      obtain ⟨y, hy, rfl⟩ := Option.map_eq_some_iff.mp hi
      have h4 := plc_in q y (List.mem_of_getElem? hy)
      have hy4 : 0 ≤ y ∧ y < 60 := by
        simp at h4
        omega
      have hly := hl i y (Nat.le_refl _) hy
      refine ⟨_, rfl, y, rfl, hy4.1, hy4.2, _, rfl, iteF ⟨_, rfl, _, rfl, _, _, rfl, rfl, _, rfl, itF (by omega) ?_⟩⟩
      refine ⟨_, rfl, y, _, rfl, rfl, fun j x hj hx => ?_⟩
      obtain ⟨h1, h2⟩ := List.getElem?_eq_some_iff.mp hy
      obtain ⟨h3, h5⟩ := List.getElem?_eq_some_iff.mp hx
      have := List.pairwise_iff_getElem.mp (plc_lt q) i j h1 h3 (by omega)
      rw [h2, h5] at this
      exact this
    · rintro σ H1 ⟨l, s2, rfl, rfl, _⟩
      exact k
theorem sc_joined_product : FnScope ["one", "other"] ["one", "other"] (defScope (topS 26)) := ⟨rfl, rfl, rfl, by decide +kernel, rfl, by decide +kernel, by decide +kernel⟩
def spJoin (K : PySem.W.Frag) : Sp := fun vs H Q _ => ∃ (p q : Pr) (u v : V), vs = [u, v] ∧ Rp K H (pk p) u ∧ Rp K H (pk q) v ∧ ∀ H' v', Same H H' → Rp K H' (pk (jn p q)) v' → Q v' H'
theorem c_joined_product (T : Txt K mg A) : Cal P w K mg base CX0 1 "joined_product" ["one", "other"] [] (spJoin K) := by
  refine cal_mk T.g_joined_product (fun _ _ _ _ _ _ us hl => match us, hl with | [_, _], _ => rfl) sc_joined_product (fun vs H Q E h => ?_) (fun f cdv Ar outer s H vs Q E hr h => ?_)
  · obtain ⟨p, q, u, v, rfl, _⟩ := h
    rfl
  · obtain ⟨p, q, u, v, rfl, ru, rv, k⟩ := h
    obtain ⟨a, rfl, ta⟩ := rp_plc ru
    obtain ⟨b, rfl, tb⟩ := rp_plc rv
    have la := plc_len p
    have lb := plc_len q
    refine ⟨_, (pss_one (ps_ret (pe_callTy call_tuple_of (by rfl) T.tuple (by decide +kernel) (pa_cons (pe_callB (cr_sortedSet rfl) (by rfl) T.sorted (by decide +kernel) (pa_cons (pe_callTy (cr_setT rfl) (by rfl) T.set (by decide +kernel) (pa_cons (pe_op op_catP (pv 0) (pv 1)) pa_nil)) pa_nil)) pa_nil)))), ?_⟩
    refine ⟨_, rfl, _, rfl, cat_of ta tb (by rw [List.length_map, List.length_map]; exact Nat.le_trans (by omega : _ ≤ 8) (by decide)) fun H1 c sm hc => ?_⟩
    rw [← List.map_append] at hc
    refine ⟨c, plc p ++ plc q, rfl, hc.sq, by rw [List.length_append]; omega, fun a2 n hn ha2 => ?_⟩
    rw [List.length_append] at hn
    refine ⟨a2, _, n, rfl, upd_same, by omega, fun ns p2 h1 h2 h3 hp2 => ?_⟩
    have e := plc_join h1 h2
    subst e
    refine ⟨p2, _, rfl, .inl ⟨SqL.of upd_same, fun l hl => ?_⟩⟩
    exact k _ _ (((sm.trans (same_upd ha2)).trans (same_upd hp2)).trans (same_upd hl)) (plc_rp (.inl upd_same))
end
end FsR
end
section
/-! Sums: look_at_terms; gathered. -/
set_option Elab.async false
set_option linter.all false
set_option maxRecDepth 100000
namespace FsR
open PySem PySem.Spec PyProof.Rows L2 LamX Fs
section
variable {F : Type} [Num F] {K : PySem.W.Frag} {H H' : Hp}
theorem rp_term {t : Pr × F} {v : V} (h : Rp K H (tk t) v) : ∃ a x y, v = .ref a ∧ Tp K H a [.ref x, .ref y] ∧ Rp K H (pk t.1) (.ref x) ∧ Rp K H (nk t.2) (.ref y) := by
  obtain ⟨a, x, y, rfl, t1, r1, r2⟩ := rp_two h
  obtain ⟨b, rfl⟩ := rp_pref r1
  obtain ⟨c, rfl⟩ := rp_ref r2
  exact ⟨a, b, c, rfl, t1, r1, r2⟩
theorem term_rp {t : Pr × F} {a x y : Addr} (t1 : Tp K H a [.ref x, .ref y]) (r1 : Rp K H (pk t.1) (.ref x)) (r2 : Rp K H (nk t.2) (.ref y)) : Rp K H (tk t) (.ref a) :=
  rp_tup_iff.mpr ⟨a, _, rfl, t1, rpl_cons r1 (rpl_cons r2 rpl_nil)⟩
/-- a list of terms -/
def TmList (K : PySem.W.Frag) (H : Hp) (la : Addr) (ts : List (Pr × F)) : Prop := ∃ xs, H la = some (.lst xs) ∧ RpL K H (ts.map tk) xs
theorem TmList.grw {T : List (Addr × Str)} {la : Addr} {ts : List (Pr × F)} (h : TmList K H la ts) (s : Grw T H H') : TmList K H' la ts := by
  obtain ⟨xs, h1, h2⟩ := h
  exact ⟨xs, s.ext _ _ h1 (fun _ z => by cases z), RpL.keep s.keep _ h2⟩
theorem TmList.same {la : Addr} {ts : List (Pr × F)} (h : TmList K H la ts) (s : Same H H') : TmList K H' la ts := h.grw (.of (T := []) s)
/-- what terms come to -/
def gsum (ts : List (Pr × F)) : Row F := fun k => sumL ts fun t => if t.1 = k then t.2 else 0
theorem gsum_snoc {ts : List (Pr × F)} {i : Nat} {t : Pr × F} (h : ts[i]? = some t) (k : Pr) : gsum (ts.take (i + 1)) k = gsum (ts.take i) k + if t.1 = k then t.2 else 0 := by
  unfold gsum
  rw [List.take_add_one, h, sumL_append]
  rw [show (some t).toList = [t] from rfl, sumL_cons, sumL_nil]
  grind
theorem gsum_out {ts : List (Pr × F)} {k : Pr} (h : k ∉ ts.map (·.1)) : gsum ts k = 0 := sumL_zero fun t ht => if_neg fun e => h (by rw [← e]; exact List.mem_map_of_mem ht)
/-- what is told of them after some -/
def gathAt (ts : List (Pr × F)) : Pr → Option F := fun k => if k ∈ ts.map (·.1) then some (gsum ts k) else none
end
section
variable {P : Program} {w : World} {K : PySem.W.Frag} {mg : Str → Option Value} {base : Heap} {A : Ad} {F : Type} [Num F]
theorem sc_look_at_terms : FnScope ["field", "terms", "number", "term"] ["field", "terms"] (defScope (topS 31)) := ⟨rfl, rfl, rfl, by decide +kernel, rfl, by decide +kernel, by decide +kernel⟩
def spLook (K : PySem.W.Frag) (A : Ad) (F : Type) [Num F] : Sp := fun vs H Q _ => ∃ (fa la : Addr) (ts : List (Pr × F)), vs = [.ref fa, .ref la] ∧ Fld A H fa (Num.p F) ∧ TmList K H la ts ∧ (∀ t ∈ ts, NSz t.2) ∧ ∀ H', Same H H' → Q .non H'
theorem c_look_at_terms (T : Txt K mg A) : Cal P w K mg base CX0 4 "look_at_terms" ["field", "terms"] [] (spLook K A F) := by
  refine cal_mk T.g_look_at_terms (fun _ _ _ _ _ _ us hl => match us, hl with | [_, _], _ => rfl) sc_look_at_terms (fun vs H Q E h => ?_) (fun f cdv Ar outer s H vs Q E hr h => ?_)
  · obtain ⟨fa, la, ts, rfl, _⟩ := h
    rfl
  · obtain ⟨fa, la, ts, rfl, hF, ⟨xs, h1, h2⟩, sz, q⟩ := h
    refine ⟨_, (pss_cons (ps_if (pt_not (pt_val (pe_callB call_isi (by rfl) T.isinstance (by decide +kernel) (pa_cons (pv 1) (pa_cons (pe_bltn (v := .ty "list") (by rfl) T.list (by decide +kernel) rfl) pa_nil))))) (pss_one ps_never)
      pss_nil)
      (pss_one (ps_for PassesOwn.never rfl (pi_enum rfl T.enumerate (pa_cons (pv 1) pa_nil)) ((pg_tup rfl (pgs_cons (pg_name (i := 2) sc_look_at_terms.nd rfl (by first | exact Or.inl rfl | exact Or.inr rfl)) (pgs_cons (pg_name (i := 3) sc_look_at_terms.nd rfl (by first | exact Or.inl rfl | exact Or.inr rfl)) pgs_nil))))
      (pss_cons (ps_if (PW.pt (pw_or (pt_not (pt_val (pe_callB call_isi (by rfl) T.isinstance (by decide +kernel) (pa_cons (pv 3) (pa_cons (pe_bltn (v := .ty "tuple") (by rfl) T.tuple (by decide +kernel) rfl) pa_nil))))) (pw_or1 (pt_cmpR op_ne (pe_callB call_len_seq (by rfl) T.len (by decide +kernel) (pa_cons (pv 3) pa_nil)) pe_int (nomark _))))) (pss_one ps_never)
      pss_nil)
      (pss_one (ps_if (PW.pt (pw_or (pt_not (pt_val (pc (c_is_product T) (hr.mono (by decide)) (pa_cons (pe_ix ix_tup (pv 3) pe_int (fun _ _ => rfl)) pa_nil)))) (pw_or1 (pt_not (pt_val (pcm (c_Field_is_number (F := F) T) T.clF (hr.mono (by decide)) (pv 0) (pa_cons (pe_ix ix_tup (pv 3) pe_int (fun _ _ => rfl)) pa_nil))))))) (pss_one ps_never)
      pss_nil)))))), ?_⟩
    refine ⟨_, rfl, _, _, .type "list", _, _, rfl, .ty _, .base (.lst h1), kit_ty (by decide +kernel), true, rfl, iteF ?_⟩
    refine ⟨_, rfl, la, xs, rfl, SqL.of h1, for_it walk_enum (fun i σ H1 => ∃ (s2 s3 : Option V), σ = [some (.ref fa), some (.ref la), s2, s3] ∧ Same H H1) ⟨none, none, rfl, Same.refl _⟩ (fun i σ H1 _ ⟨_, _, _, sm⟩ => SqL.of (sm _ _ h1)) ?_ ?_⟩
    · rintro i x σ H1 H2 hi ⟨s2, s3, rfl, sm⟩ ⟨T0, x0, y0, rfl, hT, rfl, hx, hy⟩
      obtain ⟨t, ht, rt⟩ := RpL.at_ h2 hy
      have sT := same_upd (o := .tup [x0, y0]) hT
      have s2 := sm.trans sT
      obtain ⟨a, u, v, rfl, t1, r1, r2⟩ := rp_term ((Keep.of s2).rp rt)
      refine ⟨T0, _, rfl, SqT.of upd_same, rfl, _, _, rfl, _, _, rfl, rfl, ?_⟩
      refine ⟨_, rfl, _, _, .type "tuple", _, _, rfl, .ty _, tp_ty t1, kit_ty (by decide +kernel), true, rfl, iteF ?_⟩
      refine ⟨_, rfl, _, _, rfl, .inr t1.sq, rfl, _, rfl, itNF rfl ?_⟩
      refine ⟨_, rfl, _, _, _, .ref u, rfl, rfl, t1.sq, at_of (j := 0) rfl rfl, t.1, _, rfl, r1, _, rfl, iteF ?_⟩
      refine ⟨_, rfl, fa, _, _, rfl, s2 _ _ hF.2.choose_spec, rfl, _, rfl, _, _, _, .ref v, rfl, rfl, t1.sq, at_of (j := 1) rfl rfl, fa, t.2, _, rfl, hF.same s2, r2, sz t (List.mem_of_getElem? ht), fun H3 sm3 => ⟨_, rfl, iteF ?_⟩⟩
      exact ⟨_, _, rfl, s2.trans sm3⟩
    · rintro σ H1 ⟨s2, s3, rfl, sm⟩
      exact q H1 sm
end
end FsR
end
section
/-! Sums: gathered. -/
set_option Elab.async false
set_option linter.all false
set_option maxRecDepth 100000
namespace FsR
open PySem PySem.Spec PyProof.Rows L2 LamX Fs
/-! ### the rows sorted -/
abbrev CRow := Addr × Pr
def toS (c : CRow) : SRow := (c.1, (plc c.2).map NestedKey.num)
def kq (q : Pr) : PyData := .tuple [.int ((plc q).map NestedKey.num).length, (NestedKey.tup ((plc q).map NestedKey.num)).data]
theorem keyOf_toS (c : CRow) : keyOf (toS c) = kq c.2 := rfl
theorem kq_cmp : ∀ p q : Pr, ((!PySem.W.dataLt (kq q) (kq p)) = decide (rank p ≤ rank q)) ∧ PySem.W.alike (kq p) (kq q) = true := by decide +kernel
theorem le_toS (c d : CRow) : PySem.W.dataLe false keyOf (toS c) (toS d) = decide (rank c.2 ≤ rank d.2) := by
  rw [PySem.W.dataLe_eq]
  show (!PySem.W.dataLt (keyOf (toS d)) (keyOf (toS c))) = _
  rw [keyOf_toS, keyOf_toS]
  exact (kq_cmp c.2 d.2).1
theorem alike_toS (cs : List CRow) : PySem.W.AllAlike ((cs.map toS).map keyOf) := by
  intro d hd e he
  rw [List.map_map] at hd he
  obtain ⟨c, _, rfl⟩ := List.mem_map.mp hd
  obtain ⟨c2, _, rfl⟩ := List.mem_map.mp he
  exact (kq_cmp c.2 c2.2).2
theorem sort_toS (cs : List CRow) (nd : (cs.map (·.2)).Nodup) : ∃ ds : List CRow, (cs.map toS).mergeSort (PySem.W.dataLe false keyOf) = ds.map toS ∧ ds.Perm cs ∧ (ds.map (·.2)).Pairwise (fun a c => rank a < rank c) := by
  refine ⟨cs.mergeSort fun c d => decide (rank c.2 ≤ rank d.2), ?_, List.mergeSort_perm _ _, ?_⟩
  · exact (List.map_mergeSort fun c _ d _ => (le_toS c d).symm).symm
  · have h1 := List.pairwise_mergeSort (le := fun c d : CRow => decide (rank c.2 ≤ rank d.2)) (fun a b c => by simp only [decide_eq_true_eq]; omega) (fun a b => by simp only [Bool.or_eq_true, decide_eq_true_eq]; omega) cs
    have nd2 : ((cs.mergeSort fun c d => decide (rank c.2 ≤ rank d.2)).map (·.2)).Nodup := ((List.mergeSort_perm cs _).map _).nodup_iff.mpr nd
    generalize (cs.mergeSort fun c d => decide (rank c.2 ≤ rank d.2)) = ds at h1 nd2
    rw [List.pairwise_map]
    have nd3 : ds.Pairwise fun a b => a.2 ≠ b.2 := List.pairwise_map.mp nd2
    refine (h1.and nd3).imp fun {a b} ⟨x, y⟩ => ?_
    have x := of_decide_eq_true x
    rcases Nat.lt_or_ge (rank a.2) (rank b.2) with z | z
    · exact z
    · exact absurd (rank_inj _ _ (by omega)) y
theorem sorted_canon {F : Type} [Num F] (f : Row F) {l : List Pr} (h : l.Pairwise fun a c => rank a < rank c) (hm : ∀ k, k ∈ l ↔ f k ≠ 0) : l = prods.filter fun q => decide (f q ≠ 0) := by
  refine lt_ext (fun a c => rank a < rank c) (fun a => Nat.lt_irrefl _) (fun a b => by omega) h (prods_sorted.filter _) fun k => ?_
  rw [hm k, List.mem_filter, decide_eq_true_eq]
  exact ⟨fun z => ⟨prods_all k, z⟩, fun z => z.2⟩
section
variable {P : Program} {w : World} {K : PySem.W.Frag} {mg : Str → Option Value} {base : Heap} {A : Ad} {F : Type} [Num F]
/-- a row made: its tuple, its product, its number -/
def MadeRow (K : PySem.W.Frag) (H : Hp) (f : Row F) (c : CRow) : Prop := Rp K H (tk (c.2, f c.2)) (.ref c.1)
theorem made_srow {H : Hp} {f : Row F} {c : CRow} (h : MadeRow K H f c) : SRowOk K H (toS c) := by
  obtain ⟨a, x, y, e, t, r1, r2⟩ := rp_term h
  cases e
  obtain ⟨p, e, t1⟩ := rp_plc r1
  cases e
  refine ⟨x, .ref y, _, t, t1, rpl_nums _, ?_⟩
  have := (fine_pk c.2).2.2
  rw [pk_plc] at this
  exact this
theorem gathAt_snoc {ts : List (Pr × F)} {i : Nat} {t : Pr × F} (ht : ts[i]? = some t) (k : Pr) : gathAt (ts.take (i + 1)) k = if k = t.1 then some (gsum (ts.take i) t.1 + t.2) else gathAt (ts.take i) k := by
  have gs := gsum_snoc ht k
  have em : (ts.take (i + 1)).map (·.1) = (ts.take i).map (·.1) ++ [t.1] := by
    rw [List.take_add_one, ht]
    simp
  unfold gathAt
  rw [em, gs]
  by_cases e : k = t.1
  · rw [if_pos e, if_pos (List.mem_append_right _ (by rw [e]; exact List.mem_singleton.mpr rfl)), if_pos e.symm, e]
  · rw [if_neg e, if_neg (fun z : t.1 = k => e z.symm)]
    by_cases z : k ∈ (ts.take i).map (·.1)
    · rw [if_pos z, if_pos (List.mem_append_left _ z)]
      congr 1
      grind
    · rw [if_neg z, if_neg fun y => (List.mem_append.mp y).elim z fun y => e (by simpa using y)]
theorem rpl_rows {H : Hp} {f : Row F} : ∀ (ds : List CRow), (∀ c ∈ ds, MadeRow K H f c) → RpL K H ((ds.map fun c => (c.2, f c.2)).map tk) (ds.map fun c => V.ref c.1)
  | [], _ => rpl_nil
  | c :: ds, h => rpl_cons (h c List.mem_cons_self) (rpl_rows ds fun d hd => h d (List.mem_cons_of_mem _ hd))
theorem sc_gathered : FnScope ["field", "terms", "found", "product", "number", "rows"] ["field", "terms"] (defScope (topS 32)) := ⟨rfl, rfl, rfl, by decide +kernel, rfl, by decide +kernel, by decide +kernel⟩
def spGath (K : PySem.W.Frag) (A : Ad) (F : Type) [Num F] : Sp := fun vs H Q _ => ∃ (fa la : Addr) (ts : List (Pr × F)), vs = [.ref fa, .ref la] ∧ Tabs A.tabs H ∧ Fld A H fa (Num.p F) ∧ TmList K H la ts ∧ (∀ t ∈ ts, NSz t.2) ∧ (∀ i k, NSz (gsum (ts.take i) k)) ∧
  ∀ H' l, Grw A.tabs H H' → (∀ xs, H l ≠ some (.lst xs)) → TmList K H' l (canon (gsum ts)) → Q (.ref l) H'
theorem c_gathered (T : Txt K mg A) (X0 : TX base mg A) : Cal P w K mg base CX0 4 "gathered" ["field", "terms"] [] (spGath K A F) := by
  refine cal_mkC T.g_gathered (fun _ _ _ _ _ _ us hl => match us, hl with | [_, _], _ => rfl) sc_gathered (fun vs H Q E h => ?_) (fun f Ar outer s H vs Q E hr h => ?_)
  · obtain ⟨fa, la, ts, rfl, _⟩ := h
    rfl
  · obtain ⟨fa, la, ts, rfl, hT, hF, ⟨xs, h1, h2⟩, sz, szs, q⟩ := h
    have hq : ("gathered" ++ ".<locals>." ++ "<lambda>" : Str) = "gathered.<locals>.<lambda>" := by decide +kernel
    have hm1 : (A.gP, ("gathered.<locals>.<lambda>" : Str)) ∈ A.tabs := by simp [Ad.tabs]
    have hu1 : ∀ p ∈ A.tabs, p.1 = A.gP → p.2 = ("gathered.<locals>.<lambda>" : Str) := fun p hp e => by
      simp only [Ad.tabs, List.mem_cons, List.not_mem_nil, or_false] at hp
      rcases hp with rfl | rfl
      · rfl
      · exact absurd e.symm X0.ne
    refine ⟨_, (pss_cons (ps_set (i := 2) sc_gathered.nd rfl (by first | exact Or.inl rfl | exact Or.inr rfl) pe_dic0)
      (pss_cons (ps_for PassesOwn.never rfl (pi_list (pv 1)) ((pg_tup rfl (pgs_cons (pg_name (i := 3) sc_gathered.nd rfl (by first | exact Or.inl rfl | exact Or.inr rfl)) (pgs_cons (pg_name (i := 4) sc_gathered.nd rfl (by first | exact Or.inl rfl | exact Or.inr rfl)) pgs_nil))))
      (pss_one (ps_asg (pcm (c_Field_plus (F := F) T) T.clF (hr.mono (by decide)) (pv 0) (pa_cons (pe_dm PySem.F.slot_dict_setdefault PySem.F.type_dict_setdefault (mt_setdP hr.units) (pv 2) (pa_cons (pv 3) (pa_cons (pe_glob (v := .ref A.Z) rfl T.ZERO rfl) pa_nil))) (pa_cons (pv 4) pa_nil))) (pg_sub (pv 2) (pv 3) (pset_dicP hr.units)))))
      (pss_cons (ps_setLc (i := 5) (y := "rows") (own := [("product", 3), ("number", 4)]) rfl sc_gathered.nd rfl rfl (sw_true rfl rfl rfl (by decide +kernel)) (pi_itD (pv 2)) (blkOk_by (N := ["field", "terms", "found", "product", "number", "rows"]) (sc := defScope (topS 32)) (by decide +kernel)) (fun _ _ _ _ _ => (pg_tupB (n := 2) K (by rfl) rfl (pgs_cons (pg_name (i := 3) sc_gathered.nd rfl (by first | exact Or.inl rfl | exact Or.inr rfl)) (pgs_cons (pg_name (i := 4) sc_gathered.nd rfl (by first | exact Or.inl rfl | exact Or.inr rfl)) pgs_nil)))) (fun _ _ _ _ _ => pts_one (pt_cmpR (op_neRB K (by rfl) hr.units) (pv 4) (pe_glob (v := .ref A.Z) rfl T.ZERO rfl) (nomark _))) (fun _ _ _ _ _ => (pe_tup (pa_cons (pv 3) (pa_cons (pv 4) pa_nil)))))
      (pss_one (ps_ret (pe_sortedLam (T := A.tabs) X0.gath rfl hq hm1 hu1 rfl ⟨rfl, rfl, rfl, rfl, rfl, by decide +kernel⟩ (by decide +kernel) rfl (hr.mono (by decide)) (fun _ _ _ _ => rfl) rfl T.sorted T.len (by decide +kernel) (pv 5))))))), ?_⟩
    refine (fun d hd => ?_)
    have hlen : ts.length = xs.length := by
      have := h2.length
      rw [List.length_map] at this
      exact this
    refine ⟨_, rfl, la, rfl, ⟨_, SqL.of ((same_upd hd) _ _ h1)⟩, for_list (K := K) (a := la) (xs := xs) (fun i σ H1 => ∃ (s3 s4 : Option V) (fs : List Ent) (ep : Nat), σ = [some (.ref fa), some (.ref la), some (.ref d), s3, s4, none] ∧ Same H H1 ∧ H1 d = some (dO w d fs ep) ∧ EG K H1 pk (nv K H1) (gathAt (ts.take i)) fs)
      ⟨none, none, [], 0, rfl, same_upd hd, upd_same, EG.nil.congr fun k => by rw [List.take_zero]; rfl⟩ (fun i σ H1 _ ⟨_, _, _, _, _, sm, _⟩ => SqL.of (sm _ _ h1)) ?_ ?_⟩
    · rintro i x σ H1 hi ⟨s3, s4, fs, ep, rfl, sm, hd1, hd2⟩
      obtain ⟨t, ht, rt⟩ := RpL.at_ h2 hi
      obtain ⟨a, u, v, rfl, t1, r1, r2⟩ := rp_term ((Keep.of sm).rp rt)
      have zr := rp_zero (F := F) T.zero H1
      refine ⟨a, _, rfl, t1.sq, rfl, _, _, rfl, _, _, rfl, rfl, ?_⟩
      have hg : (gathAt (ts.take i) t.1).getD 0 = gsum (ts.take i) t.1 := by
        unfold gathAt
        by_cases z : t.1 ∈ (ts.take i).map (·.1)
        · rw [if_pos z]; rfl
        · rw [if_neg z, gsum_out z]; rfl
      refine ⟨_, rfl, fa, _, _, rfl, sm _ _ hF.2.choose_spec, rfl, _, rfl, ⟨d, fs, ep, rfl, hd1⟩, _, rfl, setd_of emb_pk hd1 hd2 r1 zr fun u3 H3 fs3 ep3 sb h3 ru eg3 => ?_⟩
      rw [hg] at ru eg3
      have sm3 : Same H H3 := SB.same sm sb hd
      have kb := sb.keep hd1
      refine ⟨_, rfl, fa, gsum (ts.take i) t.1, t.2, _, _, rfl, hF.same sm3, ru, kb.rp r2, szs i t.1, sz t (List.mem_of_getElem? ht), True.intro, fun H4 v4 sm4 r4 => ?_⟩
      obtain ⟨c4, rfl⟩ := rp_ref r4
      refine ⟨_, rfl, _, rfl, putd_of emb_pk (sm4 _ _ h3) (eg3.keep (Keep.of sm4) (nv.keep (Keep.of sm4))) ((Keep.of sm4).rp (kb.rp r1)) r4 fun H5 fs5 ep5 sb5 h5 eg5 => ?_⟩
      refine ⟨_, _, fs5, ep5, rfl, SB.same (sm3.trans sm4) sb5 hd, h5, eg5.congr fun k => ?_⟩
      rw [gathAt_snoc ht k]
      by_cases e : k = t.1
      · rw [if_pos e, if_pos e]
      · rw [if_neg e, if_neg e, if_neg e]
    · rintro σ H1 ⟨s3, s4, fs, ep, rfl, sm, hd1, hd2⟩
      rw [← hlen, List.take_length] at hd2
      refine ⟨_, rfl, d, fs, ep, rfl, hd1, fun D hD => ?_⟩
      have zr := rp_zero (F := F) T.zero H1
      refine lc_it walk_itD (fun i H2 => ∃ cs : List CRow, Same H1 H2 ∧ H2 D = some (.lst (cs.map fun c => V.ref c.1)) ∧ (∀ c ∈ cs, MadeRow K H2 (gsum ts) c) ∧ cs.length ≤ i ∧ (cs.map (·.2)).Nodup ∧ ∀ k, k ∈ cs.map (·.2) ↔ (pk k ∈ (fs.take i).map (·.1) ∧ gsum ts k ≠ 0))
        ⟨[], same_upd hD, upd_same, fun c hc => absurd hc (by simp), Nat.le_refl _, List.nodup_nil, fun k => by simp⟩ (fun i H2 _ ⟨_, sm2, _⟩ => sm2 _ _ hd1) ?_ ?_
      · rintro i x H2 H3 hi ⟨cs, sm2, hL, hM, hcl, hN, hS⟩ ⟨T0, y, hy, rfl, hT, rfl⟩
        obtain ⟨k, z, ek, gk, vk⟩ := hd2.of y (List.mem_of_getElem? hy)
        have sT := same_upd (o := .tup [.ref y.2.1, .ref y.2.2]) hT
        have s3 := sm2.trans sT
        have hz : z = gsum ts k := by
          unfold gathAt at gk
          by_cases m : k ∈ ts.map (·.1)
          · rw [if_pos m] at gk
            exact (Option.some.inj gk).symm
          · rw [if_neg m] at gk
            cases gk
        subst hz
        have hkey := (hd2.es.keys y (List.mem_of_getElem? hy)).1
        rw [ek] at hkey
        have hfr := take_fresh hd2.es.nd hy
        have hTN : H1 T0 = none := sm2.free hT
        have nDT : D ≠ T0 := ne_of_none hL hT
        refine ⟨T0, _, rfl, SqT.of upd_same, rfl, _, _, rfl, _, _, rfl, rfl, rfl, ?_⟩
        refine ⟨_, rfl, nk (gsum ts k), nk 0, (Keep.of s3).rp vk, (Keep.of s3).rp zr, fine_nk _, fine_nk _, _, rfl, itN2 (fun hne => ?_) (fun heq => ?_)⟩
        · have h0 : gsum ts k ≠ 0 := fun e => hne (by rw [e])
          refine ⟨_, rfl, _, rfl, (by decide : 2 ≤ sizeLine), fun t2 ht2 => ⟨_, (same_upd ht2) _ _ (sT _ _ hL), ?_, cs ++ [(t2, k)], ?_, ?_, fun c hc => ?_, ?_, ?_, fun j => ?_⟩⟩
          · rw [List.length_map]
            exact Nat.lt_of_le_of_lt (Nat.le_trans hcl (Nat.le_trans (Nat.le_of_lt hi) (hd2.len emb_pk))) (by decide)
          · exact SB.same (s3.trans (same_upd ht2)) SB.upd hD
          · rw [upd_same, List.map_append]
            rfl
          · have kk : Keep (upd H2 T0 (.tup [.ref y.2.1, .ref y.2.2])) (upd (upd (upd H2 T0 (.tup [.ref y.2.1, .ref y.2.2])) t2 (.tup [.ref y.2.1, .ref y.2.2])) D (.lst (cs.map (fun c => V.ref c.1) ++ [V.ref t2]))) :=
              (Keep.of (same_upd ht2)).trans (Keep.wr ((same_upd ht2) _ _ (sT _ _ hL)) fun _ z => by cases z)
            rcases List.mem_append.mp hc with hc | hc
            · exact ((Keep.of sT).trans kk).rp (hM c hc)
            · obtain rfl := List.mem_singleton.mp hc
              refine term_rp (t := (k, gsum ts k)) (x := y.2.1) (y := y.2.2) (.inl ?_) (kk.rp ((Keep.of s3).rp hkey)) (kk.rp ((Keep.of s3).rp vk))
              rw [upd_ne (ne_of_none ((same_upd (o := .tup [.ref y.2.1, .ref y.2.2]) ht2) _ _ (sT _ _ hL) |> fun e => (sT _ _ hL)) ht2).symm, upd_same]
          · rw [List.length_append, List.length_singleton]
            omega
          · rw [List.map_append, List.nodup_append]
            refine ⟨hN, by simp, fun a ha b hb e => ?_⟩
            have hb : b = k := by simpa using hb
            rw [e, hb] at ha
            exact hfr (by rw [ek]; exact ((hS k).mp ha).1)
          · rw [List.map_append, List.mem_append, hS j, take_snoc hy, List.mem_append, ek]
            constructor
            · rintro (⟨a1, a2⟩ | a1)
              · exact ⟨.inl a1, a2⟩
              · have : j = k := by simpa using a1
                rw [this]
                exact ⟨.inr (List.mem_singleton.mpr rfl), h0⟩
            · rintro ⟨a1 | a1, a2⟩
              · exact .inl ⟨a1, a2⟩
              · refine .inr ?_
                rw [pk_inj (List.mem_singleton.mp a1)]
                simp
        · have h0 : gsum ts k = 0 := nk_inj heq
          refine ⟨cs, s3, sT _ _ hL, fun c hc => (Keep.of sT).rp (hM c hc), Nat.le_succ_of_le hcl, hN, fun j => ?_⟩
          rw [hS j, take_snoc hy, List.mem_append, ek]
          constructor
          · rintro ⟨a1, a2⟩
            exact ⟨.inl a1, a2⟩
          · rintro ⟨a1 | a1, a2⟩
            · exact ⟨a1, a2⟩
            · exact absurd (by rw [pk_inj (List.mem_singleton.mp a1)]; exact h0) a2
      · rintro H2 ⟨cs, sm2, hL, hM, hcl, hN, hS⟩
        obtain ⟨ds, e1, e2, e3⟩ := sort_toS cs hN
        have sT := sm.trans sm2
        refine ⟨_, rfl, D, cs.map toS, rfl, SqL.of (by rw [List.map_map]; exact hL), fun y hy => ?_, hT.ext sT, alike_toS cs, fun p H3 g3 hp => ?_⟩
        · obtain ⟨c, hc, rfl⟩ := List.mem_map.mp hy
          exact made_srow (hM c hc)
        · have gall : Grw A.tabs H (upd H3 p (.lst (((cs.map toS).mergeSort (PySem.W.dataLe false keyOf)).map fun y => V.ref y.1))) := (Grw.of sT).trans (g3.trans (.of (same_upd hp)))
          refine q _ p gall (fun xs z => ?_) ⟨_, upd_same, ?_⟩
          · have := g3.ext _ _ (sT _ _ z) (fun _ y => by cases y)
            rw [hp] at this
            cases this
          rw [e1, List.map_map]
          have ec : canon (gsum ts) = ds.map fun c => (c.2, gsum ts c.2) := by
            unfold canon
            rw [← sorted_canon (gsum ts) e3 fun k => ?_, List.map_map]
            · rfl
            · rw [(e2.map (·.2)).mem_iff, hS k, List.take_length]
              constructor
              · exact fun z => z.2
              · intro z
                refine ⟨hd2.to k (gsum ts k) ?_, z⟩
                unfold gathAt
                by_cases m : k ∈ ts.map (·.1)
                · rw [if_pos m]
                · exact absurd (gsum_out m) z
          rw [ec]
          exact rpl_rows ds fun c hc => (g3.keep.trans (Keep.of (same_upd hp))).rp (hM c (e2.mem_iff.mp hc))
end
end FsR
end
section
/-! Sums: the object. -/
set_option Elab.async false
set_option linter.all false
set_option maxRecDepth 100000
namespace FsR
open PySem PySem.Spec PyProof.Rows L2 LamX Fs
theorem codeO_ext (c : Addr) (q : Str) : ∃ φ, CodeO c q = .ext φ := ⟨_, rfl⟩
theorem Tabs.wr {T : List (Addr × Str)} {H : Hp} {x : Addr} {o u : HO} (t : Tabs T H) (hx : H x = some o) (n1 : ∀ ps, o ≠ .tbl ps) (n2 : ∀ φ, o ≠ .ext φ) : Tabs T (upd H x u) := fun p hp => by
  obtain ⟨ps, h1, h2, h3⟩ := t p hp
  have np : p.1 ≠ x := fun z => by
    rw [z, hx] at h1
    exact n1 ps (Option.some.inj h1)
  refine ⟨ps, by rw [upd_ne np]; exact h1, h2, fun pos cv hc => ?_⟩
  obtain ⟨c, e1, e2⟩ := h3 pos cv hc
  have nc : c ≠ x := fun z => by
    rw [z, hx] at e2
    exact n2 _ (Option.some.inj e2)
  exact ⟨c, e1, by rw [upd_ne nc]; exact e2⟩
/-- what is new is written -/
theorem Grw.wr {T : List (Addr × Str)} {H0 H : Hp} {x : Addr} {o u : HO} (g : Grw T H0 H) (h0 : H0 x = none) (hx : H x = some o) (n1 : ∀ ps, o ≠ .tbl ps) (n2 : ∀ φ, o ≠ .ext φ) : Grw T H0 (upd H x u) :=
  ⟨fun b v e n => by rw [upd_ne (ne_of_none e h0)]; exact g.ext b v e n, fun t => Tabs.wr (g.tabs t) hx n1 n2⟩
theorem rcM {X : Cx} {C : Addr} {n : Nat} {ps : List Str} {R : Addr → Addr → Hp → Prop} (c : MCal X.prog X.w X.K X.mg X.base CX0 C n "__eq__" ps [] (spEq R)) : RcG X n (DIns C R) := by
  obtain ⟨f, fd, us, F, hm, hb, hd⟩ := c.ex
  cases hd
  exact rcG_ins F hm.at_ hm.fn hb pass0
theorem eqM {X : Cx} {C : Addr} {n : Nat} {ps : List Str} {R : Addr → Addr → Hp → Prop} (c : MCal X.prog X.w X.K X.mg X.base CX0 C n "__eq__" ps [] (spEq R)) : EqG X n (DIns C R) :=
  (rcM c).eqG fun _ _ _ d => let ⟨a, b, _, _, _, _, hx, hy, _⟩ := d; ⟨a, b, hx, hy⟩
theorem neM {X : Cx} {C : Addr} {n : Nat} {ps : List Str} {R : Addr → Addr → Hp → Prop} (c : MCal X.prog X.w X.K X.mg X.base CX0 C n "__eq__" ps [] (spEq R)) (nn : NoNe X.K C) : NeG X (n + 1) (DIns C R) := by
  obtain ⟨f, fd, us, F, hm, hb, hd⟩ := c.ex
  cases hd
  exact neG_ins F nn hm.at_ hm.fn hb pass0
theorem fs_of (fa la : Addr) : ([(("own_field" : Str), V.ref fa), (("row" : Str), V.ref la)] : List (Str × V)).lookup ("own_field" : Str) = some (.ref fa) := rfl
theorem fs_row (fa la : Addr) : ([(("own_field" : Str), V.ref fa), (("row" : Str), V.ref la)] : List (Str × V)).lookup ("row" : Str) = some (.ref la) := rfl
section
variable {F : Type} [Num F]
/-- the sum of the function f stands at a -/
def SumAt (K : PySem.W.Frag) (A : Ad) (H : Hp) (a : Addr) (f : Row F) : Prop := ∃ dx fa la, H a = some (.ins A.S dx [("own_field", .ref fa), ("row", .ref la)]) ∧ Fld A H fa (Num.p F) ∧ TmList K H la (canon f)
theorem SumAt.grw {K : PySem.W.Frag} {A : Ad} {T : List (Addr × Str)} {H H' : Hp} {a : Addr} {f : Row F} (h : SumAt K A H a f) (g : Grw T H H') : SumAt K A H' a f := by
  obtain ⟨dx, fa, la, h1, h2, h3⟩ := h
  exact ⟨dx, fa, la, g.ext _ _ h1 (fun _ z => by cases z), h2.grw g, h3.grw g⟩
theorem SumAt.same {K : PySem.W.Frag} {A : Ad} {H H' : Hp} {a : Addr} {f : Row F} (h : SumAt K A H a f) (s : Same H H') : SumAt K A H' a f := h.grw (.of (T := []) s)
/-- the degree -/
def degR (f : Row F) : Nat := ((prods.filter fun q => decide (f q ≠ 0)).map size).foldr max 0
theorem degR_le {f : Row F} {q : Pr} (h : f q ≠ 0) : size q ≤ degR f := le_foldr_max (List.mem_map_of_mem (List.mem_filter.mpr ⟨prods_all q, decide_eq_true h⟩))
theorem degR_ge {f : Row F} {n : Nat} (h : ∀ q, f q ≠ 0 → size q ≤ n) : degR f ≤ n := foldr_max_le fun x hx => by
  obtain ⟨q, hq, rfl⟩ := List.mem_map.mp hx
  exact h q (of_decide_eq_true (List.mem_filter.mp hq).2)
theorem max_foldr {l : List Nat} {m : Int} (h1 : m ∈ l.map (fun (i : Nat) => (i : Int))) (h2 : ∀ y ∈ l.map (fun (i : Nat) => (i : Int)), y ≤ m) : m = ((l.foldr max 0 : Nat) : Int) := by
  obtain ⟨i, hi, rfl⟩ := List.mem_map.mp h1
  have a := le_foldr_max hi
  have b : l.foldr max 0 ≤ i := foldr_max_le fun x hx => by
    have := h2 x (List.mem_map_of_mem hx)
    omega
  omega
theorem canon_map (f : Row F) : (canon f).map (·.1) = prods.filter fun q => decide (f q ≠ 0) := by
  unfold canon
  rw [List.map_map]
  exact List.map_id _
theorem canon_mem {f : Row F} {t : Pr × F} (h : t ∈ canon f) : f t.1 ≠ 0 ∧ t.2 = f t.1 := by
  unfold canon at h
  obtain ⟨q, hq, rfl⟩ := List.mem_map.mp h
  exact ⟨of_decide_eq_true (List.mem_filter.mp hq).2, rfl⟩
theorem gsum_canon (f : Row F) (k : Pr) : gsum (canon f) k = f k := by
  unfold gsum canon
  rw [sumL_map]
  by_cases h : f k = 0
  · rw [h]
    refine sumL_zero fun q hq => ?_
    by_cases e : q = k
    · exact absurd (by rw [e]; exact h) (of_decide_eq_true (List.mem_filter.mp hq).2)
    · exact if_neg e
  · rw [sumL_one (prods_nodup.filter _) (a := k) (List.mem_filter.mpr ⟨prods_all k, decide_eq_true h⟩) fun b _ hb => if_neg hb]
    exact if_pos rfl
end
section
variable {P : Program} {w : World} {K : PySem.W.Frag} {mg : Str → Option Value} {base : Heap} {A : Ad} {F : Type} [Num F]
theorem sc_Sum_init : FnScope ["self", "field", "terms"] ["self", "field", "terms"] (defScope (inClass (topS 33) 0)) := ⟨rfl, rfl, rfl, by decide +kernel, rfl, by decide +kernel, by decide +kernel⟩
def spSInit (K : PySem.W.Frag) (A : Ad) (F : Type) [Num F] : Sp := fun vs H Q _ => ∃ (x dx : Addr) (H0 : Hp) (fa la : Addr) (ts : List (Pr × F)), vs = [.ref x, .ref fa, .ref la] ∧ Fresh A.S H0 H x dx ∧ Tabs A.tabs H0 ∧ Fld A H0 fa (Num.p F) ∧ TmList K H0 la ts ∧ (∀ t ∈ ts, NSz t.2) ∧ (∀ i k, NSz (gsum (ts.take i) k)) ∧
  ∀ H' l, Grw A.tabs H0 H' → (∀ xs, H0 l ≠ some (.lst xs)) → (∃ dx, H' x = some (.ins A.S dx [("own_field", .ref fa), ("row", .ref l)])) → TmList K H' l (canon (gsum ts)) → Q .non H'
theorem c_Sum_init (T : Txt K mg A) (X0 : TX base mg A) : MCal P w K mg base CX0 A.S 5 "__init__" ["self", "field", "terms"] [] (spSInit K A F) := by
  refine mcal_mkD (dvs := [.non]) T.m_Sum_init 3 1 (by simp) rfl (fun _ _ _ _ _ _ _ us its h1 h2 => match us, h1, its, h2 with | [_, _, _], _, [_], _ => ⟨_, rfl, rfl⟩) sc_Sum_init (fun vs H Q E h => ?_) (fun f cdv Ar outer s H vs Q E hr h => ?_)
  · obtain ⟨x, dx, H0, fa, la, ts, rfl, _⟩ := h
    rfl
  · obtain ⟨x, dx, H0, fa, la, ts, rfl, fr, hT, hF, hL, s1, s2, q⟩ := h
    refine ⟨_, (pss_cons (ps_if (pt_cmpR op_isN (pv 2) pe_non (nomark _)) (pss_one (ps_set (i := 2) sc_Sum_init.nd rfl (by first | exact Or.inl rfl | exact Or.inr rfl) (pe_lst pa_nil)))
      pss_nil)
      (pss_cons (ps_expr (pc (c_look_at_terms (F := F) T) (hr.mono (by decide)) (pa_cons (pv 1) (pa_cons (pv 2) pa_nil))))
      (pss_cons (ps_fld (pv 0) (pv 1) rfl)
      (pss_one (ps_fld (pv 0) (pc (c_gathered (F := F) T X0) (hr.mono (by decide)) (pa_cons (pv 1) (pa_cons (pv 2) pa_nil))) rfl))))), ?_⟩
    refine ⟨_, rfl, rfl, _, rfl, itF (fun z => by cases z) ?_⟩
    refine ⟨_, rfl, _, rfl, fa, la, ts, rfl, hF.same fr.old, hL.same fr.old, s1, fun H1 sm => ?_⟩
    refine ⟨_, rfl, _, rfl, x, A.S, dx, [], rfl, sm _ _ fr.at_, T.clS, T.nS_own_field, (by show 0 < 1000; decide), ?_⟩
    have g2 : Grw A.tabs H0 (upd H1 x (.ins A.S dx (putF "own_field" (.ref fa) []))) := (Grw.of (fr.old.trans sm)).wr fr.1 (sm _ _ fr.at_) (fun _ z => by cases z) fun _ z => by cases z
    refine ⟨_, rfl, _, rfl, fa, la, ts, rfl, g2.tabs hT, hF.grw g2, hL.grw g2, s1, s2, fun H3 l g3 hlf hl => ?_⟩
    have h3 : H3 x = some (.ins A.S dx [("own_field", .ref fa)]) := g3.ext _ _ upd_same fun _ z => by cases z
    refine ⟨_, rfl, x, A.S, dx, _, rfl, h3, T.clS, T.nS_row, (by show 1 < 1000; decide), ?_⟩
    refine q _ l ((g2.trans g3).wr fr.1 h3 (fun _ z => by cases z) fun _ z => by cases z) (fun xs z => hlf xs (g2.ext _ _ z fun _ y => by cases y)) ⟨dx, upd_same⟩ ?_
    obtain ⟨xs, h4, h5⟩ := hl
    have nl : l ≠ x := fun z => by
      rw [z, h3] at h4
      cases h4
    exact ⟨xs, by rw [upd_ne nl]; exact h4, RpL.keep (Keep.wr h3 fun _ z => by cases z) _ h5⟩
theorem sc_Sum_field : FnScope ["self"] ["self"] (defScope (inClass (topS 33) 5)) := ⟨rfl, rfl, rfl, by decide +kernel, rfl, by decide +kernel, by decide +kernel⟩
def spSField (K : PySem.W.Frag) (A : Ad) (F : Type) [Num F] : Sp := fun vs H Q _ => ∃ (a : Addr) (f : Row F), vs = [.ref a] ∧ SumAt K A H a f ∧ ∀ fa, Fld A H fa (Num.p F) → Q (.ref fa) H
theorem c_Sum_field (T : Txt K mg A) : MCal P w K mg base CX0 A.S 1 "field" ["self"] [] (spSField K A F) := by
  refine mcal_mk T.m_Sum_field (fun _ _ _ _ _ _ us hl => match us, hl with | [_], _ => rfl) sc_Sum_field (fun vs H Q E h => ?_) (fun f cdv Ar outer s H vs Q E hr h => ?_)
  · obtain ⟨a, f, rfl, _⟩ := h
    rfl
  · obtain ⟨a, f, rfl, ⟨dx, fa, la, h1, h2, h3⟩, q⟩ := h
    refine ⟨_, (pss_one (ps_ret (pe_fld (pv 0) (by rfl)))), ?_⟩
    exact ⟨_, rfl, a, A.S, dx, _, _, rfl, h1, T.clS, T.nS_own_field, fs_of fa la, q fa h2⟩
theorem sc_Sum_terms : FnScope ["self"] ["self"] (defScope (inClass (topS 33) 6)) := ⟨rfl, rfl, rfl, by decide +kernel, rfl, by decide +kernel, by decide +kernel⟩
def spSTerms (K : PySem.W.Frag) (A : Ad) (F : Type) [Num F] : Sp := fun vs H Q _ => ∃ (a : Addr) (f : Row F), vs = [.ref a] ∧ SumAt K A H a f ∧ ∀ H' l, Same H H' → H l = none → TmList K H' l (canon f) → Q (.ref l) H'
theorem c_Sum_terms (T : Txt K mg A) : MCal P w K mg base CX0 A.S 1 "terms" ["self"] [] (spSTerms K A F) := by
  refine mcal_mk T.m_Sum_terms (fun _ _ _ _ _ _ us hl => match us, hl with | [_], _ => rfl) sc_Sum_terms (fun vs H Q E h => ?_) (fun f cdv Ar outer s H vs Q E hr h => ?_)
  · obtain ⟨a, f, rfl, _⟩ := h
    rfl
  · obtain ⟨a, f, rfl, ⟨dx, fa, la, h1, h2, ⟨xs, h3, h4⟩⟩, q⟩ := h
    refine ⟨_, (pss_one (ps_ret (pe_callTy call_list_of (by rfl) T.list (by decide +kernel) (pa_cons (pe_fld (pv 0) (by rfl)) pa_nil)))), ?_⟩
    exact ⟨_, rfl, a, A.S, dx, _, _, rfl, h1, T.clS, T.nS_row, fs_row fa la, la, xs, rfl, .inl (SqL.of h3), fun l hl => q _ l (same_upd hl) hl ⟨xs, upd_same, RpL.keep (Keep.of (same_upd hl)) _ h4⟩⟩
theorem sc_Sum_degree : FnScope ["self", "product", "number"] ["self"] (defScope (inClass (topS 33) 7)) := ⟨rfl, rfl, rfl, by decide +kernel, rfl, by decide +kernel, by decide +kernel⟩
def spSDegree (K : PySem.W.Frag) (A : Ad) (F : Type) [Num F] : Sp := fun vs H Q _ => ∃ (a : Addr) (f : Row F), vs = [.ref a] ∧ SumAt K A H a f ∧ ∀ H', Same H H' → Q (.int (degR f : Nat)) H'
theorem c_Sum_degree (T : Txt K mg A) : MCal P w K mg base CX0 A.S 1 "degree" ["self"] [] (spSDegree K A F) := by
  refine mcal_mk T.m_Sum_degree (fun _ _ _ _ _ _ us hl => match us, hl with | [_], _ => rfl) sc_Sum_degree (fun vs H Q E h => ?_) (fun f cdv Ar outer s H vs Q E hr h => ?_)
  · obtain ⟨a, f, rfl, _⟩ := h
    rfl
  · obtain ⟨a, f, rfl, ⟨dx, fa, la, h1, h2, ⟨xs, h3, h4⟩⟩, q⟩ := h
    refine ⟨_, (pss_one (ps_ret (pe_callBK (call_maxD rfl) rfl T.max (by decide +kernel) (pa_cons (pe_lc (own := [("product", 1), ("number", 2)]) (tt := tYes) rfl sc_Sum_degree.nd (pi_list (pe_fld (pv 0) (by rfl))) (blkOk_by (N := ["self", "product", "number"]) (sc := defScope (inClass (topS 33) 7)) (by decide +kernel)) (fun _ _ _ _ _ => (pg_tupB (n := 2) K (by rfl) rfl (pgs_cons (pg_name (i := 1) sc_Sum_degree.nd rfl (by first | exact Or.inl rfl | exact Or.inr rfl)) (pgs_cons (pg_name (i := 2) sc_Sum_degree.nd rfl (by first | exact Or.inl rfl | exact Or.inr rfl)) pgs_nil)))) (fun _ _ _ _ _ => pts_nil) (fun _ _ _ _ _ => (pe_callB (call_lenB K (by rfl)) (by rfl) T.len (by decide +kernel) (pa_cons (pv 1) pa_nil)))) pa_nil) (pk_cons pe_int pk_nil)))), ?_⟩
    refine ⟨_, rfl, a, A.S, dx, _, _, rfl, h1, T.clS, T.nS_row, fs_row fa la, la, rfl, ⟨_, SqL.of h3⟩, fun D hD => ?_⟩
    have hlen : (canon f).length = xs.length := by
      have := h4.length
      rw [List.length_map] at this
      exact this
    have hc16 : (canon f).length ≤ 16 := by
      unfold canon
      rw [List.length_map]
      exact Nat.le_trans (List.length_filter_le _ _) (by decide)
    refine lc_list (K := K) (a := la) (xs := xs) (fun i H1 => Same H H1 ∧ H1 D = some (.lst ((((canon f).take i).map fun t => ((size t.1 : Nat) : Int)).map V.int))) ⟨same_upd hD, by rw [List.take_zero]; exact upd_same⟩ (fun i H1 _ ⟨sm, _⟩ => SqL.of (sm _ _ h3)) (fun i x H1 hi ⟨sm, e⟩ => ?_) (fun H1 ⟨sm, e⟩ => ?_)
    · obtain ⟨t, ht, rt⟩ := RpL.at_ h4 hi
      obtain ⟨b, u, v, rfl, t1, r1, r2⟩ := rp_term ((Keep.of sm).rp rt)
      obtain ⟨b2, e2, t2⟩ := rp_prod r1
      cases e2
      refine ⟨b, _, rfl, t1.sq, rfl, _, _, rfl, _, _, rfl, rfl, rfl, _, rfl, _, _, rfl, .inr t2.sq, _, e, ?_, SB.same sm SB.upd hD, ?_⟩
      · rw [List.length_map, List.length_map, List.length_take]
        exact Nat.lt_of_le_of_lt (Nat.le_trans (Nat.min_le_right _ _) hc16) (by decide)
      · rw [upd_same, List.take_add_one, ht, List.map_append, List.map_append]
        show some (HO.lst (_ ++ [V.int _])) = some (HO.lst (_ ++ [V.int _]))
        rw [List.length_map]
        rfl
    · rw [← hlen, List.take_length] at e
      have em : ((canon f).map fun t => ((size t.1 : Nat) : Int)) = ((prods.filter fun q => decide (f q ≠ 0)).map size).map fun (i : Nat) => (i : Int) := by
        rw [List.map_map, ← canon_map, List.map_map]
        rfl
      refine ⟨D, _, 0, rfl, rfl, SqL.of e, fun e0 => ?_, fun m m1 m2 => ?_⟩
      · have : degR f = 0 := by
          rw [em] at e0
          unfold degR
          rw [List.map_eq_nil_iff.mp e0]
          rfl
        rw [show (0 : Int) = ((degR f : Nat) : Int) by rw [this]; rfl]
        exact q H1 sm
      · rw [em] at m1 m2
        rw [max_foldr m1 m2]
        exact q H1 sm
end
end FsR
end
section
/-! Sums: reach, ==. -/
set_option Elab.async false
set_option linter.all false
set_option maxRecDepth 100000
namespace FsR
open PySem PySem.Spec PyProof.Rows L2 LamX Fs
def lastP (q : Pr) : Int := (plc q).getLastD 0
theorem plc_last : ∀ q : Pr, q ≠ 0 → plc q = (plc q).dropLast ++ [lastP q] ∧ 0 ≤ lastP q ∧ ∀ n ∈ ([0, 1, 2, 3, 4] : List Nat), q.val < 2 ^ n → lastP q < n := by decide +kernel
section
variable {P : Program} {w : World} {K : PySem.W.Frag} {mg : Str → Option Value} {base : Heap} {A : Ad} {F : Type} [Num F]
theorem sc_Sum_reach : FnScope ["self", "product", "number"] ["self"] (defScope (inClass (topS 33) 8)) := ⟨rfl, rfl, rfl, by decide +kernel, rfl, by decide +kernel, by decide +kernel⟩
def spSReach (K : PySem.W.Frag) (A : Ad) (F : Type) [Num F] : Sp := fun vs H Q _ => ∃ (a : Addr) (f : Row F) (n : Nat), vs = [.ref a] ∧ SumAt K A H a f ∧ n ≤ 4 ∧ (∀ q, f q ≠ 0 → q.val < 2 ^ n) ∧ ∀ H' (m : Int), Same H H' → m ≤ n → Q (.int m) H'
theorem c_Sum_reach (T : Txt K mg A) : MCal P w K mg base CX0 A.S 1 "reach" ["self"] [] (spSReach K A F) := by
  refine mcal_mk T.m_Sum_reach (fun _ _ _ _ _ _ us hl => match us, hl with | [_], _ => rfl) sc_Sum_reach (fun vs H Q E h => ?_) (fun f cdv Ar outer s H vs Q E hr h => ?_)
  · obtain ⟨a, f, n, rfl, _⟩ := h
    rfl
  · obtain ⟨a, f, n, rfl, ⟨dx, fa, la, h1, h2, ⟨xs, h3, h4⟩⟩, hn, hq, q⟩ := h
    refine ⟨_, (pss_one (ps_ret (pe_callBK (call_maxD rfl) rfl T.max (by decide +kernel) (pa_cons (pe_lc (own := [("product", 1), ("number", 2)]) rfl sc_Sum_reach.nd (pi_list (pe_fld (pv 0) (by rfl))) (blkOk_by (N := ["self", "product", "number"]) (sc := defScope (inClass (topS 33) 8)) (by decide +kernel)) (fun _ _ _ _ _ => (pg_tupB (n := 2) K (by rfl) rfl (pgs_cons (pg_name (i := 1) sc_Sum_reach.nd rfl (by first | exact Or.inl rfl | exact Or.inr rfl)) (pgs_cons (pg_name (i := 2) sc_Sum_reach.nd rfl (by first | exact Or.inl rfl | exact Or.inr rfl)) pgs_nil)))) (fun _ _ _ _ _ => pts_one (pt_cmpR (op_neRB K (by rfl) hr.units) (pv 1) (pe_tup pa_nil) (nomark _))) (fun _ _ _ _ _ => (pe_op op_add (pe_ix (ix_tupB K (by rfl)) (pv 1) (pe_un un_neg pe_int) (fun _ _ => rfl)) pe_int))) pa_nil) (pk_cons pe_int pk_nil)))), ?_⟩
    refine ⟨_, rfl, a, A.S, dx, _, _, rfl, h1, T.clS, T.nS_row, fs_row fa la, la, rfl, ⟨_, SqL.of h3⟩, fun D hD => ?_⟩
    have hlen : (canon f).length = xs.length := by
      have := h4.length
      rw [List.length_map] at this
      exact this
    have hc16 : (canon f).length ≤ 16 := by
      unfold canon
      rw [List.length_map]
      exact Nat.le_trans (List.length_filter_le _ _) (by decide)
    refine lc_list (K := K) (a := la) (xs := xs) (fun i H1 => ∃ ns : List Int, Same H H1 ∧ H1 D = some (.lst (ns.map V.int)) ∧ ns.length ≤ i ∧ ∀ x ∈ ns, x ≤ n) ⟨[], same_upd hD, upd_same, Nat.le_refl _, fun x hx => absurd hx (by simp)⟩ (fun i H1 _ ⟨_, sm, _⟩ => SqL.of (sm _ _ h3)) (fun i x H1 hi ⟨ns, sm, e, hl, hb⟩ => ?_) (fun H1 ⟨ns, sm, e, hl, hb⟩ => ?_)
    · obtain ⟨t, ht, rt⟩ := RpL.at_ h4 hi
      obtain ⟨b, u, v, rfl, t1, r1, r2⟩ := rp_term ((Keep.of sm).rp rt)
      obtain ⟨b2, e2, t2⟩ := rp_plc r1
      cases e2
      have ht0 := (canon_mem (List.mem_of_getElem? ht)).1
      have hi16 : i < 16 := by
        have := (List.getElem?_eq_some_iff.mp hi).1
        omega
      refine ⟨b, _, rfl, t1.sq, rfl, _, _, rfl, _, _, rfl, rfl, rfl, _, rfl, Nat.zero_le _, fun t3 ht3 => ⟨pk t.1, .tup [], (Keep.of (same_upd ht3)).rp r1, rp_tup_iff.mpr ⟨t3, [], rfl, .inl upd_same, rpl_nil⟩, (fine_pk _).1, (fine_pk 0).1, _, rfl, itN2 (fun hne => ?_) (fun heq => ?_)⟩⟩
      · have h0 : t.1 ≠ 0 := fun z => hne (by rw [z]; rfl)
        obtain ⟨p1, p2, p3⟩ := plc_last t.1 h0
        have p4 := p3 n (by simp; omega) (hq _ ht0)
        have hat : atI ((plc t.1).map V.int) (-1) = some (.int (lastP t.1)) := by
          rw [p1, List.map_append]
          exact atI_last _ _
        refine ⟨_, rfl, _, rfl, _, _, _, .int (lastP t.1), rfl, rfl, (t2.keep (Keep.of (same_upd ht3))).sq, hat, _, _, rfl, rfl, _, (same_upd ht3) _ _ e, ?_, ns ++ [lastP t.1 + 1], SB.same (sm.trans (same_upd ht3)) SB.upd hD, ?_, ?_, fun x hx => ?_⟩
        · rw [List.length_map]
          exact Nat.lt_of_le_of_lt (by omega : _ ≤ 16) (by decide)
        · rw [upd_same, List.map_append]
          rfl
        · rw [List.length_append, List.length_singleton]
          omega
        · rcases List.mem_append.mp hx with hx | hx
          · exact hb x hx
          · rw [List.mem_singleton.mp hx]
            omega
      · exact ⟨ns, sm.trans (same_upd ht3), (same_upd ht3) _ _ e, Nat.le_succ_of_le hl, hb⟩
    · exact ⟨D, ns, 0, rfl, rfl, SqL.of e, fun _ => q H1 0 sm (by omega), fun m m1 m2 => q H1 m sm (hb m m1)⟩
theorem sc_Sum_eq : FnScope ["self", "other"] ["self", "other"] (defScope (inClass (topS 33) 1)) := ⟨rfl, rfl, rfl, by decide +kernel, rfl, by decide +kernel, by decide +kernel⟩
def eqSum (K : PySem.W.Frag) (A : Ad) (F : Type) [Num F] (a b : Addr) (H : Hp) : Prop := ∃ f : Row F, SumAt K A H a f ∧ SumAt K A H b f
theorem mon_eqF {A : Ad} : Mon (DIns A.F (eqFld A)) := mon_ins fun a b H H' e ⟨p, h1, h2⟩ => ⟨p, h1.same e, h2.same e⟩
theorem d_eqF {A : Ad} {H : Hp} {a b : Addr} {p : Int} (h1 : Fld A H a p) (h2 : Fld A H b p) : DIns A.F (eqFld A) (.ref a) (.ref b) H := by
  obtain ⟨_, dx, e1⟩ := id h1
  obtain ⟨_, dy, e2⟩ := id h2
  exact ⟨a, b, dx, dy, _, _, rfl, rfl, e1, e2, p, h1, h2⟩
theorem c_Sum_eq (T : Txt K mg A) : MCal P w K mg base CX0 A.S 2 "__eq__" ["self", "other"] [] (spEq (eqSum K A F)) := by
  refine mcal_mk T.m_Sum_eq (fun _ _ _ _ _ _ us hl => match us, hl with | [_, _], _ => rfl) sc_Sum_eq (fun vs H Q E h => ?_) (fun f cdv Ar outer s H vs Q E hr h => ?_)
  · obtain ⟨a, b, rfl, _⟩ := h
    rfl
  · obtain ⟨a, b, rfl, ⟨f, ⟨dx, fa, la, h1, h2, ⟨xs, h3, h4⟩⟩, ⟨dy, fb, lb, k1, k2, ⟨ys, k3, k4⟩⟩⟩, q⟩ := h
    refine ⟨_, (pss_one (ps_ret (pe_and (pe_callB (C8.call_isC T.isS) (by rfl) T.isinstance (by decide +kernel) (pa_cons (pv 1) (pa_cons (pe_glob (v := .ref A.S) rfl T.Sum rfl) pa_nil))) (pe_and (pe_cmpR (op_eqG (rcM (c_Field_eq T)) (hr.mono (by decide))) (pe_fld (pv 0) (by rfl)) (pe_fld (pv 1) (by rfl)) (nomark _)) (pe_one (pe_cmpR (op_eqRL hr.units) (pe_fld (pv 0) (by rfl)) (pe_fld (pv 1) (by rfl)) (nomark _))))))), ?_⟩
    refine ⟨_, rfl, b, dy, _, rfl, k1, _, rfl, ?_⟩
    refine ⟨_, rfl, a, A.S, dx, _, _, rfl, h1, T.clS, T.nS_own_field, fs_of fa la, _, rfl, b, A.S, dy, _, _, rfl, k1, T.clS, T.nS_own_field, fs_of fb lb, d_eqF h2 k2, fun H1 e1 => ⟨_, rfl, ?_⟩⟩
    refine ⟨_, rfl, a, A.S, dx, _, _, rfl, e1 _ _ h1, T.clS, T.nS_row, fs_row fa la, _, rfl, b, A.S, dy, _, _, rfl, e1 _ _ k1, T.clS, T.nS_row, fs_row fb lb, (canon f).map tk, (canon f).map tk, ⟨la, xs, rfl, SqL.of (e1 _ _ h3), RpL.keep (Keep.of e1) _ h4⟩, ⟨lb, ys, rfl, SqL.of (e1 _ _ k3), RpL.keep (Keep.of e1) _ k4⟩, fineL_tks _, fineL_tks _, ?_⟩
    show Q (.bl (decide ((canon f).map tk = (canon f).map tk))) H1
    rw [decide_eq_true rfl]
    exact q H1 e1
end
end FsR
end
section
/-! Systems: the walks. -/
set_option Elab.async false
set_option linter.all false
set_option maxRecDepth 100000
namespace FsR
open PySem PySem.Spec PyProof.Rows L2 LamX Fs
section
variable {F : Type} [Num F] {K : PySem.W.Frag} {A : Ad} {H H' : Hp}
/-- a list of sums -/
def SmList (K : PySem.W.Frag) (A : Ad) (H : Hp) (l : Addr) (ws : List (Row F)) : Prop := ∃ xs : List Addr, H l = some (.lst (xs.map V.ref)) ∧ xs.length = ws.length ∧ ∀ (i : Nat) (s : Addr) (f : Row F), xs[i]? = some s → ws[i]? = some f → SumAt K A H s f
theorem SmList.grw {T : List (Addr × Str)} {l : Addr} {ws : List (Row F)} (h : SmList K A H l ws) (g : Grw T H H') : SmList K A H' l ws := by
  obtain ⟨xs, h1, h2, h3⟩ := h
  exact ⟨xs, g.ext _ _ h1 (fun _ z => by cases z), h2, fun i s f a b => (h3 i s f a b).grw g⟩
theorem SmList.same {l : Addr} {ws : List (Row F)} (h : SmList K A H l ws) (s : Same H H') : SmList K A H' l ws := h.grw (.of (T := []) s)
theorem SmList.at_ {xs : List Addr} {ws : List (Row F)} (h2 : xs.length = ws.length) (h3 : ∀ (i : Nat) (s : Addr) (f : Row F), xs[i]? = some s → ws[i]? = some f → SumAt K A H s f) {i : Nat} {x : V} (hx : (xs.map V.ref)[i]? = some x) : ∃ s f, x = .ref s ∧ xs[i]? = some s ∧ ws[i]? = some f ∧ SumAt K A H s f := by
  rw [List.getElem?_map] at hx
  obtain ⟨s, e1, rfl⟩ := Option.map_eq_some_iff.mp hx
  obtain ⟨hi, _⟩ := List.getElem?_eq_some_iff.mp e1
  have e2 : ws[i]? = some ws[i] := List.getElem?_eq_getElem (by omega)
  exact ⟨s, _, rfl, e1, e2, h3 i s _ e1 e2⟩
/-- all products of the wishes are of the first n places -/
def InP (n : Nat) (f : Row F) : Prop := ∀ q, f q ≠ 0 → q.val < 2 ^ n
def fsY (fa : Addr) (n : Nat) (l1 l2 : Addr) : List (Str × V) := [("own_field", .ref fa), ("many_places", .int n), ("nought_sums", .ref l1), ("upper_sums", .ref l2)]
theorem fsY_f (fa : Addr) (n : Nat) (l1 l2 : Addr) : (fsY fa n l1 l2).lookup ("own_field" : Str) = some (.ref fa) := rfl
theorem fsY_p (fa : Addr) (n : Nat) (l1 l2 : Addr) : (fsY fa n l1 l2).lookup ("many_places" : Str) = some (.int n) := rfl
theorem fsY_n (fa : Addr) (n : Nat) (l1 l2 : Addr) : (fsY fa n l1 l2).lookup ("nought_sums" : Str) = some (.ref l1) := rfl
theorem fsY_u (fa : Addr) (n : Nat) (l1 l2 : Addr) : (fsY fa n l1 l2).lookup ("upper_sums" : Str) = some (.ref l2) := rfl
/-- the system of the wishes ws over n places stands at a -/
def SysAt (K : PySem.W.Frag) (A : Ad) (H : Hp) (a : Addr) (n : Nat) (ws : List (Row F)) : Prop := ∃ dx fa l1 l2, H a = some (.ins A.Y dx (fsY fa n l1 l2)) ∧ Fld A H fa (Num.p F) ∧ SmList K A H l1 ws ∧ H l2 = some (.lst [])
theorem SysAt.grw {T : List (Addr × Str)} {a : Addr} {n : Nat} {ws : List (Row F)} (h : SysAt K A H a n ws) (g : Grw T H H') : SysAt K A H' a n ws := by
  obtain ⟨dx, fa, l1, l2, h1, h2, h3, h4⟩ := h
  exact ⟨dx, fa, l1, l2, g.ext _ _ h1 (fun _ z => by cases z), h2.grw g, h3.grw g, g.ext _ _ h4 (fun _ z => by cases z)⟩
theorem SysAt.same {a : Addr} {n : Nat} {ws : List (Row F)} (h : SysAt K A H a n ws) (s : Same H H') : SysAt K A H' a n ws := h.grw (.of (T := []) s)
end
section
variable {P : Program} {w : World} {K : PySem.W.Frag} {mg : Str → Option Value} {base : Heap} {A : Ad} {F : Type} [Num F]
theorem sc_is_wish : FnScope ["field", "places", "thing"] ["field", "places", "thing"] (defScope (topS 36)) := ⟨rfl, rfl, rfl, by decide +kernel, rfl, by decide +kernel, by decide +kernel⟩
def spIsWish (K : PySem.W.Frag) (A : Ad) (F : Type) [Num F] : Sp := fun vs H Q _ => ∃ (fa a : Addr) (n : Nat) (f : Row F), vs = [.ref fa, .int n, .ref a] ∧ Fld A H fa (Num.p F) ∧ SumAt K A H a f ∧ n ≤ 4 ∧ InP n f ∧ ∀ H', Same H H' → Q (.bl true) H'
theorem c_is_wish (T : Txt K mg A) : Cal P w K mg base CX0 2 "is_wish" ["field", "places", "thing"] [] (spIsWish K A F) := by
  refine cal_mk T.g_is_wish (fun _ _ _ _ _ _ us hl => match us, hl with | [_, _, _], _ => rfl) sc_is_wish (fun vs H Q E h => ?_) (fun f cdv Ar outer s H vs Q E hr h => ?_)
  · obtain ⟨fa, a, n, f, rfl, _⟩ := h
    rfl
  · obtain ⟨fa, a, n, f, rfl, hF, hS, hn, hp, q⟩ := h
    obtain ⟨dx, fb, la, h1, h2, h3⟩ := id hS
    refine ⟨_, (pss_one (ps_ret (pe_and (pe_callB (C8.call_isC T.isS) (by rfl) T.isinstance (by decide +kernel) (pa_cons (pv 2) (pa_cons (pe_glob (v := .ref A.S) rfl T.Sum rfl) pa_nil))) (pe_and (pe_cmpR (op_eqG (rcM (c_Field_eq T)) (hr.mono (by decide))) (pe_fld (pv 2) (by rfl)) (pv 0) (nomark _)) (pe_one (pe_cmpR op_le (pcm0 (c_Sum_reach (F := F) T) T.clS (hr.mono (by decide)) (pv 2)) (pv 1) (nomark _))))))), ?_⟩
    refine ⟨_, rfl, a, dx, _, rfl, h1, _, rfl, ?_⟩
    refine ⟨_, rfl, a, A.S, dx, _, _, rfl, h1, T.clS, T.nS_own_field, fs_of fb la, _, rfl, d_eqF h2 hF, fun H1 e1 => ⟨_, rfl, ?_⟩⟩
    refine ⟨_, rfl, a, dx, _, rfl, e1 _ _ h1, rfl, a, f, n, rfl, hS.same e1, hn, hp, fun H2 m sm hm => ⟨_, rfl, _, _, rfl, rfl, ?_⟩⟩
    show Q (.bl (decide (m ≤ (n : Int)))) H2
    rw [decide_eq_true hm]
    exact q H2 (Same.trans e1 sm)
theorem sc_look_at_wishes : FnScope ["field", "places", "part", "wishes", "number", "wish"] ["field", "places", "part", "wishes"] (defScope (topS 37)) := ⟨rfl, rfl, rfl, by decide +kernel, rfl, by decide +kernel, by decide +kernel⟩
def spLookW (K : PySem.W.Frag) (A : Ad) (F : Type) [Num F] : Sp := fun vs H Q _ => ∃ (fa l : Addr) (n : Nat) (part : Str) (ws : List (Row F)), vs = [.ref fa, .int n, .str part, .ref l] ∧ Fld A H fa (Num.p F) ∧ SmList K A H l ws ∧ n ≤ 4 ∧ ws.length ≤ 4 ∧ (∀ f ∈ ws, InP n f) ∧ (part = "noughts" ∨ (part = "uppers" ∧ ws = [])) ∧ ∀ H', Same H H' → Q .non H'
theorem c_look_at_wishes (T : Txt K mg A) : Cal P w K mg base CX0 3 "look_at_wishes" ["field", "places", "part", "wishes"] [] (spLookW K A F) := by
  refine cal_mk T.g_look_at_wishes (fun _ _ _ _ _ _ us hl => match us, hl with | [_, _, _, _], _ => rfl) sc_look_at_wishes (fun vs H Q E h => ?_) (fun f cdv Ar outer s H vs Q E hr h => ?_)
  · obtain ⟨fa, l, n, part, ws, rfl, _⟩ := h
    rfl
  · obtain ⟨fa, l, n, part, ws, rfl, hF, ⟨xs, h1, h2, h3⟩, hn, hl, hp, hpart, q⟩ := h
    refine ⟨_, (pss_cons (ps_if (PW.pt (pw_or (pt_not (pt_val (pe_callB call_isi (by rfl) T.isinstance (by decide +kernel) (pa_cons (pv 3) (pa_cons (pe_bltn (v := .ty "list") (by rfl) T.list (by decide +kernel) rfl) pa_nil))))) (pw_or1 (pt_cmpR op_gt (pe_callB call_len_seq (by rfl) T.len (by decide +kernel) (pa_cons (pv 3) pa_nil)) (pe_const T.MOST_WISHES) (nomark _))))) (pss_one ps_never)
      pss_nil)
      (C8.pss_cut (ps_if (PW.pt (pw_and (pt_cmpR op_eq (pv 2) pe_str (nomark _)) (pw_and (pt_cmpR (op_neRL hr.units) (pv 3) (pe_lst pa_nil) (nomark _)) (pw_and1 (pt_cmpR op_ne (pcm0 (c_Field_prime T) T.clF (hr.mono (by decide)) (pv 0)) pe_int (nomark _)))))) (pss_one ps_never)
      pss_nil)
      (pss_one (ps_for PassesOwn.never rfl (pi_enum rfl T.enumerate (pa_cons (pv 3) pa_nil)) ((pg_tup rfl (pgs_cons (pg_name (i := 4) sc_look_at_wishes.nd rfl (by first | exact Or.inl rfl | exact Or.inr rfl)) (pgs_cons (pg_name (i := 5) sc_look_at_wishes.nd rfl (by first | exact Or.inl rfl | exact Or.inr rfl)) pgs_nil))))
      (pss_one (ps_if (pt_not (pt_val (pc (c_is_wish (F := F) T) (hr.mono (by decide)) (pa_cons (pv 0) (pa_cons (pv 1) (pa_cons (pv 5) pa_nil)))))) (pss_one ps_never)
      pss_nil)))))), ?_⟩
    refine ⟨_, rfl, _, _, .type "list", _, _, rfl, .ty _, .base (.lst h1), kit_ty (by decide +kernel), true, rfl, iteF ?_⟩
    refine ⟨_, rfl, _, _, rfl, .inl (SqL.of h1), _, _, rfl, rfl, _, rfl, itF (by rw [List.length_map]; omega) ?_⟩
    refine ⟨fun σ H1 => σ = [some (.ref fa), some (.int n), some (.str part), some (.ref l), none, none] ∧ Same H H1, ?_, ?_⟩
    · rcases hpart with rfl | ⟨rfl, rfl⟩
      · exact ⟨_, rfl, rfl, _, rfl, itF (by decide +kernel) (iteF ⟨rfl, Same.refl _⟩)⟩
      · have hx : xs = [] := List.length_eq_zero_iff.mp h2
        subst hx
        refine ⟨_, rfl, rfl, _, rfl, itT rfl ?_⟩
        exact ⟨_, rfl, Nat.zero_le _, fun p hp => ⟨[], [], ⟨l, [], rfl, SqL.of ((same_upd hp) _ _ h1), rpl_nil⟩, ⟨p, [], rfl, SqL.of upd_same, rpl_nil⟩, fineL_nil, fineL_nil, _, rfl, iteF (iteF ⟨rfl, same_upd hp⟩)⟩⟩
    · rintro σ H1 ⟨rfl, sm⟩
      refine ⟨_, rfl, l, xs.map V.ref, rfl, SqL.of (sm _ _ h1), for_it walk_enum (fun i σ H2 => ∃ s4 s5, σ = [some (.ref fa), some (.int n), some (.str part), some (.ref l), s4, s5] ∧ Same H H2) ⟨_, _, rfl, sm⟩ (fun i σ H2 _ ⟨_, _, _, sm2⟩ => SqL.of (sm2 _ _ h1)) ?_ ?_⟩
      · rintro i x σ H2 H3 hi ⟨s4, s5, rfl, sm2⟩ ⟨T0, x0, y0, rfl, hT, rfl, hx, hy⟩
        obtain ⟨s0, f0, rfl, e1, e2, hS⟩ := SmList.at_ h2 h3 hy
        have s3 := sm2.trans (same_upd (o := .tup [x0, .ref s0]) hT)
        refine ⟨T0, _, rfl, SqT.of upd_same, rfl, _, _, rfl, _, _, rfl, rfl, ?_⟩
        exact ⟨_, rfl, _, rfl, _, rfl, fa, s0, n, f0, rfl, hF.same s3, hS.same s3, hn, hp f0 (List.mem_of_getElem? e2), fun H4 sm4 => ⟨_, rfl, iteF ⟨_, _, rfl, s3.trans sm4⟩⟩⟩
      · rintro σ H2 ⟨s4, s5, rfl, sm2⟩
        exact q H2 sm2
end
end FsR
end
section
/-! Systems: the object. -/
set_option Elab.async false
set_option linter.all false
set_option maxRecDepth 100000
namespace FsR
open PySem PySem.Spec PyProof.Rows L2 LamX Fs
section
variable {P : Program} {w : World} {K : PySem.W.Frag} {mg : Str → Option Value} {base : Heap} {A : Ad} {F : Type} [Num F]
theorem sc_System_init : FnScope ["self", "field", "places", "noughts", "uppers"] ["self", "field", "places", "noughts", "uppers"] (defScope (inClass (topS 38) 0)) := ⟨rfl, rfl, rfl, by decide +kernel, rfl, by decide +kernel, by decide +kernel⟩
def spYInit (K : PySem.W.Frag) (A : Ad) (F : Type) [Num F] : Sp := fun vs H Q _ => ∃ (x dx : Addr) (H0 : Hp) (fa l : Addr) (n : Nat) (ws : List (Row F)), vs = [.ref x, .ref fa, .int n, .ref l, .non] ∧ Fresh A.Y H0 H x dx ∧ Fld A H0 fa (Num.p F) ∧ SmList K A H0 l ws ∧ 1 ≤ n ∧ n ≤ 4 ∧ ws.length ≤ 4 ∧ (∀ f ∈ ws, InP n f) ∧
  ∀ H', Same H0 H' → SysAt K A H' x n ws → Q .non H'
theorem c_System_init (T : Txt K mg A) : MCal P w K mg base CX0 A.Y 4 "__init__" ["self", "field", "places", "noughts", "uppers"] [.non] (spYInit K A F) := by
  refine mcal_mkD (dvs := [.non]) T.m_System_init 4 0 (by simp) rfl (fun _ _ _ _ _ _ _ us its h1 h2 => match us, h1, its, h2 with | [_, _, _, _], _, [_], _ => ⟨_, rfl, rfl⟩) sc_System_init (fun vs H Q E h => ?_) (fun f cdv Ar outer s H vs Q E hr h => ?_)
  · obtain ⟨x, dx, H0, fa, l, n, ws, rfl, _⟩ := h
    rfl
  · obtain ⟨x, dx, H0, fa, l, n, ws, rfl, fr, hF, hL, n1, n4, w4, hp, q⟩ := h
    have s0 := fr.old
    obtain ⟨_, dxf, hf⟩ := id (hF.same s0)
    refine ⟨_, (pss_cons (ps_if (pt_not (pt_val (pe_callB (C8.call_isC T.isF) (by rfl) T.isinstance (by decide +kernel) (pa_cons (pv 1) (pa_cons (pe_glob (v := .ref A.F) rfl T.Field rfl) pa_nil))))) (pss_one ps_never)
      pss_nil)
      (pss_cons (ps_if (PW.pt (pw_or (pt_not (pt_val (pc (c_is_whole T) (hr.mono (by decide)) (pa_cons (pv 2) pa_nil)))) (pw_or1 (pt_not (pt_chain op_le op_le pe_int (pv 2) (pe_const T.MOST_PLACES)))))) (pss_one ps_never)
      pss_nil)
      (pss_cons (ps_expr (pc (c_look_at_wishes (F := F) T) (hr.mono (by decide)) (pa_cons (pv 1) (pa_cons (pv 2) (pa_cons pe_str (pa_cons (pv 3) pa_nil))))))
      (pss_cons (ps_if (pt_cmpR op_isN (pv 4) pe_non (nomark _)) (pss_one (ps_set (i := 4) sc_System_init.nd rfl (by first | exact Or.inl rfl | exact Or.inr rfl) (pe_lst pa_nil)))
      pss_nil)
      (pss_cons (ps_expr (pc (c_look_at_wishes (F := F) T) (hr.mono (by decide)) (pa_cons (pv 1) (pa_cons (pv 2) (pa_cons pe_str (pa_cons (pv 4) pa_nil))))))
      (pss_cons (ps_fld (pv 0) (pv 1) rfl)
      (pss_cons (ps_fld (pv 0) (pv 2) rfl)
      (pss_cons (ps_fld (pv 0) (pe_callTy call_list_of (by rfl) T.list (by decide +kernel) (pa_cons (pv 3) pa_nil)) rfl)
      (pss_one (ps_fld (pv 0) (pe_callTy call_list_of (by rfl) T.list (by decide +kernel) (pa_cons (pv 4) pa_nil)) rfl)))))))))), ?_⟩
    refine ⟨_, rfl, fa, dxf, _, rfl, hf, _, rfl, iteF ?_⟩
    refine ⟨_, rfl, .int n, rfl, .inl ⟨_, rfl, true, rfl, iteF ⟨_, rfl, _, _, rfl, rfl, _, rfl, itT (by omega) ⟨_, _, rfl, rfl, _, rfl, ?_⟩⟩⟩⟩
    refine (show if (!decide ((n : Int) ≤ 60)) = true then _ else _ from itNF (by omega) ?_)
    refine ⟨_, rfl, _, rfl, _, rfl, fa, l, n, "noughts", ws, rfl, hF.same s0, hL.same s0, n4, w4, hp, .inl rfl, fun H1 sm1 => ?_⟩
    refine ⟨_, rfl, rfl, _, rfl, itT rfl ⟨Nat.zero_le _, fun l2 hl2 => ?_⟩⟩
    have s2 := (s0.trans sm1).trans (same_upd (o := .lst []) hl2)
    refine ⟨_, rfl, _, rfl, _, rfl, fa, l2, n, "uppers", [], rfl, hF.same s2, ⟨[], upd_same, rfl, fun i s f a => by simp at a⟩, n4, by simp, fun f hf => absurd hf (by simp), .inr ⟨rfl, rfl⟩, fun H3 sm3 => ?_⟩
    have hl3 := sm3 _ _ (upd_same (H := H1) (a := l2) (o := .lst []))
    have s3 := s2.trans sm3
    have hx3 : H3 x = some (.ins A.Y dx []) := sm3 _ _ ((same_upd (o := .lst []) hl2) _ _ (sm1 _ _ fr.at_))
    obtain ⟨xs, e1, e2, e3⟩ := id hL
    have ll : l ≠ x := fun z => by
      rw [z, fr.1] at e1
      cases e1
    have l2x : l2 ≠ x := ne_of hl3 hx3 (by intro z; cases z)
    refine ⟨_, rfl, _, rfl, x, A.Y, dx, _, rfl, hx3, T.clY, T.nY_own_field, (by show 0 < 1000; decide), ?_⟩
    refine ⟨_, rfl, _, rfl, x, A.Y, dx, _, rfl, upd_same, T.clY, T.nY_many_places, (by show 1 < 1000; decide), ?_⟩
    refine ⟨_, rfl, l, xs.map V.ref, rfl, .inl (SqL.of (by rw [upd_ne ll, upd_ne ll]; exact s3 _ _ e1)), fun l3 h3 => ?_⟩
    have l3x : l3 ≠ x := fun z => by
      rw [z, upd_same] at h3
      cases h3
    refine ⟨_, rfl, x, A.Y, dx, _, rfl, Eq.trans (upd_ne l3x.symm) upd_same, T.clY, T.nY_nought_sums, (by show 2 < 1000; decide), ?_⟩
    have l2l3 : l2 ≠ l3 := fun z => by
      rw [← z, upd_ne l2x, upd_ne l2x, hl3] at h3
      cases h3
    refine ⟨_, rfl, l2, [], rfl, .inl (SqL.of (by rw [upd_ne l2x, upd_ne l2l3, upd_ne l2x, upd_ne l2x]; exact hl3)), fun l4 h4 => ?_⟩
    have l4x : l4 ≠ x := fun z => by
      rw [z, upd_same] at h4
      cases h4
    have l4l3 : l4 ≠ l3 := fun z => by
      rw [z, upd_ne l3x, upd_same] at h4
      cases h4
    refine ⟨_, rfl, x, A.Y, dx, _, rfl, Eq.trans (upd_ne l4x.symm) upd_same, T.clY, T.nY_upper_sums, (by show 3 < 1000; decide), ?_⟩
    have h30 : H3 l3 = none := by
      rw [upd_ne l3x, upd_ne l3x] at h3
      exact h3
    have h40 : H3 l4 = none := by
      rw [upd_ne l4x, upd_ne l4l3, upd_ne l4x, upd_ne l4x] at h4
      exact h4
    have sm : ∀ o1 o2 o3 o4 o5 o6 : HO, Same H0 (upd (upd (upd (upd (upd (upd H3 x o1) x o2) l3 o3) x o4) l4 o5) x o6) := fun o1 o2 o3 o4 o5 o6 b o e => by
      have nbx : b ≠ x := ne_of_none e fr.1
      rw [upd_ne nbx, upd_ne (ne_of_none (s3 _ _ e) h40), upd_ne nbx, upd_ne (ne_of_none (s3 _ _ e) h30), upd_ne nbx, upd_ne nbx]
      exact s3 _ _ e
    refine q _ (sm _ _ _ _ _ _) ⟨dx, fa, l3, l4, upd_same, hF.same (sm _ _ _ _ _ _), ⟨xs, ?_, e2, fun i s f a b => (e3 i s f a b).same (sm _ _ _ _ _ _)⟩, ?_⟩
    · rw [upd_ne l3x, upd_ne l4l3.symm, upd_ne l3x, upd_same]
    · rw [upd_ne l4x, upd_same]
theorem sc_System_field : FnScope ["self"] ["self"] (defScope (inClass (topS 38) 3)) := ⟨rfl, rfl, rfl, by decide +kernel, rfl, by decide +kernel, by decide +kernel⟩
def spYField (K : PySem.W.Frag) (A : Ad) (F : Type) [Num F] : Sp := fun vs H Q _ => ∃ (a : Addr) (n : Nat) (ws : List (Row F)), vs = [.ref a] ∧ SysAt K A H a n ws ∧ ∀ fa, Fld A H fa (Num.p F) → Q (.ref fa) H
theorem c_System_field (T : Txt K mg A) : MCal P w K mg base CX0 A.Y 1 "field" ["self"] [] (spYField K A F) := by
  refine mcal_mk T.m_System_field (fun _ _ _ _ _ _ us hl => match us, hl with | [_], _ => rfl) sc_System_field (fun vs H Q E h => ?_) (fun f cdv Ar outer s H vs Q E hr h => ?_)
  · obtain ⟨a, n, ws, rfl, _⟩ := h
    rfl
  · obtain ⟨a, n, ws, rfl, ⟨dx, fa, l1, l2, h1, h2, h3, h4⟩, q⟩ := h
    refine ⟨_, (pss_one (ps_ret (pe_fld (pv 0) (by rfl)))), ?_⟩
    exact ⟨_, rfl, a, A.Y, dx, _, _, rfl, h1, T.clY, T.nY_own_field, fsY_f fa n l1 l2, q fa h2⟩
theorem sc_System_places : FnScope ["self"] ["self"] (defScope (inClass (topS 38) 4)) := ⟨rfl, rfl, rfl, by decide +kernel, rfl, by decide +kernel, by decide +kernel⟩
def spYPlaces (K : PySem.W.Frag) (A : Ad) (F : Type) [Num F] : Sp := fun vs H Q _ => ∃ (a : Addr) (n : Nat) (ws : List (Row F)), vs = [.ref a] ∧ SysAt K A H a n ws ∧ Q (.int n) H
theorem c_System_places (T : Txt K mg A) : MCal P w K mg base CX0 A.Y 1 "places" ["self"] [] (spYPlaces K A F) := by
  refine mcal_mk T.m_System_places (fun _ _ _ _ _ _ us hl => match us, hl with | [_], _ => rfl) sc_System_places (fun vs H Q E h => ?_) (fun f cdv Ar outer s H vs Q E hr h => ?_)
  · obtain ⟨a, n, ws, rfl, _⟩ := h
    rfl
  · obtain ⟨a, n, ws, rfl, ⟨dx, fa, l1, l2, h1, h2, h3, h4⟩, q⟩ := h
    refine ⟨_, (pss_one (ps_ret (pe_fld (pv 0) (by rfl)))), ?_⟩
    exact ⟨_, rfl, a, A.Y, dx, _, _, rfl, h1, T.clY, T.nY_many_places, fsY_p fa n l1 l2, q⟩
theorem sc_System_noughts : FnScope ["self"] ["self"] (defScope (inClass (topS 38) 5)) := ⟨rfl, rfl, rfl, by decide +kernel, rfl, by decide +kernel, by decide +kernel⟩
def spYNoughts (A : Ad) : Sp := fun vs H Q _ => ∃ (a dx fa l1 l2 : Addr) (n : Nat) (xs : List Addr), vs = [.ref a] ∧ H a = some (.ins A.Y dx (fsY fa n l1 l2)) ∧ H l1 = some (.lst (xs.map V.ref)) ∧ ∀ H' l, Same H H' → H l = none → H' l = some (.lst (xs.map V.ref)) → Q (.ref l) H'
theorem c_System_noughts (T : Txt K mg A) : MCal P w K mg base CX0 A.Y 1 "noughts" ["self"] [] (spYNoughts A) := by
  refine mcal_mk T.m_System_noughts (fun _ _ _ _ _ _ us hl => match us, hl with | [_], _ => rfl) sc_System_noughts (fun vs H Q E h => ?_) (fun f cdv Ar outer s H vs Q E hr h => ?_)
  · obtain ⟨a, dx, fa, l1, l2, n, xs, rfl, _⟩ := h
    rfl
  · obtain ⟨a, dx, fa, l1, l2, n, xs, rfl, h1, e1, q⟩ := h
    refine ⟨_, (pss_one (ps_ret (pe_callTy call_list_of (by rfl) T.list (by decide +kernel) (pa_cons (pe_fld (pv 0) (by rfl)) pa_nil)))), ?_⟩
    exact ⟨_, rfl, a, A.Y, dx, _, _, rfl, h1, T.clY, T.nY_nought_sums, fsY_n fa n l1 l2, l1, _, rfl, .inl (SqL.of e1), fun l hl => q _ l (same_upd hl) hl upd_same⟩
theorem sc_System_eq : FnScope ["self", "other"] ["self", "other"] (defScope (inClass (topS 38) 1)) := ⟨rfl, rfl, rfl, by decide +kernel, rfl, by decide +kernel, by decide +kernel⟩
def eqSys (K : PySem.W.Frag) (A : Ad) (F : Type) [Num F] (a b : Addr) (H : Hp) : Prop := ∃ (n : Nat) (ws : List (Row F)), SysAt K A H a n ws ∧ SysAt K A H b n ws
theorem mon_eqS {K : PySem.W.Frag} {A : Ad} {F : Type} [Num F] : Mon (DIns A.S (eqSum K A F)) := mon_ins fun a b H H' e ⟨f, h1, h2⟩ => ⟨f, h1.same e, h2.same e⟩
theorem d_eqS {K : PySem.W.Frag} {A : Ad} {F : Type} [Num F] {H : Hp} {l1 l2 : Addr} {ws : List (Row F)} (h1 : SmList K A H l1 ws) (h2 : SmList K A H l2 ws) : DList (DIns A.S (eqSum K A F)) (.ref l1) (.ref l2) H := by
  obtain ⟨xs, a1, a2, a3⟩ := h1
  obtain ⟨ys, b1, b2, b3⟩ := h2
  refine ⟨l1, l2, _, _, rfl, rfl, a1, b1, by rw [List.length_map, List.length_map, a2, b2], fun i x y hx hy => ?_⟩
  obtain ⟨s1, f1, rfl, e1, e2, ⟨dx, fa, la, k1, k2, k3⟩⟩ := SmList.at_ a2 a3 hx
  obtain ⟨s2, f2, rfl, e3, e4, ⟨dy, fb, lb, j1, j2, j3⟩⟩ := SmList.at_ b2 b3 hy
  rw [e2] at e4
  cases e4
  exact ⟨s1, s2, dx, dy, _, _, rfl, rfl, k1, j1, f1, ⟨dx, fa, la, k1, k2, k3⟩, ⟨dy, fb, lb, j1, j2, j3⟩⟩
theorem c_System_eq (T : Txt K mg A) : MCal P w K mg base CX0 A.Y 4 "__eq__" ["self", "other"] [] (spEq (eqSys K A F)) := by
  refine mcal_mk T.m_System_eq (fun _ _ _ _ _ _ us hl => match us, hl with | [_, _], _ => rfl) sc_System_eq (fun vs H Q E h => ?_) (fun f cdv Ar outer s H vs Q E hr h => ?_)
  · obtain ⟨a, b, rfl, _⟩ := h
    rfl
  · obtain ⟨a, b, rfl, ⟨n, ws, ⟨dx, fa, l1, l2, h1, h2, h3, h4⟩, ⟨dy, fb, m1, m2, k1, k2, k3, k4⟩⟩, q⟩ := h
    refine ⟨_, (pss_cons (ps_if (PW.pt (pw_or (pt_not (pt_val (pe_callB (C8.call_isC T.isY) (by rfl) T.isinstance (by decide +kernel) (pa_cons (pv 1) (pa_cons (pe_glob (v := .ref A.Y) rfl T.System rfl) pa_nil))))) (pw_or1 (pt_cmpR (op_neG (neM (c_Field_eq T) T.neF) (hr.mono (by decide))) (pe_fld (pv 0) (by rfl)) (pe_fld (pv 1) (by rfl)) (nomark _))))) (pss_one (ps_ret pe_bl))
      pss_nil)
      (pss_cons (ps_if (PW.pt (pw_or (pt_cmpR op_ne (pe_fld (pv 0) (by rfl)) (pe_fld (pv 1) (by rfl)) (nomark _)) (pw_or1 (pt_cmpR (op_neG (neG_list mon_eqS (eqM (c_Sum_eq (F := F) T))) (hr.mono (by decide))) (pe_fld (pv 0) (by rfl)) (pe_fld (pv 1) (by rfl)) (nomark _))))) (pss_one (ps_ret pe_bl))
      pss_nil)
      (pss_one (ps_ret (pe_cmpR (op_eqRL hr.units) (pe_fld (pv 0) (by rfl)) (pe_fld (pv 1) (by rfl)) (nomark _)))))), ?_⟩
    refine ⟨_, rfl, b, dy, _, rfl, k1, _, rfl, iteF ?_⟩
    refine ⟨_, rfl, a, A.Y, dx, _, _, rfl, h1, T.clY, T.nY_own_field, fsY_f fa n l1 l2, _, rfl, b, A.Y, dy, _, _, rfl, k1, T.clY, T.nY_own_field, fsY_f fb n m1 m2, d_eqF h2 k2, fun H1 e1 => ⟨_, rfl, iteF ?_⟩⟩
    refine ⟨_, rfl, a, A.Y, dx, _, _, rfl, e1 _ _ h1, T.clY, T.nY_many_places, fsY_p fa n l1 l2, _, rfl, b, A.Y, dy, _, _, rfl, e1 _ _ k1, T.clY, T.nY_many_places, fsY_p fb n m1 m2, rfl, _, rfl, itNF rfl ?_⟩
    refine ⟨_, rfl, a, A.Y, dx, _, _, rfl, e1 _ _ h1, T.clY, T.nY_nought_sums, fsY_n fa n l1 l2, _, rfl, b, A.Y, dy, _, _, rfl, e1 _ _ k1, T.clY, T.nY_nought_sums, fsY_n fb n m1 m2, d_eqS (h3.same e1) (k3.same e1), fun H2 e2 => ⟨_, rfl, iteF ?_⟩⟩
    have s2 : Same H H2 := Same.trans e1 e2
    refine ⟨_, rfl, a, A.Y, dx, _, _, rfl, s2 _ _ h1, T.clY, T.nY_upper_sums, fsY_u fa n l1 l2, _, rfl, b, A.Y, dy, _, _, rfl, s2 _ _ k1, T.clY, T.nY_upper_sums, fsY_u fb n m1 m2, [], [], ⟨l2, [], rfl, SqL.of (s2 _ _ h4), rpl_nil⟩, ⟨m2, [], rfl, SqL.of (s2 _ _ k4), rpl_nil⟩, fineL_nil, fineL_nil, ?_⟩
    show Q (.bl (decide (([] : List NestedKey) = []))) H2
    rw [decide_eq_true rfl]
    exact q H2 s2
end
end FsR
end
section
/-! Papers: the walks. -/
set_option Elab.async false
set_option linter.all false
set_option maxRecDepth 100000
namespace FsR
open PySem PySem.Spec PyProof.Rows L2 LamX Fs
/-! ### how many products, which -/
def chs (n : Nat) : Nat → Nat
  | 0 => 1
  | i + 1 => chs n i * (n - i) / (i + 1)
def chsum (n i : Nat) : Nat := ((List.range i).map (chs n)).sum
theorem chs_le : ∀ n ∈ ([0, 1, 2, 3, 4] : List Nat), ∀ i ∈ List.range 6, chs n i ≤ 6 ∧ chsum n i ≤ 16 := by decide
def lay (n s : Nat) : List Pr := (univ n 4).filter fun q => decide (size q = s)
def lo (p : Pr) : Nat := (lastP p + 1).toNat * (if p = 0 then 0 else 1)
def addP (p : Pr) (j : Nat) : Pr := jn p (Fin.ofNat 16 (2 ^ j))
def nexts (n : Nat) (p : Pr) : List Pr := (List.range (n - lo p)).map fun i => addP p (lo p + i)
theorem lay_facts : ∀ n ∈ ([0, 1, 2, 3, 4] : List Nat), lay n 0 = [0] ∧ (∀ s ∈ List.range 5, lay n (s + 1) = (lay n s).flatMap (nexts n) ∧ (lay n s).length ≤ 6) ∧ (∀ m ∈ List.range 5, univ n m = (List.range (min m n + 1)).flatMap (lay n)) ∧ ∀ i ∈ List.range 6, ((List.range i).flatMap (lay n)).length ≤ 16 := by decide +kernel
theorem add_facts : ∀ p : Pr, ∀ j ∈ List.range 4, lo p ≤ j → plc (addP p j) = plc p ++ [(j : Int)] := by decide +kernel
theorem lo_facts : ∀ p : Pr, lo p ≤ 4 ∧ (p ≠ 0 → (lo p : Int) = lastP p + 1) ∧ lo 0 = 0 := by decide +kernel
theorem plc_empty : ∀ p : Pr, ((plc p).isEmpty = true ↔ p = 0) := by decide +kernel
section
variable {P : Program} {w : World} {K : PySem.W.Frag} {mg : Str → Option Value} {base : Heap} {A : Ad} {F : Type} [Num F]
theorem sc_look_at_degree : FnScope ["degree"] ["degree"] (defScope (topS 41)) := ⟨rfl, rfl, rfl, by decide +kernel, rfl, by decide +kernel, by decide +kernel⟩
def spLookD : Sp := fun vs H Q _ => ∃ d : Nat, vs = [.int d] ∧ d ≤ 4 ∧ Q .non H
theorem c_look_at_degree (T : Txt K mg A) : Cal P w K mg base CX0 2 "look_at_degree" ["degree"] [] spLookD := by
  refine cal_mk T.g_look_at_degree (fun _ _ _ _ _ _ us hl => match us, hl with | [_], _ => rfl) sc_look_at_degree (fun vs H Q E h => ?_) (fun f cdv Ar outer s H vs Q E hr h => ?_)
  · obtain ⟨d, rfl, _⟩ := h
    rfl
  · obtain ⟨d, rfl, hd, q⟩ := h
    refine ⟨_, (pss_one (ps_if (PW.pt (pw_or (pt_not (pt_val (pc (c_is_whole T) (hr.mono (by decide)) (pa_cons (pv 0) pa_nil)))) (pw_or1 (pt_not (pt_chain op_le op_le pe_int (pv 0) (pe_const T.MOST_DEGREE)))))) (pss_one ps_never)
      pss_nil)), ?_⟩
    refine ⟨_, rfl, .int d, rfl, .inl ⟨_, rfl, true, rfl, iteF ⟨_, rfl, _, _, rfl, rfl, _, rfl, itT (by omega) ⟨_, _, rfl, rfl, _, rfl, ?_⟩⟩⟩⟩
    exact (show if (!decide ((d : Int) ≤ 300)) = true then _ else _ from itNF (by omega) q)
theorem sc_products_many : FnScope ["places", "most", "found", "many", "size"] ["places", "most"] (defScope (topS 42)) := ⟨rfl, rfl, rfl, by decide +kernel, rfl, by decide +kernel, by decide +kernel⟩
def spMany : Sp := fun vs H Q _ => ∃ n m : Nat, vs = [.int n, .int m] ∧ n ≤ 4 ∧ m ≤ 4 ∧ ∀ v : Nat, v ≤ 16 → Q (.int v) H
theorem c_products_many (T : Txt K mg A) : Cal P w K mg base CX0 1 "products_many" ["places", "most"] [] spMany := by
  refine cal_mk T.g_products_many (fun _ _ _ _ _ _ us hl => match us, hl with | [_, _], _ => rfl) sc_products_many (fun vs H Q E h => ?_) (fun f cdv Ar outer s H vs Q E hr h => ?_)
  · obtain ⟨n, m, rfl, _⟩ := h
    rfl
  · obtain ⟨n, m, rfl, hn, hm, q⟩ := h
    have n5 : n ∈ ([0, 1, 2, 3, 4] : List Nat) := by simp; omega
    have e : (if (n : Int) < (m : Int) then (n : Int) else (m : Int)) = ((min m n : Nat) : Int) := by
      split <;> omega
    refine ⟨_, (pss_cons (ps_set (i := 2) sc_products_many.nd rfl (by first | exact Or.inl rfl | exact Or.inr rfl) pe_int)
      (pss_cons (ps_set (i := 3) sc_products_many.nd rfl (by first | exact Or.inl rfl | exact Or.inr rfl) pe_int)
      (pss_cons (ps_for PassesOwn.never rfl (pi_range1 rfl T.range (pa_cons (pe_op op_add (pe_callB (call_min2 rfl) (by rfl) T.min (by decide +kernel) (pa_cons (pv 1) (pa_cons (pv 0) pa_nil))) pe_int) pa_nil)) (pg_name (i := 4) sc_products_many.nd rfl (by first | exact Or.inl rfl | exact Or.inr rfl))
      (pss_cons (ps_aug (i := 2) sc_products_many.nd rfl (by first | exact Or.inl rfl | exact Or.inr rfl) (pv 3) ip_add)
      (pss_one (ps_set (i := 3) sc_products_many.nd rfl (by first | exact Or.inl rfl | exact Or.inr rfl) (pe_op op_fdivW (pe_op op_mulW (pv 3) (pe_op op_sub (pv 0) (pv 4))) (pe_op op_add (pv 4) pe_int))))))
      (pss_one (ps_ret (pv 2)))))), ?_⟩
    refine ⟨_, rfl, _, rfl, _, _, rfl, _, _, rfl, rfl, _, rfl, ?_, ?_, ?_⟩
    · rw [e]; omega
    · rw [e]; omega
    have et : ((if (n : Int) < (m : Int) then (n : Int) else (m : Int)) + 1).toNat = min m n + 1 := by rw [e]; omega
    refine for_range (lo := 0) (n := ((if (n : Int) < (m : Int) then (n : Int) else (m : Int)) + 1).toNat) (fun i σ H1 => i ≤ min m n + 1 ∧ ∃ s4, σ = [some (.int n), some (.int m), some (.int (chsum n i : Nat)), some (.int (chs n i : Nat)), s4] ∧ H1 = H) ⟨Nat.zero_le _, none, rfl, rfl⟩ ?_ ?_
    · rintro i σ H1 hi ⟨hi1, s4, rfl, rfl⟩
      rw [et] at hi
      have h4 := (chs_le n n5 i (by simp; omega)).1
      refine ⟨_, rfl, _, rfl, _, _, rfl, rfl, _, rfl, _, rfl, _, rfl, _, _, rfl, rfl, _, _, rfl, rfl, ?_, _, rfl, _, _, rfl, rfl, _, _, rfl, rfl, ?_, by omega, some (.int (0 + (i : Nat))), ?_, rfl⟩
      · exact Sz.cmul (n := 7) (m := 7) (Sz.small (n := 0) (by omega)) (Sz.small (n := 0) (by omega)) (by decide)
      · exact wide_div (by omega) (b := 8) (Sz.small (n := 0) (by omega)) (by decide) (by decide)
      · have e1 : ((chsum n i : Nat) : Int) + ((chs n i : Nat) : Int) = ((chsum n (i + 1) : Nat) : Int) := by
          unfold chsum
          rw [List.range_succ, List.map_append, List.sum_append]
          simp
        have e2 : ((chs n i : Nat) : Int) * ((n : Int) - (0 + (i : Nat))) / (0 + (i : Nat) + 1) = ((chs n (i + 1) : Nat) : Int) := by
          have e3 : (n : Int) - (0 + (i : Nat)) = ((n - i : Nat) : Int) := by omega
          have e4 : (0 + (i : Nat) + 1 : Int) = ((i + 1 : Nat) : Int) := by omega
          rw [e3, e4, ← Int.natCast_mul, ← Int.natCast_ediv]
          rfl
        show ([some (V.int n), some (V.int m), some (V.int (((chsum n i : Nat) : Int) + ((chs n i : Nat) : Int))), some (V.int (((chs n i : Nat) : Int) * ((n : Int) - (0 + (i : Nat))) / (0 + (i : Nat) + 1))), some (V.int (0 + (i : Nat)))] : L2.St) = _
        rw [e1, e2]
    · rintro σ H1 ⟨hi1, s4, rfl, rfl⟩
      rw [et]
      refine ⟨_, rfl, q _ (chs_le n n5 (min m n + 1) (by simp; omega)).2⟩

theorem sc_products_of : FnScope ["places", "most", "found", "last", "size", "wider", "product", "place"] ["places", "most"] (defScope (topS 43)) := ⟨rfl, rfl, rfl, by decide +kernel, rfl, by decide +kernel, by decide +kernel⟩
def spProdsOf (K : PySem.W.Frag) : Sp := fun vs H Q _ => ∃ n m : Nat, vs = [.int n, .int m] ∧ n ≤ 4 ∧ m ≤ 4 ∧ ∀ H' l, Same H H' → H l = none → PrList K H' l (univ n m) → Q (.ref l) H'
theorem PE.imp {X : Cx} {e : Expr} {t t' : TE} (h : PE X e t) (m : ∀ σ H Q, t' σ H Q → t σ H Q) : PE X e t' := ⟨fun pn st sg H Q I q => h.run pn st sg H Q I (m _ _ _ q)⟩
/-- the place behind a product's last -/
def tLo (K : PySem.W.Frag) (i : Nat) : TE := fun σ H Q => ∃ (p : Pr) (b : Addr), σ[i]? = some (some (.ref b)) ∧ Rp K H (pk p) (.ref b) ∧ ∀ H', Same H H' → Q (.int (lo p : Nat)) H'
theorem pe_lo {X : Cx} {i j1 j2 j3 k : Nat} {a : Expr} {p1 p2 p3 p4 p5 p6 p7 p8 p9 : Pos} (ha : PE X a (tVar i))
    (h1 : starEach ([.UnaryOp .USub (.Constant (.int 1) j1 p1) p2] : List Expr) X.env = (false, eval (.UnaryOp .USub (.Constant (.int 1) j1 p1) p2) X.env) :: starEach [] X.env := by rfl) :
    PE X (.BinOp (.Subscript (.BoolOp .Or [a, .Tuple [.UnaryOp .USub (.Constant (.int 1) j1 p1) p2] k p3] p4) (.UnaryOp .USub (.Constant (.int 1) j2 p5) p6) p7) .Add (.Constant (.int 1) j3 p8) p9) (tLo X.K i) := by
  refine PE.imp (pe_op op_add (pe_ix ix_tup (pe_orT ha (pe_one (pe_tup (pa_cons (pe_un un_neg pe_int) pa_nil h1)))) (pe_un un_neg pe_int) (fun _ _ => rfl)) pe_int) ?_
  rintro σ H Q ⟨p, b, hs, r, q⟩
  obtain ⟨b2, e, t⟩ := rp_plc r
  cases e
  obtain ⟨_, l2, l3⟩ := lo_facts p
  by_cases h0 : p = 0
  · refine ⟨_, hs, false, .inr (.inl ⟨_, t.sq, ?_⟩), iteF ⟨_, rfl, (by decide : 1 ≤ sizeLine), fun c hc => ?_⟩⟩
    · rw [h0]; rfl
    · refine ⟨_, rfl, c, _, _, .int (-1), rfl, rfl, SqT.of upd_same, atI_last [] _, _, _, rfl, rfl, ?_⟩
      have : ((-1 : Int) + 1) = ((lo p : Nat) : Int) := by rw [h0]; rfl
      show Q (.int (-1 + 1)) _
      rw [this]
      exact q _ (same_upd hc)
  · obtain ⟨p1, p2, p3⟩ := plc_last p h0
    have hat : atI ((plc p).map V.int) (-1) = some (.int (lastP p)) := by
      rw [p1, List.map_append]
      exact atI_last _ _
    refine ⟨_, hs, true, .inr (.inl ⟨_, t.sq, ?_⟩), iteT ⟨_, rfl, b, _, _, .int (lastP p), rfl, rfl, t.sq, hat, _, _, rfl, rfl, ?_⟩⟩
    · rw [p1]
      simp
    · show Q (.int (lastP p + 1)) _
      rw [← l2 h0]
      exact q _ (Same.refl _)
theorem PrList.sb {H H' : Hp} {a x : Addr} {us : List Pr} (h : PrList K H a us) (n : a ≠ x) (s : SB x H H') (k : Keep H H') : PrList K H' a us := by
  obtain ⟨xs, h1, h2⟩ := h
  exact ⟨xs, s _ _ n h1, RpL.keep k _ h2⟩
theorem RpL.app {H : Hp} : ∀ {ds es : List NestedKey} {xs ys : List V}, RpL K H ds xs → RpL K H es ys → RpL K H (ds ++ es) (xs ++ ys)
  | [], es, xs, ys, h, k => by
    rw [rpl_nil_iff.mp h]; exact k
  | d :: ds, es, xs, ys, h, k => by
    obtain ⟨y, xs', rfl, r, rs⟩ := rpl_cons_iff.mp h
    exact rpl_cons r (RpL.app rs k)
theorem one_empty {H : Hp} {t : Addr} (h : H t = some (.tup [])) : RpL K H ([(0 : Pr)].map pk) [.ref t] := rpl_cons (rp_tup_iff.mpr ⟨t, [], rfl, .inl h, rpl_nil⟩) rpl_nil
theorem c_products_of (T : Txt K mg A) : Cal P w K mg base CX0 1 "products_of" ["places", "most"] [] (spProdsOf K) := by
  refine cal_mk T.g_products_of (fun _ _ _ _ _ _ us hl => match us, hl with | [_, _], _ => rfl) sc_products_of (fun vs H Q E h => ?_) (fun f cdv Ar outer s H vs Q E hr h => ?_)
  · obtain ⟨n, m, rfl, _⟩ := h
    rfl
  · obtain ⟨n, m, rfl, hn, hm, q⟩ := h
    have n5 : n ∈ ([0, 1, 2, 3, 4] : List Nat) := by simp; omega
    obtain ⟨ly0, lys, lyu, lyl⟩ := lay_facts n n5
    have e : (if (n : Int) < (m : Int) then (n : Int) else (m : Int)) = ((min m n : Nat) : Int) := by
      split <;> omega
    refine ⟨_, (pss_cons (ps_set (i := 2) sc_products_of.nd rfl (by first | exact Or.inl rfl | exact Or.inr rfl) (pe_lst (pa_cons (pe_tup pa_nil) pa_nil)))
      (pss_cons (ps_set (i := 3) sc_products_of.nd rfl (by first | exact Or.inl rfl | exact Or.inr rfl) (pe_lst (pa_cons (pe_tup pa_nil) pa_nil)))
      (pss_cons (ps_for PassesOwn.never rfl (pi_range1 rfl T.range (pa_cons (pe_callB (call_min2 rfl) (by rfl) T.min (by decide +kernel) (pa_cons (pv 1) (pa_cons (pv 0) pa_nil))) pa_nil)) (pg_name (i := 4) sc_products_of.nd rfl (by first | exact Or.inl rfl | exact Or.inr rfl))
      (pss_cons (ps_set (i := 5) sc_products_of.nd rfl (by first | exact Or.inl rfl | exact Or.inr rfl) (pe_lst pa_nil))
      (pss_cons (ps_for PassesOwn.never rfl (pi_list (pv 3)) (pg_name (i := 6) sc_products_of.nd rfl (by first | exact Or.inl rfl | exact Or.inr rfl))
      (pss_one (ps_expr (pe_bm PySem.F.plainAttrs_list PySem.F.slot_list_extend PySem.F.type_list_extend mt_extend (pv 5) (pa_cons (pe_lc (own := [("place", 7)]) (g := gName 7) (tt := tYes) rfl sc_products_of.nd (pi_range2 rfl T.range (pa_cons (pe_lo (pv 6)) (pa_cons (pv 0) pa_nil))) (blkOk_by (N := ["places", "most", "found", "last", "size", "wider", "product", "place"]) (sc := defScope (topS 43)) (by decide +kernel)) (fun _ _ _ _ _ => pg_name (i := 7) sc_products_of.nd rfl (by first | exact Or.inl rfl | exact Or.inr rfl)) (fun _ _ _ _ _ => pts_nil) (fun _ _ _ _ _ => (pe_op (op_catPB K (by rfl)) (pv 6) (pe_tup (pa_cons (pv 7) pa_nil))))) pa_nil)))))
      (pss_cons (ps_expr (pe_bm PySem.F.plainAttrs_list PySem.F.slot_list_extend PySem.F.type_list_extend mt_extend (pv 2) (pa_cons (pv 5) pa_nil)))
      (pss_one (ps_set (i := 3) sc_products_of.nd rfl (by first | exact Or.inl rfl | exact Or.inr rfl) (pv 5)))))))
      (pss_one (ps_ret (pv 2)))))), ?_⟩
    refine ⟨Nat.zero_le _, fun t1 ht1 => ⟨(by decide : 1 ≤ sizeLine), fun lf hlf => ?_⟩⟩
    refine ⟨Nat.zero_le _, fun t2 ht2 => ⟨(by decide : 1 ≤ sizeLine), fun ll hll => ?_⟩⟩
    have s1 := same_upd (o := .tup []) ht1
    have s2 := s1.trans (same_upd (o := .lst [.ref t1]) hlf)
    have s3 := s2.trans (same_upd (o := .tup []) ht2)
    have s4 := s3.trans (same_upd (o := .lst [.ref t2]) hll)
    have hlf0 : H lf = none := s1.free hlf
    have nll : lf ≠ ll := ne_of_none ((same_upd (o := .tup []) ht2) _ _ (upd_same (H := upd H t1 (.tup [])) (a := lf) (o := .lst [.ref t1]))) hll
    have pf : PrList K (upd (upd (upd (upd H t1 (.tup [])) lf (.lst [.ref t1])) t2 (.tup [])) ll (.lst [.ref t2])) lf [0] :=
      PrList.same ⟨[.ref t1], upd_same, one_empty ((same_upd (o := .lst [.ref t1]) hlf) _ _ upd_same)⟩ ((same_upd (o := .tup []) ht2).trans (same_upd (o := .lst [.ref t2]) hll))
    have pl : PrList K (upd (upd (upd (upd H t1 (.tup [])) lf (.lst [.ref t1])) t2 (.tup [])) ll (.lst [.ref t2])) ll [0] :=
      ⟨[.ref t2], upd_same, one_empty ((same_upd (o := .lst [.ref t2]) hll) _ _ upd_same)⟩
    refine ⟨_, rfl, _, rfl, _, _, rfl, _, rfl, ?_, ?_, ?_⟩
    · rw [e]; omega
    · rw [e]; omega
    have et : (if (n : Int) < (m : Int) then (n : Int) else (m : Int)).toNat = min m n := by rw [e]; omega
    refine for_range (lo := 0) (n := (if (n : Int) < (m : Int) then (n : Int) else (m : Int)).toNat) (fun i σ H1 => ∃ (la : Addr) (s4 s5 s6 : Option V), σ = [some (.int n), some (.int m), some (.ref lf), some (.ref la), s4, s5, s6, none] ∧ Same H H1 ∧ lf ≠ la ∧ PrList K H1 lf ((List.range (i + 1)).flatMap (lay n)) ∧ PrList K H1 la (lay n i))
      ⟨ll, none, none, none, rfl, s4, nll, by rw [show (List.range (0 + 1)).flatMap (lay n) = lay n 0 by simp, ly0]; exact pf, by rw [ly0]; exact pl⟩ ?_ ?_
    · rintro i σ H1 hi ⟨la, x4, x5, x6, rfl, sm, nla, ⟨fx, hf1, hf2⟩, ⟨lx, hl1, hl2⟩⟩
      rw [et] at hi
      obtain ⟨st, ln6⟩ := lys i (by simp; omega)
      refine ⟨Nat.zero_le _, fun lw hlw => ?_⟩
      have sw := same_upd (o := .lst []) hlw
      have hlw0 : H lw = none := sm.free hlw
      refine ⟨_, rfl, la, rfl, ⟨_, SqL.of (sw _ _ hl1)⟩, for_list (K := K) (a := la) (xs := lx) (fun j σ H2 => ∃ (s6 : Option V), σ = [some (.int n), some (.int m), some (.ref lf), some (.ref la), some (.int (0 + (i : Nat))), some (.ref lw), s6, none] ∧ Same H1 H2 ∧ PrList K H2 lw (((lay n i).take j).flatMap (nexts n)))
        ⟨_, rfl, sw, [], upd_same, by rw [List.take_zero]; exact rpl_nil⟩ (fun j σ H2 _ ⟨_, _, sm2, _⟩ => SqL.of (sm2 _ _ hl1)) ?_ ?_⟩
      · rintro j x σ H2 hj ⟨s6', rfl, sm2, ⟨wx, hw1, hw2⟩⟩
        obtain ⟨p, hp, rp⟩ := RpL.at_ (RpL.keep (Keep.of sm2) _ hl2) hj
        obtain ⟨b, rfl⟩ := rp_pref rp
        obtain ⟨lo1, lo2, lo3⟩ := lo_facts p
        refine ⟨_, rfl, .inl ⟨rfl, _, SqL.of hw1⟩, p, b, rfl, rp, fun H3 sm3 => ⟨_, rfl, _, _, rfl, ivl (by omega) (by omega) (by omega) (by omega), fun D hD => ?_⟩⟩
        have en : ((n : Int) - ((lo p : Nat) : Int)).toNat = n - lo p := by omega
        refine lc_range (fun c H4 => ∃ ys, Same H3 H4 ∧ H4 D = some (.lst ys) ∧ RpL K H4 (((nexts n p).take c).map pk) ys) ⟨[], same_upd hD, upd_same, by rw [List.take_zero]; exact rpl_nil⟩ (fun c H4 hc ⟨ys, sm4, hd1, hd2⟩ => ?_) (fun H4 ⟨ys, sm4, hd1, hd2⟩ => ?_)
        · rw [en] at hc
          have rp4 := (Keep.of (sm3.trans sm4)).rp rp
          obtain ⟨b2, e2, t4⟩ := rp_plc rp4
          cases e2
          refine ⟨rfl, _, rfl, _, rfl, (by decide : 1 ≤ sizeLine), fun t5 ht5 => cat_of (t4.keep (Keep.of (same_upd ht5))) (.inl upd_same) (by rw [List.length_map]; exact Nat.le_trans (show _ + 1 ≤ 4 + 1 from Nat.add_le_add_right (plc_len p) 1) (by decide)) fun H6 c6 sm6 hc6 => ?_⟩
          have s46 := (same_upd (o := .tup [.int (((lo p : Nat) : Int) + (c : Nat))]) ht5).trans sm6
          have hnx : (nexts n p)[c]? = some (addP p (lo p + c)) := by
            unfold nexts
            rw [List.getElem?_map, List.getElem?_range hc]
            rfl
          have hpl := add_facts p (lo p + c) (by simp; omega) (by omega)
          have hcl : c ≤ 4 := by omega
          have hyl : ys.length ≤ 4 := by
            have := hd2.length
            rw [List.length_map, List.length_take] at this
            omega
          have rnew : Rp K H6 (pk (addP p (lo p + c))) (.ref c6) := by
            rw [pk_plc, hpl]
            have e7 : ((plc p ++ [((lo p + c : Nat) : Int)]).map NestedKey.num) = (plc p ++ [((lo p + c : Nat) : Int)]).map NestedKey.num := rfl
            have e8 : (plc p).map V.int ++ [V.int (((lo p : Nat) : Int) + (c : Nat))] = (plc p ++ [((lo p + c : Nat) : Int)]).map V.int := by
              rw [List.map_append]
              congr 1
            rw [e8] at hc6
            exact rp_tup_iff.mpr ⟨c6, _, rfl, hc6, rpl_nums _⟩
          refine ⟨ys, s46 _ _ hd1, Nat.lt_of_le_of_lt hyl (by decide), ys ++ [.ref c6], SB.same (sm4.trans s46) SB.upd hD, upd_same, ?_⟩
          rw [List.take_add_one, hnx, List.map_append]
          have kk : Keep H6 (upd H6 D (.lst (ys ++ [V.ref c6]))) := Keep.wr (s46 _ _ hd1) fun _ z => by cases z
          exact RpL.app (RpL.keep ((Keep.of s46).trans kk) _ hd2) (rpl_cons (kk.rp rnew) rpl_nil)
        · rw [en, show n - lo p = (nexts n p).length by unfold nexts; rw [List.length_map, List.length_range], List.take_length] at hd2
          have s24 := sm3.trans sm4
          have nDw : D ≠ lw := fun z => by
            have := sm3 _ _ hw1
            rw [← z, hD] at this
            cases this
          have hyl : ys.length ≤ 4 := by
            have := hd2.length
            unfold nexts at this
            rw [List.length_map, List.length_map, List.length_range] at this
            omega
          have hj6 : j < 6 := by
            have h1 := (List.getElem?_eq_some_iff.mp hp).1
            omega
          have hwl : wx.length ≤ 16 := by
            have h1 := hw2.length
            have h2 := lyl (i + 2) (by simp; omega)
            rw [List.length_map] at h1
            rw [← h1]
            refine Nat.le_trans ?_ h2
            rw [List.range_succ, List.flatMap_append, List.length_append]
            refine Nat.le_trans ?_ (Nat.le_add_left _ _)
            rw [show ([i + 1] : List Nat).flatMap (lay n) = lay n (i + 1) by simp, st]
            rw [← List.take_append_drop j (lay n i), List.flatMap_append, List.length_append, List.take_append_drop]
            exact Nat.le_add_right _ _
          refine ⟨lw, D, wx, ys, rfl, rfl, s24 _ _ hw1, hd1, Nat.le_trans (by omega : _ ≤ 20) (by decide), _, rfl, SB.same (sm2.trans s24) SB.upd hlw, wx ++ ys, upd_same, ?_⟩
          have kk : Keep H4 (upd H4 lw (.lst (wx ++ ys))) := Keep.wr (s24 _ _ hw1) fun _ z => by cases z
          rw [List.take_add_one, hp, List.flatMap_append, List.map_append]
          refine RpL.app (RpL.keep ((Keep.of s24).trans kk) _ hw2) ?_
          rw [show (some p).toList.flatMap (nexts n) = nexts n p by simp]
          exact RpL.keep kk _ hd2
      · rintro σ H2 ⟨s6', rfl, sm2, ⟨wx, hw1, hw2⟩⟩
        have hlen : (lay n i).length = lx.length := by
          have := hl2.length
          rw [List.length_map] at this
          exact this
        rw [← hlen, List.take_length, ← st] at hw2
        have nwf : lf ≠ lw := ne_of_none hf1 hlw
        have hfl : fx.length ≤ 16 := by
          have h1 := hf2.length
          rw [List.length_map] at h1
          rw [← h1]
          exact lyl (i + 1) (by simp; omega)
        have hwl : wx.length ≤ 6 := by
          have h1 := hw2.length
          rw [List.length_map] at h1
          rw [← h1]
          exact (lys (i + 1) (by simp; omega)).2
        have kk : Keep H2 (upd H2 lf (.lst (fx ++ wx))) := Keep.wr (sm2 _ _ hf1) fun _ z => by cases z
        refine ⟨_, rfl, .inl ⟨rfl, _, SqL.of (sm2 _ _ hf1)⟩, _, rfl, lf, lw, fx, wx, rfl, rfl, sm2 _ _ hf1, hw1, Nat.le_trans (by omega : _ ≤ 22) (by decide), ?_⟩
        refine ⟨_, rfl, lw, _, _, _, rfl, SB.same (sm.trans sm2) SB.upd hlf0, nwf, ⟨fx ++ wx, upd_same, ?_⟩, ⟨wx, by rw [upd_ne nwf.symm]; exact hw1, RpL.keep kk _ hw2⟩⟩
        rw [List.range_succ, List.flatMap_append, List.map_append]
        refine RpL.app (RpL.keep ((Keep.of sm2).trans kk) _ hf2) ?_
        rw [show ([i + 1] : List Nat).flatMap (lay n) = lay n (i + 1) by simp]
        exact RpL.keep kk _ hw2
    · rintro σ H1 ⟨la, x4, x5, x6, rfl, sm, nla, pf1, pl1⟩
      rw [et, ← lyu m (by simp; omega)] at pf1
      exact ⟨_, rfl, q H1 lf sm hlf0 pf1⟩
end
end FsR
end
section
/-! Telling: pairs_of, look_at_many. -/
set_option Elab.async false
set_option linter.all false
set_option maxRecDepth 100000
namespace FsR
open PySem PySem.Spec PyProof.Rows L2 LamX Fs
section
variable {F : Type} [Num F]
/-- the pairs of the i-th wish -/
def prAt (ws : List (Row F)) (n d : Nat) (i : Nat) : List Mk := match ws[i]? with
  | some f => if degR f ≤ d then (univ n (d - degR f)).map fun q => (Fin.ofNat 4 i, q) else []
  | none => []
def pairsOf (ws : List (Row F)) (n d m : Nat) : List Mk := (List.range m).flatMap (prAt ws n d)
/-- a list of marks -/
def MkList (K : PySem.W.Frag) (H : Hp) (a : Addr) (us : List Mk) : Prop := ∃ xs, H a = some (.lst xs) ∧ RpL K H (us.map mkk) xs
theorem MkList.same {K : PySem.W.Frag} {H H' : Hp} {a : Addr} {us : List Mk} (h : MkList K H a us) (s : Same H H') : MkList K H' a us := by
  obtain ⟨xs, h1, h2⟩ := h
  exact ⟨xs, s _ _ h1, RpL.keep (Keep.of s) _ h2⟩
theorem pairs_len (ws : List (Row F)) (n d m : Nat) : (pairsOf ws n d m).length ≤ 16 * m := by
  unfold pairsOf
  induction m with
  | zero => simp
  | succ m ih =>
    rw [List.range_succ, List.flatMap_append, List.length_append]
    have : (([m] : List Nat).flatMap (prAt ws n d)).length ≤ 16 := by
      rw [show ([m] : List Nat).flatMap (prAt ws n d) = prAt ws n d m by simp]
      unfold prAt
      split
      · split
        · rw [List.length_map]
          unfold univ
          exact Nat.le_trans (List.length_filter_le _ _) (by decide)
        · exact Nat.zero_le _
      · exact Nat.zero_le _
    omega
end
section
variable {P : Program} {w : World} {K : PySem.W.Frag} {mg : Str → Option Value} {base : Heap} {A : Ad} {F : Type} [Num F]
theorem sc_pairs_of : FnScope ["system", "degree", "found", "number", "wish", "product"] ["system", "degree"] (defScope (topS 47)) := ⟨rfl, rfl, rfl, by decide +kernel, rfl, by decide +kernel, by decide +kernel⟩
def spPairs (K : PySem.W.Frag) (A : Ad) (F : Type) [Num F] : Sp := fun vs H Q _ => ∃ (a : Addr) (n d : Nat) (ws : List (Row F)), vs = [.ref a, .int d] ∧ SysAt K A H a n ws ∧ n ≤ 4 ∧ ws.length ≤ 4 ∧ d ≤ 4 ∧ ∀ H' l, Same H H' → H l = none → MkList K H' l (pairsOf ws n d ws.length) → Q (.ref l) H'
theorem c_pairs_of (T : Txt K mg A) : Cal P w K mg base CX0 2 "pairs_of" ["system", "degree"] [] (spPairs K A F) := by
  refine cal_mk T.g_pairs_of (fun _ _ _ _ _ _ us hl => match us, hl with | [_, _], _ => rfl) sc_pairs_of (fun vs H Q E h => ?_) (fun f cdv Ar outer s H vs Q E hr h => ?_)
  · obtain ⟨a, n, d, ws, rfl, _⟩ := h
    rfl
  · obtain ⟨a, n, d, ws, rfl, hY, hn, hw, hd, q⟩ := h
    obtain ⟨dx, fa, l1, l2, hy, hF, ⟨xs, e1, e2, e3⟩, _⟩ := id hY
    refine ⟨_, (pss_cons (ps_set (i := 2) sc_pairs_of.nd rfl (by first | exact Or.inl rfl | exact Or.inr rfl) (pe_lst pa_nil))
      (pss_cons (ps_for PassesOwn.never rfl (pi_enum rfl T.enumerate (pa_cons (pcm0 (c_System_noughts T) T.clY (hr.mono (by decide)) (pv 0)) pa_nil)) ((pg_tup rfl (pgs_cons (pg_name (i := 3) sc_pairs_of.nd rfl (by first | exact Or.inl rfl | exact Or.inr rfl)) (pgs_cons (pg_name (i := 4) sc_pairs_of.nd rfl (by first | exact Or.inl rfl | exact Or.inr rfl)) pgs_nil))))
      (pss_one (ps_if (pt_cmpR op_le (pcm0 (c_Sum_degree (F := F) T) T.clS (hr.mono (by decide)) (pv 4)) (pv 1) (nomark _)) (pss_one (ps_expr (pe_bm PySem.F.plainAttrs_list PySem.F.slot_list_extend PySem.F.type_list_extend mt_extend (pv 2) (pa_cons (pe_lc (own := [("product", 5)]) (g := gName 5) (tt := tYes) rfl sc_pairs_of.nd (pi_list (pc (c_products_of T) (hr.mono (by decide)) (pa_cons (pcm0 (c_System_places (F := F) T) T.clY (hr.mono (by decide)) (pv 0)) (pa_cons (pe_op op_sub (pv 1) (pcm0 (c_Sum_degree (F := F) T) T.clS (hr.mono (by decide)) (pv 4))) pa_nil)))) (blkOk_by (N := ["system", "degree", "found", "number", "wish", "product"]) (sc := defScope (topS 47)) (by decide +kernel)) (fun _ _ _ _ _ => pg_name (i := 5) sc_pairs_of.nd rfl (by first | exact Or.inl rfl | exact Or.inr rfl)) (fun _ _ _ _ _ => pts_nil) (fun _ _ _ _ _ => (pe_tup (pa_cons (pv 3) (pa_cons (pv 5) pa_nil))))) pa_nil))))
      pss_nil)))
      (pss_one (ps_ret (pv 2))))), ?_⟩
    refine ⟨Nat.zero_le _, fun lf hlf => ?_⟩
    have s1 := same_upd (o := .lst []) hlf
    refine ⟨_, rfl, a, dx, _, rfl, s1 _ _ hy, rfl, a, dx, fa, l1, l2, n, xs, rfl, s1 _ _ hy, s1 _ _ e1, fun H1 ln sm1 hln f1 => ?_⟩
    have s2 := s1.trans sm1
    have hln0 : H ln = none := s1.free hln
    have nfn : lf ≠ ln := ne_of_none (upd_same (H := H) (a := lf) (o := .lst [])) hln
    refine ⟨ln, _, rfl, SqL.of f1, for_it walk_enum (fun i σ H2 => ∃ s3 s4, σ = [some (.ref a), some (.int d), some (.ref lf), s3, s4, none] ∧ Same H H2 ∧ H2 ln = some (.lst (xs.map V.ref)) ∧ MkList K H2 lf (pairsOf ws n d i))
      ⟨_, _, rfl, s2, f1, [], sm1 _ _ upd_same, rpl_nil⟩ (fun i σ H2 _ ⟨_, _, _, _, h, _⟩ => SqL.of h) ?_ ?_⟩
    · rintro i x σ H2 H3 hi ⟨s3, s4, rfl, sm2, hln2, ⟨fx, hf1, hf2⟩⟩ ⟨T0, x0, y0, rfl, hT, rfl, hx, hy0⟩
      obtain ⟨s0, f0, rfl, g1, g2, hS⟩ := SmList.at_ e2 e3 hy0
      obtain rfl : x0 = .int (i : Nat) := (Option.some.inj hx).symm
      have sT := same_upd (o := .tup [.int (i : Nat), .ref s0]) hT
      have s3' := sm2.trans sT
      have hi4 : i < 4 := by
        have := (List.getElem?_eq_some_iff.mp g2).1
        omega
      have epr : pairsOf ws n d (i + 1) = pairsOf ws n d i ++ prAt ws n d i := by
        unfold pairsOf
        rw [List.range_succ, List.flatMap_append]
        simp
      obtain ⟨dxs, _, _, hs0, _⟩ := id hS
      refine ⟨T0, _, rfl, SqT.of upd_same, rfl, _, _, rfl, _, _, rfl, rfl, ?_⟩
      refine ⟨_, rfl, s0, dxs, _, rfl, s3' _ _ hs0, rfl, s0, f0, rfl, hS.same s3', fun H4 sm4 => ⟨_, rfl, _, _, rfl, rfl, _, rfl, it2 (fun hle => ?_) (fun hle => ?_)⟩⟩
      · have hle' : degR f0 ≤ d := by omega
        have s4' := s3'.trans sm4
        have s24 := sT.trans sm4
        have epr2 : prAt ws n d i = (univ n (d - degR f0)).map fun q => (Fin.ofNat 4 i, q) := by
          unfold prAt
          rw [g2]
          exact if_pos hle'
        refine ⟨_, rfl, .inl ⟨rfl, _, SqL.of (s24 _ _ hf1)⟩, _, rfl, a, dx, _, rfl, s4' _ _ hy, rfl, a, n, ws, rfl, hY.same s4', _, rfl, _, rfl, s0, dxs, _, rfl, s4' _ _ hs0, rfl, s0, f0, rfl, hS.same s4', fun H5 sm5 => ⟨_, _, rfl, rfl, n, d - degR f0, ?_, hn, by omega, fun H6 lp sm6 hlp ⟨px, hp1, hp2⟩ => ?_⟩⟩
        · have : ((d : Int) - ((degR f0 : Nat) : Int)) = ((d - degR f0 : Nat) : Int) := by omega
          show [V.int n, V.int ((d : Int) - ((degR f0 : Nat) : Int))] = _
          rw [this]
        have s46 := sm5.trans sm6
        have s26 := s24.trans s46
        have s6 := s4'.trans s46
        refine ⟨lp, rfl, ⟨_, SqL.of hp1⟩, fun D hD => ?_⟩
        have hpl : px.length ≤ 16 := by
          have h1 := hp2.length
          rw [List.length_map] at h1
          rw [← h1]
          unfold univ
          exact Nat.le_trans (List.length_filter_le _ _) (by decide)
        refine lc_list (K := K) (a := lp) (xs := px) (fun j H7 => ∃ ys, Same H6 H7 ∧ H7 D = some (.lst ys) ∧ RpL K H7 ((((univ n (d - degR f0)).take j).map fun q => ((Fin.ofNat 4 i : Fin 4), q)).map mkk) ys) ⟨[], same_upd hD, upd_same, by rw [List.take_zero]; exact rpl_nil⟩ (fun j H7 _ ⟨_, sm7, _⟩ => SqL.of (sm7 _ _ hp1)) (fun j x H7 hj ⟨ys, sm7, hd1, hd2⟩ => ?_) (fun H7 ⟨ys, sm7, hd1, hd2⟩ => ?_)
        · obtain ⟨p, hp, rp⟩ := RpL.at_ hp2 hj
          have hyl : ys.length ≤ 16 := by
            have h1 := hd2.length
            rw [List.length_map, List.length_map, List.length_take] at h1
            have h2 : (univ n (d - degR f0)).length ≤ 16 := Nat.le_trans (List.length_filter_le _ _) (by decide)
            omega
          refine ⟨rfl, _, rfl, _, rfl, (by decide : 2 ≤ sizeLine), fun t ht => ⟨ys, (same_upd ht) _ _ hd1, Nat.lt_of_le_of_lt hyl (by decide), ys ++ [.ref t], SB.same (sm7.trans (same_upd ht)) SB.upd hD, upd_same, ?_⟩⟩
          have kk : Keep (upd H7 t (.tup [.int (i : Nat), x])) (upd (upd H7 t (.tup [.int (i : Nat), x])) D (.lst (ys ++ [V.ref t]))) := Keep.wr ((same_upd ht) _ _ hd1) fun _ z => by cases z
          have k7 := (Keep.of (same_upd (o := .tup [.int (i : Nat), x]) ht)).trans kk
          rw [List.take_add_one, hp, List.map_append, List.map_append]
          refine RpL.app (RpL.keep k7 _ hd2) (rpl_cons (rp_tup_iff.mpr ⟨t, _, rfl, Tp.keep (.inl upd_same) kk, rpl_cons ?_ (rpl_cons ((Keep.of sm7 |>.trans k7).rp rp) rpl_nil)⟩) rpl_nil)
          have : ((Fin.ofNat 4 i).val : Int) = ((i : Nat) : Int) := by
            show (((i % 4 : Nat)) : Int) = _
            omega
          rw [this]
          exact rp_num _
        · have hlen : (univ n (d - degR f0)).length = px.length := by
            have := hp2.length
            rw [List.length_map] at this
            exact this
          rw [← hlen, List.take_length] at hd2
          have s27 := s26.trans sm7
          have nDf : D ≠ lf := fun z => by
            have := s26 _ _ hf1
            rw [← z, hD] at this
            cases this
          have hfl : fx.length ≤ 64 := by
            have h1 := hf2.length
            rw [List.length_map] at h1
            have := pairs_len ws n d i
            omega
          have hyl : ys.length ≤ 16 := by
            have h1 := hd2.length
            rw [List.length_map, List.length_map] at h1
            omega
          refine ⟨lf, D, fx, ys, rfl, rfl, s27 _ _ hf1, hd1, Nat.le_trans (by omega : _ ≤ 80) (by decide), _, _, rfl, SB.same (s6.trans sm7) SB.upd hlf, by rw [upd_ne nfn.symm]; exact s27 _ _ hln2, fx ++ ys, upd_same, ?_⟩
          have kk : Keep H7 (upd H7 lf (.lst (fx ++ ys))) := Keep.wr (s27 _ _ hf1) fun _ z => by cases z
          rw [epr, epr2, List.map_append]
          exact RpL.app (RpL.keep ((Keep.of s27).trans kk) _ hf2) (RpL.keep kk _ hd2)
      · have hle' : ¬ degR f0 ≤ d := by omega
        have epr2 : prAt ws n d i = [] := by
          unfold prAt
          rw [g2]
          exact if_neg hle'
        have s24 := sT.trans sm4
        exact ⟨_, _, rfl, s3'.trans sm4, s24 _ _ hln2, fx, s24 _ _ hf1, by rw [epr, epr2, List.append_nil]; exact RpL.keep (Keep.of s24) _ hf2⟩
    · rintro σ H2 ⟨s3, s4, rfl, sm2, hln2, pf⟩
      rw [List.length_map, e2] at pf
      exact ⟨_, rfl, q H2 lf sm2 hlf pf⟩
end
end FsR
end
section
/-! Telling: look_at_many, beside. -/
set_option Elab.async false
set_option linter.all false
set_option maxRecDepth 100000
namespace FsR
open PySem PySem.Spec PyProof.Rows L2 LamX Fs
section
variable {P : Program} {w : World} {K : PySem.W.Frag} {mg : Str → Option Value} {base : Heap} {A : Ad} {F : Type} [Num F]
theorem sc_look_at_many : FnScope ["system", "degree", "pairs", "wish"] ["system", "degree"] (defScope (topS 48)) := ⟨rfl, rfl, rfl, by decide +kernel, rfl, by decide +kernel, by decide +kernel⟩
def spLookM (K : PySem.W.Frag) (A : Ad) (F : Type) [Num F] : Sp := fun vs H Q _ => ∃ (a : Addr) (n d : Nat) (ws : List (Row F)), vs = [.ref a, .int d] ∧ SysAt K A H a n ws ∧ n ≤ 4 ∧ ws.length ≤ 4 ∧ d ≤ 4 ∧ ∀ H', Same H H' → Q .non H'
theorem c_look_at_many (T : Txt K mg A) : Cal P w K mg base CX0 2 "look_at_many" ["system", "degree"] [] (spLookM K A F) := by
  refine cal_mk T.g_look_at_many (fun _ _ _ _ _ _ us hl => match us, hl with | [_, _], _ => rfl) sc_look_at_many (fun vs H Q E h => ?_) (fun f cdv Ar outer s H vs Q E hr h => ?_)
  · obtain ⟨a, n, d, ws, rfl, _⟩ := h
    rfl
  · obtain ⟨a, n, d, ws, rfl, hY, hn, hw, hd, q⟩ := h
    obtain ⟨dx, fa, l1, l2, hy, hF, ⟨xs, e1, e2, e3⟩, _⟩ := id hY
    refine ⟨_, (pss_cons (ps_if (pt_cmpR op_gt (pc (c_products_many T) (hr.mono (by decide)) (pa_cons (pcm0 (c_System_places (F := F) T) T.clY (hr.mono (by decide)) (pv 0)) (pa_cons (pv 1) pa_nil))) (pe_const T.MOST_PRODUCTS) (nomark _)) (pss_one ps_never)
      pss_nil)
      (pss_cons (ps_set (i := 2) sc_look_at_many.nd rfl (by first | exact Or.inl rfl | exact Or.inr rfl) pe_int)
      (pss_cons (ps_for PassesOwn.never rfl (pi_list (pcm0 (c_System_noughts T) T.clY (hr.mono (by decide)) (pv 0))) (pg_name (i := 3) sc_look_at_many.nd rfl (by first | exact Or.inl rfl | exact Or.inr rfl))
      (pss_one (ps_if (pt_cmpR op_le (pcm0 (c_Sum_degree (F := F) T) T.clS (hr.mono (by decide)) (pv 3)) (pv 1) (nomark _)) (pss_one (ps_aug (i := 2) sc_look_at_many.nd rfl (by first | exact Or.inl rfl | exact Or.inr rfl) (pc (c_products_many T) (hr.mono (by decide)) (pa_cons (pcm0 (c_System_places (F := F) T) T.clY (hr.mono (by decide)) (pv 0)) (pa_cons (pe_op op_sub (pv 1) (pcm0 (c_Sum_degree (F := F) T) T.clS (hr.mono (by decide)) (pv 3))) pa_nil))) ip_add))
      pss_nil)))
      (pss_one (ps_if (pt_cmpR op_gt (pv 2) (pe_const T.MOST_PAIRS) (nomark _)) (pss_one ps_never)
      pss_nil))))), ?_⟩
    refine ⟨_, rfl, a, dx, _, rfl, hy, rfl, a, n, ws, rfl, hY, _, rfl, n, d, rfl, hn, hd, fun v hv => ⟨_, _, rfl, rfl, _, rfl, itF (by omega) ?_⟩⟩
    refine ⟨_, rfl, a, dx, _, rfl, hy, rfl, a, dx, fa, l1, l2, n, xs, rfl, hy, e1, fun H1 ln sm1 hln f1 => ?_⟩
    refine ⟨ln, rfl, ⟨_, SqL.of f1⟩, for_list (K := K) (a := ln) (xs := xs.map V.ref) (fun i σ H2 => ∃ (c : Nat) (s3 : Option V), σ = [some (.ref a), some (.int d), some (.int c), s3] ∧ Same H H2 ∧ H2 ln = some (.lst (xs.map V.ref)) ∧ c ≤ 16 * i) ⟨0, none, rfl, sm1, f1, Nat.le_refl _⟩ (fun i σ H2 _ ⟨_, _, _, _, h, _⟩ => SqL.of h) ?_ ?_⟩
    · rintro i x σ H2 hi ⟨c, s3, rfl, sm2, hl2, hc⟩
      obtain ⟨s0, f0, rfl, g1, g2, hS⟩ := SmList.at_ e2 e3 hi
      obtain ⟨dxs, _, _, hs0, _⟩ := id hS
      refine ⟨_, rfl, s0, dxs, _, rfl, sm2 _ _ hs0, rfl, s0, f0, rfl, hS.same sm2, fun H3 sm3 => ⟨_, rfl, _, _, rfl, rfl, _, rfl, it2 (fun hle => ?_) (fun hle => ?_)⟩⟩
      · have s3' := sm2.trans sm3
        have hle' : degR f0 ≤ d := by omega
        refine ⟨_, rfl, _, rfl, a, dx, _, rfl, s3' _ _ hy, rfl, a, n, ws, rfl, hY.same s3', _, rfl, _, rfl, s0, dxs, _, rfl, s3' _ _ hs0, rfl, s0, f0, rfl, hS.same s3', fun H4 sm4 => ⟨_, _, rfl, rfl, n, d - degR f0, ?_, hn, by omega, fun v2 hv2 => ⟨_, _, rfl, rfl, ?_⟩⟩⟩
        · have : ((d : Int) - ((degR f0 : Nat) : Int)) = ((d - degR f0 : Nat) : Int) := by omega
          show [V.int n, V.int ((d : Int) - ((degR f0 : Nat) : Int))] = _
          rw [this]
        · refine ⟨c + v2, some (.ref s0), ?_, s3'.trans sm4, sm4 _ _ (sm3 _ _ hl2), by omega⟩
          show ([some (V.ref a), some (V.int d), some (V.int ((c : Nat) + (v2 : Nat))), some (V.ref s0)] : L2.St) = _
          rw [Int.natCast_add]
      · exact ⟨c, _, rfl, sm2.trans sm3, sm3 _ _ hl2, by omega⟩
    · rintro σ H2 ⟨c, s3, rfl, sm2, hl2, hc⟩
      rw [List.length_map] at hc
      exact ⟨_, rfl, _, _, rfl, rfl, _, rfl, itF (by omega) (q H2 sm2)⟩
/-! ### beside -/
/-- a wish's row beside a product -/
def besT (f : Row F) (q : Pr) : List (Pr × F) := (canon f).map fun t => (jn t.1 q, t.2)
def besR (f : Row F) (q : Pr) : Row F := gsum (besT f q)
theorem sc_beside : FnScope ["wish", "product", "field", "found", "own", "number", "key"] ["wish", "product"] (defScope (topS 49)) := ⟨rfl, rfl, rfl, by decide +kernel, rfl, by decide +kernel, by decide +kernel⟩
def spBeside (K : PySem.W.Frag) (w : World) (A : Ad) (F : Type) [Num F] : Sp := fun vs H Q _ => ∃ (a : Addr) (f : Row F) (q : Pr) (qv : V), vs = [.ref a, qv] ∧ SumAt K A H a f ∧ Rp K H (pk q) qv ∧ (∀ k, NSz (f k)) ∧ (∀ i k, NSz (gsum ((besT f q).take i) k)) ∧ ∀ H' d, Same H H' → H d = none → DG K w H' d pk (supp (besR f q)) → Q (.ref d) H'
theorem pairs_snoc {H H' : Hp} {ts : List Addr} {ys : List Ent} {t : Addr} {y : Ent} (h : PairsOf K H ts ys) (k : Keep H H') (t1 : Tp K H' t [.ref y.2.1, .ref y.2.2]) : PairsOf K H' (ts ++ [t]) (ys ++ [y]) := by
  obtain ⟨h1, h2⟩ := h
  refine ⟨by rw [List.length_append, List.length_append, h1]; rfl, fun i z hz => ?_⟩
  rcases Nat.lt_or_ge i ys.length with q | q
  · rw [List.getElem?_append_left q] at hz
    obtain ⟨t2, e1, e2⟩ := h2 i z hz
    exact ⟨t2, by rw [List.getElem?_append_left (by omega)]; exact e1, e2.keep k⟩
  · rw [List.getElem?_append_right q] at hz
    have hi : i - ys.length = 0 := by
      have := (List.getElem?_eq_some_iff.mp hz).1
      rw [List.length_singleton] at this
      omega
    rw [hi] at hz
    have : y = z := by simpa using hz
    subst this
    exact ⟨t, by rw [List.getElem?_append_right (by omega), h1, hi]; rfl, t1⟩
theorem enc_fst (x : F) : (Num.enc x).1 = 0 ↔ x = 0 := ⟨enc_fst_zero x, fun h => by rw [h, Num.enc_zero]⟩
theorem zero_rp {H : Hp} {v : V} (h : rpN K H (mkN (Num.p F) 0 1) v) : Rp K H (nk (0 : F)) v := by
  refine rpN_nk ?_ h
  have e := enc_form (0 : F)
  rw [Num.enc_zero] at e
  rw [Num.enc_zero]
  exact e
theorem c_beside (T : Txt K mg A) : Cal P w K mg base CX0 4 "beside" ["wish", "product"] [] (spBeside K w A F) := by
  refine cal_mk T.g_beside (fun _ _ _ _ _ _ us hl => match us, hl with | [_, _], _ => rfl) sc_beside (fun vs H Q E h => ?_) (fun f cdv Ar outer s H vs Q E hr h => ?_)
  · obtain ⟨a, f, q, qv, rfl, _⟩ := h
    rfl
  · obtain ⟨a, f0, p0, qv, rfl, hS, hq, sz, szs, q⟩ := h
    obtain ⟨dx, fb, la, hs0, hFb, _⟩ := id hS
    refine ⟨_, (pss_cons (ps_set (i := 2) sc_beside.nd rfl (by first | exact Or.inl rfl | exact Or.inr rfl) (pcm0 (c_Sum_field (F := F) T) T.clS (hr.mono (by decide)) (pv 0)))
      (pss_cons (ps_set (i := 3) sc_beside.nd rfl (by first | exact Or.inl rfl | exact Or.inr rfl) pe_dic0)
      (pss_cons (ps_for PassesOwn.never rfl (pi_list (pcm0 (c_Sum_terms (F := F) T) T.clS (hr.mono (by decide)) (pv 0))) ((pg_tup rfl (pgs_cons (pg_name (i := 4) sc_beside.nd rfl (by first | exact Or.inl rfl | exact Or.inr rfl)) (pgs_cons (pg_name (i := 5) sc_beside.nd rfl (by first | exact Or.inl rfl | exact Or.inr rfl)) pgs_nil))))
      (pss_cons (ps_set (i := 6) sc_beside.nd rfl (by first | exact Or.inl rfl | exact Or.inr rfl) (pc (c_joined_product T) (hr.mono (by decide)) (pa_cons (pv 4) (pa_cons (pv 1) pa_nil))))
      (pss_one (ps_asg (pcm (c_Field_plus (F := F) T) T.clF (hr.mono (by decide)) (pv 2) (pa_cons (pe_dm PySem.F.slot_dict_setdefault PySem.F.type_dict_setdefault (mt_setdP hr.units) (pv 3) (pa_cons (pv 6) (pa_cons (pcm (c_Field_made1 T) T.clF (hr.mono (by decide)) (pv 2) (pa_cons pe_int pa_nil)) pa_nil))) (pa_cons (pv 5) pa_nil))) (pg_sub (pv 3) (pv 6) (pset_dicP hr.units))))))
      (pss_one (ps_ret (pe_callTy (call_dictPairsDO hr.units rfl) (by rfl) T.dict (by decide +kernel) (pa_cons (pe_lc (own := [("key", 6), ("number", 5)]) rfl sc_beside.nd (pi_itD (pv 3)) (blkOk_by (N := ["wish", "product", "field", "found", "own", "number", "key"]) (sc := defScope (topS 49)) (by decide +kernel)) (fun _ _ _ _ _ => (pg_tupB (n := 2) K (by rfl) rfl (pgs_cons (pg_name (i := 6) sc_beside.nd rfl (by first | exact Or.inl rfl | exact Or.inr rfl)) (pgs_cons (pg_name (i := 5) sc_beside.nd rfl (by first | exact Or.inl rfl | exact Or.inr rfl)) pgs_nil)))) (fun _ _ _ _ _ => pts_one (pt_cmpR op_ne (pe_ix (ix_tupB K (by rfl)) (pv 5) pe_int (fun _ _ => rfl)) pe_int (nomark _))) (fun _ _ _ _ _ => (pe_tup (pa_cons (pv 6) (pa_cons (pv 5) pa_nil))))) pa_nil))))))), ?_⟩
    refine ⟨_, rfl, a, dx, _, rfl, hs0, rfl, a, f0, rfl, hS, fun fa hF => ?_⟩
    refine (fun d hd => ?_)
    have sd := same_upd (o := dO w d [] 0) hd
    refine ⟨_, rfl, a, dx, _, rfl, sd _ _ hs0, rfl, a, f0, rfl, hS.same sd, fun H1 lt sm1 hlt ⟨xs, h1, h2⟩ => ?_⟩
    have hlen : (canon f0).length = xs.length := by
      have := h2.length
      rw [List.length_map] at this
      exact this
    have hlt0 : H lt = none := sd.free hlt
    have ndl : d ≠ lt := ne_of_none (upd_same (H := H) (a := d) (o := dO w d [] 0)) hlt
    refine ⟨lt, rfl, ⟨_, SqL.of h1⟩, for_list (K := K) (a := lt) (xs := xs) (fun i σ H2 => ∃ (s4 s5 s6 : Option V) (fs : List Ent) (ep : Nat), σ = [some (.ref a), some qv, some (.ref fa), some (.ref d), s4, s5, s6] ∧ Same H H2 ∧ H2 lt = some (.lst xs) ∧ Keep H1 H2 ∧ H2 d = some (dO w d fs ep) ∧ EG K H2 pk (nv K H2) (gathAt ((besT f0 p0).take i)) fs)
      ⟨none, none, none, [], 0, rfl, sd.trans sm1, h1, Keep.refl _, sm1 _ _ upd_same, EG.nil.congr fun k => by rw [List.take_zero]; rfl⟩ (fun i σ H2 _ ⟨_, _, _, _, _, _, _, h, _⟩ => SqL.of h) ?_ ?_⟩
    · rintro i x σ H2 hi ⟨s4, s5, s6, fs, ep, rfl, sm, hl2, kp, hd1, hd2⟩
      obtain ⟨t, ht, rt⟩ := RpL.at_ h2 hi
      have ht2 : (besT f0 p0)[i]? = some (jn t.1 p0, t.2) := by
        unfold besT
        rw [List.getElem?_map, ht]
        rfl
      obtain ⟨c, u, v, rfl, t1, r1, r2⟩ := rp_term (kp.rp rt)
      obtain ⟨_, et2⟩ := canon_mem (List.mem_of_getElem? ht)
      refine ⟨c, _, rfl, t1.sq, rfl, _, _, rfl, _, _, rfl, rfl, ?_⟩
      refine ⟨_, rfl, _, rfl, t.1, p0, _, _, rfl, r1, (Keep.of sm).rp hq, fun H3 kv sm3 rk => ?_⟩
      obtain ⟨kb, rfl⟩ := rp_pref rk
      have s3 := sm.trans sm3
      have hd3 := sm3 _ _ hd1
      have eg3 := hd2.keep (Keep.of sm3) (nv.keep (Keep.of sm3))
      refine ⟨_, rfl, fa, _, _, rfl, s3 _ _ hF.2.choose_spec, rfl, _, rfl, ⟨d, fs, ep, rfl, hd3⟩, _, rfl, _, rfl, fa, _, _, rfl, s3 _ _ hF.2.choose_spec, rfl, fa, _, 0, 1, rfl, hF.same s3, one_ok, Sz.small (n := 3992) (by decide), sz_one, fun H4 zv sm4 rz => ?_⟩
      obtain ⟨zc, rfl⟩ := rp_ref (zero_rp (F := F) rz)
      have hd4 := sm4 _ _ hd3
      have eg4 := eg3.keep (Keep.of sm4) (nv.keep (Keep.of sm4))
      refine setd_of emb_pk hd4 eg4 ((Keep.of sm4).rp rk) (zero_rp (F := F) rz) fun u5 H5 fs5 ep5 sb5 h5 ru eg5 => ?_
      have hg : (gathAt ((besT f0 p0).take i) (jn t.1 p0)).getD 0 = gsum ((besT f0 p0).take i) (jn t.1 p0) := by
        unfold gathAt
        by_cases z : jn t.1 p0 ∈ ((besT f0 p0).take i).map (·.1)
        · rw [if_pos z]; rfl
        · rw [if_neg z, gsum_out z]; rfl
      rw [hg] at ru eg5
      have s5' : Same H H5 := SB.same (s3.trans sm4) sb5 hd
      have kb5 := sb5.keep hd4
      have k25 := ((Keep.of sm3).trans (Keep.of sm4)).trans kb5
      refine ⟨_, rfl, fa, gsum ((besT f0 p0).take i) (jn t.1 p0), t.2, _, _, rfl, hF.same s5', ru, k25.rp r2, szs i _, by rw [et2]; exact sz _, True.intro, fun H6 v6 sm6 r6 => ?_⟩
      obtain ⟨c6, rfl⟩ := rp_ref r6
      have k36 := ((Keep.of sm4).trans kb5).trans (Keep.of sm6)
      refine ⟨_, rfl, _, rfl, putd_of emb_pk (sm6 _ _ h5) (eg5.keep (Keep.of sm6) (nv.keep (Keep.of sm6))) (k36.rp rk) r6 fun H7 fs7 ep7 sb7 h7 eg7 => ?_⟩
      have kb7 := sb7.keep (sm6 _ _ h5)
      refine ⟨_, _, _, fs7, ep7, rfl, SB.same (s5'.trans sm6) sb7 hd, sb7 _ _ ndl.symm (sm6 _ _ (sb5 _ _ ndl.symm (sm4 _ _ (sm3 _ _ hl2)))), kp.trans ((k25.trans (Keep.of sm6)).trans kb7), h7, eg7.congr fun k => ?_⟩
      rw [gathAt_snoc ht2 k]
      by_cases e : k = jn t.1 p0
      · rw [if_pos e, if_pos e]
      · rw [if_neg e, if_neg e, if_neg e]
    · rintro σ H2 ⟨s4, s5, s6, fs, ep, rfl, sm, hl2, kp, hd1, hd2⟩
      have hl3 : (besT f0 p0).length = xs.length := by
        unfold besT
        rw [List.length_map]; exact hlen
      rw [← hl3, List.take_length] at hd2
      refine ⟨_, rfl, d, fs, ep, rfl, hd1, fun D hD => ?_⟩
      refine lc_it walk_itD (fun i H3 => ∃ (ts : List Addr) (ys : List Ent), Same H2 H3 ∧ H3 D = some (.lst (ts.map V.ref)) ∧ PairsOf K H3 ts ys ∧ ys.Sublist (fs.take i) ∧ (∀ e ∈ ys, ∃ k, e.1 = pk k ∧ besR f0 p0 k ≠ 0) ∧ ∀ e ∈ fs.take i, ∀ k, e.1 = pk k → besR f0 p0 k ≠ 0 → e ∈ ys)
        ⟨[], [], same_upd hD, upd_same, ⟨rfl, fun i y hy => by simp at hy⟩, List.nil_sublist _, fun e he => absurd he (by simp), fun e he => absurd he (by simp)⟩ (fun i H3 _ ⟨_, _, sm3, _⟩ => sm3 _ _ hd1) ?_ ?_
      · rintro i x H3 H4 hi ⟨ts, ys, sm3, hL, hP, hsub, hnz, hall⟩ ⟨T0, y, hy, rfl, hT, rfl⟩
        obtain ⟨k, z, ek, gk, vk⟩ := hd2.of y (List.mem_of_getElem? hy)
        have sT := same_upd (o := .tup [.ref y.2.1, .ref y.2.2]) hT
        have s4' := sm3.trans sT
        have hz : z = besR f0 p0 k := by
          unfold gathAt at gk
          by_cases m : k ∈ (besT f0 p0).map (·.1)
          · rw [if_pos m] at gk
            exact (Option.some.inj gk).symm
          · rw [if_neg m] at gk
            cases gk
        subst hz
        obtain ⟨pn, en, tn⟩ := rp_ints ((Keep.of s4').rp vk)
        cases en
        have etk : fs.take (i + 1) = fs.take i ++ [y] := by
          rw [List.take_add_one, hy]
          rfl
        have hil : i < fs.length := hi
        have hyl : ys.length ≤ 64 := by
          have h1 := hsub.length_le
          rw [List.length_take] at h1
          have := hd2.len emb_pk
          omega
        refine ⟨T0, _, rfl, SqT.of upd_same, rfl, _, _, rfl, _, _, rfl, rfl, rfl, ?_⟩
        refine ⟨_, rfl, _, _, _, .int _, rfl, rfl, tn.sq, at_of (j := 0) rfl rfl, rfl, _, rfl, itN2 (fun hne => ?_) (fun heq => ?_)⟩
        · have h0 : besR f0 p0 k ≠ 0 := fun e => hne (vi ((enc_fst _).mpr e))
          refine ⟨_, rfl, _, rfl, (by decide : 2 ≤ sizeLine), fun t2 ht2 => ⟨_, (same_upd ht2) _ _ (sT _ _ hL), ?_, ts ++ [t2], ys ++ [y], ?_, ?_, ?_, ?_, fun e he => ?_, fun e he k2 e2 n2 => ?_⟩⟩
          · rw [List.length_map, hP.1]
            exact Nat.lt_of_le_of_lt hyl (by decide)
          · exact SB.same (s4'.trans (same_upd ht2)) SB.upd hD
          · rw [upd_same, List.map_append]
            rfl
          · have kk : Keep (upd (upd H3 T0 (.tup [.ref y.2.1, .ref y.2.2])) t2 (.tup [.ref y.2.1, .ref y.2.2])) (upd (upd (upd H3 T0 (.tup [.ref y.2.1, .ref y.2.2])) t2 (.tup [.ref y.2.1, .ref y.2.2])) D (.lst (ts.map V.ref ++ [V.ref t2]))) :=
              Keep.wr ((same_upd ht2) _ _ (sT _ _ hL)) fun _ z => by cases z
            exact pairs_snoc hP (((Keep.of sT).trans (Keep.of (same_upd ht2))).trans kk) (Tp.keep (.inl upd_same) kk)
          · rw [etk]
            exact hsub.append (List.Sublist.refl _)
          · rcases List.mem_append.mp he with he | he
            · exact hnz e he
            · rw [List.mem_singleton.mp he]
              exact ⟨k, ek, h0⟩
          · rw [etk] at he
            rcases List.mem_append.mp he with he | he
            · exact List.mem_append_left _ (hall e he k2 e2 n2)
            · rw [List.mem_singleton.mp he]
              exact List.mem_append_right _ (List.mem_singleton.mpr rfl)
        · have h0 : besR f0 p0 k = 0 := (enc_fst _).mp (V.int.inj heq)
          refine ⟨ts, ys, s4', sT _ _ hL, ⟨hP.1, fun j z hz => ?_⟩, ?_, hnz, fun e he k2 e2 n2 => ?_⟩
          · obtain ⟨t2, e1, e2⟩ := hP.2 j z hz
            exact ⟨t2, e1, e2.keep (Keep.of sT)⟩
          · rw [etk]
            exact hsub.trans (List.sublist_append_left _ _)
          · rw [etk] at he
            rcases List.mem_append.mp he with he | he
            · exact hall e he k2 e2 n2
            · rw [List.mem_singleton.mp he, ek] at e2
              rw [← pk_inj e2] at n2
              exact absurd h0 n2
      · rintro H3 ⟨ts, ys, sm3, hL, hP, hsub, hnz, hall⟩
        rw [List.take_length] at hsub hall
        have k3 := Keep.of sm3
        have es : Es K H3 ys := ⟨fun x hx => ⟨k3.rp (hd2.es.keys x (hsub.subset hx)).1, (hd2.es.keys x (hsub.subset hx)).2⟩, hd2.es.nd.sublist (hsub.map _)⟩
        refine ⟨D, ts, ys, rfl, hL, hP, es, fun p ep' hp => ?_⟩
        have k4 := Keep.of (same_upd (o := dO w p ys ep') hp)
        refine q _ p ((sm.trans sm3).trans (same_upd hp)) ((sm.trans sm3).free hp) ⟨ys, ep', upd_same, es.keep k4, fun e he => ?_, fun k x hx => ?_⟩
        · obtain ⟨k, z, e1, e2, e3⟩ := hd2.of e (hsub.subset he)
          obtain ⟨k', e1', n1⟩ := hnz e he
          have : k = k' := pk_inj (e1.symm.trans e1')
          subst this
          refine ⟨k, besR f0 p0 k, e1, supp_some.mpr ⟨n1, rfl⟩, ?_⟩
          unfold gathAt at e2
          by_cases m : k ∈ (besT f0 p0).map (·.1)
          · rw [if_pos m] at e2
            have : z = besR f0 p0 k := (Option.some.inj e2).symm
            rw [this] at e3
            exact (k3.trans k4).rp e3
          · rw [if_neg m] at e2
            cases e2
        · obtain ⟨n1, _⟩ := supp_some.mp hx
          have : gathAt (besT f0 p0) k = some (besR f0 p0 k) := by
            unfold gathAt
            by_cases m : k ∈ (besT f0 p0).map (·.1)
            · rw [if_pos m]; rfl
            · exact absurd (gsum_out m) n1
          obtain ⟨e, he, ee⟩ := List.mem_map.mp (hd2.to k _ this)
          exact List.mem_map.mpr ⟨e, hall e he k ee n1, ee⟩
end
end FsR
end
section
/-! Telling: lines_of, showing_by. -/
set_option Elab.async false
set_option linter.all false
set_option maxRecDepth 100000
namespace FsR
open PySem PySem.Spec PyProof.Rows L2 LamX Fs
section
variable {F : Type} [Num F]
/-- all rows of the wishes' multiples, by their marks -/
def GG (ws : List (Row F)) : Mk → Row F := fun μ => match ws[μ.1.val]? with
  | some f => besR f μ.2
  | none => fun _ => 0
theorem gg_at {ws : List (Row F)} {i : Nat} {f : Row F} (h : ws[i]? = some f) (hi : i < 4) (q : Pr) : GG ws (Fin.ofNat 4 i, q) = besR f q := by
  unfold GG
  have : (Fin.ofNat 4 i).val = i := Nat.mod_eq_of_lt hi
  show (match ws[(Fin.ofNat 4 i).val]? with | some f => besR f q | none => fun _ => 0) = _
  rw [this, h]
/-- the wishes' numbers are small, and so are their sums -/
def WSz (ws : List (Row F)) : Prop := ∃ (D : Int) (N : Nat), Small N D ∧ ∀ f ∈ ws, ∀ i q k, Num.rep D N (gsum ((besT f q).take i) k)
theorem bes_rep {f : Row F} {D : Int} {N : Nat} (h : ∀ i q k, Num.rep D N (gsum ((besT f q).take i) k)) (q k : Pr) : Num.rep D N (besR f q k) := by
  have := h (besT f q).length q k
  rw [List.take_length] at this
  exact this
theorem bes_zero (f : Row F) (k : Pr) : besR f 0 k = f k := by
  have : besT f 0 = canon f := by
    unfold besT
    have : (fun t : Pr × F => (jn t.1 0, t.2)) = id := funext fun t => by rw [jn_zero]; rfl
    rw [this, List.map_id]
  unfold besR
  rw [this, gsum_canon]
theorem sm_nsz {D : Int} {N : Nat} (hS : Small N D) {x : F} (h : Num.rep D N x) : NSz x := by
  obtain ⟨h1, h2, h3, h4⟩ := hS
  exact nsz_of fun hp => ⟨D, N, h3, h, Nat.lt_of_le_of_lt h2 (Nat.pow_lt_pow_right (by decide) (by decide)), Nat.lt_of_le_of_lt h4 (Nat.pow_lt_pow_right (by decide) (by decide))⟩
theorem gg_rep {ws : List (Row F)} {D : Int} {N : Nat} (hS : Small N D) (h : ∀ f ∈ ws, ∀ i q k, Num.rep D N (gsum ((besT f q).take i) k)) (μ : Mk) (k : Pr) : Num.rep D N (GG ws μ k) := by
  unfold GG
  cases e : ws[μ.1.val]? with
  | none => exact Num.rep_zero hS.2.2.1
  | some f => exact bes_rep (h f (List.mem_of_getElem? e)) μ.2 k
theorem mem_pairs {ws : List (Row F)} {n d m : Nat} {μ : Mk} : μ ∈ pairsOf ws n d m ↔ ∃ i f, i < m ∧ ws[i]? = some f ∧ degR f ≤ d ∧ μ.1 = Fin.ofNat 4 i ∧ μ.2 ∈ univ n (d - degR f) := by
  unfold pairsOf
  rw [List.mem_flatMap]
  constructor
  · rintro ⟨i, hi, h⟩
    unfold prAt at h
    split at h
    · rename_i f e
      split at h
      · rename_i hd
        obtain ⟨q, hq, rfl⟩ := List.mem_map.mp h
        exact ⟨i, f, List.mem_range.mp hi, e, hd, rfl, hq⟩
      · cases h
    · cases h
  · rintro ⟨i, f, hi, e, hd, e1, e2⟩
    refine ⟨i, List.mem_range.mpr hi, ?_⟩
    unfold prAt
    rw [e]
    show μ ∈ (if degR f ≤ d then _ else _)
    rw [if_pos hd]
    exact List.mem_map.mpr ⟨μ.2, e2, by rw [← e1]⟩
theorem univ_nodup (n d : Nat) : (univ n d).Nodup := prods_nodup.filter _
theorem pairs_nodup (ws : List (Row F)) (n d : Nat) : ∀ m, m ≤ 4 → (pairsOf ws n d m).Nodup
  | 0, _ => List.nodup_nil
  | m + 1, hm => by
    have e : pairsOf ws n d (m + 1) = pairsOf ws n d m ++ prAt ws n d m := by
      unfold pairsOf
      rw [List.range_succ, List.flatMap_append]
      simp
    rw [e, List.nodup_append]
    refine ⟨pairs_nodup ws n d m (by omega), ?_, fun μ h1 ν h2 z => ?_⟩
    · unfold prAt
      split
      · split
        · exact List.pairwise_map.mpr ((univ_nodup _ _).imp fun hne z => hne (Prod.mk.inj z).2)
        · exact List.nodup_nil
      · exact List.nodup_nil
    · subst z
      obtain ⟨i, f, hi, _, _, e1, _⟩ := mem_pairs.mp h1
      have h3 : μ.1 = Fin.ofNat 4 m := by
        unfold prAt at h2
        split at h2
        · split at h2
          · obtain ⟨q, _, rfl⟩ := List.mem_map.mp h2
            rfl
          · cases h2
        · cases h2
      rw [e1] at h3
      have := congrArg Fin.val h3
      have a1 : (Fin.ofNat 4 i).val = i := Nat.mod_eq_of_lt (by omega)
      have a2 : (Fin.ofNat 4 m).val = m := Nat.mod_eq_of_lt (by omega)
      rw [a1, a2] at this
      omega
theorem mem_take {α : Type} {us : List α} {i : Nat} {u : α} (h : us[i]? = some u) (x : α) : x ∈ us.take (i + 1) ↔ (x ∈ us.take i ∨ x = u) := by
  rw [List.take_add_one, h]
  simp
theorem not_taken {α : Type} {us : List α} (hn : us.Nodup) {i : Nat} {u : α} (h : us[i]? = some u) : u ∉ us.take i := fun z => by
  obtain ⟨j, hj, e⟩ := List.mem_iff_getElem.mp z
  obtain ⟨hi, ei⟩ := List.getElem?_eq_some_iff.mp h
  rw [List.getElem_take] at e
  have hj2 : j < i := by
    rw [List.length_take] at hj
    omega
  exact (List.pairwise_iff_getElem.mp hn) j i (by omega) hi hj2 (e.trans ei.symm)
end
section
variable {P : Program} {w : World} {K : PySem.W.Frag} {mg : Str → Option Value} {base : Heap} {A : Ad} {F : Type} [Num F]
theorem sc_lines_of : FnScope ["system", "degree", "found", "number", "product"] ["system", "degree"] (defScope (topS 50)) := ⟨rfl, rfl, rfl, by decide +kernel, rfl, by decide +kernel, by decide +kernel⟩
def spLines (K : PySem.W.Frag) (w : World) (A : Ad) (F : Type) [Num F] : Sp := fun vs H Q _ => ∃ (a : Addr) (n d : Nat) (ws : List (Row F)), vs = [.ref a, .int d] ∧ SysAt K A H a n ws ∧ n ≤ 4 ∧ ws.length ≤ 4 ∧ d ≤ 4 ∧ WSz ws ∧
  ∀ (H' : Hp) (x fa bh : Addr) (B : Bs F) (b : Pr → Mk), Same H H' → LnAt A H' x fa bh → Fld A H' fa (Num.p F) → BG K w H' bh B → LInv (GG ws) (fun μ => μ ∈ pairsOf ws n d ws.length) B b → LSz B → Q (.ref x) H'
theorem c_lines_of (T : Txt K mg A) : Cal P w K mg base CX0 6 "lines_of" ["system", "degree"] [] (spLines K w A F) := by
  refine cal_mk T.g_lines_of (fun _ _ _ _ _ _ us hl => match us, hl with | [_, _], _ => rfl) sc_lines_of (fun vs H Q E h => ?_) (fun f cdv Ar outer s H vs Q E hr h => ?_)
  · obtain ⟨a, n, d, ws, rfl, _⟩ := h
    rfl
  · obtain ⟨a, n, d, ws, rfl, hY, hn, hw, hd, ⟨D, N, hSm, hrep⟩, q⟩ := h
    obtain ⟨dx, fa, l1, l2, hy, hF, hW, _⟩ := id hY
    obtain ⟨xs, e1, e2, e3⟩ := id hW
    refine ⟨_, (pss_cons (ps_set (i := 2) sc_lines_of.nd rfl (by first | exact Or.inl rfl | exact Or.inr rfl) (pmk (c_Lines_init (F := F) T) T.mkL (hr.mono (by decide)) (pa_cons (pcm0 (c_System_field (F := F) T) T.clY (hr.mono (by decide)) (pv 0)) pa_nil)))
      (pss_cons (ps_for PassesOwn.never rfl (pi_list (pc (c_pairs_of (F := F) T) (hr.mono (by decide)) (pa_cons (pv 0) (pa_cons (pv 1) pa_nil)))) ((pg_tup rfl (pgs_cons (pg_name (i := 3) sc_lines_of.nd rfl (by first | exact Or.inl rfl | exact Or.inr rfl)) (pgs_cons (pg_name (i := 4) sc_lines_of.nd rfl (by first | exact Or.inl rfl | exact Or.inr rfl)) pgs_nil))))
      (pss_one (ps_expr (pcm (c_Lines_put (F := F) T) T.clL (hr.mono (by decide)) (pv 2) (pa_cons (pc (c_beside (F := F) T) (hr.mono (by decide)) (pa_cons (pe_ix ix_list (pcm0 (c_System_noughts T) T.clY (hr.mono (by decide)) (pv 0)) (pv 3) (fun _ _ => rfl)) (pa_cons (pv 4) pa_nil))) (pa_cons (pe_tup (pa_cons (pv 3) (pa_cons (pv 4) pa_nil))) pa_nil))))))
      (pss_one (ps_ret (pv 2))))), ?_⟩
    refine ⟨_, rfl, a, dx, _, rfl, hy, rfl, a, n, ws, rfl, hY, fun fb hFb => ?_⟩
    refine (fun y dy h1 h2 hne => ?_)
    refine ⟨y, dy, H, fb, rfl, Fresh.mk h1 h2 hne, fun H1 bh sm1 hbh nby hL hB => ?_⟩
    refine ⟨rfl, _, rfl, _, rfl, a, n, d, ws, rfl, hY.same sm1, hn, hw, hd, fun H2 lp sm2 hlp ⟨ps, p1, p2⟩ => ?_⟩
    have s2 := sm1.trans sm2
    have hlp0 : H lp = none := sm1.free hlp
    have hbh2 : bh ≠ lp := by
      intro z
      obtain ⟨_, _, q1, _⟩ := hB
      rw [z, hlp] at q1
      cases q1
    have hyd : ∃ dz, H1 y = some (.ins A.L dz [("line_field", .ref fb), ("by_head", .ref bh)]) := hL
    have nlp : lp ≠ bh := fun z => hbh2 z.symm
    refine ⟨lp, rfl, ⟨_, SqL.of p1⟩, for_list (K := K) (a := lp) (xs := ps) (fun i σ H3 => ∃ (s3 s4 : Option V) (B : Bs F) (b : Pr → Mk), σ = [some (.ref a), some (.int d), some (.ref y), s3, s4] ∧ Same H H3 ∧ Keep H2 H3 ∧ H3 lp = some (.lst ps) ∧ LnAt A H3 y fb bh ∧ BG K w H3 bh B ∧ LInv (GG ws) (fun μ => μ ∈ (pairsOf ws n d ws.length).take i) B b ∧ LSz B)
      ⟨none, none, _, fun _ => (0, 0), rfl, s2, Keep.refl _, p1, ?_, ?_, ?_, lsz_nil⟩ (fun i σ H3 _ ⟨_, _, _, _, _, _, _, h, _⟩ => SqL.of h) ?_ ?_⟩
    · obtain ⟨dz, hz⟩ := hL
      exact ⟨dz, sm2 _ _ hz⟩
    · exact BG.grw (T := []) hB (.of sm2)
    · have e : (fun μ : Mk => μ ∈ (pairsOf ws n d ws.length).take 0) = fun _ => False := funext fun μ => by simp
      rw [e]
      exact linv_nil (GG ws)
    · rintro i x σ H3 hi ⟨s3, s4, B, b, rfl, sm, kp, hl3, hL3, hB3, hI, hZ⟩
      obtain ⟨u, hu, ru⟩ := RpL.at_ p2 hi
      obtain ⟨c, v1, v2, rfl, t1, r1, r2⟩ := rp_two (kp.rp ru)
      obtain rfl : v1 = .int (u.1.val : Int) := rp_num_iff.mp r1
      obtain ⟨i0, f0, hi0, hf0, hd0, eu1, eu2⟩ := mem_pairs.mp (List.mem_of_getElem? hu)
      have hi4 : i0 < 4 := by omega
      have ev : u.1.val = i0 := by rw [eu1]; exact Nat.mod_eq_of_lt hi4
      have eg : GG ws u = besR f0 u.2 := by
        have := gg_at hf0 hi4 u.2
        rw [← eu1] at this
        exact this
      obtain ⟨s0, hs0⟩ : ∃ s0, xs[i0]? = some s0 := ⟨xs[i0]'(by omega), List.getElem?_eq_getElem (by omega)⟩
      have hS := e3 i0 s0 f0 hs0 hf0
      have hf0m := List.mem_of_getElem? hf0
      refine ⟨c, _, rfl, t1.sq, rfl, _, _, rfl, _, _, rfl, rfl, ?_⟩
      obtain ⟨dz, hz⟩ := hL3
      refine ⟨_, rfl, y, dz, _, rfl, hz, rfl, ?_⟩
      refine ⟨_, rfl, a, dx, _, rfl, sm _ _ hy, rfl, a, dx, fa, l1, l2, n, xs, rfl, sm _ _ hy, sm _ _ e1, fun H4 ln sm4 hln hf4 => ?_⟩
      have s4' := sm.trans sm4
      have k4 := Keep.of sm4
      obtain ⟨b2, rfl⟩ := rp_pref r2
      refine ⟨_, rfl, ln, _, _, _, rfl, rfl, SqL.of hf4, at_of (j := i0) (by rw [ev]) (by rw [List.getElem?_map, hs0]; rfl), _, rfl, s0, f0, u.2, .ref b2, rfl, hS.same s4', k4.rp r2, fun k => ?_, fun i k => sm_nsz hSm (hrep f0 hf0m i u.2 k), fun H5 e sm5 he dg => ?_⟩
      · have := sm_nsz hSm (bes_rep (hrep f0 hf0m) 0 k)
        rw [bes_zero] at this
        exact this
      refine ⟨_, rfl, _, rfl, (by decide : 2 ≤ sizeLine), fun t ht => ?_⟩
      have st := same_upd (o := .tup [.int (u.1.val : Int), .ref b2]) ht
      have s35 := (sm4.trans sm5).trans st
      have s6 := sm.trans s35
      have hndp := pairs_nodup ws n d ws.length hw
      have hLn : LnAt A H3 y fb bh := ⟨dz, hz⟩
      refine ⟨y, fb, bh, e, .ref t, GG ws, (fun μ => μ ∈ (pairsOf ws n d ws.length).take i), B, b, u, D, N, rfl, ⟨dz, s35 _ _ hz⟩, hFb.same s6, BG.grw (T := []) hB3 (.of s35), ?_, ?_, hI, hZ, not_taken hndp hu, hSm, fun μ k => gg_rep hSm hrep μ k, fun H6 B6 b6 v sb6 hB6 hI6 hZ6 => ?_⟩
      · have := DG.grw (T := []) dg (.of st)
        rw [eg]
        exact this
      · exact rp_tup_iff.mpr ⟨t, _, rfl, .inl upd_same, rpl_cons (rp_num _) (rpl_cons ((Keep.of ((sm4.trans sm5).trans st)).rp r2) rpl_nil)⟩
      · have kb6 : Keep (upd H5 t (.tup [.int (u.1.val : Int), .ref b2])) H6 := by
          obtain ⟨zs, ez, hz1, _⟩ := BG.grw (T := []) hB3 (.of s35)
          exact sb6.keep hz1
        have nyb : y ≠ bh := fun z => nby z.symm
        refine ⟨_, _, B6, b6, rfl, SB.same s6 sb6 hbh, (kp.trans (Keep.of s35)).trans kb6, sb6 _ _ nlp (s35 _ _ hl3), ⟨dz, sb6 _ _ nyb (s35 _ _ hz)⟩, hB6, ?_, hZ6⟩
        have e : (fun μ : Mk => μ ∈ (pairsOf ws n d ws.length).take (i + 1)) = fun μ => μ ∈ (pairsOf ws n d ws.length).take i ∨ μ = u := funext fun μ => propext (mem_take hu μ)
        rw [e]
        exact hI6
    · rintro σ H3 ⟨s3, s4, B, b, rfl, sm, kp, hl3, hL3, hB3, hI, hZ⟩
      have hlen : (pairsOf ws n d ws.length).length = ps.length := by
        have := p2.length
        rw [List.length_map] at this
        exact this
      rw [← hlen, List.take_length] at hI
      exact ⟨_, rfl, q H3 y fb bh B b sm hL3 (hFb.same sm) hB3 hI hZ⟩
/-! ### showing_by -/
/-- the terms of a wish's factor, by the marks gone through -/
def lsOf (m : MRow F) (us : List Mk) (i : Nat) : List (Pr × F) := (us.filter fun u => decide (u.1.val = i)).map fun u => (u.2, m u)
theorem ls_snoc (m : MRow F) (us : List Mk) (u : Mk) (i : Nat) : lsOf m (us ++ [u]) i = if i = u.1.val then lsOf m us i ++ [(u.2, m u)] else lsOf m us i := by
  unfold lsOf
  rw [List.filter_append, List.map_append]
  by_cases e : i = u.1.val
  · rw [if_pos e, List.filter_cons, if_pos (by simp [e])]
    rfl
  · rw [if_neg e, List.filter_cons, if_neg (by simpa using fun z => e z.symm)]
    simp
theorem gs_marks (m : MRow F) {vs : List Mk} (hn : vs.Nodup) {j : Fin 4} (ha : ∀ u ∈ vs, u.1 = j) (k : Pr) : gsum (vs.map fun u => (u.2, m u)) k = if (j, k) ∈ vs then m (j, k) else 0 := by
  unfold gsum
  rw [sumL_map]
  by_cases h : (j, k) ∈ vs
  · rw [if_pos h, sumL_one hn h (fun b hb hne => if_neg fun z => hne ?_)]
    · exact if_pos rfl
    · exact Prod.ext (ha b hb) z
  · rw [if_neg h]
    exact sumL_zero fun b hb => if_neg fun z => h (by
      have : b = (j, k) := Prod.ext (ha b hb) z
      rw [← this]; exact hb)
theorem ls_sum (m : MRow F) {us : List Mk} (hn : us.Nodup) {i : Nat} (hi : i < 4) (k : Pr) : gsum (lsOf m us i) k = if (Fin.ofNat 4 i, k) ∈ us then m (Fin.ofNat 4 i, k) else 0 := by
  have hv : (Fin.ofNat 4 i).val = i := Nat.mod_eq_of_lt hi
  unfold lsOf
  rw [gs_marks m (hn.filter _) (j := Fin.ofNat 4 i) (fun u hu => Fin.ext (by rw [hv]; simpa using (List.mem_filter.mp hu).2))]
  by_cases h : (Fin.ofNat 4 i, k) ∈ us
  · rw [if_pos h, if_pos (List.mem_filter.mpr ⟨h, by simpa using hv⟩)]
  · rw [if_neg h, if_neg fun z => h (List.mem_filter.mp z).1]
theorem ls_take (m : MRow F) {us : List Mk} (hn : us.Nodup) {i : Nat} (hi : i < 4) (hz : NSz (0 : F)) (hm : ∀ μ, NSz (m μ)) (c : Nat) (k : Pr) : NSz (gsum ((lsOf m us i).take c) k) := by
  have hv : (Fin.ofNat 4 i).val = i := Nat.mod_eq_of_lt hi
  unfold lsOf
  rw [← List.map_take, gs_marks m ((hn.filter _).sublist (List.take_sublist _ _)) (j := Fin.ofNat 4 i) (fun u hu => Fin.ext (by rw [hv]; simpa using (List.mem_filter.mp ((List.take_sublist _ _).subset hu)).2))]
  split
  · exact hm _
  · exact hz
/-- the rows that the factors' terms are put into -/
structure RowsAt (K : PySem.W.Frag) (H : Hp) (D : Addr) (ds : List Addr) (ls : Nat → List (Pr × F)) : Prop where
  at_ : H D = some (.lst (ds.map V.ref))
  nd : ds.Nodup
  out : D ∉ ds
  row : ∀ i r, ds[i]? = some r → TmList K H r (ls i)
theorem RowsAt.same {K : PySem.W.Frag} {H H' : Hp} {D : Addr} {ds : List Addr} {ls : Nat → List (Pr × F)} (h : RowsAt K H D ds ls) (s : Same H H') : RowsAt K H' D ds ls := ⟨s _ _ h.at_, h.nd, h.out, fun i r e => (h.row i r e).same s⟩
theorem RowsAt.app {K : PySem.W.Frag} {H : Hp} {D : Addr} {ds : List Addr} {ls ls2 : Nat → List (Pr × F)} (h : RowsAt K H D ds ls) {j : Nat} {r : Addr} (hj : ds[j]? = some r) {xs : List V} (hr : H r = some (.lst xs)) {t : Pr × F} {v : V} (hv : Rp K H (tk t) v)
    (h2 : ∀ i, ls2 i = if i = j then ls i ++ [t] else ls i) : RowsAt K (upd H r (.lst (xs ++ [v]))) D ds ls2 := by
  have kk : Keep H (upd H r (.lst (xs ++ [v]))) := Keep.wr hr fun _ z => by cases z
  have nD : D ≠ r := fun z => h.out (by rw [z]; exact List.mem_of_getElem? hj)
  refine ⟨by rw [upd_ne nD]; exact h.at_, h.nd, h.out, fun i r2 e => ?_⟩
  rw [h2 i]
  by_cases z : i = j
  · subst z
    rw [hj] at e
    obtain rfl := Option.some.inj e
    rw [if_pos rfl]
    obtain ⟨ys, e1, e2⟩ := h.row i r hj
    rw [hr] at e1
    obtain rfl : xs = ys := by cases e1; rfl
    refine ⟨_, upd_same, ?_⟩
    rw [List.map_append]
    exact RpL.app (RpL.keep kk _ e2) (rpl_cons (kk.rp hv) rpl_nil)
  · rw [if_neg z]
    have nr : r2 ≠ r := fun y => by
      subst y
      obtain ⟨hi, ei⟩ := List.getElem?_eq_some_iff.mp e
      obtain ⟨hj', ej⟩ := List.getElem?_eq_some_iff.mp hj
      rcases Nat.lt_or_gt_of_ne z with q | q
      · exact (List.pairwise_iff_getElem.mp h.nd) i j hi hj' q (ei.trans ej.symm)
      · exact (List.pairwise_iff_getElem.mp h.nd) j i hj' hi q (ej.trans ei.symm)
    obtain ⟨ys, e1, e2⟩ := h.row i r2 e
    exact ⟨ys, by rw [upd_ne nr]; exact e1, RpL.keep kk _ e2⟩
theorem keys_of {fs : List Ent} (h : ∀ e ∈ fs, ∃ u : Mk, e.1 = mkk u) : ∃ us : List Mk, fs.map (·.1) = us.map mkk := by
  induction fs with
  | nil => exact ⟨[], rfl⟩
  | cons y fs ih =>
    obtain ⟨us, e⟩ := ih fun e he => h e (List.mem_cons_of_mem _ he)
    obtain ⟨u, eu⟩ := h y List.mem_cons_self
    exact ⟨u :: us, by rw [List.map_cons, List.map_cons, e, eu]⟩
/-- the factors that a row of marks names -/
def showsOf (m : MRow F) (c : Nat) : List (Row F) := (List.range c).map fun i q => m (Fin.ofNat 4 i, q)
theorem sc_showing_by : FnScope ["system", "lines", "rows", "wish", "mark", "share", "some"] ["system", "lines"] (defScope (topS 51)) := ⟨rfl, rfl, rfl, by decide +kernel, rfl, by decide +kernel, by decide +kernel⟩
def spShow (K : PySem.W.Frag) (w : World) (A : Ad) (F : Type) [Num F] : Sp := fun vs H Q _ => ∃ (a y n : Nat) (ws : List (Row F)) (fb bh : Addr) (B : Bs F) (r : Row F) (m : MRow F), vs = [.ref a, .ref y] ∧ SysAt K A H a n ws ∧ ws.length ≤ 4 ∧ LnAt A H y fb bh ∧ BG K w H bh B ∧ B 0 = some (r, m) ∧ (∀ μ, NSz (m μ)) ∧ (∀ μ, m μ ≠ 0 → μ.1.val < ws.length) ∧ Tabs A.tabs H ∧
  ∀ H' l, Grw A.tabs H H' → H l = none → SmList K A H' l (showsOf m ws.length) → Q (.ref l) H'
theorem c_showing_by (T : Txt K mg A) (X0 : TX base mg A) : Cal P w K mg base CX0 7 "showing_by" ["system", "lines"] [] (spShow K w A F) := by
  refine cal_mk T.g_showing_by (fun _ _ _ _ _ _ us hl => match us, hl with | [_, _], _ => rfl) sc_showing_by (fun vs H Q E h => ?_) (fun f cdv Ar outer s H vs Q E hr h => ?_)
  · obtain ⟨a, y, n, ws, fb, bh, B, r, m, rfl, _⟩ := h
    rfl
  · obtain ⟨a, y, n, ws, fb, bh, B, r0, m, rfl, hY, hw, hL, hB, hB0, hmz, hms, hT, q⟩ := h
    obtain ⟨dx, fa, l1, l2, hy, hF, hW, _⟩ := id hY
    obtain ⟨xs, e1, e2, e3⟩ := id hW
    obtain ⟨dz, hz⟩ := id hL
    refine ⟨_, (pss_cons (ps_setLc (i := 2) (y := "rows") (own := [("wish", 3)]) (g := gName 3) (tt := tYes) rfl sc_showing_by.nd rfl rfl (sw_true rfl rfl rfl (by decide +kernel)) (pi_list (pcm0 (c_System_noughts T) T.clY (hr.mono (by decide)) (pv 0))) (blkOk_by (N := ["system", "lines", "rows", "wish", "mark", "share", "some"]) (sc := defScope (topS 51)) (by decide +kernel)) (fun _ _ _ _ _ => pg_name (i := 3) sc_showing_by.nd rfl (by first | exact Or.inl rfl | exact Or.inr rfl)) (fun _ _ _ _ _ => pts_nil) (fun _ _ _ _ _ => (pe_lst pa_nil)))
      (pss_cons (ps_for PassesOwn.never rfl (pi_itD (pcm (c_Lines_made_of (F := F) T) T.clL (hr.mono (by decide)) (pv 1) (pa_cons (pe_tup pa_nil) pa_nil))) ((pg_tup rfl (pgs_cons (pg_name (i := 4) sc_showing_by.nd rfl (by first | exact Or.inl rfl | exact Or.inr rfl)) (pgs_cons (pg_name (i := 5) sc_showing_by.nd rfl (by first | exact Or.inl rfl | exact Or.inr rfl)) pgs_nil))))
      (pss_one (ps_expr (pe_bm PySem.F.plainAttrs_list PySem.F.slot_list_append PySem.F.type_list_append mt_append (pe_ix ix_list (pv 2) (pe_ix ix_tup (pv 4) pe_int (fun _ _ => rfl)) (fun _ _ => rfl)) (pa_cons (pe_tup (pa_cons (pe_ix ix_tup (pv 4) pe_int (fun _ _ => rfl)) (pa_cons (pv 5) pa_nil))) pa_nil)))))
      (pss_one (ps_ret (pe_lc (own := [("some", 6)]) (g := gName 6) (tt := tYes) rfl sc_showing_by.nd (pi_list (pv 2)) (blkOk_by (N := ["system", "lines", "rows", "wish", "mark", "share", "some"]) (sc := defScope (topS 51)) (by decide +kernel)) (fun _ _ _ _ _ => pg_name (i := 6) sc_showing_by.nd rfl (by first | exact Or.inl rfl | exact Or.inr rfl)) (fun _ _ _ _ _ => pts_nil) (fun _ _ _ _ _ => (pmk (c_Sum_init (F := F) T X0) T.mkS (hr.mono (by decide)) (pa_cons (pcm0 (c_System_field (F := F) T) T.clY (hr.mono (by decide)) (pv 0)) (pa_cons (pv 6) pa_nil))))))))), ?_⟩
    refine ⟨_, rfl, a, dx, _, rfl, hy, rfl, a, dx, fa, l1, l2, n, xs, rfl, hy, e1, fun H1 ln sm1 hln hf1 => ⟨ln, rfl, ⟨_, SqL.of hf1⟩, fun D hD => ?_⟩⟩
    refine lc_list (K := K) (a := ln) (xs := xs.map V.ref) (fun i H2 => ∃ ds : List Addr, Same H1 H2 ∧ ds.length = i ∧ (∀ r ∈ ds, H r = none) ∧ RowsAt (F := F) K H2 D ds (fun _ => [])) ⟨[], same_upd hD, rfl, fun r hr => absurd hr (by simp), upd_same, List.nodup_nil, by simp, fun i r e => by simp at e⟩ (fun i H2 _ ⟨_, sm2, _⟩ => SqL.of (sm2 _ _ hf1)) (fun i x H2 hi ⟨ds, sm2, hdl, hdf, hR⟩ => ?_) (fun H2 ⟨ds, sm2, hdl, hdf, hR⟩ => ?_)
    · have hlen : ds.length ≤ 4 := by
        have h1 := (List.getElem?_eq_some_iff.mp hi).1
        rw [List.length_map] at h1
        omega
      refine ⟨rfl, Nat.zero_le _, fun t ht => ⟨ds.map V.ref, (same_upd ht) _ _ hR.at_, ?_, ds ++ [t], SB.same (sm2.trans (same_upd ht)) SB.upd hD, by rw [List.length_append, List.length_singleton, hdl], fun r hr => ?_, ?_⟩⟩
      · rw [List.length_map]
        exact Nat.lt_of_le_of_lt hlen (by decide)
      · rcases List.mem_append.mp hr with h | h
        · exact hdf r h
        · rw [List.mem_singleton.mp h]
          exact (sm1.trans sm2).free ht
      · have nDt : D ≠ t := ne_of_none hR.at_ ht
        have hold : ∀ r ∈ ds, r ≠ t ∧ r ≠ D := fun r hr => by
          obtain ⟨c, hc, ec⟩ := List.mem_iff_getElem.mp hr
          obtain ⟨ys, e, _⟩ := hR.row c r (by rw [List.getElem?_eq_getElem hc, ec])
          exact ⟨ne_of_none e ht, fun z => hR.out (by rw [← z]; exact hr)⟩
        refine ⟨by rw [upd_same, List.map_append]; rfl, ?_, ?_, fun c r e => ?_⟩
        · rw [List.nodup_append]
          refine ⟨hR.nd, by simp, fun a1 h1 b1 h2 e => ?_⟩
          rw [List.mem_singleton.mp h2] at e
          exact (hold a1 h1).1 e
        · intro z
          rcases List.mem_append.mp z with z | z
          · exact hR.out z
          · exact nDt (List.mem_singleton.mp z)
        · rcases Nat.lt_or_ge c ds.length with h | h
          · rw [List.getElem?_append_left h] at e
            obtain ⟨ys, e1, e2⟩ := hR.row c r e
            obtain ⟨n1, n2⟩ := hold r (List.mem_of_getElem? e)
            obtain rfl : ys = [] := by
              have := e2.length
              exact List.length_eq_zero_iff.mp this.symm
            exact ⟨[], by rw [upd_ne n2, upd_ne n1]; exact e1, rpl_nil⟩
          · rw [List.getElem?_append_right h] at e
            obtain rfl : t = r := by
              rcases hc : c - ds.length with _ | k
              · rw [hc] at e
                simpa using e
              · rw [hc] at e
                simp at e
            exact ⟨[], by rw [upd_ne nDt.symm]; exact upd_same, rpl_nil⟩
    · rw [List.length_map] at hdl
      have s2 := sm1.trans sm2
      have sH1 : Same H1 H2 := sm2
      refine ⟨_, rfl, y, dz, _, rfl, s2 _ _ hz, rfl, (Nat.zero_le _ : 0 ≤ sizeLine), fun t ht => ?_⟩
      have st := s2.trans (same_upd (o := .tup []) ht)
      refine ⟨y, fb, bh, .ref t, 0, B, rfl, ⟨dz, st _ _ hz⟩, BG.grw (T := []) hB (.of st), rp_tup_iff.mpr ⟨t, [], rfl, .inl upd_same, rpl_nil⟩, fun z => absurd (hB0.symm.trans z) (by simp), fun r m' e H3 d3 sm3 hd3 dg => ?_⟩
      obtain ⟨rfl, rfl⟩ : r0 = r ∧ m = m' := by
        rw [hB0] at e
        cases e
        exact ⟨rfl, rfl⟩
      obtain ⟨fs, ep, hd1, hd2⟩ := dg
      obtain ⟨us, eus⟩ := keys_of fun e he => let ⟨k, _, ek, _⟩ := hd2.of e he; ⟨k, ek⟩
      have usl : us.length = fs.length := by
        have := congrArg List.length eus
        rw [List.length_map, List.length_map] at this
        exact this.symm
      have usn : us.Nodup := by
        have h1 := hd2.es.nd
        rw [eus] at h1
        exact (List.pairwise_map.mp h1).imp fun h z => h (by rw [z])
      have uss : ∀ u, u ∈ us ↔ m u ≠ 0 := by
        intro u
        constructor
        · intro hu
          have : mkk u ∈ fs.map (·.1) := by
            rw [eus]
            exact List.mem_map_of_mem hu
          obtain ⟨e, he, ee⟩ := List.mem_map.mp this
          obtain ⟨k, z, ek, gk, _⟩ := hd2.of e he
          have : k = u := emb_mkk.inj _ _ (congrArg hashN (ek.symm.trans ee))
          rw [← this]
          exact (supp_some.mp gk).1
        · intro hu
          have := hd2.to u _ (supp_some.mpr ⟨hu, rfl⟩)
          rw [eus] at this
          obtain ⟨v, hv, ev⟩ := List.mem_map.mp this
          rw [← emb_mkk.inj _ _ (congrArg hashN ev)]
          exact hv
      have s3 := st.trans sm3
      have hR3 : RowsAt (F := F) K H3 D ds (lsOf m (us.take 0)) := by
        rw [List.take_zero]
        exact (hR.same (same_upd (o := .tup []) ht)).same sm3
      refine ⟨d3, fs, ep, rfl, hd1, for_it walk_itD (fun i σ H4 => ∃ (s4 s5 : Option V), σ = [some (.ref a), some (.ref y), some (.ref D), none, s4, s5, none] ∧ Same H H4 ∧ H4 d3 = some (dO w d3 fs ep) ∧ Keep H3 H4 ∧ RowsAt K H4 D ds (lsOf m (us.take i)))
        ⟨none, none, rfl, s3, hd1, Keep.refl _, hR3⟩ (fun i σ H4 _ ⟨_, _, _, _, h, _⟩ => h) ?_ ?_⟩
      · rintro i x σ H4 H5 hi ⟨s4, s5, rfl, sm, hd4, kp, hR4⟩ ⟨T0, en, hen, rfl, hT0, rfl⟩
        obtain ⟨u, z, ek, gk, vk⟩ := hd2.of en (List.mem_of_getElem? hen)
        have hu : us[i]? = some u := by
          have h1 : (fs.map (·.1))[i]? = some (mkk u) := by
            rw [List.getElem?_map, hen, ← ek]
            rfl
          rw [eus, List.getElem?_map] at h1
          obtain ⟨v, hv, ev⟩ := Option.map_eq_some_iff.mp h1
          rw [← emb_mkk.inj _ _ (congrArg hashN ev)]
          exact hv
        obtain ⟨hmu, rfl⟩ := supp_some.mp gk
        have hkey := (hd2.es.keys en (List.mem_of_getElem? hen)).1
        rw [ek] at hkey
        have sT := same_upd (o := .tup [.ref en.2.1, .ref en.2.2]) hT0
        obtain ⟨c, v1, v2, ec, t1, r1, r2⟩ := rp_two hkey
        have ec2 : en.2.1 = c := by cases ec; rfl
        obtain rfl : v1 = .int (u.1.val : Int) := rp_num_iff.mp r1
        have k5 := kp.trans (Keep.of sT)
        refine ⟨T0, _, rfl, SqT.of upd_same, rfl, _, _, rfl, _, _, rfl, rfl, ?_⟩
        have tk1 := (t1.keep k5)
        rw [← ec2] at tk1
        have hui : u.1.val < ds.length := by
          have := hms u hmu
          omega
        obtain ⟨r, hr⟩ : ∃ r, ds[u.1.val]? = some r := ⟨ds[u.1.val], List.getElem?_eq_getElem hui⟩
        have hR5 := hR4.same sT
        obtain ⟨ys, hy1, hy2⟩ := hR5.row _ r hr
        have hyl : ys.length ≤ 64 := by
          have h1 := hy2.length
          rw [List.length_map] at h1
          unfold lsOf at h1
          rw [List.length_map] at h1
          have h2 := List.length_filter_le (fun u_1 : Mk => decide (u_1.1.val = u.1.val)) (us.take i)
          rw [List.length_take] at h2
          have h3 := hd2.len emb_mkk
          omega
        obtain ⟨b2, rfl⟩ := rp_pref r2
        refine ⟨_, rfl, _, rfl, _, _, _, .int _, rfl, rfl, tk1.sq, at_of (j := 0) rfl rfl, _, _, _, .ref r, rfl, rfl, SqL.of hR5.at_, at_of (j := u.1.val) rfl (by rw [List.getElem?_map, hr]; rfl), .inl ⟨rfl, _, SqL.of hy1⟩, _, rfl, _, _, _, .ref b2, rfl, rfl, tk1.sq, at_of (j := 1) rfl rfl, _, rfl, (by decide : 2 ≤ sizeLine), fun t2 ht2 => ?_⟩
        have st2 := same_upd (o := .tup [.ref b2, .ref en.2.2]) ht2
        have hrH : H r = none := hdf r (List.mem_of_getElem? hr)
        have hrd : d3 ≠ r := fun z => by
          rw [z] at hd4
          have := sT _ _ hd4
          rw [hy1] at this
          cases this
        refine ⟨r, ys, _, rfl, rfl, st2 _ _ hy1, Nat.lt_of_le_of_lt hyl (by decide), ?_⟩
        have kw : Keep (upd (upd H4 T0 (.tup [.ref en.2.1, .ref en.2.2])) t2 (.tup [.ref b2, .ref en.2.2])) (upd (upd (upd H4 T0 (.tup [.ref en.2.1, .ref en.2.2])) t2 (.tup [.ref b2, .ref en.2.2])) r (.lst (ys ++ [.ref t2]))) := Keep.wr (st2 _ _ hy1) fun _ z => by cases z
        have kAll := (k5.trans (Keep.of st2)).trans kw
        refine ⟨_, _, rfl, SB.same ((sm.trans sT).trans st2) SB.upd hrH, by rw [upd_ne hrd]; exact st2 _ _ (sT _ _ hd4), kAll, ?_⟩
        refine RowsAt.app (t := (u.2, m u)) (hR5.same st2) hr (st2 _ _ hy1) ?_ (fun i2 => ?_)
        · exact term_rp (t := (u.2, m u)) (x := b2) (y := en.2.2) (.inl upd_same) ((k5.trans (Keep.of st2)).rp r2) ((k5.trans (Keep.of st2)).rp vk)
        · have : us.take (i + 1) = us.take i ++ [u] := by
            rw [List.take_add_one, hu]
            rfl
          rw [this, ls_snoc]
      · rintro σ H4 ⟨s4, s5, rfl, sm, hd4, kp, hR4⟩
        rw [← usl, List.take_length] at hR4
        refine ⟨_, rfl, D, rfl, ⟨_, SqL.of hR4.at_⟩, fun D2 hD2 => ?_⟩
        have hD2H : H D2 = none := sm.free hD2
        have dsl : ds.length = ws.length := by omega
        refine lc_list (K := K) (a := D) (xs := ds.map V.ref) (fun i H5 => ∃ ss : List Addr, Grw A.tabs H4 H5 ∧ H5 D2 = some (.lst (ss.map V.ref)) ∧ ss.length = i ∧ ∀ j s, ss[j]? = some s → j < ws.length → ∃ dx fa la, H5 s = some (.ins A.S dx [("own_field", .ref fa), ("row", .ref la)]) ∧ Fld A H5 fa (Num.p F) ∧ la ≠ D2 ∧ TmList K H5 la (canon fun k => m (Fin.ofNat 4 j, k)))
          ⟨[], .of (same_upd hD2), upd_same, rfl, fun j s e => by simp at e⟩ (fun i H5 _ ⟨_, g5, _⟩ => SqL.of (g5.ext _ _ hR4.at_ fun _ z => by cases z)) (fun i x H5 hi ⟨ss, g5, hD5, hsl, hss⟩ => ?_) (fun H5 ⟨ss, g5, hD5, hsl, hss⟩ => ?_)
        · rw [List.getElem?_map] at hi
          obtain ⟨r, hr, rfl⟩ := Option.map_eq_some_iff.mp hi
          have hid : i < ds.length := (List.getElem?_eq_some_iff.mp hr).1
          have hi4 : i < 4 := by omega
          have gH : Grw A.tabs H H5 := (Grw.of sm).trans g5
          have hy5 := gH.ext _ _ hy fun _ z => by cases z
          have hY5 : SysAt K A H5 a n ws := hY.grw gH
          have hr5 : TmList K H5 r (lsOf m us i) := (hR4.row i r hr).grw g5
          refine ⟨rfl, _, rfl, a, dx, _, rfl, hy5, rfl, a, n, ws, rfl, hY5, fun fb2 hF2 => ⟨_, rfl, fun x dx2 h1 h2 hne => ?_⟩⟩
          refine ⟨x, dx2, H5, fb2, r, lsOf m us i, rfl, Fresh.mk h1 h2 hne, gH.tabs hT, hF2, hr5, fun t ht => ?_, fun c k => ls_take m usn hi4 nsz_zero hmz c k, fun H6 la g6 hlf ⟨dx6, hx6⟩ hl6 => ⟨rfl, _, g6.ext _ _ hD5 (fun _ z => by cases z), ?_, ss ++ [x], ?_, ?_, ?_, fun j s e hj => ?_⟩⟩
          · unfold lsOf at ht
            obtain ⟨u, _, rfl⟩ := List.mem_map.mp ht
            exact hmz u
          · rw [List.length_map, hsl]
            exact Nat.lt_trans hi4 (by decide)
          · exact (g5.trans g6).wr hD2 (g6.ext _ _ hD5 fun _ z => by cases z) (fun _ z => by cases z) fun _ z => by cases z
          · rw [upd_same, List.map_append]
            rfl
          · rw [List.length_append, List.length_singleton, hsl]
          · have hD6 := g6.ext _ _ hD5 fun _ z => by cases z
            have kk : Keep H6 (upd H6 D2 (.lst (ss.map V.ref ++ [.ref x]))) := Keep.wr hD6 fun _ z => by cases z
            have put : ∀ {b : Addr} {o : HO}, H6 b = some o → b ≠ D2 → upd H6 D2 (.lst (ss.map V.ref ++ [.ref x])) b = some o := fun h n => by rw [upd_ne n]; exact h
            have nF : ∀ {b : Addr}, Fld A H6 b (Num.p F) → Fld A (upd H6 D2 (.lst (ss.map V.ref ++ [.ref x]))) b (Num.p F) := fun {b} ⟨p1, dy, p2⟩ => ⟨p1, dy, put p2 fun z => by rw [z, hD6] at p2; cases p2⟩
            rcases Nat.lt_or_ge j ss.length with h | h
            · rw [List.getElem?_append_left h] at e
              obtain ⟨dx7, fa7, la7, q1, q2, q3, q4⟩ := hss j s e hj
              have q1' := g6.ext _ _ q1 fun _ z => by cases z
              obtain ⟨zs, q5, q6⟩ := q4.grw g6
              exact ⟨dx7, fa7, la7, put q1' (fun z => by rw [z, hD6] at q1'; cases q1'), nF (q2.grw g6), q3, zs, put q5 q3, RpL.keep kk _ q6⟩
            · rw [List.getElem?_append_right h] at e
              obtain ⟨rfl, rfl⟩ : j = i ∧ x = s := by
                rcases hc : j - ss.length with _ | k
                · rw [hc] at e
                  exact ⟨by omega, by simpa using e⟩
                · rw [hc] at e
                  simp at e
              have nla : la ≠ D2 := fun z => hlf _ (by rw [z]; exact hD5)
              obtain ⟨zs, q5, q6⟩ := hl6
              refine ⟨dx6, fb2, la, put hx6 (fun z => by rw [z, hD6] at hx6; cases hx6), nF (hF2.grw g6), nla, zs, put q5 nla, ?_⟩
              have er : gsum (lsOf m us j) = fun k => m (Fin.ofNat 4 j, k) := funext fun k => by
                rw [ls_sum m usn hi4 k]
                split
                · rfl
                · rename_i hz0
                  have := mt (uss (Fin.ofNat 4 j, k)).mpr hz0
                  exact (Decidable.not_not.mp this).symm
              rw [← er]
              exact RpL.keep kk _ q6
        · rw [List.length_map, dsl] at hsl
          refine q H5 D2 ((Grw.of sm).trans g5) hD2H ⟨ss, hD5, ?_, fun i s f e1 e2 => ?_⟩
          · unfold showsOf
            rw [hsl, List.length_map, List.length_range]
          · have hi : i < ws.length := by
              have := (List.getElem?_eq_some_iff.mp e1).1
              omega
            obtain ⟨dx7, fa7, la7, q1, q2, q3, q4⟩ := hss i s e1 hi
            unfold showsOf at e2
            rw [List.getElem?_map, List.getElem?_range hi] at e2
            cases e2
            exact ⟨dx7, fa7, la7, q1, q2, q4⟩
end
end FsR
end
section
/-! Telling: told. -/
set_option Elab.async false
set_option linter.all false
set_option maxRecDepth 100000
namespace FsR
open PySem PySem.Spec PyProof.Rows L2 LamX Fs
section
variable {F : Type} [Num F]
theorem mem_univ {n d : Nat} {q : Pr} : q ∈ univ n d ↔ q.val < 2 ^ n ∧ size q ≤ d := by
  unfold univ inU
  rw [List.mem_filter]
  simp [prods_all]
theorem size_jn : ∀ p q : Pr, size (jn p q) ≤ size p + size q := by decide +kernel
theorem jn_val : ∀ n ∈ ([0, 1, 2, 3, 4] : List Nat), ∀ p q : Pr, p.val < 2 ^ n → q.val < 2 ^ n → (jn p q).val < 2 ^ n := by decide +kernel
theorem five {n : Nat} (h : n ≤ 4) : n ∈ ([0, 1, 2, 3, 4] : List Nat) := by
  have : n = 0 ∨ n = 1 ∨ n = 2 ∨ n = 3 ∨ n = 4 := by omega
  rcases this with rfl | rfl | rfl | rfl | rfl <;> decide
theorem bes_in {f : Row F} {q k : Pr} (h : besR f q k ≠ 0) : ∃ p, f p ≠ 0 ∧ jn p q = k := by
  have : k ∈ (besT f q).map (·.1) := by
    refine Decidable.not_not.mp fun z => h ?_
    exact gsum_out z
  obtain ⟨t, ht, e⟩ := List.mem_map.mp this
  unfold besT at ht
  obtain ⟨s, hs, rfl⟩ := List.mem_map.mp ht
  exact ⟨s.1, (canon_mem hs).1, e⟩
/-- a functional on a multiple of a wish -/
theorem dot_bes (W : Row F) (f : Row F) (q : Pr) : dot W (besR f q) = sumL prods fun p => W (jn p q) * f p := by
  unfold dot besR gsum besT
  have h1 : (fun k => W k * sumL ((canon f).map fun t => (jn t.1 q, t.2)) fun t => if t.1 = k then t.2 else 0) = fun k => sumL (canon f) fun t => W k * (if jn t.1 q = k then t.2 else 0) := funext fun k => by
    rw [sumL_map, sumL_mul]
  rw [h1, sumL_comm]
  have h2 : ∀ t ∈ canon f, (sumL prods fun k => W k * (if jn t.1 q = k then t.2 else 0)) = W (jn t.1 q) * t.2 := fun t _ => by
    rw [sumL_one prods_nodup (prods_all (jn t.1 q)) fun b _ hb => by rw [if_neg fun z => hb z.symm]; grind]
    rw [if_pos rfl]
  rw [sumL_congr h2]
  unfold canon
  rw [sumL_map]
  have h3 := sumL_filter prods (fun p => decide (f p ≠ 0)) fun p => W (jn p q) * f p
  rw [h3]
  refine sumL_congr fun p _ => ?_
  by_cases z : f p = 0
  · rw [if_neg (by simpa using z), z]; grind
  · rw [if_pos (by simpa using z)]
theorem gg_in {ws : List (Row F)} {n d : Nat} (hn : n ≤ 4) (hw : ws.length ≤ 4) (hI : ∀ f ∈ ws, InP n f) {μ : Mk} (h : μ ∈ pairsOf ws n d ws.length) {k : Pr} (hk : GG ws μ k ≠ 0) : k ∈ univ n d := by
  obtain ⟨i, f, hi, hf, hd, e1, e2⟩ := mem_pairs.mp h
  have eg := gg_at hf (by omega) μ.2
  rw [← e1] at eg
  have eg2 : GG ws μ = besR f μ.2 := eg
  rw [eg2] at hk
  obtain ⟨p, hp, rfl⟩ := bes_in hk
  obtain ⟨u1, u2⟩ := mem_univ.mp e2
  have h1 := degR_le hp
  have h2 := size_jn p μ.2
  exact mem_univ.mpr ⟨jn_val n (five hn) p μ.2 (hI f (List.mem_of_getElem? hf) p hp) u1, by omega⟩
/-- a showing: numbers of marks whose rows come to 1 -/
structure ShowOk (ws : List (Row F)) (n d : Nat) (m : MRow F) : Prop where
  one : ∀ k, comb (GG ws) m k = if k = 0 then 1 else 0
  sup : ∀ μ, m μ ≠ 0 → μ ∈ pairsOf ws n d ws.length
  sz : ∃ E : Int, E ≠ 0 ∧ (Num.p F = 0 → E.natAbs ≤ 2 ^ 424) ∧ ∀ μ, Num.rep E (2 ^ 424) (m μ)
/-- worths: a functional that is 1 on the empty product and nought on the rows -/
structure WorOk (ws : List (Row F)) (n d : Nat) (W : Row F) : Prop where
  one : W 0 = 1
  nil : ∀ μ ∈ pairsOf ws n d ws.length, dot W (GG ws μ) = 0
  sz : ∃ E : Int, E ≠ 0 ∧ (Num.p F = 0 → E.natAbs ≤ 2 ^ 400) ∧ ∀ k, Num.rep E (2 ^ 400) (W k)
theorem one_of {ws : List (Row F)} {n d : Nat} {m : MRow F} {W : Row F} (h1 : W 0 = 1) (h2 : ∀ μ ∈ pairsOf ws n d ws.length, dot W (GG ws μ) = 0) (S : ShowOk ws n d m) : False := by
  have e := dot_comb W (GG ws) m
  have e1 : dot W (comb (GG ws) m) = 1 := by
    unfold dot
    rw [sumL_one prods_nodup (prods_all 0) fun b _ hb => by rw [S.one, if_neg hb]; grind]
    rw [S.one, if_pos rfl, h1]; grind
  have e2 : (sumL marks fun μ => m μ * dot W (GG ws μ)) = 0 := sumL_zero fun μ _ => by
    by_cases z : m μ = 0
    · rw [z]; grind
    · rw [h2 μ (S.sup μ z)]; grind
  rw [e1, e2] at e
  exact one_ne e
theorem pairs_up {ws : List (Row F)} {n d d2 : Nat} (h : d ≤ d2) {μ : Mk} (hm : μ ∈ pairsOf ws n d ws.length) : μ ∈ pairsOf ws n d2 ws.length := by
  obtain ⟨i, f, hi, hf, hd, e1, e2⟩ := mem_pairs.mp hm
  obtain ⟨u1, u2⟩ := mem_univ.mp e2
  exact mem_pairs.mpr ⟨i, f, hi, hf, by omega, e1, mem_univ.mpr ⟨u1, by omega⟩⟩
theorem show_up {ws : List (Row F)} {n d d2 : Nat} {m : MRow F} {W : Row F} (h : d ≤ d2) (S : ShowOk ws n d m) (Wk : WorOk ws n d2 W) : False := one_of Wk.one (fun μ hm => Wk.nil μ (pairs_up h hm)) S
theorem show_of {ws : List (Row F)} {n d : Nat} {B : Bs F} {b : Pr → Mk} {r : Row F} {m : MRow F} (L : LInv (GG ws) (fun μ => μ ∈ pairsOf ws n d ws.length) B b) (Z : LSz B) (e : B 0 = some (r, m)) : ShowOk ws n d m := by
  refine ⟨fun k => ?_, fun μ h => ?_, ?_⟩
  · rw [← L.made e k]
    by_cases z : k = 0
    · subst z
      rw [if_pos rfl]
      exact L.lead e
    · rw [if_neg z]
      refine Decidable.not_not.mp fun hz => z ?_
      have := L.low e hz
      rw [rank_zero] at this
      exact rank_inj _ _ (by rw [rank_zero]; omega)
  · obtain ⟨h', hs, _, rfl⟩ := L.supp e h
    exact L.bdone hs
  · obtain ⟨E, a, b, c, f⟩ := Z 0 r m e
    exact ⟨E, a, b, f⟩
theorem rows_in {ws : List (Row F)} {n d : Nat} (hn : n ≤ 4) (hw : ws.length ≤ 4) (hI : ∀ f ∈ ws, InP n f) {B : Bs F} {b : Pr → Mk} (L : LInv (GG ws) (fun μ => μ ∈ pairsOf ws n d ws.length) B b) {h : Pr} {r : Row F} {m : MRow F} (e : B h = some (r, m)) {k : Pr} (hk : r k ≠ 0) : k ∈ univ n d := by
  rw [L.made e k] at hk
  have : ∃ μ, m μ * GG ws μ k ≠ 0 := by
    refine Classical.not_forall_not.mp fun z => hk ?_
    exact sumL_zero fun μ _ => Decidable.not_not.mp (z μ)
  obtain ⟨μ, hμ⟩ := this
  have m0 : m μ ≠ 0 := fun z => hμ (by rw [z]; grind)
  have g0 : GG ws μ k ≠ 0 := fun z => hμ (by rw [z]; grind)
  obtain ⟨h', hs, _, rfl⟩ := L.supp e m0
  exact gg_in hn hw hI (L.bdone hs) g0
theorem univ_zero (n d : Nat) : (0 : Pr) ∈ univ n d := mem_univ.mpr ⟨Nat.pow_pos (by decide), Nat.zero_le _⟩
theorem wor_of {ws : List (Row F)} {n d : Nat} (hn : n ≤ 4) (hw : ws.length ≤ 4) (hI : ∀ f ∈ ws, InP n f) (hZ : WSz ws) {B : Bs F} {b : Pr → Mk} (L : LInv (GG ws) (fun μ => μ ∈ pairsOf ws n d ws.length) B b) (e : B 0 = none) : WorOk ws n d (wor B (univ n d)) := by
  have hU : ∀ h, (B h).isSome → h ∈ univ n d := fun h hs => by
    obtain ⟨⟨r, m⟩, e⟩ := Option.isSome_iff_exists.mp hs
    exact rows_in hn hw hI L e (k := h) (by rw [L.lead e]; exact one_ne)
  obtain ⟨D, N, hS, hr⟩ := hZ
  exact ⟨wor_zero L (univ_sorted n d) (univ_zero n d), fun μ h => wor_worths L (univ_sorted n d) e hU h, worths_small L (univ_sorted n d) e hU (univ_zero n d) hS fun μ k => gg_rep hS hr μ k⟩
end
section
variable {P : Program} {w : World} {K : PySem.W.Frag} {mg : Str → Option Value} {base : Heap} {A : Ad} {F : Type} [Num F]
theorem sc_told : FnScope ["system", "degree", "lines"] ["system", "degree"] (defScope (topS 52)) := ⟨rfl, rfl, rfl, by decide +kernel, rfl, by decide +kernel, by decide +kernel⟩
def spTold (K : PySem.W.Frag) (w : World) (A : Ad) (F : Type) [Num F] : Sp := fun vs H Q _ => ∃ (a : Addr) (n d : Nat) (ws : List (Row F)), vs = [.ref a, .int d] ∧ SysAt K A H a n ws ∧ n ≤ 4 ∧ ws.length ≤ 4 ∧ d ≤ 4 ∧ WSz ws ∧ (∀ f ∈ ws, InP n f) ∧ Tabs A.tabs H ∧
  (∀ H' t l m, Grw A.tabs H H' → H l = none → ShowOk ws n d m → Tp K H' t [.str "showing", .ref l] → SmList K A H' l (showsOf m ws.length) → Q (.ref t) H') ∧
  (∀ H' t e W, Grw A.tabs H H' → H e = none → WorOk ws n d W → Tp K H' t [.str "worths", .ref e] → DG K w H' e pk (toldAt W (univ n d)) → Q (.ref t) H')
theorem c_told (T : Txt K mg A) (X0 : TX base mg A) : Cal P w K mg base CX0 8 "told" ["system", "degree"] [] (spTold K w A F) := by
  refine cal_mk T.g_told (fun _ _ _ _ _ _ us hl => match us, hl with | [_, _], _ => rfl) sc_told (fun vs H Q E h => ?_) (fun f cdv Ar outer s H vs Q E hr h => ?_)
  · obtain ⟨a, n, d, ws, rfl, _⟩ := h
    rfl
  · obtain ⟨a, n, d, ws, rfl, hY, hn, hw, hd, hZ, hI, hT, q1, q2⟩ := h
    refine ⟨_, (pss_cons (ps_expr (pc (c_look_at_degree T) (hr.mono (by decide)) (pa_cons (pv 1) pa_nil)))
      (pss_cons (ps_expr (pc (c_look_at_many (F := F) T) (hr.mono (by decide)) (pa_cons (pv 0) (pa_cons (pv 1) pa_nil))))
      (pss_cons (ps_set (i := 2) sc_told.nd rfl (by first | exact Or.inl rfl | exact Or.inr rfl) (pc (c_lines_of (F := F) T) (hr.mono (by decide)) (pa_cons (pv 0) (pa_cons (pv 1) pa_nil))))
      (pss_cons (ps_if (pt_cmpR op_notN (pcm (c_Lines_made_of (F := F) T) T.clL (hr.mono (by decide)) (pv 2) (pa_cons (pe_tup pa_nil) pa_nil)) pe_non (nomark _)) (pss_one (ps_ret (pe_tup (pa_cons pe_str (pa_cons (pc (c_showing_by (F := F) T X0) (hr.mono (by decide)) (pa_cons (pv 0) (pa_cons (pv 2) pa_nil))) pa_nil)))))
      pss_nil)
      (pss_one (ps_ret (pe_tup (pa_cons pe_str (pa_cons (pcm (c_Lines_nought_on_all (F := F) T) T.clL (hr.mono (by decide)) (pv 2) (pa_cons (pc (c_products_of T) (hr.mono (by decide)) (pa_cons (pcm0 (c_System_places (F := F) T) T.clY (hr.mono (by decide)) (pv 0)) (pa_cons (pv 1) pa_nil))) pa_nil)) pa_nil))))))))), ?_⟩
    refine ⟨_, rfl, d, rfl, hd, ?_⟩
    refine ⟨_, rfl, _, rfl, a, n, d, ws, rfl, hY, hn, hw, hd, fun H1 sm1 => ?_⟩
    refine ⟨_, rfl, _, rfl, a, n, d, ws, rfl, hY.same sm1, hn, hw, hd, hZ, fun H2 y fb bh B b sm2 hL hF hB hV hS => ?_⟩
    have s2 := sm1.trans sm2
    obtain ⟨dz, hz⟩ := id hL
    refine ⟨_, rfl, y, dz, _, rfl, hz, rfl, (Nat.zero_le _ : 0 ≤ sizeLine), fun t ht => ?_⟩
    have st := same_upd (o := .tup []) ht
    refine ⟨y, fb, bh, .ref t, 0, B, rfl, ⟨dz, st _ _ hz⟩, BG.grw (T := []) hB (.of st), rp_tup_iff.mpr ⟨t, [], rfl, .inl upd_same, rpl_nil⟩, fun z => ?_, fun r m e H3 d3 sm3 hd3 dg => ?_⟩
    · obtain ⟨w1, w2, E2, f0, f1, f2⟩ := wor_of hn hw hI hZ hV z
      have s3 := s2.trans st
      obtain ⟨dx, fa, l1, l2, hy, _⟩ := id hY
      have hY3 := hY.same s3
      refine ⟨rfl, _, rfl, itNF rfl ?_⟩
      refine ⟨_, rfl, y, dz, _, rfl, st _ _ hz, rfl, ?_⟩
      refine ⟨_, rfl, a, dx, _, rfl, s3 _ _ hy, rfl, a, n, ws, rfl, hY3, _, rfl, n, d, rfl, hn, hd, fun H3 pl sm3 hpl hP => ?_⟩
      have s4 := st.trans sm3
      have hU : ∀ h, (B h).isSome → h ∈ univ n d := fun h hs => by
        obtain ⟨⟨r, m⟩, e⟩ := Option.isSome_iff_exists.mp hs
        exact rows_in hn hw hI hV e (k := h) (by rw [hV.lead e]; exact one_ne)
      refine ⟨y, fb, bh, pl, B, univ n d, E2, rfl, ⟨dz, s4 _ _ hz⟩, hF.same s4, BG.grw (T := []) hB (.of s4), hP, univ_sorted n d, z, hS, fun p hp => wor_in hV (univ n d) _ (univ_sorted n d) p hp, fun h r m e k hk => ⟨hV.low e hk, fun _ => rows_in hn hw hI hV e hk⟩, f0, f1, f2, fun H4 e sm4 he dg => ?_⟩
      refine ⟨(by decide : 2 ≤ sizeLine), fun t2 ht2 => ?_⟩
      have s5 := s2.trans (s4.trans sm4)
      exact q2 _ t2 e _ (.of (s5.trans (same_upd ht2))) ((s2.trans s4).free he) ⟨w1, w2, E2, f0, f1, f2⟩ (.inl upd_same) (DG.grw (T := []) dg (.of (same_upd ht2)))
    · have hok := show_of hV hS e
      obtain ⟨E2, f0, f1, f2⟩ := hok.sz
      have s3 := st.trans sm3
      have s4 := s2.trans s3
      refine ⟨rfl, _, rfl, itNT (fun z => by cases z) ?_⟩
      refine ⟨_, rfl, _, rfl, a, y, n, ws, fb, bh, B, r, m, rfl, hY.same s4, hw, ⟨dz, s3 _ _ hz⟩, BG.grw (T := []) hB (.of s3), e, fun μ => nsz_of fun hp => ⟨E2, _, f0, f2 μ, p2_lt (Nat.le_refl _) (by decide), p2_lt (f1 hp) (by decide)⟩, fun μ h => ?_, (Grw.of s4).tabs hT, fun H4 l g4 hl hL4 => ?_⟩
      · obtain ⟨i, f, hi, _, _, e1, _⟩ := mem_pairs.mp (hok.sup μ h)
        have : μ.1.val = i := by
          rw [e1]
          exact Nat.mod_eq_of_lt (by omega)
        omega
      · refine ⟨(by decide : 2 ≤ sizeLine), fun t2 ht2 => ?_⟩
        exact q1 _ t2 l m ((Grw.of s4).trans (g4.trans (.of (same_upd ht2)))) (s4.free hl) hok (.inl upd_same) (hL4.same (same_upd ht2))
end
end FsR
end
section
/-! The law's own reckoning: its room of numbers, its numbers. -/
set_option Elab.async false
set_option linter.all false
set_option maxRecDepth 100000
namespace FsR
open PySem PySem.Spec PyProof.Rows L2 LamX Fs
/-- the law's room: what is left of its script's number, and a state -/
def RoomAt (H : Hp) (r : Addr) : Prop := ∃ x y : Int, H r = some (.lst [.int x, .int y]) ∧ y.natAbs < 2147483647
theorem RoomAt.same {H H' : Hp} {r : Addr} (h : RoomAt H r) (s : Same H H') : RoomAt H' r := by
  obtain ⟨x, y, e, hy⟩ := h
  exact ⟨x, y, s _ _ e, hy⟩
theorem RoomAt.keep {H H' : Hp} {r : Addr} (h : RoomAt H r) (s : SB r H H') : Keep H H' := by
  obtain ⟨x, y, e, hy⟩ := h
  exact fun b ys eb => s b _ (fun z => by rw [z, e] at eb; cases eb) eb
theorem fmod_bd {a n : Int} (h : 0 < n) : 0 ≤ a.fmod n ∧ a.fmod n < n := by
  rw [Int.fmod_eq_emod_of_nonneg _ (by omega)]
  exact ⟨Int.emod_nonneg _ (by omega), Int.emod_lt_of_pos _ (by omega)⟩
theorem mulc {i j : Int} {a b : Nat} (ha : i.natAbs < 2 ^ (a + 1)) (hb : j.natAbs < 2 ^ (b + 1)) (h : a + b + 2 ≤ 1000000 := by decide) : CMulW i j := wide_mul ha hb (Nat.succ_pos _) (Nat.succ_pos _) (by omega)
section
variable {P : Program} {w : World} {K : PySem.W.Frag} {mg : Str → Option Value} {base : Heap} {A : Ad} {F : Type} [Num F]
theorem sc__law_room : FnScope ["_law_script", "_law_k", "_law_cell", "_law_left"] ["_law_script", "_law_k"] (defScope (topS 54)) := ⟨rfl, rfl, rfl, by decide +kernel, rfl, by decide +kernel, by decide +kernel⟩
def spRoom (K : PySem.W.Frag) : Sp := fun vs H Q _ => ∃ (a : Addr) (ns : List Int) (k : Nat), vs = [.ref a, .int k] ∧ SqL K H a (ns.map V.int) ∧ k ≤ 10 ∧ ∀ H' r, Same H H' → H r = none → RoomAt H' r → Q (.ref r) H'
theorem c__law_room (T : Txt K mg A) : Cal P w K mg base CX0 1 "_law_room" ["_law_script", "_law_k"] [] (spRoom K) := by
  refine cal_mk T.g__law_room (fun _ _ _ _ _ _ us hl => match us, hl with | [_, _], _ => rfl) sc__law_room (fun vs H Q E h => ?_) (fun f cdv Ar outer s H vs Q E hr h => ?_)
  · obtain ⟨a, ns, k, rfl, _⟩ := h
    rfl
  · obtain ⟨a, ns, k, rfl, hs, hk, q⟩ := h
    refine ⟨_, (pss_cons (ps_set (i := 2) sc__law_room.nd rfl (by first | exact Or.inl rfl | exact Or.inr rfl) pe_int)
      (pss_cons (ps_if (pt_cmpR op_lt (pv 1) (pe_callB call_len_seq (by rfl) T.len (by decide +kernel) (pa_cons (pv 0) pa_nil)) (nomark _)) (pss_one (ps_set (i := 2) sc__law_room.nd rfl (by first | exact Or.inl rfl | exact Or.inr rfl) (pe_ix ix_list (pv 0) (pv 1) (fun _ _ => rfl))))
      pss_nil)
      (pss_cons (ps_set (i := 3) sc__law_room.nd rfl (by first | exact Or.inl rfl | exact Or.inr rfl) pe_int)
      (pss_cons (ps_if (pt_cmpR op_ge (pv 2) (pe_op op_pow pe_int pe_int) (nomark _)) (pss_one (ps_set (i := 3) sc__law_room.nd rfl (by first | exact Or.inl rfl | exact Or.inr rfl) (pv 2)))
      pss_nil)
      (pss_one (ps_ret (pe_lst (pa_cons (pv 3) (pa_cons (pe_op op_modN (pe_op op_mulW (pe_op op_add (pe_op op_add (pe_op op_modN (pv 2) pe_int) (pe_op op_mulW (pe_op op_mulW pe_int (pv 1)) (pv 1))) pe_int) pe_int) pe_int) pa_nil))))))))), ?_⟩
    have fin : ∀ c l : Int, tRet (tLst (tCons (tVar 3) (tCons (tOp (rI (fun _ j => j ≠ 0) fun i j => V.int (i.fmod j)) (tOp (rI CMulW fun i j => .int (i * j)) (tOp (rI0 fun i j => .int (i + j)) (tOp (rI0 fun i j => .int (i + j)) (tOp (rI (fun _ j => j ≠ 0) fun i j => V.int (i.fmod j)) (tVar 2) (tC (.int 2147483629))) (tOp (rI CMulW fun i j => .int (i * j)) (tOp (rI CMulW fun i j => .int (i * j)) (tC (.int 104729)) (tVar 1)) (tVar 1))) (tC (.int 7))) (tC (.int 48271))) (tC (.int 2147483647))) tNil))) { nx := fun _ H' => Q .non H', rt := Q } [some (.ref a), some (.int k), some (.int c), some (.int l)] H := fun c l => by
      have h1 := fmod_bd (a := c) (n := 2147483629) (by decide)
      have h2 : k * k ≤ 100 := Nat.mul_le_mul hk hk
      have ek : (104729 * (k : Int) * (k : Int)) = 104729 * ((k * k : Nat) : Int) := by rw [Int.natCast_mul, Int.mul_assoc]
      refine ⟨_, rfl, _, rfl, _, _, rfl, rfl, (by show (2147483629 : Int) ≠ 0; decide), _, rfl, _, _, rfl, rfl, mulc (a := 20) (b := 4) (by decide) (by omega), _, rfl, _, _, rfl, rfl, mulc (a := 24) (b := 4) (by omega) (by omega), _, _, rfl, rfl, _, _, rfl, rfl, _, _, rfl, rfl, mulc (a := 40) (b := 16) ?_ (by decide), _, _, rfl, rfl, (by show (2147483647 : Int) ≠ 0; decide), ?_⟩
      · rw [ek]
        omega
      · refine ⟨(by decide : 2 ≤ sizeLine), fun r hr' => q _ r (same_upd hr') hr' ⟨_, _, upd_same, ?_⟩⟩
        have := fmod_bd (a := (c.fmod 2147483629 + 104729 * (k : Int) * (k : Int) + 7) * 48271) (n := 2147483647) (by decide)
        omega
    have second : ∀ c : Int, tSeq (tAsg (tC (V.int 0)) (gName 3)) (tSeq (tIfS (tTest (tOp (rI0 fun i j => V.bl (decide (j ≤ i))) (tVar 2) (tOp (rI CPow fun i j => V.int (i ^ j.toNat)) (tC (V.int 10)) (tC (V.int 18))))) (tAsg (tVar 2) (gName 3)) tNext) (tRet (tLst (tCons (tVar 3) (tCons (tOp (rI (fun _ j => j ≠ 0) fun i j => V.int (i.fmod j)) (tOp (rI CMulW fun i j => .int (i * j)) (tOp (rI0 fun i j => .int (i + j)) (tOp (rI0 fun i j => .int (i + j)) (tOp (rI (fun _ j => j ≠ 0) fun i j => V.int (i.fmod j)) (tVar 2) (tC (.int 2147483629))) (tOp (rI CMulW fun i j => .int (i * j)) (tOp (rI CMulW fun i j => .int (i * j)) (tC (.int 104729)) (tVar 1)) (tVar 1))) (tC (.int 7))) (tC (.int 48271))) (tC (.int 2147483647))) tNil))))) { nx := fun _ H' => Q .non H', rt := Q } [some (.ref a), some (.int k), some (.int c), none] H := fun c => by
      refine ⟨_, rfl, _, _, rfl, rfl, (by unfold CPow; decide), _, _, rfl, rfl, _, rfl, it2 (fun _ => ?_) (fun _ => ?_)⟩
      · exact ⟨_, rfl, fin c c⟩
      · exact fin c 0
    refine ⟨_, rfl, _, rfl, a, _, rfl, .inl hs, _, _, rfl, rfl, _, rfl, it2 (fun hlt => ?_) (fun _ => ?_)⟩
    · rw [List.length_map] at hlt
      have hk2 : k < ns.length := by omega
      refine ⟨_, rfl, _, rfl, a, _, _, .int ns[k], rfl, rfl, hs, at_of (j := k) rfl (by rw [List.getElem?_map, List.getElem?_eq_getElem hk2]; rfl), second _⟩
    · exact second 0
theorem sc__law_take : FnScope ["_law_room_here", "_law_many", "_law_found"] ["_law_room_here", "_law_many"] (defScope (topS 55)) := ⟨rfl, rfl, rfl, by decide +kernel, rfl, by decide +kernel, by decide +kernel⟩
def spTake : Sp := fun vs H Q _ => ∃ (r : Addr) (m : Nat), vs = [.ref r, .int m] ∧ RoomAt H r ∧ 1 ≤ m ∧ m ≤ 2000 ∧ ∀ H' (v : Nat), SB r H H' → RoomAt H' r → v < m → Q (.int v) H'
theorem c__law_take (T : Txt K mg A) : Cal P w K mg base CX0 1 "_law_take" ["_law_room_here", "_law_many"] [] spTake := by
  refine cal_mk T.g__law_take (fun _ _ _ _ _ _ us hl => match us, hl with | [_, _], _ => rfl) sc__law_take (fun vs H Q E h => ?_) (fun f cdv Ar outer s H vs Q E hr h => ?_)
  · obtain ⟨r, m, rfl, _⟩ := h
    rfl
  · obtain ⟨r, m, rfl, ⟨x, y, e, hy⟩, h1, h2, q⟩ := h
    refine ⟨_, (pss_cons (ps_if (pt_cmpR op_gt (pe_ix ix_list (pv 0) pe_int (fun _ _ => rfl)) pe_int (nomark _)) (pss_cons (ps_set (i := 2) sc__law_take.nd rfl (by first | exact Or.inl rfl | exact Or.inr rfl) (pe_op op_modN (pe_ix ix_list (pv 0) pe_int (fun _ _ => rfl)) (pv 1)))
      (pss_cons (ps_asg (pe_op op_fdivW (pe_ix ix_list (pv 0) pe_int (fun _ _ => rfl)) (pv 1)) (pg_sub (pv 0) pe_int set_list))
      (pss_one (ps_ret (pv 2)))))
      pss_nil)
      (pss_cons (ps_asg (pe_op op_modN (pe_op op_add (pe_op op_mulW (pe_ix ix_list (pv 0) pe_int (fun _ _ => rfl)) pe_int) pe_int) pe_int) (pg_sub (pv 0) pe_int set_list))
      (pss_cons (ps_set (i := 2) sc__law_take.nd rfl (by first | exact Or.inl rfl | exact Or.inr rfl) (pe_op op_fdivW (pe_op op_modN (pe_op op_mulW (pe_ix ix_list (pv 0) pe_int (fun _ _ => rfl)) (pe_ix ix_list (pv 0) pe_int (fun _ _ => rfl))) pe_int) pe_int))
      (pss_cons (ps_if (pt_cmpR op_gt (pv 1) (pe_op op_pow pe_int pe_int) (nomark _)) (pss_cons (ps_asg (pe_op op_modN (pe_op op_add (pe_op op_mulW (pe_ix ix_list (pv 0) pe_int (fun _ _ => rfl)) pe_int) pe_int) pe_int) (pg_sub (pv 0) pe_int set_list))
      (pss_one (ps_set (i := 2) sc__law_take.nd rfl (by first | exact Or.inl rfl | exact Or.inr rfl) (pe_op op_add (pe_op op_mulW (pv 2) pe_int) (pe_op op_modN (pe_op op_mulW (pe_ix ix_list (pv 0) pe_int (fun _ _ => rfl)) (pe_ix ix_list (pv 0) pe_int (fun _ _ => rfl))) pe_int)))))
      pss_nil)
      (pss_one (ps_ret (pe_op op_modN (pv 2) (pv 1)))))))), ?_⟩
    have m0 : (m : Int) ≠ 0 := by omega
    have vb : ∀ z : Int, ∃ v : Nat, z.fmod m = v ∧ v < m := fun z => by
      have := fmod_bd (a := z) (n := m) (by omega)
      exact ⟨(z.fmod m).toNat, by omega, by omega⟩
    refine ⟨_, rfl, _, _, _, .int x, rfl, rfl, SqL.of e, at_of (j := 0) rfl rfl, _, _, rfl, rfl, _, rfl, it2 (fun hx => ?_) (fun hx => ?_)⟩
    · obtain ⟨v, ev, hv⟩ := vb x
      refine ⟨_, rfl, _, _, _, .int x, rfl, rfl, SqL.of e, at_of (j := 0) rfl rfl, _, rfl, _, _, rfl, rfl, m0, ?_⟩
      refine ⟨_, rfl, _, _, _, .int x, rfl, rfl, SqL.of e, at_of (j := 0) rfl rfl, _, rfl, _, _, rfl, rfl, wide_div (by omega) (b := 12) (by omega) (by decide) (by decide), _, rfl, r, _, _, 0, rfl, rfl, e, rfl, ?_⟩
      refine ⟨_, rfl, ?_⟩
      show Q (.int (x.fmod m)) _
      rw [ev]
      exact q _ v SB.upd ⟨x / m, y, upd_same, hy⟩ hv
    · have p6 : ¬ ((10 : Int) ^ Int.toNat 6 < (m : Int)) := by
        have e6 : ((10 : Int) ^ Int.toNat 6) = 1000000 := by decide
        rw [e6]; omega
      have step : ∀ z : Int, ((z * 48271 + 39373).fmod 2147483647).natAbs < 2147483647 := fun z => by
        have := fmod_bd (a := z * 48271 + 39373) (n := 2147483647) (by decide)
        omega
      refine ⟨_, rfl, _, _, _, .int y, rfl, rfl, SqL.of e, at_of (j := 1) rfl rfl, _, _, rfl, rfl, mulc (a := 30) (b := 16) (by omega) (by decide), _, _, rfl, rfl, _, _, rfl, rfl, (by show (2147483647 : Int) ≠ 0; decide), _, rfl, r, _, _, 1, rfl, rfl, e, rfl, ?_⟩
      have hy2 := step y
      have e2 : upd H r (.lst (([V.int x, V.int y] : List V).set 1 (V.int ((y * 48271 + 39373).fmod 2147483647)))) r = some (.lst [.int x, .int ((y * 48271 + 39373).fmod 2147483647)]) := upd_same
      refine ⟨_, rfl, _, _, _, .int ((y * 48271 + 39373).fmod 2147483647), rfl, rfl, SqL.of e2, at_of (j := 1) rfl rfl, _, rfl, _, _, _, .int ((y * 48271 + 39373).fmod 2147483647), rfl, rfl, SqL.of e2, at_of (j := 1) rfl rfl, _, _, rfl, rfl, mulc (a := 30) (b := 30) (by omega) (by omega), _, _, rfl, rfl, (by show (2147483629 : Int) ≠ 0; decide), _, _, rfl, rfl, wide_div (by decide) (b := 5) (by decide) (by decide) (by decide), ?_⟩
      refine ⟨_, rfl, _, _, rfl, rfl, (by unfold CPow; decide), _, _, rfl, rfl, _, rfl, itF p6 ?_⟩
      obtain ⟨v, ev, hv⟩ := vb ((((y * 48271 + 39373).fmod 2147483647) * ((y * 48271 + 39373).fmod 2147483647)).fmod 2147483629 / 16)
      refine ⟨_, rfl, _, rfl, _, _, rfl, rfl, m0, ?_⟩
      show Q (.int (((((y * 48271 + 39373).fmod 2147483647) * ((y * 48271 + 39373).fmod 2147483647)).fmod 2147483629 / 16).fmod m)) _
      rw [ev]
      exact q _ v SB.upd ⟨x, ((y * 48271 + 39373).fmod 2147483647), e2, hy2⟩ hv
/-! ### the law's own numbers -/
theorem sc__law_lowest : FnScope ["_law_top", "_law_base", "_law_one", "_law_other", "_law_sign"] ["_law_top", "_law_base"] (defScope (topS 56)) := ⟨rfl, rfl, rfl, by decide +kernel, rfl, by decide +kernel, by decide +kernel⟩
theorem sgn_ix (b : Int) : atI ([V.int 1, V.int (-1)] : List V) (if decide (b < 0) = true then 1 else 0) = some (.int (if b < 0 then -1 else 1)) := by
  by_cases h : b < 0
  · rw [if_pos (decide_eq_true h), if_pos h]
    exact at_of (j := 1) rfl rfl
  · rw [if_neg (by simpa using h), if_neg h]
    exact at_of (j := 0) rfl rfl
theorem c__law_lowest (T : Txt K mg A) : Cal P w K mg base CX0 1 "_law_lowest" ["_law_top", "_law_base"] [] (spLowest K) := by
  refine cal_mk T.g__law_lowest (fun _ _ _ _ _ _ us hl => match us, hl with | [_, _], _ => rfl) sc__law_lowest (fun vs H Q E h => ?_) (fun f cdv Ar outer s H vs Q E hr h => ?_)
  · obtain ⟨t, b, rfl, _⟩ := h
    rfl
  · obtain ⟨t, b, rfl, hb, st, sb, q⟩ := h
    refine ⟨_, (pss_cons (ps_set (i := 2) sc__law_lowest.nd rfl (by first | exact Or.inl rfl | exact Or.inr rfl) (pe_callB call_abs (by rfl) T.abs (by decide +kernel) (pa_cons (pv 0) pa_nil)))
      (pss_cons (ps_set (i := 3) sc__law_lowest.nd rfl (by first | exact Or.inl rfl | exact Or.inr rfl) (pe_callB call_abs (by rfl) T.abs (by decide +kernel) (pa_cons (pv 1) pa_nil)))
      (pss_cons (ps_while PassesOwn.never (pt_cmpR op_ne (pv 3) pe_int (nomark _))
      (pss_one (ps_par (i := 2) (j := 3) rfl sc__law_lowest.nd rfl rfl (by decide) rfl rfl (pa_cons (pv 3) (pa_cons (pe_op op_modN (pv 2) (pv 3)) pa_nil)) (by rfl))))
      (pss_cons (ps_set (i := 4) sc__law_lowest.nd rfl (by first | exact Or.inl rfl | exact Or.inr rfl) (pe_ix ix_list (pe_lst (pa_cons pe_int (pa_cons (pe_un un_neg pe_int) pa_nil))) (pe_callTy call_int1 (by rfl) T.int (by decide +kernel) (pa_cons (pe_cmpR op_lt (pv 1) pe_int (nomark _)) pa_nil)) (fun _ _ => rfl)))
      (pss_one (ps_ret (pe_tup (pa_cons (pe_op op_fdivW (pe_op op_mulW (pv 4) (pv 0)) (pv 2)) (pa_cons (pe_op op_fdivW (pe_callB call_abs (by rfl) T.abs (by decide +kernel) (pa_cons (pv 1) pa_nil)) (pv 2)) pa_nil))))))))), ?_⟩
    refine ⟨_, rfl, _, rfl, _, rfl, _, rfl, ?_⟩
    have e0 : ([some (.int t), some (.int b), some (.int (if t < 0 then -t else t)), some (.int (if b < 0 then -b else b)), none] : L2.St) = [some (.int t), some (.int b), some (.int t.natAbs), some (.int b.natAbs), none] := by
      rw [abs_if, abs_if]
    refine ⟨fun m σ H1 => ∃ x y : Nat, σ = [some (.int t), some (.int b), some (.int x), some (.int y), none] ∧ H1 = H ∧ y = m ∧ Nat.gcd x y = Int.gcd t b, ⟨_, t.natAbs, b.natAbs, e0, rfl, rfl, rfl⟩, ?_⟩
    rintro m σ H1 ⟨x, y, rfl, rfl, rfl, hg⟩
    refine ⟨_, rfl, rfl, _, rfl, itN2 (fun hy => ?_) (fun hy => ?_)⟩
    · have hy0 : y ≠ 0 := fun z => hy (by rw [z]; rfl)
      refine ⟨fun σ H2 => ∃ x2 y2 : Nat, σ = [some (.int t), some (.int b), some (.int x2), some (.int y2), none] ∧ H2 = H1 ∧ y2 < y ∧ Nat.gcd x2 y2 = Int.gcd t b, fun σ H2 ⟨x2, y2, e1, e2, e3, e4⟩ => ⟨y2, e3, x2, y2, e1, e2, rfl, e4⟩, ?_⟩
      refine ⟨_, rfl, _, rfl, _, rfl, _, _, rfl, rfl, by omega, _, _, rfl, y, x % y, ?_, rfl, Nat.mod_lt _ (by omega), ?_⟩
      · show ([some (V.int t), some (V.int b), some (V.int y), some (V.int ((x : Int).fmod y)), none] : L2.St) = _
        rw [fmod_nat]
      · rw [gcd_mod]; exact hg
    · have hy0 : y = 0 := Int.ofNat_inj.mp (V.int.inj hy)
      subst hy0
      rw [Nat.gcd_zero_right] at hg
      subst hg
      have gp : 0 < Int.gcd t b := Int.gcd_pos_of_ne_zero_right _ hb
      have gb : Int.gcd t b ≤ b.natAbs := Nat.le_of_dvd (by omega) (Int.gcd_dvd_natAbs_right _ _)
      have sg : Sz 4000 ((Int.gcd t b : Nat) : Int) := sz_nat sb gb
      refine ⟨_, rfl, (by decide : 2 ≤ sizeLine), fun l hl => ?_⟩
      have s1 := same_upd (o := .lst [.int 1, .int (-1)]) hl
      refine ⟨_, rfl, _, _, rfl, rfl, .inr ⟨_, rfl, ?_⟩⟩
      refine ⟨l, _, _, .int (if b < 0 then -1 else 1), rfl, rfl, SqL.of upd_same, sgn_ix b, ?_⟩
      have sg2 : (if b < 0 then -1 else 1 : Int) = b.sign := by
        rcases Int.lt_or_gt_of_ne hb with z | z
        · rw [if_pos z, Int.sign_eq_neg_one_of_neg z]
        · rw [if_neg (by omega), Int.sign_eq_one_of_pos z]
      rw [sg2]
      refine ⟨_, rfl, _, rfl, _, _, rfl, rfl, ?_, _, rfl, _, _, rfl, rfl, ?_, _, rfl, _, rfl, _, rfl, _, _, rfl, rfl, ?_, ?_⟩
      · exact Sz.cmul (n := 7) (m := 3999) (Sz.small (n := 0) (by rcases Int.sign_trichotomy b with z | z | z <;> rw [z] <;> decide)) st (by decide)
      · exact wide_div (by omega) (b := 4000) sg (by decide) (by decide)
      · exact wide_div (by omega) (b := 4000) sg (by decide) (by decide)
      refine ⟨(by decide : 2 ≤ sizeLine), fun p hp => q _ _ (s1.trans (same_upd hp)) ?_⟩
      have e : mkN 0 t b = (b.sign * t / (Int.gcd t b : Int), (b.natAbs : Int) / (Int.gcd t b : Int)) := by
        unfold mkN
        rw [if_pos rfl]
      rw [e, ← abs_if b]
      exact rp_pair
theorem sc__law_make : FnScope ["_law_prime_here", "_law_top", "_law_base", "_law_k"] ["_law_prime_here", "_law_top", "_law_base"] (defScope (topS 57)) := ⟨rfl, rfl, rfl, by decide +kernel, rfl, by decide +kernel, by decide +kernel⟩
/-- the numbers of a prime's field, by whole numbers -/
def spMk (K : PySem.W.Frag) : Sp := fun vs H Q _ => ∃ p t b : Int, vs = [.int p, .int t, .int b] ∧ Pok p ∧ okB p b ∧ Sz 4000 t ∧ Sz 4000 b ∧ ∀ H' v, Same H H' → rpN K H' (mkN p t b) v → Q v H'
theorem c__law_make (T : Txt K mg A) : Cal P w K mg base CX0 2 "_law_make" ["_law_prime_here", "_law_top", "_law_base"] [] (spMk K) := by
  refine cal_mk T.g__law_make (fun _ _ _ _ _ _ us hl => match us, hl with | [_, _, _], _ => rfl) sc__law_make (fun vs H Q E h => ?_) (fun f cdv Ar outer s H vs Q E hr h => ?_)
  · obtain ⟨p, t, b, rfl, _⟩ := h
    rfl
  · obtain ⟨p, t, b, rfl, hp, ob, st, sb, q⟩ := h
    refine ⟨_, (pss_cons (ps_if (pt_cmpR op_eq (pv 0) pe_int (nomark _)) (pss_one (ps_ret (pc (c__law_lowest T) (hr.mono (by decide)) (pa_cons (pv 1) (pa_cons (pv 2) pa_nil)))))
      pss_nil)
      (pss_cons (ps_if (pt_cmpR op_ne (pe_op op_modN (pv 2) (pv 0)) pe_int (nomark _)) (pss_one (ps_set (i := 1) sc__law_make.nd rfl (by first | exact Or.inl rfl | exact Or.inr rfl) (pe_op op_mulW (pv 1) (pe_ix ix_list (pe_lc (own := [("_law_k", 3)]) (g := gName 3) rfl sc__law_make.nd (pi_range2 rfl T.range (pa_cons pe_int (pa_cons (pv 0) pa_nil))) (blkOk_by (N := ["_law_prime_here", "_law_top", "_law_base", "_law_k"]) (sc := defScope (topS 57)) (by decide +kernel)) (fun _ _ _ _ _ => pg_name (i := 3) sc__law_make.nd rfl (by first | exact Or.inl rfl | exact Or.inr rfl)) (fun _ _ _ _ _ => pts_one (pt_cmpR op_eq (pe_op op_modN (pe_op op_mulW (pv 2) (pv 3)) (pv 0)) pe_int (nomark _))) (fun _ _ _ _ _ => (pv 3))) pe_int (fun _ _ => rfl)))))
      pss_nil)
      (pss_one (ps_ret (pe_tup (pa_cons (pe_op op_modN (pv 1) (pv 0)) (pa_cons pe_int pa_nil))))))), ?_⟩
    refine ⟨_, rfl, rfl, _, rfl, it2 (fun h0 => ?_) (fun h0 => ?_)⟩
    · have hp0 : p = 0 := V.int.inj h0
      subst hp0
      have hb : b ≠ 0 := by
        unfold okB at ob
        rw [if_pos rfl] at ob
        exact ob
      exact ⟨_, rfl, _, rfl, t, b, rfl, hb, st, sb, q⟩
    · have hp0 : p ≠ 0 := fun z => h0 (by rw [z])
      obtain ⟨n, hn, rfl⟩ := hp.resolve_left hp0
      obtain ⟨⟨h2, h97⟩, _⟩ := prime_parts n hn
      have hb : b % (n : Int) ≠ 0 := by
        unfold okB at ob
        rw [if_neg hp0] at ob
        exact ob
      have ef : b.fmod n = b % n := Int.fmod_eq_emod_of_nonneg _ (by omega)
      have fin : ∀ H1 t1, Same H H1 → t1 % (n : Int) = (mkN n t b).1 → tRet (tTup (tCons (tOp (rI (fun _ j => j ≠ 0) fun i j => V.int (i.fmod j)) (tVar 1) (tVar 0)) (tCons (tC (.int 1)) tNil))) { nx := fun _ H' => Q .non H', rt := Q } [some (.int n), some (.int t1), some (.int b), none] H1 := fun H1 t1 sm et => by
        refine ⟨_, rfl, _, rfl, _, _, rfl, rfl, hp0, (by decide : 2 ≤ sizeLine), fun p hp => q _ _ (same_upd' sm hp) ?_⟩
        have e2 : (mkN n t b).2 = 1 := by
          unfold mkN
          rw [if_neg hp0]
        have e3 : t1.fmod n = (mkN n t b).1 := by rw [Int.fmod_eq_emod_of_nonneg _ (by omega), et]
        unfold rpN
        rw [e2, ← e3]
        exact rp_pair
      refine ⟨_, rfl, _, rfl, _, _, rfl, rfl, hp0, rfl, _, rfl, itN2 (fun h1 => ?_) (fun h1 => ?_)⟩
      · have h1' : b % (n : Int) ≠ 1 := fun z => h1 (vi (by rw [ef, z]))
        obtain ⟨k, r, ek, eo, k1, k97⟩ := invs_some hn hb
        refine ⟨_, rfl, _, rfl, _, _, rfl, ivl (by decide) (by decide) (by omega) (by omega), fun D hD => ?_⟩
        refine lc_range (fun i H1 => Same H H1 ∧ H1 D = some (.lst ((invs n b i).map V.int))) ⟨same_upd hD, upd_same⟩ (fun i H1 hi ⟨sm, e⟩ => ?_) (fun H1 ⟨sm, e⟩ => ?_)
        · have hi97 : i < 97 := by omega
          refine ⟨rfl, _, rfl, _, rfl, _, _, rfl, rfl, ?_, _, rfl, _, _, rfl, rfl, hp0, rfl, _, rfl, ?_⟩
          · exact Sz.cmul (n := 3999) (m := 7) sb (Sz.small (n := 0) (by omega)) (by decide)
          have em : (b * (1 + (i : Nat))).fmod n = (b * (1 + (i : Nat))) % n := Int.fmod_eq_emod_of_nonneg _ (by omega)
          have es := invs_succ n b i
          refine it2 (fun hy => ?_) (fun hy => ?_)
          · have hy' : (b * (1 + (i : Nat))) % (n : Int) = 1 := em.symm.trans (V.int.inj hy)
            rw [if_pos hy'] at es
            refine ⟨_, rfl, _, e, ?_, fun b o hb => ?_, ?_⟩
            · rw [List.length_map]
              refine Nat.lt_of_le_of_lt (List.length_filter_le _ _) ?_
              rw [List.length_map, List.length_range]
              exact Nat.lt_of_lt_of_le hi97 (by decide)
            · have nb : b ≠ D := ne_of_none hb hD
              rw [upd_ne nb]; exact sm _ _ hb
            · rw [upd_same, es, List.map_append]
              rfl
          · have hy' : ¬ (b * (1 + (i : Nat))) % (n : Int) = 1 := fun z => hy (vi (em.trans z))
            rw [if_neg hy'] at es
            exact ⟨sm, by rw [es]; exact e⟩
        · have en : ((n : Int) - 1).toNat = n - 1 := by omega
          rw [en, ek] at e
          refine ⟨D, _, _, .int k, rfl, rfl, SqL.of e, at_of (j := 0) rfl rfl, _, _, rfl, rfl, ?_, ?_⟩
          · exact Sz.cmul (n := 3999) (m := 7) st (Sz.small (n := 0) (by omega)) (by decide)
          · refine fin H1 _ sm ?_
            unfold mkN
            rw [if_neg hp0, if_neg h1', eo]
      · have h1' : b % (n : Int) = 1 := ef.symm.trans (V.int.inj h1)
        refine fin H t (Same.refl _) ?_
        unfold mkN
        rw [if_neg hp0, if_pos h1']
end
end FsR
end
section
/-! The law's own reckoning: sums, products, the drawing of primes and numbers. -/
set_option Elab.async false
set_option linter.all false
set_option maxRecDepth 100000
namespace FsR
open PySem PySem.Spec PyProof.Rows L2 LamX Fs
section
variable {P : Program} {w : World} {K : PySem.W.Frag} {mg : Str → Option Value} {base : Heap} {A : Ad} {F : Type} [Num F]
def spLop (K : PySem.W.Frag) (F : Type) [Num F] (op : F → F → F) : Sp := fun vs H Q _ => ∃ (x y : F) (u v : V), vs = [.int (Num.p F), u, v] ∧ Pok (Num.p F) ∧ Rp K H (nk x) u ∧ Rp K H (nk y) v ∧ NSz x ∧ NSz y ∧ ∀ H' v, Same H H' → Rp K H' (nk (op x y)) v → Q v H'
theorem sc__law_plus : FnScope ["_law_prime_here", "_law_one", "_law_other"] ["_law_prime_here", "_law_one", "_law_other"] (defScope (topS 58)) := ⟨rfl, rfl, rfl, by decide +kernel, rfl, by decide +kernel, by decide +kernel⟩
theorem c__law_plus (T : Txt K mg A) : Cal P w K mg base CX0 3 "_law_plus" ["_law_prime_here", "_law_one", "_law_other"] [] (spLop K F (fun x y => x + y)) := by
  refine cal_mk T.g__law_plus (fun _ _ _ _ _ _ us hl => match us, hl with | [_, _, _], _ => rfl) sc__law_plus (fun vs H Q E h => ?_) (fun f cdv Ar outer s H vs Q E hr h => ?_)
  · obtain ⟨x, y, u, v, rfl, _⟩ := h
    rfl
  · obtain ⟨x, y, u, v, rfl, hp, ru, rv, sx, sy, q⟩ := h
    obtain ⟨p1, rfl, t0⟩ := rp_ints ru
    obtain ⟨p2, rfl, t1⟩ := rp_ints rv
    refine ⟨_, (pss_one (ps_ret (pc (c__law_make T) (hr.mono (by decide)) (pa_cons (pv 0) (pa_cons (pe_op op_add (pe_op op_mulW (pe_ix ix_tup (pv 1) pe_int (fun _ _ => rfl)) (pe_ix ix_tup (pv 2) pe_int (fun _ _ => rfl))) (pe_op op_mulW (pe_ix ix_tup (pv 2) pe_int (fun _ _ => rfl)) (pe_ix ix_tup (pv 1) pe_int (fun _ _ => rfl)))) (pa_cons (pe_op op_mulW (pe_ix ix_tup (pv 1) pe_int (fun _ _ => rfl)) (pe_ix ix_tup (pv 2) pe_int (fun _ _ => rfl))) pa_nil)))))), ?_⟩
    exact ⟨_, rfl, _, rfl, _, _, _, .int _, rfl, rfl, t0.sq, at_of (j := 0) rfl rfl, _, rfl, _, _, _, .int _, rfl, rfl, t1.sq, at_of (j := 1) rfl rfl, _, _, rfl, rfl, Sz.cmul (n := 999) (m := 999) sx.1 sy.2 (by decide), _, rfl, _, _, _, .int _, rfl, rfl, t1.sq, at_of (j := 0) rfl rfl, _, rfl, _, _, _, .int _, rfl, rfl, t0.sq, at_of (j := 1) rfl rfl, _, _, rfl, rfl, Sz.cmul (n := 999) (m := 999) sy.1 sx.2 (by decide), _, _, rfl, rfl, _, rfl, _, _, _, .int _, rfl, rfl, t0.sq, at_of (j := 1) rfl rfl, _, rfl, _, _, _, .int _, rfl, rfl, t1.sq, at_of (j := 1) rfl rfl, _, _, rfl, rfl, Sz.cmul (n := 999) (m := 999) sx.2 sy.2 (by decide), _, _, _, rfl, hp, Num.okB_mul _ _ (Num.enc_bot x) (Num.enc_bot y), (Sz.add (sx.1.mul sy.2) (sy.1.mul sx.2)).mono (by decide), (sx.2.mul sy.2).mono (by decide), fun H1 v sm r => q _ _ sm (rpN_nk (enc_add x y) r)⟩
theorem sc__law_times : FnScope ["_law_prime_here", "_law_one", "_law_other"] ["_law_prime_here", "_law_one", "_law_other"] (defScope (topS 59)) := ⟨rfl, rfl, rfl, by decide +kernel, rfl, by decide +kernel, by decide +kernel⟩
theorem c__law_times (T : Txt K mg A) : Cal P w K mg base CX0 3 "_law_times" ["_law_prime_here", "_law_one", "_law_other"] [] (spLop K F (fun x y => x * y)) := by
  refine cal_mk T.g__law_times (fun _ _ _ _ _ _ us hl => match us, hl with | [_, _, _], _ => rfl) sc__law_times (fun vs H Q E h => ?_) (fun f cdv Ar outer s H vs Q E hr h => ?_)
  · obtain ⟨x, y, u, v, rfl, _⟩ := h
    rfl
  · obtain ⟨x, y, u, v, rfl, hp, ru, rv, sx, sy, q⟩ := h
    obtain ⟨p1, rfl, t0⟩ := rp_ints ru
    obtain ⟨p2, rfl, t1⟩ := rp_ints rv
    refine ⟨_, (pss_one (ps_ret (pc (c__law_make T) (hr.mono (by decide)) (pa_cons (pv 0) (pa_cons (pe_op op_mulW (pe_ix ix_tup (pv 1) pe_int (fun _ _ => rfl)) (pe_ix ix_tup (pv 2) pe_int (fun _ _ => rfl))) (pa_cons (pe_op op_mulW (pe_ix ix_tup (pv 1) pe_int (fun _ _ => rfl)) (pe_ix ix_tup (pv 2) pe_int (fun _ _ => rfl))) pa_nil)))))), ?_⟩
    exact ⟨_, rfl, _, rfl, _, _, _, .int _, rfl, rfl, t0.sq, at_of (j := 0) rfl rfl, _, rfl, _, _, _, .int _, rfl, rfl, t1.sq, at_of (j := 0) rfl rfl, _, _, rfl, rfl, Sz.cmul (n := 999) (m := 999) sx.1 sy.1 (by decide), _, rfl, _, _, _, .int _, rfl, rfl, t0.sq, at_of (j := 1) rfl rfl, _, rfl, _, _, _, .int _, rfl, rfl, t1.sq, at_of (j := 1) rfl rfl, _, _, rfl, rfl, Sz.cmul (n := 999) (m := 999) sx.2 sy.2 (by decide), _, _, _, rfl, hp, Num.okB_mul _ _ (Num.enc_bot x) (Num.enc_bot y), (sx.1.mul sy.1).mono (by decide), (sx.2.mul sy.2).mono (by decide), fun H1 v sm r => q _ _ sm (rpN_nk (enc_mul x y) r)⟩
theorem sc__law_prime : FnScope ["_law_room_here", "_law_at", "_law_some"] ["_law_room_here"] (defScope (topS 60)) := ⟨rfl, rfl, rfl, by decide +kernel, rfl, by decide +kernel, by decide +kernel⟩
def spPrm : Sp := fun vs H Q _ => ∃ r : Addr, vs = [.ref r] ∧ RoomAt H r ∧ ∀ H' p, SB r H H' → RoomAt H' r → Pok p → Q (.int p) H'
theorem some_primes : ∀ v, v < 20 → ∃ n ∈ primes, ([11, 13, 17, 19, 23, 29, 31, 37, 41, 43, 47, 53, 59, 61, 67, 71, 73, 79, 83, 89] : List Nat)[v]? = some n := by decide
theorem few_primes : ∀ v, v < 8 → ∃ n : Nat, ([0, 0, 2, 3, 5, 7, 97, 0] : List Nat)[v]? = some n ∧ (n = 0 ∨ n ∈ primes) := by decide
theorem nat_at {l : List Nat} {v n : Nat} (h : l[v]? = some n) : atI (l.map fun (i : Nat) => V.int i) (v : Int) = some (.int n) := at_of (j := v) rfl (by rw [List.getElem?_map, h]; rfl)
theorem c__law_prime (T : Txt K mg A) : Cal P w K mg base CX0 2 "_law_prime" ["_law_room_here"] [] spPrm := by
  refine cal_mk T.g__law_prime (fun _ _ _ _ _ _ us hl => match us, hl with | [_], _ => rfl) sc__law_prime (fun vs H Q E h => ?_) (fun f cdv Ar outer s H vs Q E hr h => ?_)
  · obtain ⟨r, rfl, _⟩ := h
    rfl
  · obtain ⟨r, rfl, hR, q⟩ := h
    refine ⟨_, (pss_cons (ps_set (i := 1) sc__law_prime.nd rfl (by first | exact Or.inl rfl | exact Or.inr rfl) (pc (c__law_take T) (hr.mono (by decide)) (pa_cons (pv 0) (pa_cons pe_int pa_nil))))
      (pss_cons (ps_if (pt_cmpR op_eq (pv 1) pe_int (nomark _)) (pss_cons (ps_set (i := 2) sc__law_prime.nd rfl (by first | exact Or.inl rfl | exact Or.inr rfl) (pe_lst (pa_cons pe_int (pa_cons pe_int (pa_cons pe_int (pa_cons pe_int (pa_cons pe_int (pa_cons pe_int (pa_cons pe_int (pa_cons pe_int (pa_cons pe_int (pa_cons pe_int (pa_cons pe_int (pa_cons pe_int (pa_cons pe_int (pa_cons pe_int (pa_cons pe_int (pa_cons pe_int (pa_cons pe_int (pa_cons pe_int (pa_cons pe_int (pa_cons pe_int pa_nil))))))))))))))))))))))
      (pss_one (ps_ret (pe_ix ix_list (pv 2) (pc (c__law_take T) (hr.mono (by decide)) (pa_cons (pv 0) (pa_cons pe_int pa_nil))) (fun _ _ => rfl)))))
      pss_nil)
      (pss_one (ps_ret (pe_ix ix_list (pe_lst (pa_cons pe_int (pa_cons pe_int (pa_cons pe_int (pa_cons pe_int (pa_cons pe_int (pa_cons pe_int (pa_cons pe_int (pa_cons pe_int pa_nil))))))))) (pv 1) (fun _ _ => rfl)))))), ?_⟩
    refine ⟨_, rfl, r, 9, rfl, hR, by decide, by decide, fun H1 v sb1 hR1 hv => ?_⟩
    refine ⟨_, rfl, rfl, _, rfl, it2 (fun h8 => ?_) (fun h8 => ?_)⟩
    · refine ⟨(by decide : 20 ≤ sizeLine), fun l hl => ?_⟩
      have sl := same_upd (o := .lst (([11, 13, 17, 19, 23, 29, 31, 37, 41, 43, 47, 53, 59, 61, 67, 71, 73, 79, 83, 89] : List Nat).map fun (i : Nat) => V.int i)) hl
      have nlr : l ≠ r := fun z => by
        obtain ⟨x, y, e, _⟩ := hR1
        rw [← z, hl] at e
        cases e
      refine ⟨_, rfl, _, rfl, r, 20, rfl, hR1.same sl, by decide, by decide, fun H2 v2 sb2 hR2 hv2 => ?_⟩
      obtain ⟨n, hn, en⟩ := some_primes v2 hv2
      exact ⟨l, _, _, .int n, rfl, rfl, SqL.of (sb2 _ _ nlr upd_same), nat_at en, q _ _ ((sb1.trans (SB.of sl)).trans sb2) hR2 (.inr ⟨n, hn, rfl⟩)⟩
    · refine ⟨(by decide : 8 ≤ sizeLine), fun l hl => ?_⟩
      have sl := same_upd (o := .lst (([0, 0, 2, 3, 5, 7, 97, 0] : List Nat).map fun (i : Nat) => V.int i)) hl
      have h8' : v ≠ 8 := fun z => h8 (by rw [z]; rfl)
      obtain ⟨n, en, hn⟩ := few_primes v (by omega)
      refine ⟨_, rfl, l, _, _, .int n, rfl, rfl, SqL.of upd_same, nat_at en, q _ _ (sb1.trans (SB.of sl)) (hR1.same sl) ?_⟩
      rcases hn with rfl | hn
      · exact .inl rfl
      · exact .inr ⟨n, hn, rfl⟩
/-! ### a number drawn -/
/-- the numbers drawn have a small common bottom -/
def Fits (F : Type) [Num F] : Prop := ∀ t b : Int, t.natAbs ≤ 1000 → b ∈ ([1, 2, 3, 7] : List Int) → Num.rep 42 42000 (Num.frac t b : F)
theorem sc__law_number : FnScope ["_law_room_here", "_law_prime_here"] ["_law_room_here", "_law_prime_here"] (defScope (topS 61)) := ⟨rfl, rfl, rfl, by decide +kernel, rfl, by decide +kernel, by decide +kernel⟩
def spNum (K : PySem.W.Frag) (F : Type) [Num F] : Sp := fun vs H Q _ => ∃ r : Addr, vs = [.ref r, .int (Num.p F)] ∧ RoomAt H r ∧ Pok (Num.p F) ∧ Fits F ∧ ∀ H' (x : F) v, SB r H H' → RoomAt H' r → Num.rep 42 42000 x → Rp K H' (nk x) v → Q v H'
theorem bots1 : ∀ v, v < 4 → ∃ n : Nat, ([1, 1, 1, 7] : List Nat)[v]? = some n ∧ (n : Int) ∈ ([1, 2, 3, 7] : List Int) := by decide
theorem bots2 : ∀ v, v < 4 → ∃ n : Nat, ([1, 1, 2, 3] : List Nat)[v]? = some n ∧ (n : Int) ∈ ([1, 2, 3, 7] : List Int) := by decide
theorem room_ne {H : Hp} {r l : Addr} (h : RoomAt H r) (n : H l = none) : l ≠ r := fun z => by
  obtain ⟨x, y, e, _⟩ := h
  rw [← z, n] at e
  cases e
theorem bot_ne {n : Nat} (h : (n : Int) ∈ ([1, 2, 3, 7] : List Int)) : (n : Int) ≠ 0 ∧ n ≤ 7 := by
  simp at h
  omega
theorem c__law_number (T : Txt K mg A) : Cal P w K mg base CX0 2 "_law_number" ["_law_room_here", "_law_prime_here"] [] (spNum K F) := by
  refine cal_mk T.g__law_number (fun _ _ _ _ _ _ us hl => match us, hl with | [_, _], _ => rfl) sc__law_number (fun vs H Q E h => ?_) (fun f cdv Ar outer s H vs Q E hr h => ?_)
  · obtain ⟨r, rfl, _⟩ := h
    rfl
  · obtain ⟨r, rfl, hR, hp, hF, q⟩ := h
    refine ⟨_, (pss_cons (ps_if (pt_cmpR op_gt (pv 1) pe_int (nomark _)) (pss_one (ps_ret (pe_tup (pa_cons (pc (c__law_take T) (hr.mono (by decide)) (pa_cons (pv 0) (pa_cons (pv 1) pa_nil))) (pa_cons pe_int pa_nil)))))
      pss_nil)
      (pss_cons (ps_if (pt_cmpR op_eq (pc (c__law_take T) (hr.mono (by decide)) (pa_cons (pv 0) (pa_cons pe_int pa_nil))) pe_int (nomark _)) (pss_one (ps_ret (pc (c__law_lowest T) (hr.mono (by decide)) (pa_cons (pe_op op_sub (pc (c__law_take T) (hr.mono (by decide)) (pa_cons (pv 0) (pa_cons pe_int pa_nil))) pe_int) (pa_cons (pe_ix ix_list (pe_lst (pa_cons pe_int (pa_cons pe_int (pa_cons pe_int (pa_cons pe_int pa_nil))))) (pc (c__law_take T) (hr.mono (by decide)) (pa_cons (pv 0) (pa_cons pe_int pa_nil))) (fun _ _ => rfl)) pa_nil)))))
      pss_nil)
      (pss_one (ps_ret (pc (c__law_lowest T) (hr.mono (by decide)) (pa_cons (pe_op op_sub (pc (c__law_take T) (hr.mono (by decide)) (pa_cons (pv 0) (pa_cons pe_int pa_nil))) pe_int) (pa_cons (pe_ix ix_list (pe_lst (pa_cons pe_int (pa_cons pe_int (pa_cons pe_int (pa_cons pe_int pa_nil))))) (pc (c__law_take T) (hr.mono (by decide)) (pa_cons (pv 0) (pa_cons pe_int pa_nil))) (fun _ _ => rfl)) pa_nil))))))), ?_⟩
    refine ⟨_, rfl, _, _, rfl, rfl, _, rfl, it2 (fun hgt => ?_) (fun hle => ?_)⟩
    · have hp0 : Num.p F ≠ 0 := by omega
      obtain ⟨n, hn, en⟩ := hp.resolve_left hp0
      obtain ⟨⟨h2, h97⟩, _⟩ := prime_parts n hn
      refine ⟨_, rfl, _, rfl, r, n, (by rw [en]; rfl), hR, by omega, by omega, fun H1 v sb1 hR1 hv => ⟨(by decide : 2 ≤ sizeLine), fun t ht => ?_⟩⟩
      have st := same_upd (o := .tup [.int (v : Nat), .int 1]) ht
      refine q _ (Num.frac v 1) _ (sb1.trans (SB.of st)) (hR1.same st) (hF _ _ (by omega) (by simp)) ?_
      refine rpN_nk (n := ((v : Int), 1)) ?_ rp_pair
      have h1n : (1 : Int) % (n : Int) = 1 := Int.emod_eq_of_lt (by decide) (by omega)
      rw [Num.enc_frac _ _ (by unfold okB; rw [if_neg hp0, en, h1n]; decide)]
      unfold mkN
      rw [if_neg hp0, en, if_pos (Int.emod_eq_of_lt (by decide) (by omega)), Int.emod_eq_of_lt (by omega) (by omega)]
    · have hp0 : Num.p F = 0 := by
        rcases hp with z | ⟨n, _, z⟩
        · exact z
        · omega
      have draw : ∀ (H1 : Hp) (t : Int) (n : Nat), SB r H H1 → RoomAt H1 r → t.natAbs ≤ 1000 → (n : Int) ∈ ([1, 2, 3, 7] : List Int) → spLowest K [.int t, .int n] H1 Q E := fun H1 t n sb h1 ht hn => by
        obtain ⟨n0, n7⟩ := bot_ne hn
        refine ⟨t, n, rfl, n0, (?_ : t.natAbs < 2 ^ 4000), (?_ : (n : Int).natAbs < 2 ^ 4000), fun H2 v sm r1 => q H2 (Num.frac t n) v (sb.trans (SB.of sm)) (h1.same sm) (hF _ _ ht hn) ?_⟩
        · exact Nat.lt_of_lt_of_le (by omega : t.natAbs < 2 ^ 10) (Nat.pow_le_pow_right (by decide) (by decide))
        · exact Nat.lt_of_lt_of_le (by omega : (n : Int).natAbs < 2 ^ 3) (Nat.pow_le_pow_right (by decide) (by decide))
        · refine rpN_nk ?_ r1
          rw [Num.enc_frac _ _ (by unfold okB; rw [if_pos hp0]; exact n0), hp0]
      refine ⟨_, rfl, r, 8, rfl, hR, by decide, by decide, fun H1 v sb1 hR1 hv => ⟨rfl, _, rfl, it2 (fun h7 => ?_) (fun h7 => ?_)⟩⟩
      · refine ⟨_, rfl, r, 2000, rfl, hR1, by decide, by decide, fun H2 v2 sb2 hR2 hv2 => ⟨_, _, rfl, rfl, (by decide : 4 ≤ sizeLine), fun l hl => ?_⟩⟩
        have sl := same_upd (o := .lst (([1, 1, 1, 7] : List Nat).map fun (i : Nat) => V.int i)) hl
        refine ⟨_, rfl, r, 4, rfl, hR2.same sl, by decide, by decide, fun H3 v3 sb3 hR3 hv3 => ?_⟩
        obtain ⟨n, en, hn⟩ := bots1 v3 hv3
        exact ⟨l, _, _, .int n, rfl, rfl, SqL.of (sb3 _ _ (room_ne hR2 hl) upd_same), nat_at en, draw H3 _ n (((sb1.trans sb2).trans (SB.of sl)).trans sb3) hR3 (by omega) hn⟩
      · refine ⟨_, rfl, r, 19, rfl, hR1, by decide, by decide, fun H2 v2 sb2 hR2 hv2 => ⟨_, _, rfl, rfl, (by decide : 4 ≤ sizeLine), fun l hl => ?_⟩⟩
        have sl := same_upd (o := .lst (([1, 1, 2, 3] : List Nat).map fun (i : Nat) => V.int i)) hl
        refine ⟨_, rfl, r, 4, rfl, hR2.same sl, by decide, by decide, fun H3 v3 sb3 hR3 hv3 => ?_⟩
        obtain ⟨n, en, hn⟩ := bots2 v3 hv3
        exact ⟨l, _, _, .int n, rfl, rfl, SqL.of (sb3 _ _ (room_ne hR2 hl) upd_same), nat_at en, draw H3 _ n (((sb1.trans sb2).trans (SB.of sl)).trans sb3) hR3 (by omega) hn⟩
end
end FsR
end
section
/-! The law's draws: products, fillings, terms. -/
set_option Elab.async false
set_option linter.all false
set_option maxRecDepth 100000
namespace FsR
open PySem PySem.Spec PyProof.Rows L2 LamX Fs
theorem sb_wr {r l : Addr} {H H2 : Hp} {o : HO} (s : SB r H H2) (h : H l = none) : SB r H (upd H2 l o) := fun b v n e => by
  rw [upd_ne (ne_of_none e h)]
  exact s b v n e
section
variable {F : Type} [Num F]
theorem TmList.sb {K : PySem.W.Frag} {H H' : Hp} {l r : Addr} {ts : List (Pr × F)} (h : TmList K H l ts) (n : l ≠ r) (s : SB r H H') (k : Keep H H') : TmList K H' l ts := by
  obtain ⟨xs, h1, h2⟩ := h
  exact ⟨xs, s _ _ n h1, RpL.keep k _ h2⟩
end
theorem add_places : ∀ i ∈ List.range 4, ∀ q : Pr, q.val < 2 ^ i → places (jn q (Fin.ofNat 16 (2 ^ i))) = places q ++ [i] ∧ (jn q (Fin.ofNat 16 (2 ^ i))).val < 2 ^ (i + 1) := by decide +kernel
theorem places_le : ∀ q : Pr, (places q).length ≤ 4 := by decide
theorem pk_tup {K : PySem.W.Frag} {H : Hp} {q : Pr} {p : Addr} (h : H p = some (.tup ((places q).map fun (i : Nat) => V.int i))) : Rp K H (pk q) (.ref p) := by
  refine rp_tup_iff.mpr ⟨p, _, rfl, .inl h, ?_⟩
  generalize places q = l
  induction l with
  | nil => exact rpl_nil
  | cons x xs ih => exact rpl_cons (rp_num _) ih
section
variable {P : Program} {w : World} {K : PySem.W.Frag} {mg : Str → Option Value} {base : Heap} {A : Ad} {F : Type} [Num F]
theorem sc__law_product : FnScope ["_law_room_here", "_law_many", "_law_share", "_law_place"] ["_law_room_here", "_law_many", "_law_share"] (defScope (topS 62)) := ⟨rfl, rfl, rfl, by decide +kernel, rfl, by decide +kernel, by decide +kernel⟩
def spProd (K : PySem.W.Frag) : Sp := fun vs H Q _ => ∃ (r : Addr) (n sh : Nat), vs = [.ref r, .int n, .int sh] ∧ RoomAt H r ∧ n ≤ 4 ∧ 1 ≤ sh ∧ sh ≤ 2000 ∧ ∀ H' (q : Pr) v, SB r H H' → RoomAt H' r → q.val < 2 ^ n → Rp K H' (pk q) v → Q v H'
theorem c__law_product (T : Txt K mg A) : Cal P w K mg base CX0 2 "_law_product" ["_law_room_here", "_law_many", "_law_share"] [] (spProd K) := by
  refine cal_mk T.g__law_product (fun _ _ _ _ _ _ us hl => match us, hl with | [_, _, _], _ => rfl) sc__law_product (fun vs H Q E h => ?_) (fun f cdv Ar outer s H vs Q E hr h => ?_)
  · obtain ⟨r, n, sh, rfl, _⟩ := h
    rfl
  · obtain ⟨r, n, sh, rfl, hR, hn, h1, h2, q⟩ := h
    refine ⟨_, (pss_one (ps_ret (pe_callTy call_tuple_of (by rfl) T.tuple (by decide +kernel) (pa_cons (pe_lc (own := [("_law_place", 3)]) (g := gName 3) rfl sc__law_product.nd (pi_range1 rfl T.range (pa_cons (pv 1) pa_nil)) (blkOk_by (N := ["_law_room_here", "_law_many", "_law_share", "_law_place"]) (sc := defScope (topS 62)) (by decide +kernel)) (fun _ _ _ _ _ => pg_name (i := 3) sc__law_product.nd rfl (by first | exact Or.inl rfl | exact Or.inr rfl)) (fun _ _ _ _ _ => pts_one (pt_cmpR op_eq (pc (c__law_take T) (hr.mono (by decide)) (pa_cons (pv 0) (pa_cons (pv 2) pa_nil))) pe_int (nomark _))) (fun _ _ _ _ _ => (pv 3))) pa_nil)))), ?_⟩
    refine ⟨_, rfl, _, rfl, by omega, by omega, fun D hD => ?_⟩
    have nD := room_ne hR hD
    refine lc_range (fun i H1 => ∃ q : Pr, SB r H H1 ∧ RoomAt H1 r ∧ q.val < 2 ^ i ∧ H1 D = some (.lst ((places q).map fun (i : Nat) => V.int i))) ⟨0, SB.of (same_upd hD), hR.same (same_upd hD), by decide, upd_same⟩ (fun i H1 hi ⟨q0, sb, hR1, hq, hL⟩ => ?_) (fun H1 ⟨q0, sb, hR1, hq, hL⟩ => ?_)
    · have hi4 : i < 4 := by omega
      refine ⟨rfl, _, rfl, _, rfl, r, sh, rfl, hR1, h1, h2, fun H2 v sb2 hR2 hv => ⟨rfl, _, rfl, ?_⟩⟩
      have hL2 := sb2 _ _ nD hL
      refine it2 (fun _ => ?_) (fun _ => ?_)
      · refine ⟨_, rfl, _, hL2, ?_, jn q0 (Fin.ofNat 16 (2 ^ i)), sb_wr (sb.trans sb2) hD, ?_, ?_, ?_⟩
        · rw [List.length_map]
          exact Nat.lt_of_le_of_lt (places_le q0) (by decide)
        · obtain ⟨x, y, e, hy⟩ := hR2
          exact ⟨x, y, by rw [upd_ne nD.symm]; exact e, hy⟩
        · exact (add_places i (List.mem_range.mpr hi4) q0 hq).2
        · rw [upd_same, (add_places i (List.mem_range.mpr hi4) q0 hq).1, List.map_append]
          show some (HO.lst (_ ++ [V.int (0 + (i : Nat))])) = _
          rw [Int.zero_add]
          rfl
      · exact ⟨q0, sb.trans sb2, hR2, Nat.lt_of_lt_of_le hq (Nat.pow_le_pow_right (by decide) (by omega)), hL2⟩
    · refine ⟨D, _, rfl, .inl ⟨SqL.of hL, fun l hl => ?_⟩⟩
      refine q _ q0 _ (sb.trans (SB.of (same_upd hl))) (hR1.same (same_upd hl)) ?_ (pk_tup upd_same)
      have : ((n : Int)).toNat = n := by omega
      rw [this] at hq
      exact hq
/-! ### fillings -/
def b01 (x : Pr) (i : Nat) : Nat := if bit x i then 1 else 0
/-- a filling of the first n places -/
def fk (n : Nat) (x : Pr) : NestedKey := .tup ((List.range n).map fun i => .num (b01 x i : Nat))
theorem fil_step : ∀ i ∈ List.range 4, ∀ x : Pr, x.val < 2 ^ i → (List.range (i + 1)).map (b01 x) = (List.range i).map (b01 x) ++ [0] ∧ (List.range (i + 1)).map (b01 (jn x (Fin.ofNat 16 (2 ^ i)))) = (List.range i).map (b01 x) ++ [1] ∧ (jn x (Fin.ofNat 16 (2 ^ i))).val < 2 ^ (i + 1) := by decide +kernel
theorem fk_tup {K : PySem.W.Frag} {H : Hp} {n : Nat} {x : Pr} {p : Addr} (h : H p = some (.tup (((List.range n).map (b01 x)).map fun (i : Nat) => V.int i))) : Rp K H (fk n x) (.ref p) := by
  refine rp_tup_iff.mpr ⟨p, _, rfl, .inl h, ?_⟩
  generalize List.range n = l
  induction l with
  | nil => exact rpl_nil
  | cons x xs ih => exact rpl_cons (rp_num _) ih
theorem sc__law_filling : FnScope ["_law_room_here", "_law_many", "_law_place"] ["_law_room_here", "_law_many"] (defScope (topS 66)) := ⟨rfl, rfl, rfl, by decide +kernel, rfl, by decide +kernel, by decide +kernel⟩
def spFill (K : PySem.W.Frag) : Sp := fun vs H Q _ => ∃ (r : Addr) (n : Nat), vs = [.ref r, .int n] ∧ RoomAt H r ∧ n ≤ 4 ∧ ∀ H' (x : Pr) v, SB r H H' → RoomAt H' r → x.val < 2 ^ n → Rp K H' (fk n x) v → Q v H'
theorem c__law_filling (T : Txt K mg A) : Cal P w K mg base CX0 2 "_law_filling" ["_law_room_here", "_law_many"] [] (spFill K) := by
  refine cal_mk T.g__law_filling (fun _ _ _ _ _ _ us hl => match us, hl with | [_, _], _ => rfl) sc__law_filling (fun vs H Q E h => ?_) (fun f cdv Ar outer s H vs Q E hr h => ?_)
  · obtain ⟨r, n, rfl, _⟩ := h
    rfl
  · obtain ⟨r, n, rfl, hR, hn, q⟩ := h
    refine ⟨_, (pss_one (ps_ret (pe_callTy call_tuple_of (by rfl) T.tuple (by decide +kernel) (pa_cons (pe_lc (own := [("_law_place", 2)]) (g := gName 2) (tt := tYes) rfl sc__law_filling.nd (pi_range1 rfl T.range (pa_cons (pv 1) pa_nil)) (blkOk_by (N := ["_law_room_here", "_law_many", "_law_place"]) (sc := defScope (topS 66)) (by decide +kernel)) (fun _ _ _ _ _ => pg_name (i := 2) sc__law_filling.nd rfl (by first | exact Or.inl rfl | exact Or.inr rfl)) (fun _ _ _ _ _ => pts_nil) (fun _ _ _ _ _ => (pc (c__law_take T) (hr.mono (by decide)) (pa_cons (pv 0) (pa_cons pe_int pa_nil))))) pa_nil)))), ?_⟩
    refine ⟨_, rfl, _, rfl, by omega, by omega, fun D hD => ?_⟩
    have nD := room_ne hR hD
    refine lc_range (fun i H1 => ∃ x : Pr, SB r H H1 ∧ RoomAt H1 r ∧ x.val < 2 ^ i ∧ H1 D = some (.lst (((List.range i).map (b01 x)).map fun (i : Nat) => V.int i))) ⟨0, SB.of (same_upd hD), hR.same (same_upd hD), by decide, upd_same⟩ (fun i H1 hi ⟨q0, sb, hR1, hq, hL⟩ => ?_) (fun H1 ⟨q0, sb, hR1, hq, hL⟩ => ?_)
    · have hi4 : i < 4 := by omega
      obtain ⟨f1, f2, f3⟩ := fil_step i (List.mem_range.mpr hi4) q0 hq
      refine ⟨rfl, _, rfl, r, 2, rfl, hR1, by decide, by decide, fun H2 v sb2 hR2 hv => ⟨_, sb2 _ _ nD hL, ?_, ?_⟩⟩
      · rw [List.length_map, List.length_map, List.length_range]
        exact Nat.lt_trans hi4 (by decide)
      · have hRn : RoomAt (upd H2 D (.lst (((List.range i).map (b01 q0)).map (fun (i : Nat) => V.int i) ++ [V.int (v : Nat)]))) r := by
          obtain ⟨x, y, e, hy⟩ := hR2
          exact ⟨x, y, by rw [upd_ne nD.symm]; exact e, hy⟩
        have hv2 : v = 0 ∨ v = 1 := by omega
        rcases hv2 with rfl | rfl
        · refine ⟨q0, sb_wr (sb.trans sb2) hD, hRn, Nat.lt_of_lt_of_le hq (Nat.pow_le_pow_right (by decide) (by omega)), ?_⟩
          rw [upd_same, f1, List.map_append]
          rfl
        · refine ⟨jn q0 (Fin.ofNat 16 (2 ^ i)), sb_wr (sb.trans sb2) hD, hRn, f3, ?_⟩
          rw [upd_same, f2, List.map_append]
          rfl
    · refine ⟨D, _, rfl, .inl ⟨SqL.of hL, fun l hl => ?_⟩⟩
      have : ((n : Int)).toNat = n := by omega
      rw [this] at hq hL
      exact q _ q0 _ (sb.trans (SB.of (same_upd hl))) (hR1.same (same_upd hl)) hq (fk_tup (by rw [this]; exact upd_same))
/-! ### terms -/
/-- terms as drawn -/
def Drawn (n : Nat) (F : Type) [Num F] (ts : List (Pr × F)) : Prop := ∀ t ∈ ts, t.1.val < 2 ^ n ∧ Num.rep 42 42000 t.2
theorem sc__law_terms : FnScope ["_law_room_here", "_law_prime_here", "_law_many", "_law_most", "_law_found", "_law_k", "_law_product_here"] ["_law_room_here", "_law_prime_here", "_law_many", "_law_most"] (defScope (topS 63)) := ⟨rfl, rfl, rfl, by decide +kernel, rfl, by decide +kernel, by decide +kernel⟩
def spTerms (K : PySem.W.Frag) (F : Type) [Num F] : Sp := fun vs H Q _ => ∃ (r : Addr) (n m : Nat), vs = [.ref r, .int (Num.p F), .int n, .int m] ∧ RoomAt H r ∧ Pok (Num.p F) ∧ Fits F ∧ n ≤ 4 ∧ m ≤ 4 ∧ ∀ H' l (ts : List (Pr × F)), SB r H H' → RoomAt H' r → H l = none → l ≠ r → ts.length ≤ m → Drawn n F ts → TmList K H' l ts → Q (.ref l) H'
theorem c__law_terms (T : Txt K mg A) : Cal P w K mg base CX0 3 "_law_terms" ["_law_room_here", "_law_prime_here", "_law_many", "_law_most"] [] (spTerms K F) := by
  refine cal_mk T.g__law_terms (fun _ _ _ _ _ _ us hl => match us, hl with | [_, _, _, _], _ => rfl) sc__law_terms (fun vs H Q E h => ?_) (fun f cdv Ar outer s H vs Q E hr h => ?_)
  · obtain ⟨r, n, m, rfl, _⟩ := h
    rfl
  · obtain ⟨r, n, m, rfl, hR, hp, hF, hn, hm, q⟩ := h
    refine ⟨_, (pss_cons (ps_set (i := 4) sc__law_terms.nd rfl (by first | exact Or.inl rfl | exact Or.inr rfl) (pe_lst pa_nil))
      (pss_cons (ps_for PassesOwn.never rfl (pi_range1 rfl T.range (pa_cons (pc (c__law_take T) (hr.mono (by decide)) (pa_cons (pv 0) (pa_cons (pe_op op_add (pv 3) pe_int) pa_nil))) pa_nil)) (pg_name (i := 5) sc__law_terms.nd rfl (by first | exact Or.inl rfl | exact Or.inr rfl))
      (pss_cons (ps_set (i := 6) sc__law_terms.nd rfl (by first | exact Or.inl rfl | exact Or.inr rfl) (pc (c__law_product T) (hr.mono (by decide)) (pa_cons (pv 0) (pa_cons (pv 2) (pa_cons (pe_op op_add pe_int (pc (c__law_take T) (hr.mono (by decide)) (pa_cons (pv 0) (pa_cons pe_int pa_nil)))) pa_nil)))))
      (pss_one (ps_expr (pe_bm PySem.F.plainAttrs_list PySem.F.slot_list_append PySem.F.type_list_append mt_append (pv 4) (pa_cons (pe_tup (pa_cons (pv 6) (pa_cons (pc (c__law_number (F := F) T) (hr.mono (by decide)) (pa_cons (pv 0) (pa_cons (pv 1) pa_nil))) pa_nil))) pa_nil))))))
      (pss_one (ps_ret (pv 4))))), ?_⟩
    refine ⟨Nat.zero_le _, fun l hl => ?_⟩
    have sl := same_upd (o := .lst []) hl
    have nl := room_ne hR hl
    refine ⟨_, rfl, _, rfl, _, _, rfl, rfl, r, m + 1, rfl, hR.same sl, by omega, by omega, fun H1 v sb1 hR1 hv => ?_⟩
    refine ⟨_, rfl, by omega, by omega, for_range (lo := 0) (n := ((v : Int)).toNat) (fun i σ H2 => ∃ (s5 s6 : Option V) (ts : List (Pr × F)), σ = [some (.ref r), some (.int (Num.p F)), some (.int n), some (.int m), some (.ref l), s5, s6] ∧ SB r H H2 ∧ RoomAt H2 r ∧ ts.length = i ∧ Drawn n F ts ∧ TmList K H2 l ts) ⟨none, none, [], rfl, (SB.of sl).trans sb1, hR1, rfl, fun t ht => absurd ht (by simp), [], sb1 _ _ nl upd_same, rpl_nil⟩ ?_ ?_⟩
    · rintro i σ H2 hi ⟨s5, s6, ts, rfl, sb, hR2, hl2, hD, hT⟩
      refine ⟨_, rfl, _, rfl, _, rfl, r, 2, rfl, hR2, by decide, by decide, fun H3 v3 sb3 hR3 hv3 => ⟨_, _, rfl, rfl, r, n, 2 + v3, ?_, hR3, hn, by omega, by omega, fun H4 q4 u4 sb4 hR4 hq4 r4 => ?_⟩⟩
      · rw [Int.natCast_add]
        rfl
      obtain ⟨zs, z1, z2⟩ := hT
      have z4 := sb4 _ _ nl (sb3 _ _ nl z1)
      refine ⟨_, rfl, .inl ⟨rfl, _, SqL.of z4⟩, _, rfl, _, rfl, _, rfl, r, rfl, hR4, hp, hF, fun H5 x5 u5 sb5 hR5 rep5 r5 => ⟨(by decide : 2 ≤ sizeLine), fun t ht => ?_⟩⟩
      obtain ⟨b4, rfl⟩ := rp_pref r4
      obtain ⟨b5, rfl⟩ := rp_ref r5
      have st := same_upd (o := .tup [.ref b4, .ref b5]) ht
      have z5 := sb5 _ _ nl z4
      have z6 := st _ _ z5
      have k4 := hR4.keep sb5
      have k25 := ((hR2.keep sb3).trans (hR3.keep sb4)).trans k4
      have kk : Keep (upd H5 t (.tup [.ref b4, .ref b5])) (upd (upd H5 t (.tup [.ref b4, .ref b5])) l (.lst (zs ++ [.ref t]))) := Keep.wr z6 fun _ z => by cases z
      have zl : zs.length ≤ 4 := by
        have := z2.length
        rw [List.length_map] at this
        omega
      refine ⟨l, zs, _, rfl, rfl, z6, Nat.lt_of_le_of_lt zl (by decide), ?_⟩
      refine ⟨_, _, ts ++ [(q4, x5)], rfl, sb_wr ((((sb.trans sb3).trans sb4).trans sb5).trans (SB.of st)) hl, ?_, by rw [List.length_append, List.length_singleton, hl2], fun t ht => ?_, zs ++ [.ref t], upd_same, ?_⟩
      · obtain ⟨x, y, e, hy⟩ := hR5.same st
        exact ⟨x, y, by rw [upd_ne nl.symm]; exact e, hy⟩
      · rcases List.mem_append.mp ht with h | h
        · exact hD t h
        · rw [List.mem_singleton.mp h]
          exact ⟨hq4, rep5⟩
      · rw [List.map_append]
        have k6 := (Keep.of st).trans kk
        exact RpL.app (RpL.keep (k25.trans k6) _ z2) (rpl_cons (term_rp (t := (q4, x5)) (x := b4) (y := b5) (Tp.keep (.inl upd_same) kk) ((k4.trans k6).rp r4) (k6.rp r5)) rpl_nil)
    · rintro σ H2 ⟨s5, s6, ts, rfl, sb, hR2, hl2, hD, hT⟩
      exact ⟨_, rfl, q H2 l ts sb hR2 hl nl (by omega) hD hT⟩
end
end FsR
end
section
/-! The law's gathering. -/
set_option Elab.async false
set_option linter.all false
set_option maxRecDepth 100000
namespace FsR
open PySem PySem.Spec PyProof.Rows L2 LamX Fs
/-! ### rows by length, product, number -/
/-- two lists that part before either ends -/
def parts : List (Int ⊕ List Nat) → List (Int ⊕ List Nat) → Bool
  | x :: a, y :: b => if x = y then parts a b else true
  | _, _ => false
theorem lex_parts : ∀ (a b s t : List (Int ⊕ List Nat)), parts a b = true → PyProof.Rows.lexLt itemOrd (a ++ s) (b ++ t) = PyProof.Rows.lexLt itemOrd a b
  | [], _, _, _, h => by cases h
  | _ :: _, [], _, _, h => by cases h
  | x :: a, y :: b, s, t, h => by
    by_cases e : x = y
    · subst e
      unfold parts at h
      rw [if_pos rfl] at h
      show PyProof.Rows.lexLt itemOrd (x :: (a ++ s)) (x :: (b ++ t)) = _
      exact (PySem.W.lex_pre [x] (a ++ s) (b ++ t)).trans ((lex_parts a b s t h).trans (PySem.W.lex_pre [x] a b).symm)
    · exact (PySem.W.lex_atom e (a ++ s) (b ++ t)).trans (PySem.W.lex_atom e a b).symm
def pre (q : Pr) : List (Int ⊕ List Nat) := .inl 1 :: .inl ((places q).length : Int) :: .inl 1 :: (PySem.W.keyToks (pk q).data ++ [.inl 1])
theorem pre_facts : ∀ p q : Pr, (p ≠ q → parts (pre p) (pre q) = true ∧ PyProof.Rows.lexLt itemOrd (pre p) (pre q) = decide (rank p < rank q)) ∧ PySem.W.alike (pk p).data (pk q).data = true := by decide +kernel
section
variable {F : Type} [Num F]
def row3 (q : Pr) (x : F) : NestedKey := .tup [.num (places q).length, pk q, nk x]
theorem toks3 (q : Pr) (x : F) : PySem.W.keyToks (row3 q x).data = pre q ++ (PySem.W.keyToks (nk x).data ++ [.inl 0]) := by
  show PySem.W.keyToks (.tuple [.int (places q).length, (pk q).data, (nk x).data]) = _
  unfold pre
  simp [PySem.W.keyToks, PySem.W.keyToksAll]
theorem lt3 {p q : Pr} (h : p ≠ q) (x y : F) : PySem.W.dataLt (row3 p x).data (row3 q y).data = decide (rank p < rank q) := by
  unfold PySem.W.dataLt
  rw [toks3, toks3, lex_parts _ _ _ _ ((pre_facts p q).1 h).1]
  exact ((pre_facts p q).1 h).2
theorem alike3 (p q : Pr) (x y : F) : PySem.W.alike (row3 p x).data (row3 q y).data = true := by
  show PySem.W.alike (.tuple [.int (places p).length, (pk p).data, .tuple [.int _, .int _]]) (.tuple [.int (places q).length, (pk q).data, .tuple [.int _, .int _]]) = true
  simp [PySem.W.alike, PySem.W.alikeAll, (pre_facts p q).2]
def toD (f : Row F) (c : CRow) : DRow := (c.1, row3 c.2 (f c.2))
theorem le_toD (f : Row F) {cs : List CRow} (nd : (cs.map (·.2)).Nodup) {c d : CRow} (hc : c ∈ cs) (hd : d ∈ cs) : PySem.W.dataLe false (fun y : DRow => y.2.data) (toD f c) (toD f d) = decide (rank c.2 ≤ rank d.2) := by
  rw [PySem.W.dataLe_eq]
  show (!PySem.W.dataLt (row3 d.2 (f d.2)).data (row3 c.2 (f c.2)).data) = _
  by_cases e : d.2 = c.2
  · rw [e]
    unfold PySem.W.dataLt
    rw [PyProof.Rows.lex_irrefl]
    simp
  · rw [lt3 e]
    have : rank d.2 ≠ rank c.2 := fun z => e (rank_inj _ _ z)
    by_cases z : rank d.2 < rank c.2
    · rw [decide_eq_true z, decide_eq_false (by omega)]; rfl
    · rw [decide_eq_false z, decide_eq_true (by omega)]; rfl
theorem sort_toD (f : Row F) (cs : List CRow) (nd : (cs.map (·.2)).Nodup) : ∃ ds : List CRow, (cs.map (toD f)).mergeSort (PySem.W.dataLe false fun y : DRow => y.2.data) = ds.map (toD f) ∧ ds.Perm cs ∧ (ds.map (·.2)).Pairwise (fun a c => rank a < rank c) := by
  obtain ⟨ds, e1, e2, e3⟩ := sort_toS cs nd
  refine ⟨cs.mergeSort fun c d => decide (rank c.2 ≤ rank d.2), ?_, List.mergeSort_perm _ _, ?_⟩
  · exact (List.map_mergeSort fun c hc d hd => (le_toD f nd hc hd).symm).symm
  · have h1 := List.pairwise_mergeSort (le := fun c d : CRow => decide (rank c.2 ≤ rank d.2)) (fun a b c => by simp only [decide_eq_true_eq]; omega) (fun a b => by simp only [Bool.or_eq_true, decide_eq_true_eq]; omega) cs
    have nd2 : ((cs.mergeSort fun c d => decide (rank c.2 ≤ rank d.2)).map (·.2)).Nodup := ((List.mergeSort_perm cs _).map _).nodup_iff.mpr nd
    generalize (cs.mergeSort fun c d => decide (rank c.2 ≤ rank d.2)) = es at h1 nd2
    rw [List.pairwise_map]
    have nd3 : es.Pairwise fun a b => a.2 ≠ b.2 := List.pairwise_map.mp nd2
    refine (h1.and nd3).imp fun {a b} ⟨x, y⟩ => ?_
    have x := of_decide_eq_true x
    rcases Nat.lt_or_ge (rank a.2) (rank b.2) with z | z
    · exact z
    · exact absurd (rank_inj _ _ (by omega)) y
theorem alike_toD (f : Row F) (cs : List CRow) : PySem.W.AllAlike ((cs.map (toD f)).map fun y => y.2.data) := by
  intro d hd e he
  rw [List.map_map] at hd he
  obtain ⟨c, _, rfl⟩ := List.mem_map.mp hd
  obtain ⟨c2, _, rfl⟩ := List.mem_map.mp he
  exact alike3 c.2 c2.2 _ _
end
section
variable {F : Type} [Num F]
theorem depth3 (q : Pr) (x : F) : (row3 q x).data.depth ≤ 8 := by
  have h1 : ∀ q : Pr, (pk q).data.depth ≤ 4 := by decide +kernel
  have h2 := h1 q
  have h3 := (dep_nk x).1
  simp only [row3, NestedKey.data, NestedKey.datas, PyData.depth, PyData.depthAll]
  omega
/-- a row of three made -/
def Row3 (K : PySem.W.Frag) (H : Hp) (f : Row F) (c : CRow) : Prop := Rp K H (row3 c.2 (f c.2)) (.ref c.1)
theorem row3_mk {K : PySem.W.Frag} {H : Hp} {q : Pr} {x : F} {a b c : Addr} {n : Int} (hn : n = (places q).length) (t : Tp K H a [.int n, .ref b, .ref c]) (r1 : Rp K H (pk q) (.ref b)) (r2 : Rp K H (nk x) (.ref c)) : Rp K H (row3 q x) (.ref a) := by
  subst hn
  exact rp_tup_iff.mpr ⟨a, _, rfl, t, rpl_cons (rp_num _) (rpl_cons r1 (rpl_cons r2 rpl_nil))⟩
theorem rpl3 {K : PySem.W.Frag} {H : Hp} {d e f : NestedKey} {xs : List V} (l : RpL K H [d, e, f] xs) : ∃ x y z, xs = [x, y, z] ∧ Rp K H d x ∧ Rp K H e y ∧ Rp K H f z := by
  obtain ⟨x, xs, rfl, r1, r⟩ := rpl_cons_iff.mp l
  obtain ⟨y, xs, rfl, r2, r⟩ := rpl_cons_iff.mp r
  obtain ⟨z, xs, rfl, r3, r⟩ := rpl_cons_iff.mp r
  obtain rfl := rpl_nil_iff.mp r
  exact ⟨x, y, z, rfl, r1, r2, r3⟩
theorem row3_of {K : PySem.W.Frag} {H : Hp} {f : Row F} {c : CRow} (h : Row3 K H f c) : ∃ b d, Tp K H c.1 [.int (places c.2).length, .ref b, .ref d] ∧ Rp K H (pk c.2) (.ref b) ∧ Rp K H (nk (f c.2)) (.ref d) := by
  obtain ⟨a, xs, e, t, l⟩ := rp_tup_iff.mp h
  obtain ⟨x, y, z, rfl, l1, l2, l3⟩ := rpl3 l
  obtain rfl := rp_num_iff.mp l1
  obtain ⟨b, rfl⟩ := rp_pref l2
  obtain ⟨d, rfl⟩ := rp_ref l3
  have ea : c.1 = a := by cases e; rfl
  exact ⟨b, d, by rw [ea]; exact t, l2, l3⟩
end
section
variable {P : Program} {w : World} {K : PySem.W.Frag} {mg : Str → Option Value} {base : Heap} {A : Ad} {F : Type} [Num F]
theorem sc__law_gather : FnScope ["_law_prime_here", "_law_terms_here", "_law_found", "_law_product_here", "_law_number_here", "_law_rows", "_law_many"] ["_law_prime_here", "_law_terms_here"] (defScope (topS 64)) := ⟨rfl, rfl, rfl, by decide +kernel, rfl, by decide +kernel, by decide +kernel⟩
def spGat (K : PySem.W.Frag) (F : Type) [Num F] : Sp := fun vs H Q _ => ∃ (la : Addr) (ts : List (Pr × F)), vs = [.int (Num.p F), .ref la] ∧ Pok (Num.p F) ∧ TmList K H la ts ∧ (∀ t ∈ ts, NSz t.2) ∧ (∀ i k, NSz (gsum (ts.take i) k)) ∧
  ∀ H' l, Same H H' → H l = none → TmList K H' l (canon (gsum ts)) → Q (.ref l) H'
theorem c__law_gather (T : Txt K mg A) : Cal P w K mg base CX0 4 "_law_gather" ["_law_prime_here", "_law_terms_here"] [] (spGat K F) := by
  refine cal_mk T.g__law_gather (fun _ _ _ _ _ _ us hl => match us, hl with | [_, _], _ => rfl) sc__law_gather (fun vs H Q E h => ?_) (fun f cdv Ar outer s H vs Q E hr h => ?_)
  · obtain ⟨la, ts, rfl, _⟩ := h
    rfl
  · obtain ⟨la, ts, rfl, hp, ⟨xs, h1, h2⟩, sz, szs, q⟩ := h
    refine ⟨_, (pss_cons (ps_set (i := 2) sc__law_gather.nd rfl (by first | exact Or.inl rfl | exact Or.inr rfl) pe_dic0)
      (pss_cons (ps_for PassesOwn.never rfl (pi_list (pv 1)) ((pg_tup rfl (pgs_cons (pg_name (i := 3) sc__law_gather.nd rfl (by first | exact Or.inl rfl | exact Or.inr rfl)) (pgs_cons (pg_name (i := 4) sc__law_gather.nd rfl (by first | exact Or.inl rfl | exact Or.inr rfl)) pgs_nil))))
      (pss_one (ps_asg (pc (c__law_plus (F := F) T) (hr.mono (by decide)) (pa_cons (pv 0) (pa_cons (pe_dm PySem.F.slot_dict_get PySem.F.type_dict_get (mt_getD hr.units) (pv 2) (pa_cons (pv 3) (pa_cons (pe_tup (pa_cons pe_int (pa_cons pe_int pa_nil))) pa_nil))) (pa_cons (pv 4) pa_nil)))) (pg_sub (pv 2) (pv 3) (pset_dicP hr.units)))))
      (pss_cons (ps_setLc (i := 5) (y := "_law_rows") (own := [("_law_product_here", 3)]) (g := gName 3) rfl sc__law_gather.nd rfl rfl (sw_true rfl rfl rfl (by decide +kernel)) (pi_itK (pv 2)) (blkOk_by (N := ["_law_prime_here", "_law_terms_here", "_law_found", "_law_product_here", "_law_number_here", "_law_rows", "_law_many"]) (sc := defScope (topS 64)) (by decide +kernel)) (fun _ _ _ _ _ => pg_name (i := 3) sc__law_gather.nd rfl (by first | exact Or.inl rfl | exact Or.inr rfl)) (fun _ _ _ _ _ => pts_one (pt_cmpR (op_neRB K (by rfl) hr.units) (pe_ix (ix_dicB K w (by rfl) (by rfl) hr.units) (pv 2) (pv 3) (fun _ _ => rfl)) (pe_tup (pa_cons pe_int (pa_cons pe_int pa_nil))) (nomark _))) (fun _ _ _ _ _ => (pe_tup (pa_cons (pe_callB (call_lenB K (by rfl)) (by rfl) T.len (by decide +kernel) (pa_cons (pv 3) pa_nil)) (pa_cons (pv 3) (pa_cons (pe_ix (ix_dicB K w (by rfl) (by rfl) hr.units) (pv 2) (pv 3) (fun _ _ => rfl)) pa_nil))))))
      (pss_one (ps_ret (pe_lc (own := [("_law_many", 6), ("_law_product_here", 3), ("_law_number_here", 4)]) (tt := tYes) rfl sc__law_gather.nd (pi_list (pe_callB (cr_sortedR (by have := hr.units; exact this)) (by rfl) T.sorted (by decide +kernel) (pa_cons (pv 5) pa_nil))) (blkOk_by (N := ["_law_prime_here", "_law_terms_here", "_law_found", "_law_product_here", "_law_number_here", "_law_rows", "_law_many"]) (sc := defScope (topS 64)) (by decide +kernel)) (fun _ _ _ _ _ => (pg_tupB (n := 3) K (by rfl) rfl (pgs_cons (pg_name (i := 6) sc__law_gather.nd rfl (by first | exact Or.inl rfl | exact Or.inr rfl)) (pgs_cons (pg_name (i := 3) sc__law_gather.nd rfl (by first | exact Or.inl rfl | exact Or.inr rfl)) (pgs_cons (pg_name (i := 4) sc__law_gather.nd rfl (by first | exact Or.inl rfl | exact Or.inr rfl)) pgs_nil))))) (fun _ _ _ _ _ => pts_nil) (fun _ _ _ _ _ => (pe_tup (pa_cons (pv 3) (pa_cons (pv 4) pa_nil)))))))))), ?_⟩
    refine (fun d hd => ?_)
    have hlen : ts.length = xs.length := by
      have := h2.length
      rw [List.length_map] at this
      exact this
    refine ⟨_, rfl, la, rfl, ⟨_, SqL.of ((same_upd hd) _ _ h1)⟩, for_list (K := K) (a := la) (xs := xs) (fun i σ H1 => ∃ (s3 s4 : Option V) (fs : List Ent) (ep : Nat), σ = [some (.int (Num.p F)), some (.ref la), some (.ref d), s3, s4, none, none] ∧ Same H H1 ∧ H1 d = some (dO w d fs ep) ∧ EG K H1 pk (nv K H1) (gathAt (ts.take i)) fs)
      ⟨none, none, [], 0, rfl, same_upd hd, upd_same, EG.nil.congr fun k => by rw [List.take_zero]; rfl⟩ (fun i σ H1 _ ⟨_, _, _, _, _, sm, _⟩ => SqL.of (sm _ _ h1)) ?_ ?_⟩
    · rintro i x σ H1 hi ⟨s3, s4, fs, ep, rfl, sm, hd1, hd2⟩
      obtain ⟨t, ht, rt⟩ := RpL.at_ h2 hi
      obtain ⟨a, u, v, rfl, t1, r1, r2⟩ := rp_term ((Keep.of sm).rp rt)
      refine ⟨a, _, rfl, t1.sq, rfl, _, _, rfl, _, _, rfl, rfl, ?_⟩
      have hg : (gathAt (ts.take i) t.1).getD 0 = gsum (ts.take i) t.1 := by
        unfold gathAt
        by_cases z : t.1 ∈ (ts.take i).map (·.1)
        · rw [if_pos z]; rfl
        · rw [if_neg z, gsum_out z]; rfl
      refine ⟨_, rfl, _, rfl, ⟨d, fs, ep, rfl, hd1⟩, _, rfl, (by decide : 2 ≤ sizeLine), fun z hz => ?_⟩
      have sz1 := same_upd (o := .tup [.int 0, .int 1]) hz
      have hd3 := sz1 _ _ hd1
      have eg3 := hd2.keep (Keep.of sz1) (nv.keep (Keep.of sz1))
      obtain ⟨o, lo, l1, l2⟩ := look_of emb_pk hd3 eg3 ((Keep.of sz1).rp r1)
      have rz : Rp K (upd H1 z (.tup [.int 0, .int 1])) (nk (gsum (ts.take i) t.1)) ((o.map V.ref).getD (.ref z)) := by
        cases o with
        | none =>
          have : gathAt (ts.take i) t.1 = none := by
            cases hh : gathAt (ts.take i) t.1 with
            | none => rfl
            | some y => rw [hh] at l1; cases l1
          rw [this] at hg
          rw [← hg]
          exact rpN_nk Num.enc_zero rp_pair
        | some y =>
          obtain ⟨y2, e1, e2⟩ := l2 y rfl
          rw [e1] at hg
          rw [← hg]
          exact e2
      refine ⟨_, _, o, rfl, lo, _, rfl, gsum (ts.take i) t.1, t.2, _, _, rfl, hp, rz, (Keep.of sz1).rp r2, szs i t.1, sz t (List.mem_of_getElem? ht), fun H4 v4 sm4 r4 => ?_⟩
      obtain ⟨c4, rfl⟩ := rp_ref r4
      have s4' := (sm.trans sz1).trans sm4
      refine ⟨_, rfl, _, rfl, putd_of emb_pk (sm4 _ _ hd3) (eg3.keep (Keep.of sm4) (nv.keep (Keep.of sm4))) ((Keep.of (sz1.trans sm4)).rp r1) r4 fun H5 fs5 ep5 sb5 h5 eg5 => ?_⟩
      refine ⟨_, _, fs5, ep5, rfl, SB.same s4' sb5 hd, h5, eg5.congr fun k => ?_⟩
      rw [gathAt_snoc ht k]
    · rintro σ H1 ⟨s3, s4, fs, ep, rfl, sm, hd1, hd2⟩
      rw [← hlen, List.take_length] at hd2
      refine ⟨_, rfl, d, fs, ep, rfl, hd1, fun D hD => ?_⟩
      refine lc_it walk_itK (fun i H2 => ∃ cs : List CRow, Same H1 H2 ∧ H2 D = some (.lst (cs.map fun c => V.ref c.1)) ∧ (∀ c ∈ cs, Row3 K H2 (gsum ts) c) ∧ cs.length ≤ i ∧ (cs.map (·.2)).Nodup ∧ ∀ k, k ∈ cs.map (·.2) ↔ (pk k ∈ (fs.take i).map (·.1) ∧ gsum ts k ≠ 0))
        ⟨[], same_upd hD, upd_same, fun c hc => absurd hc (by simp), Nat.le_refl _, List.nodup_nil, fun k => by simp⟩ (fun i H2 _ ⟨_, sm2, _⟩ => sm2 _ _ hd1) ?_ ?_
      · rintro i x H2 H3 hi ⟨cs, sm2, hL, hM, hcl, hN, hS⟩ ⟨rfl, y, hy, rfl⟩
        obtain ⟨k, z, ek, gk, vk⟩ := hd2.of y (List.mem_of_getElem? hy)
        have hz : z = gsum ts k := by
          unfold gathAt at gk
          by_cases m : k ∈ ts.map (·.1)
          · rw [if_pos m] at gk
            exact (Option.some.inj gk).symm
          · rw [if_neg m] at gk
            cases gk
        subst hz
        have hkey := (hd2.es.keys y (List.mem_of_getElem? hy)).1
        rw [ek] at hkey
        have hfr := take_fresh hd2.es.nd hy
        have k2 := Keep.of sm2
        have hde := sm2 _ _ hd1
        have ege := hd2.keep k2 (nv.keep k2)
        obtain ⟨v5, lk5, n5⟩ := look_some (k := k) emb_pk hde ege (k2.rp hkey) gk
        refine ⟨rfl, _, rfl, _, rfl, v5, lk5, (by decide : 2 ≤ sizeLine), fun t ht => ?_⟩
        have st := same_upd (o := .tup [.int 0, .int 1]) ht
        refine ⟨nk (gsum ts k), nk (0 : F), (Keep.of st).rp n5, rpN_nk (x := (0 : F)) Num.enc_zero rp_pair, fine_nk _, fine_nk _, _, rfl, itN2 (fun hne => ?_) (fun heq => ?_)⟩
        · have h0 : gsum ts k ≠ 0 := fun e => hne (by rw [e])
          have kt := Keep.of st
          obtain ⟨v6, lk6, n6⟩ := look_some (k := k) emb_pk (st _ _ hde) (ege.keep kt (nv.keep kt)) (kt.rp (k2.rp hkey)) gk
          obtain ⟨pb, epb, tpb⟩ := rp_prod (kt.rp (k2.rp hkey))
          refine ⟨_, rfl, pb, _, by rw [epb], .inr tpb.sq, _, rfl, _, rfl, _, rfl, v6, lk6, (by decide : 3 ≤ sizeLine), fun t2 ht2 => ⟨_, (same_upd ht2) _ _ (st _ _ hL), ?_, cs ++ [(t2, k)], ?_, ?_, fun c hc => ?_, ?_, ?_, fun j => ?_⟩⟩
          · rw [List.length_map]
            exact Nat.lt_of_le_of_lt (Nat.le_trans hcl (Nat.le_trans (Nat.le_of_lt hi) (hd2.len emb_pk))) (by decide)
          · exact SB.same ((sm2.trans st).trans (same_upd ht2)) SB.upd hD
          · rw [upd_same, List.map_append]
            rfl
          · have st2 := same_upd (H := upd H3 t (.tup [.int 0, .int 1])) (o := .tup [.int (((places k).map fun (i : Nat) => V.int i).length : Nat), .ref y.2.1, .ref v6]) ht2
            have kk : Keep (upd H3 t (.tup [.int 0, .int 1])) (upd (upd (upd H3 t (.tup [.int 0, .int 1])) t2 (.tup [.int (((places k).map fun (i : Nat) => V.int i).length : Nat), .ref y.2.1, .ref v6])) D (.lst (cs.map (fun c => V.ref c.1) ++ [V.ref t2]))) :=
              (Keep.of st2).trans (Keep.wr (st2 _ _ (st _ _ hL)) fun _ z => by cases z)
            rcases List.mem_append.mp hc with hc | hc
            · exact (kt.trans kk).rp (hM c hc)
            · obtain rfl := List.mem_singleton.mp hc
              refine row3_mk (n := ((((places k).map fun (i : Nat) => V.int i).length : Nat) : Int)) (by rw [List.length_map]) (.inl ?_) (kk.rp (kt.rp (k2.rp hkey))) (kk.rp n6)
              rw [upd_ne (ne_of_none (st _ _ hL) ht2).symm, upd_same]
          · rw [List.length_append, List.length_singleton]
            omega
          · rw [List.map_append, List.nodup_append]
            refine ⟨hN, by simp, fun a ha b hb e => ?_⟩
            have hb : b = k := by simpa using hb
            rw [e, hb] at ha
            exact hfr (by rw [ek]; exact ((hS k).mp ha).1)
          · rw [List.map_append, List.mem_append, hS j, take_snoc hy, List.mem_append, ek]
            constructor
            · rintro (⟨a1, a2⟩ | a1)
              · exact ⟨.inl a1, a2⟩
              · have : j = k := by simpa using a1
                rw [this]
                exact ⟨.inr (List.mem_singleton.mpr rfl), h0⟩
            · rintro ⟨a1 | a1, a2⟩
              · exact .inl ⟨a1, a2⟩
              · refine .inr ?_
                rw [pk_inj (List.mem_singleton.mp a1)]
                simp
        · have h0 : gsum ts k = 0 := nk_inj heq
          refine ⟨cs, sm2.trans st, st _ _ hL, fun c hc => (Keep.of st).rp (hM c hc), Nat.le_succ_of_le hcl, hN, fun j => ?_⟩
          rw [hS j, take_snoc hy, List.mem_append, ek]
          constructor
          · rintro ⟨a1, a2⟩
            exact ⟨.inl a1, a2⟩
          · rintro ⟨a1 | a1, a2⟩
            · exact ⟨a1, a2⟩
            · exact absurd (by rw [pk_inj (List.mem_singleton.mp a1)]; exact h0) a2
      · rintro H2 ⟨cs, sm2, hL, hM, hcl, hN, hS⟩
        rw [List.take_length] at hS
        obtain ⟨ds, e1, e2, e3⟩ := sort_toD (gsum ts) cs hN
        have sT := sm.trans sm2
        have ec : canon (gsum ts) = ds.map fun c => (c.2, gsum ts c.2) := by
          unfold canon
          rw [← sorted_canon (gsum ts) e3 fun k => ?_, List.map_map]
          · rfl
          · rw [(e2.map (·.2)).mem_iff, hS k]
            constructor
            · exact fun z => z.2
            · intro z
              refine ⟨hd2.to k (gsum ts k) ?_, z⟩
              unfold gathAt
              by_cases m : k ∈ ts.map (·.1)
              · rw [if_pos m]
              · exact absurd (gsum_out m) z
        refine ⟨_, rfl, D, cs.map (toD (gsum ts)), rfl, SqL.of (by rw [List.map_map]; exact hL), fun y hy => ?_, alike_toD _ cs, fun p hp2 => ?_⟩
        · obtain ⟨c, hc, rfl⟩ := List.mem_map.mp hy
          exact ⟨hM c hc, depth3 _ _, _, _, rfl⟩
        · have hp3 := same_upd (o := .lst ((((cs.map (toD (gsum ts))).mergeSort (PySem.W.dataLe false fun y : DRow => y.2.data))).map fun y => V.ref y.1)) hp2
          have ep : upd H2 p (.lst ((((cs.map (toD (gsum ts))).mergeSort (PySem.W.dataLe false fun y : DRow => y.2.data))).map fun y => V.ref y.1)) p = some (.lst (ds.map fun c => V.ref c.1)) := by
            rw [upd_same, e1, List.map_map]
            rfl
          have dsl : ds.length ≤ 64 := by
            rw [e2.length_eq]
            exact Nat.le_trans hcl (hd2.len emb_pk)
          have hMd : ∀ c ∈ ds, Row3 K (upd H2 p (.lst ((((cs.map (toD (gsum ts))).mergeSort (PySem.W.dataLe false fun y : DRow => y.2.data))).map fun y => V.ref y.1))) (gsum ts) c := fun c hc => (Keep.of hp3).rp (hM c (e2.mem_iff.mp hc))
          generalize upd H2 p (.lst ((((cs.map (toD (gsum ts))).mergeSort (PySem.W.dataLe false fun y : DRow => y.2.data))).map fun y => V.ref y.1)) = H3 at hp3 ep hMd ⊢
          have s3 := sT.trans hp3
          refine ⟨p, rfl, ⟨_, SqL.of ep⟩, fun D2 hD2 => ?_⟩
          refine lc_list (K := K) (a := p) (xs := ds.map fun c => V.ref c.1) (fun i H4 => ∃ ys, Same H3 H4 ∧ H4 D2 = some (.lst ys) ∧ RpL K H4 (((ds.take i).map fun c => (c.2, gsum ts c.2)).map tk) ys) ⟨[], same_upd hD2, upd_same, by rw [List.take_zero]; exact rpl_nil⟩ (fun i H4 _ ⟨_, sm4, _⟩ => SqL.of (sm4 _ _ ep)) (fun i x H4 hi ⟨ys, sm4, hy1, hy2⟩ => ?_) (fun H4 ⟨ys, sm4, hy1, hy2⟩ => ?_)
          · rw [List.getElem?_map] at hi
            obtain ⟨c, hc, rfl⟩ := Option.map_eq_some_iff.mp hi
            obtain ⟨b, e, t1, r1, r2⟩ := row3_of (hMd c (List.mem_of_getElem? hc))
            have k4 := Keep.of sm4
            have ht1 := (t1.keep k4)
            have yl : ys.length ≤ 64 := by
              have := hy2.length
              rw [List.length_map, List.length_map, List.length_take] at this
              omega
            refine ⟨c.1, _, rfl, ht1.sq, rfl, _, _, rfl, _, _, rfl, _, _, rfl, rfl, rfl, _, rfl, _, rfl, (by decide : 2 ≤ sizeLine), fun t ht => ⟨ys, (same_upd ht) _ _ hy1, Nat.lt_of_le_of_lt yl (by decide), ys ++ [.ref t], SB.same (sm4.trans (same_upd ht)) SB.upd hD2, upd_same, ?_⟩⟩
            have kk : Keep (upd H4 t (.tup [.ref b, .ref e])) (upd (upd H4 t (.tup [.ref b, .ref e])) D2 (.lst (ys ++ [V.ref t]))) := Keep.wr ((same_upd ht) _ _ hy1) fun _ z => by cases z
            have k5 := (Keep.of (same_upd (o := .tup [.ref b, .ref e]) ht)).trans kk
            rw [List.take_add_one, hc, List.map_append, List.map_append]
            exact RpL.app (RpL.keep k5 _ hy2) (rpl_cons (term_rp (t := (c.2, gsum ts c.2)) (x := b) (y := e) (Tp.keep (.inl upd_same) kk) ((k4.trans k5).rp r1) ((k4.trans k5).rp r2)) rpl_nil)
          · rw [List.length_map, List.take_length, ← ec] at hy2
            exact q H4 D2 (s3.trans sm4) (s3.free hD2) ⟨ys, hy1, hy2⟩
end
end FsR
end
section
/-! The law's worths of rows. -/
set_option Elab.async false
set_option linter.all false
set_option maxRecDepth 100000
namespace FsR
open PySem PySem.Spec PyProof.Rows L2 LamX Fs
theorem fil_facts : ∀ q x : Pr, ((places q).filter (fun i => !bit x i) = [] ↔ jn q x = x) := by decide +kernel
theorem places_lt : ∀ n ∈ ([0, 1, 2, 3, 4] : List Nat), ∀ q : Pr, q.val < 2 ^ n → ∀ i ∈ places q, i < n := by decide +kernel
section
variable {F : Type} [Num F]
/-- what terms come to under a filling -/
def evalT (ts : List (Pr × F)) (x : Pr) : F := sumL ts fun t => if jn t.1 x = x then t.2 else 0
theorem evalT_snoc {ts : List (Pr × F)} {i : Nat} {t : Pr × F} (h : ts[i]? = some t) (x : Pr) : evalT (ts.take (i + 1)) x = evalT (ts.take i) x + if jn t.1 x = x then t.2 else 0 := by
  unfold evalT
  rw [List.take_add_one, h, sumL_append]
  show _ + sumL [t] _ = _
  rw [sumL_cons, sumL_nil]
  grind
end
theorem fineL_ints (l : List Nat) : FineL (l.map fun (i : Nat) => NestedKey.num (i : Int)) := by
  refine fineL_of ?_ ?_
  · induction l with
    | nil => simp [numsB]
    | cons x xs ih => simpa [numsB, numB] using ih
  · induction l with
    | nil => simp [NestedKey.datas, PyData.depthAll]
    | cons x xs ih =>
      simp only [List.map_cons, NestedKey.datas, NestedKey.data, PyData.depthAll, PyData.depth]
      omega
theorem rpl_ints {K : PySem.W.Frag} {H : Hp} : ∀ l : List Nat, RpL K H (l.map fun (i : Nat) => NestedKey.num (i : Int)) (l.map fun (i : Nat) => V.int i)
  | [] => rpl_nil
  | x :: l => rpl_cons (rp_num _) (rpl_ints l)
theorem rpl_ints_eq {K : PySem.W.Frag} {H : Hp} : ∀ {l : List Nat} {xs : List V}, RpL K H (l.map fun (i : Nat) => NestedKey.num (i : Int)) xs → xs = l.map fun (i : Nat) => V.int i
  | [], xs, h => rpl_nil_iff.mp h
  | x :: l, xs, h => by
    obtain ⟨y, ys, rfl, r1, r⟩ := rpl_cons_iff.mp h
    obtain rfl := rp_num_iff.mp r1
    rw [rpl_ints_eq r]
    rfl
theorem rp_fk {K : PySem.W.Frag} {H : Hp} {n : Nat} {x : Pr} {v : V} (h : Rp K H (fk n x) v) : ∃ p, v = .ref p ∧ Tp K H p (((List.range n).map (b01 x)).map fun (i : Nat) => V.int i) := by
  obtain ⟨a, xs, rfl, t, l⟩ := rp_tup_iff.mp h
  refine ⟨a, rfl, ?_⟩
  have e : ((List.range n).map fun i => NestedKey.num (b01 x i : Nat)) = ((List.range n).map (b01 x)).map fun (i : Nat) => NestedKey.num (i : Int) := by rw [List.map_map]; rfl
  rw [e] at l
  rw [← rpl_ints_eq l]
  exact t
section
variable {P : Program} {w : World} {K : PySem.W.Frag} {mg : Str → Option Value} {base : Heap} {A : Ad} {F : Type} [Num F]
theorem sc__law_worth : FnScope ["_law_prime_here", "_law_terms_here", "_law_filling_here", "_law_found", "_law_product_here", "_law_number_here", "_law_place"] ["_law_prime_here", "_law_terms_here", "_law_filling_here"] (defScope (topS 65)) := ⟨rfl, rfl, rfl, by decide +kernel, rfl, by decide +kernel, by decide +kernel⟩
def spWth (K : PySem.W.Frag) (F : Type) [Num F] : Sp := fun vs H Q _ => ∃ (la : Addr) (ts : List (Pr × F)) (n : Nat) (x : Pr) (fv : V), vs = [.int (Num.p F), .ref la, fv] ∧ Pok (Num.p F) ∧ TmList K H la ts ∧ (∀ t ∈ ts, t.1.val < 2 ^ n) ∧ Rp K H (fk n x) fv ∧ n ≤ 4 ∧ (∀ t ∈ ts, NSz t.2) ∧ (∀ i, NSz (evalT (ts.take i) x)) ∧
  ∀ H' v, Same H H' → Rp K H' (nk (evalT ts x)) v → Q v H'
theorem c__law_worth (T : Txt K mg A) : Cal P w K mg base CX0 4 "_law_worth" ["_law_prime_here", "_law_terms_here", "_law_filling_here"] [] (spWth K F) := by
  refine cal_mk T.g__law_worth (fun _ _ _ _ _ _ us hl => match us, hl with | [_, _, _], _ => rfl) sc__law_worth (fun vs H Q E h => ?_) (fun f cdv Ar outer s H vs Q E hr h => ?_)
  · obtain ⟨la, ts, n, x, fv, rfl, _⟩ := h
    rfl
  · obtain ⟨la, ts, n, x, fv, rfl, hp, ⟨xs, h1, h2⟩, hin, hfil, hn, sz, szs, q⟩ := h
    obtain ⟨fp, rfl, tfp⟩ := rp_fk hfil
    refine ⟨_, (pss_cons (ps_set (i := 3) sc__law_worth.nd rfl (by first | exact Or.inl rfl | exact Or.inr rfl) (pe_tup (pa_cons pe_int (pa_cons pe_int pa_nil))))
      (pss_cons (ps_for PassesOwn.never rfl (pi_list (pv 1)) ((pg_tup rfl (pgs_cons (pg_name (i := 4) sc__law_worth.nd rfl (by first | exact Or.inl rfl | exact Or.inr rfl)) (pgs_cons (pg_name (i := 5) sc__law_worth.nd rfl (by first | exact Or.inl rfl | exact Or.inr rfl)) pgs_nil))))
      (pss_one (ps_if (pt_cmpR (op_eqRL hr.units) (pe_lc (own := [("_law_place", 6)]) (g := gName 6) rfl sc__law_worth.nd (pi_tup (pv 4)) (blkOk_by (N := ["_law_prime_here", "_law_terms_here", "_law_filling_here", "_law_found", "_law_product_here", "_law_number_here", "_law_place"]) (sc := defScope (topS 65)) (by decide +kernel)) (fun _ _ _ _ _ => pg_name (i := 6) sc__law_worth.nd rfl (by first | exact Or.inl rfl | exact Or.inr rfl)) (fun _ _ _ _ _ => pts_one (pt_cmpR op_eq (pe_ix (ix_tupB K (by rfl)) (pv 2) (pv 6) (fun _ _ => rfl)) pe_int (nomark _))) (fun _ _ _ _ _ => (pv 6))) (pe_lst pa_nil) (nomark _)) (pss_one (ps_set (i := 3) sc__law_worth.nd rfl (by first | exact Or.inl rfl | exact Or.inr rfl) (pc (c__law_plus (F := F) T) (hr.mono (by decide)) (pa_cons (pv 0) (pa_cons (pv 3) (pa_cons (pv 5) pa_nil))))))
      pss_nil)))
      (pss_one (ps_ret (pv 3))))), ?_⟩
    refine ⟨(by decide : 2 ≤ sizeLine), fun z hz => ?_⟩
    have sz1 := same_upd (o := .tup [.int 0, .int 1]) hz
    have hlen : ts.length = xs.length := by
      have := h2.length
      rw [List.length_map] at this
      exact this
    refine ⟨_, rfl, la, rfl, ⟨_, SqL.of (sz1 _ _ h1)⟩, for_list (K := K) (a := la) (xs := xs) (fun i σ H1 => ∃ (v3 : V) (s4 s5 : Option V), σ = [some (.int (Num.p F)), some (.ref la), some (.ref fp), some v3, s4, s5, none] ∧ Same H H1 ∧ Rp K H1 (nk (evalT (ts.take i) x)) v3)
      ⟨.ref z, none, none, rfl, sz1, ?_⟩ (fun i σ H1 _ ⟨_, _, _, _, sm, _⟩ => SqL.of (sm _ _ h1)) ?_ ?_⟩
    · rw [List.take_zero]
      exact rpN_nk (x := (0 : F)) Num.enc_zero rp_pair
    · rintro i y σ H1 hi ⟨v3, s4, s5, rfl, sm, r3⟩
      obtain ⟨t, ht, rt⟩ := RpL.at_ h2 hi
      obtain ⟨a, u, v, rfl, t1, r1, r2⟩ := rp_term ((Keep.of sm).rp rt)
      have htm := List.mem_of_getElem? ht
      refine ⟨a, _, rfl, t1.sq, rfl, _, _, rfl, _, _, rfl, rfl, ?_⟩
      obtain ⟨pq, epq, tpq⟩ := rp_prod r1
      cases epq
      refine ⟨_, rfl, u, rfl, ⟨_, tpq.sq⟩, fun D hD => ?_⟩
      refine lc_tup (K := K) (a := u) (xs := (places t.1).map fun (i : Nat) => V.int i) (fun j H2 => Same H1 H2 ∧ H2 D = some (.lst ((((places t.1).take j).filter fun i => !bit x i).map fun (i : Nat) => V.int i))) ⟨same_upd hD, upd_same⟩ (fun j H2 _ ⟨sm2, _⟩ => (tpq.keep (Keep.of sm2)).sq) (fun j y H2 hj ⟨sm2, hL⟩ => ?_) (fun H2 ⟨sm2, hL⟩ => ?_)
      · rw [List.getElem?_map] at hj
        obtain ⟨i0, hi0, rfl⟩ := Option.map_eq_some_iff.mp hj
        have hin0 : i0 < n := places_lt n (five hn) t.1 (hin t htm) i0 (List.mem_of_getElem? hi0)
        have etk : (places t.1).take (j + 1) = (places t.1).take j ++ [i0] := by
          rw [List.take_add_one, hi0]
          rfl
        refine ⟨rfl, _, rfl, _, rfl, _, _, _, .int (b01 x i0 : Nat), rfl, rfl, (tfp.keep (Keep.of (sm.trans sm2))).sq, at_of (j := i0) rfl ?_, rfl, _, rfl, it2 (fun hb => ?_) (fun hb => ?_)⟩
        · rw [List.getElem?_map, List.getElem?_map, List.getElem?_range hin0]
          rfl
        · have hb0 : bit x i0 = false := by
            cases hh : bit x i0 with
            | false => rfl
            | true =>
              have := V.int.inj hb
              unfold b01 at this
              rw [hh] at this
              simp at this
          refine ⟨_, rfl, _, hL, ?_, SB.same sm2 SB.upd hD, ?_⟩
          · rw [List.length_map]
            refine Nat.lt_of_le_of_lt (List.length_filter_le _ _) (Nat.lt_of_le_of_lt (List.length_take_le _ _) ?_)
            exact Nat.lt_of_le_of_lt (Nat.le_trans (Nat.le_of_lt (List.getElem?_eq_some_iff.mp hi0).1) (places_le t.1)) (by decide)
          · rw [upd_same, etk, List.filter_append, List.map_append, List.filter_cons, if_pos (by rw [hb0]; rfl)]
            rfl
        · have hb1 : bit x i0 = true := by
            cases hh : bit x i0 with
            | true => rfl
            | false => exact absurd (by unfold b01; rw [hh]; rfl) hb
          refine ⟨sm2, ?_⟩
          rw [hL, etk, List.filter_append, List.filter_cons, if_neg (by rw [hb1]; simp), List.filter_nil, List.append_nil]
      · rw [List.length_map, List.take_length] at hL
        have es := evalT_snoc ht x
        refine ⟨Nat.zero_le _, fun l hl => ?_⟩
        have sl := same_upd (o := .lst []) hl
        refine ⟨((places t.1).filter fun i => !bit x i).map fun (i : Nat) => NestedKey.num (i : Int), [], ⟨D, _, rfl, SqL.of (sl _ _ hL), rpl_ints _⟩, ⟨l, [], rfl, SqL.of upd_same, rpl_nil⟩, fineL_ints _, fineL_nil, _, rfl, it2 (fun h => ?_) (fun h => ?_)⟩
        · have hx : jn t.1 x = x := (fil_facts t.1 x).mp (List.map_eq_nil_iff.mp h)
          have s2 := sm2.trans sl
          refine ⟨_, rfl, _, rfl, _, rfl, evalT (ts.take i) x, t.2, v3, .ref v, rfl, hp, (Keep.of s2).rp r3, (Keep.of s2).rp r2, szs i, sz t htm, fun H4 v4 sm4 r4 => ?_⟩
          rw [if_pos hx] at es
          exact ⟨v4, _, _, rfl, (sm.trans s2).trans sm4, by rw [es]; exact r4⟩
        · have hx : ¬ jn t.1 x = x := fun z => h (by rw [(fil_facts t.1 x).mpr z]; rfl)
          rw [if_neg hx] at es
          have e0 : evalT (ts.take i) x + 0 = evalT (ts.take i) x := by grind
          rw [e0] at es
          exact ⟨v3, _, _, rfl, (sm.trans sm2).trans sl, by rw [es]; exact (Keep.of (sm2.trans sl)).rp r3⟩
    · rintro σ H1 ⟨v3, s4, s5, rfl, sm, r3⟩
      rw [← hlen, List.take_length] at r3
      exact ⟨_, rfl, q H1 v3 sm r3⟩
end
end FsR
end
section
/-! The law's tests of numbers; its wishes. -/
set_option Elab.async false
set_option linter.all false
set_option maxRecDepth 100000
namespace FsR
open PySem PySem.Spec PyProof.Rows L2 LamX Fs
section
variable {P : Program} {w : World} {K : PySem.W.Frag} {mg : Str → Option Value} {base : Heap} {A : Ad} {F : Type} [Num F]
theorem sc__law_whole : FnScope ["_law_thing"] ["_law_thing"] (defScope (topS 67)) := ⟨rfl, rfl, rfl, by decide +kernel, rfl, by decide +kernel, by decide +kernel⟩
def spLwh : Sp := fun vs H Q _ => ∃ i : Int, vs = [.int i] ∧ Q (.bl true) H
theorem c__law_whole (T : Txt K mg A) : Cal P w K mg base CX0 1 "_law_whole" ["_law_thing"] [] spLwh := by
  refine cal_mk T.g__law_whole (fun _ _ _ _ _ _ us hl => match us, hl with | [_], _ => rfl) sc__law_whole (fun vs H Q E h => ?_) (fun f cdv Ar outer s H vs Q E hr h => ?_)
  · obtain ⟨i, rfl, _⟩ := h
    rfl
  · obtain ⟨i, rfl, q⟩ := h
    refine ⟨_, (pss_one (ps_ret (pe_and (pe_callB call_isi (by rfl) T.isinstance (by decide +kernel) (pa_cons (pv 0) (pa_cons (pe_bltn (v := .ty "int") (by rfl) T.int (by decide +kernel) rfl) pa_nil))) (pe_one (pe_not (pe_callB call_isi (by rfl) T.isinstance (by decide +kernel) (pa_cons (pv 0) (pa_cons (pe_bltn (v := .ty "bool") (by rfl) T.bool (by decide +kernel) rfl) pa_nil)))))))), ?_⟩
    refine ⟨_, rfl, _, _, .type "int", _, _, rfl, .ty _, .base (.int i), kit_ty (by decide +kernel), true, rfl, ?_⟩
    exact ⟨_, rfl, _, _, .type "int", _, _, rfl, .ty _, .base (.int i), kit_ty (by decide +kernel), false, rfl, q⟩
theorem sc__law_is_number : FnScope ["_law_prime_here", "_law_thing"] ["_law_prime_here", "_law_thing"] (defScope (topS 68)) := ⟨rfl, rfl, rfl, by decide +kernel, rfl, by decide +kernel, by decide +kernel⟩
def spLnum (K : PySem.W.Frag) (F : Type) [Num F] : Sp := fun vs H Q _ => ∃ (x : F) (v : V), vs = [.int (Num.p F), v] ∧ Pok (Num.p F) ∧ Rp K H (nk x) v ∧ NSz x ∧ ∀ H', Same H H' → Q (.bl true) H'
theorem c__law_is_number (T : Txt K mg A) : Cal P w K mg base CX0 2 "_law_is_number" ["_law_prime_here", "_law_thing"] [] (spLnum K F) := by
  refine cal_mk T.g__law_is_number (fun _ _ _ _ _ _ us hl => match us, hl with | [_, _], _ => rfl) sc__law_is_number (fun vs H Q E h => ?_) (fun f cdv Ar outer s H vs Q E hr h => ?_)
  · obtain ⟨x, v, rfl, _⟩ := h
    rfl
  · obtain ⟨x, v, rfl, hp, rv, sx, q⟩ := h
    obtain ⟨p1, rfl, t0⟩ := rp_ints rv
    refine ⟨_, (pss_cons (ps_if (PW.pt (pw_or (pt_not (pt_val (pe_callB call_isi (by rfl) T.isinstance (by decide +kernel) (pa_cons (pv 1) (pa_cons (pe_bltn (v := .ty "tuple") (by rfl) T.tuple (by decide +kernel) rfl) pa_nil))))) (pw_or (pt_cmpR op_ne (pe_callB call_len_seq (by rfl) T.len (by decide +kernel) (pa_cons (pv 1) pa_nil)) pe_int (nomark _)) (pw_or (pt_not (pt_val (pc (c__law_whole T) (hr.mono (by decide)) (pa_cons (pe_ix ix_tup (pv 1) pe_int (fun _ _ => rfl)) pa_nil)))) (pw_or1 (pt_not (pt_val (pc (c__law_whole T) (hr.mono (by decide)) (pa_cons (pe_ix ix_tup (pv 1) pe_int (fun _ _ => rfl)) pa_nil))))))))) (pss_one (ps_ret pe_bl))
      pss_nil)
      (pss_cons (ps_if (pt_cmpR op_gt (pv 0) pe_int (nomark _)) (pss_one (ps_ret (pe_and (pe_cmpR op_eq (pe_ix ix_tup (pv 1) pe_int (fun _ _ => rfl)) pe_int (nomark _)) (pe_one (pe_chain op_le op_lt pe_int (pe_ix ix_tup (pv 1) pe_int (fun _ _ => rfl)) (pv 0))))))
      pss_nil)
      (pss_one (ps_ret (pe_and (pe_cmpR op_gt (pe_ix ix_tup (pv 1) pe_int (fun _ _ => rfl)) pe_int (nomark _)) (pe_one (pe_cmpR (op_eqR hr.units) (pc (c__law_lowest T) (hr.mono (by decide)) (pa_cons (pe_ix ix_tup (pv 1) pe_int (fun _ _ => rfl)) (pa_cons (pe_ix ix_tup (pv 1) pe_int (fun _ _ => rfl)) pa_nil))) (pv 1) (nomark _)))))))), ?_⟩
    refine ⟨_, rfl, _, _, .type "tuple", _, _, rfl, .ty _, tp_ty t0, kit_ty (by decide +kernel), true, rfl, iteF ?_⟩
    refine ⟨_, rfl, _, _, rfl, .inr t0.sq, rfl, _, rfl, itNF rfl ?_⟩
    refine ⟨_, rfl, _, _, _, .int _, rfl, rfl, t0.sq, at_of (j := 0) rfl rfl, _, rfl, true, rfl, iteF ?_⟩
    refine ⟨_, rfl, _, _, _, .int _, rfl, rfl, t0.sq, at_of (j := 1) rfl rfl, _, rfl, true, rfl, iteF ?_⟩
    refine ⟨_, rfl, _, _, rfl, rfl, _, rfl, it2 (fun h0 => ?_) (fun h0 => ?_)⟩
    · obtain ⟨e1, e2, e3⟩ := enc_prime x (by omega)
      refine ⟨_, rfl, _, _, _, .int _, rfl, rfl, t0.sq, at_of (j := 1) rfl rfl, rfl, _, rfl, itT (vi e1) ?_⟩
      refine ⟨_, rfl, _, _, _, .int _, rfl, rfl, t0.sq, at_of (j := 0) rfl rfl, _, _, rfl, rfl, _, rfl, itT e2 ?_⟩
      refine ⟨_, rfl, _, _, rfl, rfl, ?_⟩
      show Q (.bl (decide ((Num.enc x).1 < Num.p F))) H
      rw [decide_eq_true e3]
      exact q H (Same.refl _)
    · have hp0 : Num.p F = 0 := by
        rcases hp with z | ⟨n, _, z⟩
        · exact z
        · omega
      obtain ⟨e1, e2, e3⟩ := enc_zero_p x hp0
      refine ⟨_, rfl, _, _, _, .int _, rfl, rfl, t0.sq, at_of (j := 1) rfl rfl, _, _, rfl, rfl, _, rfl, itT e1 ?_⟩
      refine ⟨_, rfl, _, _, _, .int _, rfl, rfl, t0.sq, at_of (j := 0) rfl rfl, _, rfl, _, _, _, .int _, rfl, rfl, t0.sq, at_of (j := 1) rfl rfl, _, _, rfl, e2, sx.1.mono (by decide), sx.2.mono (by decide), fun H1 v1 sm r => ?_⟩
      rw [e3] at r
      refine ⟨_, rfl, nk x, nk x, r, (Keep.of sm).rp rv, fine_nk x, fine_nk x, ?_⟩
      show Q (.bl (decide (nk x = nk x))) H1
      rw [decide_eq_true rfl]
      exact q H1 sm
/-! ### wishes drawn -/
theorem small_w : Small 336000 42 := by
  refine ⟨by decide, by decide, by decide, by decide⟩
/-- terms as drawn, and at most one more that makes a filling right -/
structure Draws (n : Nat) (ts : List (Pr × F)) : Prop where
  two : ∃ a b : List (Pr × F), ts = a ++ b ∧ a.length ≤ 4 ∧ b.length ≤ 1 ∧ (∀ t ∈ a, Num.rep 42 42000 t.2) ∧ ∀ t ∈ b, Num.rep 42 168000 t.2
  dom : ∀ t ∈ ts, t.1.val < 2 ^ n
theorem rep_if {N : Nat} {x : F} (c : Prop) [Decidable c] (h : Num.rep 42 N x) : Num.rep 42 N (if c then x else 0) := by
  split
  · exact h
  · exact Num.rep_zero (by decide)
theorem sub_rep {n : Nat} {ts : List (Pr × F)} (h : Draws n ts) (s : Pr → Prop) [DecidablePred s] (i : Nat) : Num.rep 42 336000 (sumL (ts.take i) fun t => if s t.1 then t.2 else 0) := by
  obtain ⟨⟨a, b, rfl, ha, hb, ra, rb⟩, _⟩ := h
  rw [List.take_append, sumL_append]
  have h1 := rep_sum (D := 42) (N := 42000) (a.take i) (fun t => if s t.1 then t.2 else 0) (by decide) fun t ht => rep_if _ (ra t ((List.take_sublist _ _).subset ht))
  have h2 := rep_sum (D := 42) (N := 168000) (b.take (i - a.length)) (fun t => if s t.1 then t.2 else 0) (by decide) fun t ht => rep_if _ (rb t ((List.take_sublist _ _).subset ht))
  have l1 : (a.take i).length ≤ 4 := by rw [List.length_take]; omega
  have l2 : (b.take (i - a.length)).length ≤ 1 := by rw [List.length_take]; omega
  exact Num.rep_mono (Num.rep_add h1 h2) (by omega)
/-- a wish's row -/
structure WRow (n : Nat) (f : Row F) : Prop where
  dom : InP n f
  sz : ∀ i q k, Num.rep 42 336000 (gsum ((besT f q).take i) k)
theorem wrow_of {n : Nat} {ts : List (Pr × F)} (h : Draws n ts) : WRow n (gsum ts) := by
  refine ⟨fun q hq => ?_, fun i q k => ?_⟩
  · have : q ∈ ts.map (·.1) := Decidable.not_not.mp fun z => hq (gsum_out z)
    obtain ⟨t, ht, rfl⟩ := List.mem_map.mp this
    exact h.dom t ht
  · let ps := (prods.filter fun p => decide (gsum ts p ≠ 0)).take i
    have pn : ps.Nodup := (prods_nodup.filter _).sublist (List.take_sublist _ _)
    have e1 : (besT (gsum ts) q).take i = ps.map fun p => (jn p q, gsum ts p) := by
      unfold besT canon
      rw [List.map_map, ← List.map_take]
      rfl
    have e2 : gsum ((besT (gsum ts) q).take i) k = sumL ts fun t => if (t.1 ∈ ps ∧ jn t.1 q = k) then t.2 else 0 := by
      rw [e1]
      show sumL (ps.map fun p => (jn p q, gsum ts p)) (fun t => if t.1 = k then t.2 else 0) = _
      rw [sumL_map]
      have e3 : (fun p => if jn p q = k then gsum ts p else 0) = fun p => sumL ts fun t => if (jn p q = k ∧ t.1 = p) then t.2 else 0 := funext fun p => by
        by_cases z : jn p q = k
        · rw [if_pos z]
          exact sumL_congr fun t _ => by
            by_cases y : t.1 = p
            · rw [if_pos y, if_pos ⟨z, y⟩]
            · rw [if_neg y, if_neg fun w => y w.2]
        · rw [if_neg z]
          exact (sumL_zero fun t _ => if_neg fun w => z w.1).symm
      show sumL ps (fun p => if jn p q = k then gsum ts p else 0) = _
      rw [e3, sumL_comm]
      refine sumL_congr fun t _ => ?_
      by_cases m : t.1 ∈ ps
      · rw [sumL_one pn m fun b _ hb => if_neg fun w => hb w.2.symm]
        by_cases z : jn t.1 q = k
        · rw [if_pos ⟨z, rfl⟩, if_pos ⟨m, z⟩]
        · rw [if_neg fun w => z w.1, if_neg fun w => z w.2]
      · rw [if_neg fun w => m w.1]
        exact sumL_zero fun p hp => if_neg fun w => m (by rw [w.2]; exact hp)
    rw [e2]
    have := sub_rep h (fun p => p ∈ ps ∧ jn p q = k) ts.length
    rw [List.take_length] at this
    exact this
theorem wsz_of {n : Nat} {ws : List (Row F)} (h : ∀ f ∈ ws, WRow n f) : WSz ws := ⟨42, 336000, small_w, fun f hf => (h f hf).sz⟩
theorem enc_neg1 (y : F) : Num.enc (0 - y) = mkN (Num.p F) (-1 * (Num.enc y).1) (1 * (Num.enc y).2) := by
  rw [enc_sub, Num.enc_zero]
  congr 1
  show 0 * (Num.enc y).2 - (Num.enc y).1 * 1 = _
  rw [Int.zero_mul, Int.mul_one]
  omega
def spNegT (K : PySem.W.Frag) (F : Type) [Num F] : Sp := fun vs H Q _ => ∃ (y : F) (a : Addr) (v : V), vs = [.int (Num.p F), .ref a, v] ∧ Pok (Num.p F) ∧ Tp K H a [.int (-1), .int 1] ∧ Rp K H (nk y) v ∧ NSz y ∧ ∀ H' v, Same H H' → Rp K H' (nk (0 - y)) v → Q v H'
theorem n_law_times (T : Txt K mg A) : Cal P w K mg base CX0 3 "_law_times" ["_law_prime_here", "_law_one", "_law_other"] [] (spNegT K F) := by
  refine cal_mk T.g__law_times (fun _ _ _ _ _ _ us hl => match us, hl with | [_, _, _], _ => rfl) sc__law_times (fun vs H Q E h => ?_) (fun f cdv Ar outer s H vs Q E hr h => ?_)
  · obtain ⟨y, a, v, rfl, _⟩ := h
    rfl
  · obtain ⟨y, a, v, rfl, hp, t0, rv, sy, q⟩ := h
    obtain ⟨p2, rfl, t1⟩ := rp_ints rv
    refine ⟨_, (pss_one (ps_ret (pc (c__law_make T) (hr.mono (by decide)) (pa_cons (pv 0) (pa_cons (pe_op op_mulW (pe_ix ix_tup (pv 1) pe_int (fun _ _ => rfl)) (pe_ix ix_tup (pv 2) pe_int (fun _ _ => rfl))) (pa_cons (pe_op op_mulW (pe_ix ix_tup (pv 1) pe_int (fun _ _ => rfl)) (pe_ix ix_tup (pv 2) pe_int (fun _ _ => rfl))) pa_nil)))))), ?_⟩
    have o1 : Sz 1000 (-1) := Sz.small (n := 992) (by decide)
    have o2 : Sz 1000 1 := Sz.small (n := 992) (by decide)
    exact ⟨_, rfl, _, rfl, _, _, _, .int _, rfl, rfl, t0.sq, at_of (j := 0) rfl rfl, _, rfl, _, _, _, .int _, rfl, rfl, t1.sq, at_of (j := 0) rfl rfl, _, _, rfl, rfl, Sz.cmul (n := 999) (m := 999) o1 sy.1 (by decide), _, rfl, _, _, _, .int _, rfl, rfl, t0.sq, at_of (j := 1) rfl rfl, _, rfl, _, _, _, .int _, rfl, rfl, t1.sq, at_of (j := 1) rfl rfl, _, _, rfl, rfl, Sz.cmul (n := 999) (m := 999) o2 sy.2 (by decide), _, _, _, rfl, hp, (by rw [Int.one_mul]; exact Num.enc_bot y), (o1.mul sy.1).mono (by decide), (o2.mul sy.2).mono (by decide), fun H1 v sm r => q _ _ sm (rpN_nk (enc_neg1 y) r)⟩
theorem sc__law_wish : FnScope ["_law_room_here", "_law_prime_here", "_law_many", "_law_most", "_law_planted", "_law_rows", "_law_here"] ["_law_room_here", "_law_prime_here", "_law_many", "_law_most", "_law_planted"] (defScope (topS 69)) := ⟨rfl, rfl, rfl, by decide +kernel, rfl, by decide +kernel, by decide +kernel⟩
/-- what is planted: nothing or a filling -/
def Plant (K : PySem.W.Frag) (H : Hp) (n : Nat) (v : V) : Prop := v = .non ∨ ∃ x : Pr, Rp K H (fk n x) v
theorem Plant.keep {K : PySem.W.Frag} {H H' : Hp} {n : Nat} {v : V} (h : Plant K H n v) (k : Keep H H') : Plant K H' n v := by
  rcases h with h | ⟨x, h⟩
  · exact .inl h
  · exact .inr ⟨x, k.rp h⟩
theorem w_nsz {x : F} (h : Num.rep 42 336000 x) : NSz x := sm_nsz small_w h
def spWish (K : PySem.W.Frag) (F : Type) [Num F] : Sp := fun vs H Q _ => ∃ (r : Addr) (n : Nat) (pw : V), vs = [.ref r, .int (Num.p F), .int n, .int 4, pw] ∧ RoomAt H r ∧ Pok (Num.p F) ∧ Fits F ∧ n ≤ 4 ∧ Plant K H n pw ∧
  ∀ H' l (f : Row F), SB r H H' → RoomAt H' r → H l = none → l ≠ r → WRow n f → TmList K H' l (canon f) → Q (.ref l) H'
theorem c__law_wish (T : Txt K mg A) : Cal P w K mg base CX0 5 "_law_wish" ["_law_room_here", "_law_prime_here", "_law_many", "_law_most", "_law_planted"] [] (spWish K F) := by
  refine cal_mk T.g__law_wish (fun _ _ _ _ _ _ us hl => match us, hl with | [_, _, _, _, _], _ => rfl) sc__law_wish (fun vs H Q E h => ?_) (fun f cdv Ar outer s H vs Q E hr h => ?_)
  · obtain ⟨r, n, pw, rfl, _⟩ := h
    rfl
  · obtain ⟨r, n, pw, rfl, hR, hp, hF, hn, hP, q⟩ := h
    refine ⟨_, (pss_cons (ps_set (i := 5) sc__law_wish.nd rfl (by first | exact Or.inl rfl | exact Or.inr rfl) (pc (c__law_terms (F := F) T) (hr.mono (by decide)) (pa_cons (pv 0) (pa_cons (pv 1) (pa_cons (pv 2) (pa_cons (pv 3) pa_nil))))))
      (pss_cons (ps_if (pt_cmpR op_notN (pv 4) pe_non (nomark _)) (pss_cons (ps_set (i := 6) sc__law_wish.nd rfl (by first | exact Or.inl rfl | exact Or.inr rfl) (pc (c__law_worth (F := F) T) (hr.mono (by decide)) (pa_cons (pv 1) (pa_cons (pv 5) (pa_cons (pv 4) pa_nil)))))
      (pss_one (ps_expr (pe_bm PySem.F.plainAttrs_list PySem.F.slot_list_append PySem.F.type_list_append mt_append (pv 5) (pa_cons (pe_tup (pa_cons (pe_tup pa_nil) (pa_cons (pc (n_law_times (F := F) T) (hr.mono (by decide)) (pa_cons (pv 1) (pa_cons (pe_tup (pa_cons (pe_op op_sub pe_int pe_int) (pa_cons pe_int pa_nil))) (pa_cons (pv 6) pa_nil)))) pa_nil))) pa_nil)))))
      pss_nil)
      (pss_one (ps_ret (pc (c__law_gather (F := F) T) (hr.mono (by decide)) (pa_cons (pv 1) (pa_cons (pv 5) pa_nil))))))), ?_⟩
    refine ⟨_, rfl, _, rfl, _, rfl, _, rfl, r, n, 4, rfl, hR, hp, hF, hn, by decide, fun H1 l ts sb1 hR1 hl nl hlen hD hT => ?_⟩
    have ra : ∀ t ∈ ts, Num.rep 42 42000 t.2 := fun t ht => (hD t ht).2
    have fin : ∀ (H2 : Hp) (ts2 : List (Pr × F)) (s6 : Option V), Draws n ts2 → TmList K H2 l ts2 → SB r H H2 → RoomAt H2 r → tRet (tCall (spGat K F) [] E0 (tCons (tVar 1) (tCons (tVar 5) tNil))) { nx := fun _ H' => Q .non H', rt := Q } [some (.ref r), some (.int (Num.p F)), some (.int n), some (.int 4), some pw, some (.ref l), s6] H2 := fun H2 ts2 s6 hd ht sb hR2 => by
      refine ⟨_, rfl, _, rfl, l, ts2, rfl, hp, ht, fun t ht => ?_, fun i k => w_nsz ?_, fun H3 l3 sm3 hl3 hT3 => ?_⟩
      · obtain ⟨⟨a, b, e, _, _, ra, rb⟩, _⟩ := hd
        rw [e] at ht
        rcases List.mem_append.mp ht with h | h
        · exact w_nsz (Num.rep_mono (ra t h) (by decide))
        · exact w_nsz (Num.rep_mono (rb t h) (by decide))
      · have := sub_rep hd (fun p => p = k) i
        exact this
      · have hl3' : H l3 = none := by
          cases hh : H l3 with
          | none => rfl
          | some o =>
            by_cases z : l3 = r
            · rw [z] at hl3
              obtain ⟨x, y, e, _⟩ := hR2
              rw [e] at hl3
              cases hl3
            · rw [sb _ _ z hh] at hl3
              cases hl3
        exact q H3 l3 _ (sb.trans (SB.of sm3)) (hR2.same sm3) hl3' (room_ne hR2 hl3) (wrow_of hd) hT3
    rcases hP with rfl | ⟨x, hx⟩
    · refine ⟨_, rfl, rfl, _, rfl, itNF rfl ?_⟩
      exact fin H1 ts _ ⟨⟨ts, [], (List.append_nil ts).symm, hlen, Nat.zero_le _, ra, fun t ht => absurd ht (by simp)⟩, fun t ht => (hD t ht).1⟩ hT sb1 hR1
    · obtain ⟨fp, rfl, tfp⟩ := rp_fk hx
      have k1 := hR.keep sb1
      have ev : ∀ i, Num.rep 42 168000 (evalT (ts.take i) x) := fun i => by
        have h1 := rep_sum (D := 42) (N := 42000) (ts.take i) (fun t => if jn t.1 x = x then t.2 else 0) (by decide) fun t ht => rep_if _ (ra t ((List.take_sublist _ _).subset ht))
        exact Num.rep_mono h1 (by rw [List.length_take]; omega)
      have ev2 : Num.rep 42 168000 (evalT ts x) := by
        have := ev ts.length
        rw [List.take_length] at this
        exact this
      refine ⟨_, rfl, rfl, _, rfl, itNT (fun z => by cases z) ?_⟩
      refine ⟨_, rfl, _, rfl, _, rfl, l, ts, n, x, .ref fp, rfl, hp, hT, fun t ht => (hD t ht).1, k1.rp hx, hn, fun t ht => w_nsz (Num.rep_mono (ra t ht) (by decide)), fun i => w_nsz (Num.rep_mono (ev i) (by decide)), fun H2 v2 sm2 r2 => ?_⟩
      obtain ⟨zs, z1, z2⟩ := hT
      have z3 := sm2 _ _ z1
      refine ⟨_, rfl, .inl ⟨rfl, _, SqL.of z3⟩, Nat.zero_le _, fun t0 ht0 => ?_⟩
      have st0 := same_upd (o := .tup []) ht0
      refine ⟨_, rfl, _, _, rfl, rfl, (by decide : 2 ≤ sizeLine), fun t1 ht1 => ?_⟩
      have st1 := same_upd (o := .tup [.int (0 - 1), .int 1]) ht1
      refine ⟨_, rfl, evalT ts x, t1, v2, rfl, hp, .inl upd_same, (Keep.of (st0.trans st1)).rp r2, w_nsz (Num.rep_mono ev2 (by decide)), fun H4 v4 sm4 r4 => ?_⟩
      obtain ⟨c4, rfl⟩ := rp_ref r4
      refine ⟨(by decide : 2 ≤ sizeLine), fun t2 ht2 => ?_⟩
      have st2 := same_upd (o := .tup [.ref t0, .ref c4]) ht2
      have sAll := (((sm2.trans st0).trans st1).trans sm4).trans st2
      have z5 := sAll _ _ z1
      have hzl : zs.length ≤ 4 := by
        have := z2.length
        rw [List.length_map] at this
        omega
      refine ⟨l, zs, _, rfl, rfl, z5, Nat.lt_of_le_of_lt hzl (by decide), ?_⟩
      have kk : Keep (upd H4 t2 (.tup [.ref t0, .ref c4])) (upd (upd H4 t2 (.tup [.ref t0, .ref c4])) l (.lst (zs ++ [.ref t2]))) := Keep.wr z5 fun _ z => by cases z
      have neg : Num.rep 42 168000 (0 - evalT ts x) := by
        have := Num.rep_neg ev2
        have e : (0 : F) - evalT ts x = - evalT ts x := by grind
        rw [e]; exact this
      refine fin _ (ts ++ [(0, 0 - evalT ts x)]) _ ⟨⟨ts, [(0, 0 - evalT ts x)], rfl, hlen, by simp, ra, fun t ht => ?_⟩, fun t ht => ?_⟩ ⟨zs ++ [.ref t2], upd_same, ?_⟩ (sb_wr (sb1.trans (SB.of sAll)) hl) ?_
      · rw [List.mem_singleton.mp ht]
        exact neg
      · rcases List.mem_append.mp ht with h | h
        · exact (hD t h).1
        · rw [List.mem_singleton.mp h]
          exact Nat.pow_pos (by decide)
      · rw [List.map_append]
        refine RpL.app (RpL.keep ((Keep.of sAll).trans kk) _ z2) (rpl_cons (term_rp (t := ((0 : Pr), 0 - evalT ts x)) (x := t0) (y := c4) (Tp.keep (.inl upd_same) kk) ?_ (((Keep.of st2).trans kk).rp r4)) rpl_nil)
        have e0 : Rp K (upd H2 t0 (.tup [])) (pk 0) (.ref t0) := rp_tup_iff.mpr ⟨t0, [], rfl, .inl upd_same, rpl_nil⟩
        exact ((Keep.of ((st1.trans sm4).trans st2)).trans kk).rp e0
      · obtain ⟨x, y, e, hy⟩ := hR1.same sAll
        exact ⟨x, y, by rw [upd_ne nl.symm]; exact e, hy⟩
end
end FsR
end
section
/-! The law's upper rows and its lists of wishes. -/
set_option Elab.async false
set_option linter.all false
set_option maxRecDepth 100000
namespace FsR
open PySem PySem.Spec PyProof.Rows L2 LamX Fs
section
variable {F : Type} [Num F]
theorem canon_len (f : Row F) : (canon f).length ≤ 16 := by
  unfold canon
  rw [List.length_map]
  exact Nat.le_trans (List.length_filter_le _ _) (by decide)
theorem canon_nsz {f : Row F} (h : ∀ k, Num.rep 42 336000 (f k)) : (∀ t ∈ canon f, NSz t.2) ∧ ∀ x i, NSz (evalT ((canon f).take i) x) := by
  have h1 : ∀ t ∈ canon f, Num.rep 42 336000 t.2 := fun t ht => by
    rw [(canon_mem ht).2]
    exact h _
  refine ⟨fun t ht => w_nsz (h1 t ht), fun x i => ?_⟩
  have h2 := rep_sum (D := 42) (N := 336000) ((canon f).take i) (fun t => if jn t.1 x = x then t.2 else 0) (by decide) fun t ht => rep_if _ (h1 t ((List.take_sublist _ _).subset ht))
  have h3 : Num.rep 42 (16 * 336000) (evalT ((canon f).take i) x) := Num.rep_mono h2 (by
    have := canon_len f
    rw [List.length_take]
    omega)
  exact nsz_of fun hp => ⟨42, _, by decide, h3, Nat.lt_trans (by decide : 16 * 336000 < 2 ^ 30) (Nat.pow_lt_pow_right (by decide) (by decide)), Nat.lt_trans (by decide : Int.natAbs 42 < 2 ^ 30) (Nat.pow_lt_pow_right (by decide) (by decide))⟩
theorem wrow_rep {n : Nat} {f : Row F} (h : WRow n f) (k : Pr) : Num.rep 42 336000 (f k) := by
  have := bes_rep (fun i q k => h.sz i q k) 0 k
  rw [bes_zero] at this
  exact this
theorem canon_dom {n : Nat} {f : Row F} (h : InP n f) : ∀ t ∈ canon f, t.1.val < 2 ^ n := fun t ht => h t.1 (canon_mem ht).1
end
section
variable {P : Program} {w : World} {K : PySem.W.Frag} {mg : Str → Option Value} {base : Heap} {A : Ad} {F : Type} [Num F]
theorem sc__law_upper : FnScope ["_law_room_here", "_law_many", "_law_most", "_law_planted", "_law_rows", "_law_product_here", "_law_number_here"] ["_law_room_here", "_law_many", "_law_most", "_law_planted"] (defScope (topS 70)) := ⟨rfl, rfl, rfl, by decide +kernel, rfl, by decide +kernel, by decide +kernel⟩
def spUpper (K : PySem.W.Frag) (F : Type) [Num F] : Sp := fun vs H Q _ => ∃ (r : Addr) (n : Nat) (pw : V), vs = [.ref r, .int n, .int 3, pw] ∧ RoomAt H r ∧ Num.p F = 0 ∧ Fits F ∧ n ≤ 4 ∧ Plant K H n pw ∧
  ∀ H' l, SB r H H' → RoomAt H' r → Q (.ref l) H'
theorem c__law_upper (T : Txt K mg A) : Cal P w K mg base CX0 5 "_law_upper" ["_law_room_here", "_law_many", "_law_most", "_law_planted"] [] (spUpper K F) := by
  refine cal_mk T.g__law_upper (fun _ _ _ _ _ _ us hl => match us, hl with | [_, _, _, _], _ => rfl) sc__law_upper (fun vs H Q E h => ?_) (fun f cdv Ar outer s H vs Q E hr h => ?_)
  · obtain ⟨r, n, pw, rfl, _⟩ := h
    rfl
  · obtain ⟨r, n, pw, rfl, hR, hp0, hF, hn, hP, q⟩ := h
    have hp : Pok (Num.p F) := .inl hp0
    refine ⟨_, (pss_cons (ps_set (i := 4) sc__law_upper.nd rfl (by first | exact Or.inl rfl | exact Or.inr rfl) (pc (c__law_gather (F := F) T) (hr.mono (by decide)) (pa_cons pe_int (pa_cons (pc (c__law_terms (F := F) T) (hr.mono (by decide)) (pa_cons (pv 0) (pa_cons pe_int (pa_cons (pv 1) (pa_cons (pv 2) pa_nil))))) pa_nil))))
      (pss_cons (ps_if (PW.pt (pw_and (pt_cmpR op_notN (pv 3) pe_non (nomark _)) (pw_and1 (pt_cmpR op_lt (pe_ix ix_tup (pc (c__law_worth (F := F) T) (hr.mono (by decide)) (pa_cons pe_int (pa_cons (pv 4) (pa_cons (pv 3) pa_nil)))) pe_int (fun _ _ => rfl)) pe_int (nomark _))))) (pss_one (ps_setLc (i := 4) (y := "_law_rows") (own := [("_law_product_here", 5), ("_law_number_here", 6)]) (tt := tYes) rfl sc__law_upper.nd rfl rfl (sw_true rfl rfl rfl (by decide +kernel)) (pi_list (pv 4)) (blkOk_by (N := ["_law_room_here", "_law_many", "_law_most", "_law_planted", "_law_rows", "_law_product_here", "_law_number_here"]) (sc := defScope (topS 70)) (by decide +kernel)) (fun _ _ _ _ _ => (pg_tupB (n := 2) K (by rfl) rfl (pgs_cons (pg_name (i := 5) sc__law_upper.nd rfl (by first | exact Or.inl rfl | exact Or.inr rfl)) (pgs_cons (pg_name (i := 6) sc__law_upper.nd rfl (by first | exact Or.inl rfl | exact Or.inr rfl)) pgs_nil)))) (fun _ _ _ _ _ => pts_nil) (fun _ _ _ _ _ => (pe_tup (pa_cons (pv 5) (pa_cons (pe_tup (pa_cons (pe_op op_sub pe_int (pe_ix (ix_tupB K (by rfl)) (pv 6) pe_int (fun _ _ => rfl))) (pa_cons (pe_ix (ix_tupB K (by rfl)) (pv 6) pe_int (fun _ _ => rfl)) pa_nil))) pa_nil))))))
      pss_nil)
      (pss_one (ps_ret (pv 4))))), ?_⟩
    refine ⟨_, rfl, _, rfl, _, rfl, r, n, 3, by rw [hp0]; rfl, hR, hp, hF, hn, by decide, fun H1 l ts sb1 hR1 hl nl hlen hD hT => ?_⟩
    have hd : Draws n ts := ⟨⟨ts, [], (List.append_nil ts).symm, by omega, Nat.zero_le _, fun t ht => (hD t ht).2, fun t ht => absurd ht (by simp)⟩, fun t ht => (hD t ht).1⟩
    refine ⟨l, ts, by rw [hp0]; rfl, hp, hT, fun t ht => w_nsz (Num.rep_mono (hD t ht).2 (by decide)), fun i k => w_nsz (sub_rep hd (fun p => p = k) i), fun H2 l2 sm2 hl2 hT2 => ?_⟩
    have hW := wrow_of hd
    have hR2 := hR1.same sm2
    have sb2 := sb1.trans (SB.of sm2)
    rcases hP with rfl | ⟨x, hx⟩
    · exact ⟨_, rfl, rfl, _, rfl, itNF rfl ⟨_, rfl, q H2 l2 sb2 hR2⟩⟩
    · obtain ⟨fp, rfl, tfp⟩ := rp_fk hx
      have k2 := hR.keep sb2
      obtain ⟨z1, z2⟩ := canon_nsz fun k => wrow_rep hW k
      refine ⟨_, rfl, rfl, _, rfl, itNT (fun z => by cases z) ?_⟩
      refine ⟨_, rfl, _, rfl, l2, canon (gsum ts), n, x, .ref fp, by rw [hp0]; rfl, hp, hT2, canon_dom hW.dom, k2.rp hx, hn, z1, z2 x, fun H3 v3 sm3 r3 => ?_⟩
      obtain ⟨c3, rfl, t3⟩ := rp_ints r3
      have sb3 := sb2.trans (SB.of sm3)
      have hR3 := hR2.same sm3
      refine ⟨_, _, _, .int _, rfl, rfl, t3.sq, at_of (j := 0) rfl rfl, _, _, rfl, rfl, _, rfl, it2 (fun _ => ?_) (fun _ => ⟨_, rfl, q H3 l2 sb3 hR3⟩)⟩
      obtain ⟨xs, e1, e2⟩ := hT2.same sm3
      refine ⟨_, rfl, l2, rfl, ⟨_, SqL.of e1⟩, fun D hD => ?_⟩
      refine lc_list (K := K) (a := l2) (xs := xs) (fun i H4 => ∃ ys : List V, Same H3 H4 ∧ H4 D = some (.lst ys) ∧ ys.length = i) ⟨[], same_upd hD, upd_same, rfl⟩ (fun i H4 _ ⟨_, sm4, _⟩ => SqL.of (sm4 _ _ e1)) (fun i y H4 hi ⟨ys, sm4, hL, hyl⟩ => ?_) (fun H4 ⟨ys, sm4, hL, hyl⟩ => ?_)
      · obtain ⟨t, ht, rt⟩ := RpL.at_ e2 hi
        obtain ⟨a, u, v, rfl, t1, r1, r2⟩ := rp_term ((Keep.of sm4).rp rt)
        obtain ⟨c5, ec5, t5⟩ := rp_ints r2
        cases ec5
        have il : i < 16 := by
          have h1 := (List.getElem?_eq_some_iff.mp ht).1
          have := canon_len (gsum ts)
          omega
        refine ⟨a, _, rfl, t1.sq, rfl, _, _, rfl, _, _, rfl, rfl, rfl, _, rfl, _, rfl, _, _, _, .int _, rfl, rfl, t5.sq, at_of (j := 0) rfl rfl, _, _, rfl, rfl, _, rfl, _, _, _, .int _, rfl, rfl, t5.sq, at_of (j := 1) rfl rfl, (by decide : 2 ≤ sizeLine), fun t6 ht6 => ⟨(by decide : 2 ≤ sizeLine), fun t7 ht7 => ⟨ys, (same_upd ht7) _ _ ((same_upd ht6) _ _ hL), ?_, ys ++ [.ref t7], SB.same ((sm4.trans (same_upd ht6)).trans (same_upd ht7)) SB.upd hD, upd_same, ?_⟩⟩⟩
        · rw [hyl]
          exact Nat.lt_trans il (by decide)
        · rw [List.length_append, List.length_singleton, hyl]
      · exact ⟨_, rfl, q H4 D (sb3.trans (SB.of sm4)) (hR3.same sm4)⟩
/-! ### wishes -/
/-- a list of rows, as lists of terms -/
def RwList (K : PySem.W.Frag) (H : Hp) (l : Addr) (ws : List (Row F)) : Prop := ∃ xs : List Addr, H l = some (.lst (xs.map V.ref)) ∧ xs.length = ws.length ∧ ∀ (i : Nat) (s : Addr) (f : Row F), xs[i]? = some s → ws[i]? = some f → TmList K H s (canon f)
theorem tm_ne {K : PySem.W.Frag} {H : Hp} {s r : Addr} {ts : List (Pr × F)} (h : TmList K H s ts) (hR : RoomAt H r) : s ≠ r := fun z => by
  obtain ⟨xs, e1, e2⟩ := h
  obtain ⟨x, y, e, _⟩ := hR
  rw [z, e] at e1
  have e1 : [V.int x, V.int y] = xs := by cases e1; rfl
  subst e1
  cases ts with
  | nil => cases rpl_nil_iff.mp e2
  | cons t ts =>
    obtain ⟨u, us, e, r1, _⟩ := rpl_cons_iff.mp e2
    obtain ⟨a, _, _, ea, _⟩ := rp_term r1
    rw [ea] at e
    cases e
theorem rw_ne {K : PySem.W.Frag} {H : Hp} {l r : Addr} {ws : List (Row F)} (h : RwList K H l ws) (hR : RoomAt H r) : l ≠ r := fun z => by
  obtain ⟨xs, e1, _, _⟩ := h
  obtain ⟨x, y, e, _⟩ := hR
  rw [z, e] at e1
  cases xs with
  | nil => cases e1
  | cons a xs => cases e1
theorem RwList.sb {K : PySem.W.Frag} {H H' : Hp} {l r : Addr} {ws : List (Row F)} (h : RwList K H l ws) (hR : RoomAt H r) (s : SB r H H') : RwList K H' l ws := by
  have nl := rw_ne h hR
  obtain ⟨xs, e1, e2, e3⟩ := h
  exact ⟨xs, s _ _ nl e1, e2, fun i a f h1 h2 => (e3 i a f h1 h2).sb (tm_ne (e3 i a f h1 h2) hR) s (hR.keep s)⟩
theorem RwList.same {K : PySem.W.Frag} {H H' : Hp} {l : Addr} {ws : List (Row F)} (h : RwList K H l ws) (s : Same H H') : RwList K H' l ws := by
  obtain ⟨xs, e1, e2, e3⟩ := h
  exact ⟨xs, s _ _ e1, e2, fun i a f h1 h2 => (e3 i a f h1 h2).same s⟩
theorem room_wr {H : Hp} {r D : Addr} {o : HO} (h : RoomAt H r) (n : D ≠ r) : RoomAt (upd H D o) r := by
  obtain ⟨x, y, e, hy⟩ := h
  exact ⟨x, y, by rw [upd_ne n.symm]; exact e, hy⟩
theorem sc__law_wishes : FnScope ["_law_room_here", "_law_prime_here", "_law_many", "_law_most", "_law_planted", "_law_noughts", "_law_k", "_law_uppers"] ["_law_room_here", "_law_prime_here", "_law_many", "_law_most"] (defScope (topS 71)) := ⟨rfl, rfl, rfl, by decide +kernel, rfl, by decide +kernel, by decide +kernel⟩
def spWishes (K : PySem.W.Frag) (F : Type) [Num F] : Sp := fun vs H Q _ => ∃ (r : Addr) (n : Nat), vs = [.ref r, .int (Num.p F), .int n, .int 4] ∧ RoomAt H r ∧ Pok (Num.p F) ∧ Fits F ∧ n ≤ 4 ∧
  ∀ H' t l l2 (ws : List (Row F)), SB r H H' → RoomAt H' r → Tp K H' t [.ref l, .ref l2] → RwList K H' l ws → ws.length ≤ 4 → (∀ f ∈ ws, WRow n f) → Q (.ref t) H'
theorem c__law_wishes (T : Txt K mg A) : Cal P w K mg base CX0 6 "_law_wishes" ["_law_room_here", "_law_prime_here", "_law_many", "_law_most"] [] (spWishes K F) := by
  refine cal_mk T.g__law_wishes (fun _ _ _ _ _ _ us hl => match us, hl with | [_, _, _, _], _ => rfl) sc__law_wishes (fun vs H Q E h => ?_) (fun f cdv Ar outer s H vs Q E hr h => ?_)
  · obtain ⟨r, n, rfl, _⟩ := h
    rfl
  · obtain ⟨r, n, rfl, hR, hp, hF, hn, q⟩ := h
    refine ⟨_, (pss_cons (ps_set (i := 4) sc__law_wishes.nd rfl (by first | exact Or.inl rfl | exact Or.inr rfl) pe_non)
      (C8.pss_cut (ps_if (pt_cmpR op_eq (pc (c__law_take T) (hr.mono (by decide)) (pa_cons (pv 0) (pa_cons pe_int pa_nil))) pe_int (nomark _)) (pss_one (ps_set (i := 4) sc__law_wishes.nd rfl (by first | exact Or.inl rfl | exact Or.inr rfl) (pc (c__law_filling T) (hr.mono (by decide)) (pa_cons (pv 0) (pa_cons (pv 2) pa_nil)))))
      pss_nil)
      (pss_cons (ps_setLc (i := 5) (y := "_law_noughts") (own := [("_law_k", 6)]) (g := gName 6) (tt := tYes) rfl sc__law_wishes.nd rfl rfl (sw_true rfl rfl rfl (by decide +kernel)) (pi_range1 rfl T.range (pa_cons (pc (c__law_take T) (hr.mono (by decide)) (pa_cons (pv 0) (pa_cons (pe_op op_add (pv 3) pe_int) pa_nil))) pa_nil)) (blkOk_by (N := ["_law_room_here", "_law_prime_here", "_law_many", "_law_most", "_law_planted", "_law_noughts", "_law_k", "_law_uppers"]) (sc := defScope (topS 71)) (by decide +kernel)) (fun _ _ _ _ _ => pg_name (i := 6) sc__law_wishes.nd rfl (by first | exact Or.inl rfl | exact Or.inr rfl)) (fun _ _ _ _ _ => pts_nil) (fun _ _ _ _ _ => (pc (c__law_wish (F := F) T) (hr.mono (by decide)) (pa_cons (pv 0) (pa_cons (pv 1) (pa_cons (pv 2) (pa_cons pe_int (pa_cons (pv 4) pa_nil))))))))
      (pss_cons (ps_set (i := 7) sc__law_wishes.nd rfl (by first | exact Or.inl rfl | exact Or.inr rfl) (pe_lst pa_nil))
      (C8.pss_cut (ps_if (pt_cmpR op_eq (pv 1) pe_int (nomark _)) (pss_one (ps_setLc (i := 7) (y := "_law_uppers") (own := [("_law_k", 6)]) (g := gName 6) (tt := tYes) rfl sc__law_wishes.nd rfl rfl (sw_true rfl rfl rfl (by decide +kernel)) (pi_range1 rfl T.range (pa_cons (pc (c__law_take T) (hr.mono (by decide)) (pa_cons (pv 0) (pa_cons pe_int pa_nil))) pa_nil)) (blkOk_by (N := ["_law_room_here", "_law_prime_here", "_law_many", "_law_most", "_law_planted", "_law_noughts", "_law_k", "_law_uppers"]) (sc := defScope (topS 71)) (by decide +kernel)) (fun _ _ _ _ _ => pg_name (i := 6) sc__law_wishes.nd rfl (by first | exact Or.inl rfl | exact Or.inr rfl)) (fun _ _ _ _ _ => pts_nil) (fun _ _ _ _ _ => (pc (c__law_upper (F := F) T) (hr.mono (by decide)) (pa_cons (pv 0) (pa_cons (pv 2) (pa_cons pe_int (pa_cons (pv 4) pa_nil))))))))
      pss_nil)
      (pss_one (ps_ret (pe_tup (pa_cons (pv 5) (pa_cons (pv 7) pa_nil)))))))))), ?_⟩
    refine ⟨fun σ H2 => ∃ pw : V, σ = [some (.ref r), some (.int (Num.p F)), some (.int n), some (.int 4), some pw, none, none, none] ∧ SB r H H2 ∧ RoomAt H2 r ∧ Plant K H2 n pw, ?_, ?_⟩
    · refine ⟨_, rfl, r, 2, rfl, hR, by decide, by decide, fun H1 v sb1 hR1 hv => ⟨rfl, _, rfl, it2 (fun _ => ?_) (fun _ => ?_)⟩⟩
      · refine ⟨_, rfl, _, rfl, r, n, rfl, hR1, hn, fun H2 x pw sb2 hR2 hx hr2 => ?_⟩
        exact ⟨pw, rfl, sb1.trans sb2, hR2, .inr ⟨x, hr2⟩⟩
      · exact ⟨.non, rfl, sb1, hR1, .inl rfl⟩
    · rintro σ H2 ⟨pw, rfl, sb2, hR2, hP2⟩
      refine ⟨_, rfl, _, rfl, _, _, rfl, rfl, r, 5, rfl, hR2, by decide, by decide, fun H3 v3 sb3 hR3 hv3 => ⟨_, rfl, by omega, by omega, fun D hD => ?_⟩⟩
      have nD := room_ne hR3 hD
      have sb23 := sb2.trans sb3
      have hDH : H D = none := by
        cases hh : H D with
        | none => rfl
        | some o => rw [sb23 _ _ nD hh] at hD; cases hD
      have hP3 := hP2.keep (hR2.keep sb3)
      refine lc_range (lo := 0) (n := ((v3 : Nat) : Int).toNat) (fun i H4 => ∃ (xs : List Addr) (ws : List (Row F)), SB r H3 H4 ∧ RoomAt H4 r ∧ H4 D = some (.lst (xs.map V.ref)) ∧ xs.length = i ∧ ws.length = i ∧ (∀ f ∈ ws, WRow n f) ∧ ∀ (j : Nat) (s : Addr) (f : Row F), xs[j]? = some s → ws[j]? = some f → s ≠ D ∧ TmList K H4 s (canon f))
        ⟨[], [], SB.of (same_upd hD), hR3.same (same_upd hD), upd_same, rfl, rfl, fun f hf => absurd hf (by simp), fun j s f e => by simp at e⟩ (fun i H4 hi ⟨xs, ws, sb4, hR4, hL, hxl, hwl, hW, hX⟩ => ?_) (fun H4 ⟨xs, ws, sb4, hR4, hL, hxl, hwl, hW, hX⟩ => ?_)
      · have hi5 : i < 5 := by omega
        refine ⟨rfl, _, rfl, _, rfl, _, rfl, _, rfl, r, n, pw, rfl, hR4, hp, hF, hn, hP3.keep (hR3.keep sb4), fun H5 l5 f5 sb5 hR5 hl5 nl5 hw5 ht5 => ⟨_, sb5 _ _ nD hL, ?_, xs ++ [l5], ws ++ [f5], sb_wr (sb4.trans sb5) hD, room_wr hR5 nD, ?_, ?_, ?_, fun f hf => ?_, fun k s g e1 e2 => ?_⟩⟩
        · rw [List.length_map, hxl]
          exact Nat.lt_trans hi5 (by decide)
        · rw [upd_same, List.map_append]
          rfl
        · rw [List.length_append, List.length_singleton, hxl]
        · rw [List.length_append, List.length_singleton, hwl]
        · rcases List.mem_append.mp hf with h | h
          · exact hW f h
          · rw [List.mem_singleton.mp h]
            exact hw5
        · have kk : Keep H5 (upd H5 D (.lst (xs.map V.ref ++ [.ref l5]))) := Keep.wr (sb5 _ _ nD hL) fun _ z => by cases z
          have nlD : l5 ≠ D := fun z => by rw [z, hL] at hl5; cases hl5
          have put : ∀ {s : Addr} {g : Row F}, s ≠ D → TmList K H5 s (canon g) → TmList K (upd H5 D (.lst (xs.map V.ref ++ [.ref l5]))) s (canon g) := fun n ⟨zs, z1, z2⟩ => ⟨zs, by rw [upd_ne n]; exact z1, RpL.keep kk _ z2⟩
          rcases Nat.lt_or_ge k xs.length with h | h
          · rw [List.getElem?_append_left h] at e1
            rw [List.getElem?_append_left (by omega)] at e2
            obtain ⟨n1, t1⟩ := hX k s g e1 e2
            exact ⟨n1, put n1 (t1.sb (tm_ne t1 hR4) sb5 (hR4.keep sb5))⟩
          · rw [List.getElem?_append_right h] at e1
            rw [List.getElem?_append_right (by omega)] at e2
            have hk : k - xs.length = 0 := by
              have := (List.getElem?_eq_some_iff.mp e1).1
              rw [List.length_singleton] at this
              omega
            have hk2 : k - ws.length = 0 := by omega
            rw [hk] at e1
            rw [hk2] at e2
            obtain rfl : l5 = s := by simpa using e1
            obtain rfl : f5 = g := by simpa using e2
            exact ⟨nlD, put nlD ht5⟩
      · have hRw : RwList K H4 D ws := ⟨xs, hL, by omega, fun j s f e1 e2 => (hX j s f e1 e2).2⟩
        have hwl4 : ws.length ≤ 4 := by omega
        refine ⟨Nat.zero_le _, fun l7 hl7 => ?_⟩
        have s7 := same_upd (o := .lst []) hl7
        have sbA := (sb23.trans sb4).trans (SB.of s7)
        refine ⟨fun σ H5 => ∃ l : Addr, σ = [some (.ref r), some (.int (Num.p F)), some (.int n), some (.int 4), some pw, some (.ref D), none, some (.ref l)] ∧ SB r H H5 ∧ RoomAt H5 r ∧ RwList K H5 D ws, ?_, ?_⟩
        · refine ⟨_, rfl, rfl, _, rfl, it2 (fun h0 => ?_) (fun _ => ⟨l7, rfl, sbA, hR4.same s7, hRw.same s7⟩)⟩
          have hp0 : Num.p F = 0 := V.int.inj h0
          refine ⟨_, rfl, r, 3, rfl, hR4.same s7, by decide, by decide, fun H5 v5 sb5 hR5 hv5 => ⟨_, rfl, by omega, by omega, fun D2 hD2 => ?_⟩⟩
          have nD2 := room_ne hR5 hD2
          have hRw5 := (hRw.same s7).sb (hR4.same s7) sb5
          have sbB := sbA.trans sb5
          have hD2H : H D2 = none := by
            cases hh : H D2 with
            | none => rfl
            | some o => rw [sbB _ _ nD2 hh] at hD2; cases hD2
          have hP5 := (hP3.keep (hR3.keep sb4)).keep ((Keep.of s7).trans ((hR4.same s7).keep sb5))
          refine lc_range (lo := 0) (n := ((v5 : Nat) : Int).toNat) (fun i H6 => ∃ ys : List V, SB r H5 H6 ∧ RoomAt H6 r ∧ H6 D2 = some (.lst ys) ∧ ys.length = i) ⟨[], SB.of (same_upd hD2), hR5.same (same_upd hD2), upd_same, rfl⟩ (fun i H6 hi ⟨ys, sb6, hR6, hL6, hyl⟩ => ?_) (fun H6 ⟨ys, sb6, hR6, hL6, hyl⟩ => ?_)
          · refine ⟨rfl, _, rfl, _, rfl, _, rfl, r, n, pw, rfl, hR6, hp0, hF, hn, hP5.keep (hR5.keep sb6), fun H7 l8 sb7 hR7 => ⟨ys, sb7 _ _ nD2 hL6, ?_, ys ++ [.ref l8], sb_wr (sb6.trans sb7) hD2, room_wr hR7 nD2, upd_same, ?_⟩⟩
            · rw [hyl]
              exact Nat.lt_trans (by omega : i < 3) (by decide)
            · rw [List.length_append, List.length_singleton, hyl]
          · exact ⟨D2, rfl, sbB.trans sb6, hR6, hRw5.sb hR5 sb6⟩
        · rintro σ H5 ⟨l, rfl, sbC, hR5, hRw5⟩
          refine ⟨_, rfl, _, rfl, (by decide : 2 ≤ sizeLine), fun t ht => ?_⟩
          have st := same_upd (o := .tup [.ref D, .ref l]) ht
          exact q _ t D l ws (sbC.trans (SB.of st)) (hR5.same st) (.inl upd_same) (hRw5.same st) hwl4 hW
end
end FsR
end
section
/-! The law's products of rows. -/
set_option Elab.async false
set_option linter.all false
set_option maxRecDepth 100000
namespace FsR
open PySem PySem.Spec PyProof.Rows L2 LamX Fs
section
variable {F : Type} [Num F]
/-- all products of two lists' terms, as drawn up -/
def mulT (a b : List (Pr × F)) : List (Pr × F) := a.flatMap fun s => b.map fun t => (jn s.1 t.1, s.2 * t.2)
theorem mulT_take {a : List (Pr × F)} {i : Nat} {s : Pr × F} (h : a[i]? = some s) (b : List (Pr × F)) : mulT (a.take (i + 1)) b = mulT (a.take i) b ++ b.map fun t => (jn s.1 t.1, s.2 * t.2) := by
  unfold mulT
  rw [List.take_add_one, h, List.flatMap_append]
  simp
theorem mulT_len (a b : List (Pr × F)) : (mulT a b).length = a.length * b.length := by
  unfold mulT
  induction a with
  | nil => simp
  | cons s a ih => rw [List.flatMap_cons, List.length_append, ih, List.length_map, List.length_cons, Nat.succ_mul, Nat.add_comm]
end
section
variable {P : Program} {w : World} {K : PySem.W.Frag} {mg : Str → Option Value} {base : Heap} {A : Ad} {F : Type} [Num F]
theorem sc__law_mult : FnScope ["_law_prime_here", "_law_one", "_law_other", "_law_found", "_law_product_here", "_law_number_here", "_law_more", "_law_factor", "_law_both"] ["_law_prime_here", "_law_one", "_law_other"] (defScope (topS 72)) := ⟨rfl, rfl, rfl, by decide +kernel, rfl, by decide +kernel, by decide +kernel⟩
def spMult (K : PySem.W.Frag) (F : Type) [Num F] : Sp := fun vs H Q _ => ∃ (l1 l2 : Addr) (a b : List (Pr × F)), vs = [.int (Num.p F), .ref l1, .ref l2] ∧ Pok (Num.p F) ∧ TmList K H l1 a ∧ TmList K H l2 b ∧ a.length ≤ 16 ∧ b.length ≤ 16 ∧ (∀ t ∈ a, NSz t.2) ∧ (∀ t ∈ b, NSz t.2) ∧ (∀ t ∈ mulT a b, NSz t.2) ∧ (∀ i k, NSz (gsum ((mulT a b).take i) k)) ∧
  ∀ H' l, Same H H' → H l = none → TmList K H' l (canon (gsum (mulT a b))) → Q (.ref l) H'
theorem c__law_mult (T : Txt K mg A) : Cal P w K mg base CX0 5 "_law_mult" ["_law_prime_here", "_law_one", "_law_other"] [] (spMult K F) := by
  refine cal_mk T.g__law_mult (fun _ _ _ _ _ _ us hl => match us, hl with | [_, _, _], _ => rfl) sc__law_mult (fun vs H Q E h => ?_) (fun f cdv Ar outer s H vs Q E hr h => ?_)
  · obtain ⟨l1, l2, a, b, rfl, _⟩ := h
    rfl
  · obtain ⟨l1, l2, a, b, rfl, hp, ⟨xs, x1, x2⟩, ⟨ys, y1, y2⟩, la, lb, za, zb, zm, zs, q⟩ := h
    refine ⟨_, (pss_cons (ps_set (i := 3) sc__law_mult.nd rfl (by first | exact Or.inl rfl | exact Or.inr rfl) (pe_lst pa_nil))
      (pss_cons (ps_for PassesOwn.never rfl (pi_list (pv 1)) ((pg_tup rfl (pgs_cons (pg_name (i := 4) sc__law_mult.nd rfl (by first | exact Or.inl rfl | exact Or.inr rfl)) (pgs_cons (pg_name (i := 5) sc__law_mult.nd rfl (by first | exact Or.inl rfl | exact Or.inr rfl)) pgs_nil))))
      (pss_one (ps_for PassesOwn.never rfl (pi_list (pv 2)) ((pg_tup rfl (pgs_cons (pg_name (i := 6) sc__law_mult.nd rfl (by first | exact Or.inl rfl | exact Or.inr rfl)) (pgs_cons (pg_name (i := 7) sc__law_mult.nd rfl (by first | exact Or.inl rfl | exact Or.inr rfl)) pgs_nil))))
      (pss_cons (ps_set (i := 8) sc__law_mult.nd rfl (by first | exact Or.inl rfl | exact Or.inr rfl) (pe_callTy call_tuple_of (by rfl) T.tuple (by decide +kernel) (pa_cons (pe_callB (cr_sortedSet rfl) (by rfl) T.sorted (by decide +kernel) (pa_cons (pe_callTy (cr_setT rfl) (by rfl) T.set (by decide +kernel) (pa_cons (pe_op op_catP (pv 4) (pv 6)) pa_nil)) pa_nil)) pa_nil)))
      (pss_one (ps_expr (pe_bm PySem.F.plainAttrs_list PySem.F.slot_list_append PySem.F.type_list_append mt_append (pv 3) (pa_cons (pe_tup (pa_cons (pv 8) (pa_cons (pc (c__law_times (F := F) T) (hr.mono (by decide)) (pa_cons (pv 0) (pa_cons (pv 5) (pa_cons (pv 7) pa_nil)))) pa_nil))) pa_nil))))))))
      (pss_one (ps_ret (pc (c__law_gather (F := F) T) (hr.mono (by decide)) (pa_cons (pv 0) (pa_cons (pv 3) pa_nil))))))), ?_⟩
    refine ⟨Nat.zero_le _, fun lf hlf => ?_⟩
    have sf := same_upd (o := .lst []) hlf
    have hla : a.length = xs.length := by
      have := x2.length
      rw [List.length_map] at this
      exact this
    have hlb : b.length = ys.length := by
      have := y2.length
      rw [List.length_map] at this
      exact this
    refine ⟨_, rfl, l1, rfl, ⟨_, SqL.of (sf _ _ x1)⟩, for_list (K := K) (a := l1) (xs := xs) (fun i σ H1 => ∃ (s4 s5 s6 s7 s8 : Option V), σ = [some (.int (Num.p F)), some (.ref l1), some (.ref l2), some (.ref lf), s4, s5, s6, s7, s8] ∧ Same H H1 ∧ TmList K H1 lf (mulT (a.take i) b))
      ⟨none, none, none, none, none, rfl, sf, [], upd_same, rpl_nil⟩ (fun i σ H1 _ ⟨_, _, _, _, _, _, sm, _⟩ => SqL.of (sm _ _ x1)) ?_ ?_⟩
    · rintro i x σ H1 hi ⟨s4, s5, s6, s7, s8, rfl, sm, hT⟩
      obtain ⟨s, hs, rs⟩ := RpL.at_ x2 hi
      obtain ⟨c, u, v, rfl, t1, r1, r2⟩ := rp_term ((Keep.of sm).rp rs)
      refine ⟨c, _, rfl, t1.sq, rfl, _, _, rfl, _, _, rfl, rfl, ?_⟩
      refine ⟨_, rfl, l2, rfl, ⟨_, SqL.of (sm _ _ y1)⟩, for_list (K := K) (a := l2) (xs := ys) (fun j σ H2 => ∃ (s6 s7 s8 : Option V), σ = [some (.int (Num.p F)), some (.ref l1), some (.ref l2), some (.ref lf), some (.ref u), some (.ref v), s6, s7, s8] ∧ Same H H2 ∧ Keep H1 H2 ∧ TmList K H2 lf (mulT (a.take i) b ++ (b.take j).map fun t => (jn s.1 t.1, s.2 * t.2)))
        ⟨s6, s7, s8, rfl, sm, Keep.refl _, by rw [List.take_zero, List.map_nil, List.append_nil]; exact hT⟩ (fun j σ H2 _ ⟨_, _, _, _, sm2, _⟩ => SqL.of (sm2 _ _ y1)) ?_ ?_⟩
      · rintro j y σ H2 hj ⟨s6, s7, s8, rfl, sm2, kp, hT2⟩
        obtain ⟨t, ht, rt⟩ := RpL.at_ y2 hj
        obtain ⟨c2, u2, v2, rfl, t2, r3, r4⟩ := rp_term ((Keep.of sm2).rp rt)
        refine ⟨c2, _, rfl, t2.sq, rfl, _, _, rfl, _, _, rfl, rfl, ?_⟩
        obtain ⟨p1, ep1, tp1⟩ := rp_plc (kp.rp r1)
        obtain ⟨p2, ep2, tp2⟩ := rp_plc r3
        cases ep1
        cases ep2
        have la1 := plc_len s.1
        have lb1 := plc_len t.1
        refine ⟨_, rfl, _, rfl, cat_of tp1 tp2 (by rw [List.length_map, List.length_map]; exact Nat.le_trans (by omega : _ ≤ 8) (by decide)) fun H3 c3 sm3 hc3 => ?_⟩
        rw [← List.map_append] at hc3
        refine ⟨c3, plc s.1 ++ plc t.1, rfl, hc3.sq, by rw [List.length_append]; omega, fun a4 n hn ha4 => ?_⟩
        rw [List.length_append] at hn
        refine ⟨a4, _, n, rfl, upd_same, by omega, fun ns p5 h1 h2 h3 hp5 => ?_⟩
        have e := plc_join h1 h2
        subst e
        refine ⟨p5, _, rfl, .inl ⟨SqL.of upd_same, fun l6 hl6 => ?_⟩⟩
        have s6' := ((sm3.trans (same_upd ha4)).trans (same_upd hp5)).trans (same_upd (o := .tup ((plc (jn s.1 t.1)).map V.int)) hl6)
        have s2' := sm2.trans s6'
        have k6 := Keep.of s6'
        obtain ⟨zs1, z1, z2⟩ := hT2
        refine ⟨_, rfl, .inl ⟨rfl, _, SqL.of (s6' _ _ z1)⟩, _, rfl, _, rfl, _, rfl, _, rfl, s.2, t.2, _, _, rfl, hp, (kp.trans k6).rp r2, k6.rp r4, za s (List.mem_of_getElem? hs), zb t (List.mem_of_getElem? ht), fun H7 v7 sm7 r7 => ⟨(by decide : 2 ≤ sizeLine), fun t8 ht8 => ?_⟩⟩
        obtain ⟨c7, rfl⟩ := rp_ref r7
        have st := same_upd (o := .tup [.ref l6, .ref c7]) ht8
        have sA := (s6'.trans sm7).trans st
        have z8 := sA _ _ z1
        have hzl : zs1.length ≤ 512 := by
          have h1 := z2.length
          rw [List.length_map, List.length_append, mulT_len, List.length_map, List.length_take, List.length_take] at h1
          have h2 : min i a.length * b.length ≤ 16 * 16 := Nat.mul_le_mul (by omega) lb
          omega
        have kk : Keep (upd H7 t8 (.tup [.ref l6, .ref c7])) (upd (upd H7 t8 (.tup [.ref l6, .ref c7])) lf (.lst (zs1 ++ [.ref t8]))) := Keep.wr z8 fun _ z => by cases z
        refine ⟨lf, zs1, _, rfl, rfl, z8, Nat.lt_of_le_of_lt hzl (by decide), ?_⟩
        refine ⟨_, _, _, rfl, SB.same (sm2.trans sA) SB.upd hlf, kp.trans ((Keep.of sA).trans kk), zs1 ++ [.ref t8], upd_same, ?_⟩
        have e9 : mulT (a.take i) b ++ (b.take (j + 1)).map (fun t => (jn s.1 t.1, s.2 * t.2)) = (mulT (a.take i) b ++ (b.take j).map fun t => (jn s.1 t.1, s.2 * t.2)) ++ [(jn s.1 t.1, s.2 * t.2)] := by
          rw [List.take_add_one, ht]
          simp
        rw [e9, List.map_append (l₂ := [(jn s.1 t.1, s.2 * t.2)])]
        exact RpL.app (RpL.keep ((Keep.of sA).trans kk) _ z2) (rpl_cons (term_rp (t := (jn s.1 t.1, s.2 * t.2)) (x := l6) (y := c7) (Tp.keep (.inl upd_same) kk) (((Keep.of sm7).trans ((Keep.of st).trans kk)).rp (plc_rp (.inl upd_same))) (((Keep.of st).trans kk).rp r7)) rpl_nil)
      · rintro σ H2 ⟨s6, s7, s8, rfl, sm2, kp, hT2⟩
        rw [← hlb, List.take_length, ← mulT_take hs] at hT2
        exact ⟨_, _, _, _, _, rfl, sm2, hT2⟩
    · rintro σ H1 ⟨s4, s5, s6, s7, s8, rfl, sm, hT⟩
      rw [← hla, List.take_length] at hT
      exact ⟨_, rfl, _, rfl, lf, mulT a b, rfl, hp, hT, zm, zs, fun H2 l sm2 hl hT2 => q H2 l (sm.trans sm2) (sm.free hl) hT2⟩
end
end FsR
end
section
/-! The law's systems. -/
set_option Elab.async false
set_option linter.all false
set_option maxRecDepth 100000
namespace FsR
open PySem PySem.Spec PyProof.Rows L2 LamX Fs
section
variable {F : Type} [Num F]
theorem wrow_gs {n : Nat} {f : Row F} (h : WRow n f) : (∀ t ∈ canon f, NSz t.2) ∧ ∀ i k, NSz (gsum ((canon f).take i) k) := by
  refine ⟨(canon_nsz fun k => wrow_rep h k).1, fun i k => w_nsz ?_⟩
  have e : besT f 0 = canon f := by
    unfold besT
    have : (fun t : Pr × F => (jn t.1 0, t.2)) = id := funext fun t => by rw [jn_zero]; rfl
    rw [this, List.map_id]
  have := h.sz i 0 k
  rw [e] at this
  exact this
theorem canon_gs (f : Row F) : canon (gsum (canon f)) = canon f := by
  have : gsum (canon f) = f := funext fun k => gsum_canon f k
  rw [this]
theorem RwList.grw {K : PySem.W.Frag} {T : List (Addr × Str)} {H H' : Hp} {l : Addr} {ws : List (Row F)} (h : RwList K H l ws) (g : Grw T H H') : RwList K H' l ws := by
  obtain ⟨xs, e1, e2, e3⟩ := h
  exact ⟨xs, g.ext _ _ e1 (fun _ z => by cases z), e2, fun i a f h1 h2 => (e3 i a f h1 h2).grw g⟩
end
section
variable {P : Program} {w : World} {K : PySem.W.Frag} {mg : Str → Option Value} {base : Heap} {A : Ad} {F : Type} [Num F]
theorem sc__law_system : FnScope ["_law_prime_here", "_law_many", "_law_noughts", "_law_field", "_law_rows"] ["_law_prime_here", "_law_many", "_law_noughts"] (defScope (topS 77)) := ⟨rfl, rfl, rfl, by decide +kernel, rfl, by decide +kernel, by decide +kernel⟩
def spLsys (K : PySem.W.Frag) (A : Ad) (F : Type) [Num F] : Sp := fun vs H Q _ => ∃ (n : Nat) (l : Addr) (ws : List (Row F)), vs = [.int (Num.p F), .int n, .ref l] ∧ Pok (Num.p F) ∧ 1 ≤ n ∧ n ≤ 4 ∧ RwList K H l ws ∧ ws.length ≤ 4 ∧ (∀ f ∈ ws, WRow n f) ∧ Tabs A.tabs H ∧
  ∀ H' a, Grw A.tabs H H' → SysAt K A H' a n ws → Q (.ref a) H'
theorem c__law_system (T : Txt K mg A) (X0 : TX base mg A) : Cal P w K mg base CX0 7 "_law_system" ["_law_prime_here", "_law_many", "_law_noughts"] [] (spLsys K A F) := by
  refine cal_mk T.g__law_system (fun _ _ _ _ _ _ us hl => match us, hl with | [_, _, _], _ => rfl) sc__law_system (fun vs H Q E h => ?_) (fun f cdv Ar outer s H vs Q E hr h => ?_)
  · obtain ⟨n, l, ws, rfl, _⟩ := h
    rfl
  · obtain ⟨n, l, ws, rfl, hp, hn1, hn, hRw, hwl, hW, hT, q⟩ := h
    obtain ⟨xs, x1, x2, x3⟩ := id hRw
    refine ⟨_, (pss_cons (ps_set (i := 3) sc__law_system.nd rfl (by first | exact Or.inl rfl | exact Or.inr rfl) (pmk (c_Field_init T) T.mkF (hr.mono (by decide)) (pa_cons (pv 0) pa_nil)))
      (pss_one (ps_ret (pmk (c_System_init (F := F) T) T.mkY (hr.mono (by decide)) (pa_cons (pv 3) (pa_cons (pv 1) (pa_cons (pe_lc (own := [("_law_rows", 4)]) (g := gName 4) (tt := tYes) rfl sc__law_system.nd (pi_list (pv 2)) (blkOk_by (N := ["_law_prime_here", "_law_many", "_law_noughts", "_law_field", "_law_rows"]) (sc := defScope (topS 77)) (by decide +kernel)) (fun _ _ _ _ _ => pg_name (i := 4) sc__law_system.nd rfl (by first | exact Or.inl rfl | exact Or.inr rfl)) (fun _ _ _ _ _ => pts_nil) (fun _ _ _ _ _ => (pmk (c_Sum_init (F := F) T X0) T.mkS (hr.mono (by decide)) (pa_cons (pv 3) (pa_cons (pv 4) pa_nil))))) pa_nil))))))), ?_⟩
    refine ⟨_, rfl, fun fa dx h1 h2 hne => ⟨fa, dx, H, Num.p F, rfl, Fresh.mk h1 h2 hne, hp, fun H1 sm1 hF => ⟨rfl, ?_⟩⟩⟩
    have g1 : Grw A.tabs H H1 := .of sm1
    refine ⟨_, rfl, _, rfl, _, rfl, l, rfl, ⟨_, SqL.of (sm1 _ _ x1)⟩, fun D hD => ?_⟩
    refine lc_list (K := K) (a := l) (xs := xs.map V.ref) (fun i H5 => ∃ ss : List Addr, Grw A.tabs H1 H5 ∧ H5 D = some (.lst (ss.map V.ref)) ∧ ss.length = i ∧ ∀ (j : Nat) (s : Addr) (f : Row F), ss[j]? = some s → ws[j]? = some f → ∃ dx fa la, H5 s = some (.ins A.S dx [("own_field", .ref fa), ("row", .ref la)]) ∧ Fld A H5 fa (Num.p F) ∧ la ≠ D ∧ TmList K H5 la (canon f))
      ⟨[], .of (same_upd hD), upd_same, rfl, fun j s f e => by simp at e⟩ (fun i H5 _ ⟨_, g5, _⟩ => SqL.of (g5.ext _ _ (sm1 _ _ x1) fun _ z => by cases z)) (fun i x H5 hi ⟨ss, g5, hD5, hsl, hss⟩ => ?_) (fun H5 ⟨ss, g5, hD5, hsl, hss⟩ => ?_)
    · rw [List.getElem?_map] at hi
      obtain ⟨r, hr, rfl⟩ := Option.map_eq_some_iff.mp hi
      have hix : i < xs.length := (List.getElem?_eq_some_iff.mp hr).1
      have hf : ws[i]? = some ws[i] := List.getElem?_eq_getElem (by omega)
      have gH : Grw A.tabs H H5 := g1.trans g5
      have hr5 : TmList K H5 r (canon ws[i]) := (x3 i r _ hr hf).grw gH
      obtain ⟨w1, w2⟩ := wrow_gs (hW _ (List.mem_of_getElem? hf))
      refine ⟨rfl, _, rfl, _, rfl, fun x dx2 h1 h2 hne => ?_⟩
      refine ⟨x, dx2, H5, fa, r, canon ws[i], rfl, Fresh.mk h1 h2 hne, gH.tabs hT, hF.grw g5, hr5, w1, w2, fun H6 la g6 hlf ⟨dx6, hx6⟩ hl6 => ⟨rfl, _, g6.ext _ _ hD5 (fun _ z => by cases z), ?_, ss ++ [x], ?_, ?_, ?_, fun j s f e hj => ?_⟩⟩
      · rw [List.length_map, hsl]
        exact Nat.lt_trans (by omega : i < 4) (by decide)
      · exact (g5.trans g6).wr hD (g6.ext _ _ hD5 fun _ z => by cases z) (fun _ z => by cases z) fun _ z => by cases z
      · rw [upd_same, List.map_append]
        rfl
      · rw [List.length_append, List.length_singleton, hsl]
      · have hD6 := g6.ext _ _ hD5 fun _ z => by cases z
        have kk : Keep H6 (upd H6 D (.lst (ss.map V.ref ++ [.ref x]))) := Keep.wr hD6 fun _ z => by cases z
        have put : ∀ {b : Addr} {o : HO}, H6 b = some o → b ≠ D → upd H6 D (.lst (ss.map V.ref ++ [.ref x])) b = some o := fun h n => by rw [upd_ne n]; exact h
        have nF : ∀ {b : Addr}, Fld A H6 b (Num.p F) → Fld A (upd H6 D (.lst (ss.map V.ref ++ [.ref x]))) b (Num.p F) := fun {b} ⟨p1, dy, p2⟩ => ⟨p1, dy, put p2 fun z => by rw [z, hD6] at p2; cases p2⟩
        rcases Nat.lt_or_ge j ss.length with h | h
        · rw [List.getElem?_append_left h] at e
          obtain ⟨dx7, fa7, la7, q1, q2, q3, q4⟩ := hss j s f e hj
          have q1' := g6.ext _ _ q1 fun _ z => by cases z
          obtain ⟨zs, q5, q6⟩ := q4.grw g6
          exact ⟨dx7, fa7, la7, put q1' (fun z => by rw [z, hD6] at q1'; cases q1'), nF (q2.grw g6), q3, zs, put q5 q3, RpL.keep kk _ q6⟩
        · rw [List.getElem?_append_right h] at e
          obtain ⟨rfl, rfl⟩ : j = i ∧ x = s := by
            rcases hc : j - ss.length with _ | k
            · rw [hc] at e
              exact ⟨by omega, by simpa using e⟩
            · rw [hc] at e
              simp at e
          have ef : ws[j] = f := Option.some.inj (hf.symm.trans hj)
          have nla : la ≠ D := fun z => hlf _ (by rw [z]; exact hD5)
          rw [canon_gs, ef] at hl6
          obtain ⟨zs, q5, q6⟩ := hl6
          exact ⟨dx6, fa, la, put hx6 (fun z => by rw [z, hD6] at hx6; cases hx6), nF ((hF.grw g5).grw g6), nla, zs, put q5 nla, RpL.keep kk _ q6⟩
    · rw [List.length_map] at hsl
      have hSm : SmList K A H5 D ws := ⟨ss, hD5, by omega, fun i s f e1 e2 => by
        obtain ⟨dx7, fa7, la7, q1, q2, q3, q4⟩ := hss i s f e1 e2
        exact ⟨dx7, fa7, la7, q1, q2, q4⟩⟩
      refine fun x dx2 h1 h2 hne => ⟨x, dx2, H5, fa, D, n, ws, rfl, Fresh.mk h1 h2 hne, hF.grw g5, hSm, hn1, hn, hwl, fun f hf => (hW f hf).dom, fun H6 sm6 hY => ⟨rfl, q H6 x ((g1.trans g5).trans (.of sm6)) hY⟩⟩
end
end FsR
end
section
/-! Lists of all products and fillings. -/
set_option Elab.async false
set_option linter.all false
set_option maxRecDepth 100000
namespace FsR
open PySem PySem.Spec PyProof.Rows L2 LamX Fs
/-- the law's own order of products -/
def lprods (n : Nat) (m : Int) : List Pr := (List.range n).foldl (fun found i => found ++ (found.filter fun q => decide ((size q : Int) < m)).map fun q => jn q (Fin.ofNat 16 (2 ^ i))) [0]
theorem lprods_facts : ∀ n ∈ ([0, 1, 2, 3, 4] : List Nat), ∀ m ∈ ([0, 1, 2, 3, 4] : List Nat), (∀ q, q ∈ lprods n m ↔ q ∈ univ n m) ∧ (lprods n m).length = (univ n m).length := by decide +kernel
theorem lprods_neg : ∀ n ∈ ([0, 1, 2, 3, 4] : List Nat), ∀ m ∈ ([-1, -2, -3, -4] : List Int), lprods n m = [0] := by decide +kernel
theorem lprods_dom : ∀ n ∈ ([0, 1, 2, 3, 4] : List Nat), ∀ m ∈ ([-4, -3, -2, -1, 0, 1, 2, 3, 4] : List Int), (∀ q ∈ lprods n m, q.val < 2 ^ n) ∧ (lprods n m).length ≤ 16 := by decide +kernel
/-- all fillings, in the law's order -/
def lfills (n : Nat) : List Pr := (List.range n).foldl (fun found i => found.flatMap fun x => [x, jn x (Fin.ofNat 16 (2 ^ i))]) [0]
theorem lfills_dom : ∀ n ∈ ([0, 1, 2, 3, 4] : List Nat), (∀ x ∈ lfills n, x.val < 2 ^ n) ∧ (lfills n).length ≤ 16 := by decide +kernel
section
variable {F : Type} [Num F]
theorem deg_sizes (f : Row F) : degR f = ((canon f).map fun t => size t.1).foldr max 0 := by
  unfold degR canon
  rw [List.map_map]
  rfl
end
section
variable {P : Program} {w : World} {K : PySem.W.Frag} {mg : Str → Option Value} {base : Heap} {A : Ad} {F : Type} [Num F]
theorem sc__law_degree : FnScope ["_law_rows", "_law_product_here", "_law_number_here"] ["_law_rows"] (defScope (topS 74)) := ⟨rfl, rfl, rfl, by decide +kernel, rfl, by decide +kernel, by decide +kernel⟩
def spLdeg (K : PySem.W.Frag) (F : Type) [Num F] : Sp := fun vs H Q _ => ∃ (l : Addr) (f : Row F), vs = [.ref l] ∧ TmList K H l (canon f) ∧ ∀ H', Same H H' → Q (.int (degR f : Nat)) H'
theorem c__law_degree (T : Txt K mg A) : Cal P w K mg base CX0 1 "_law_degree" ["_law_rows"] [] (spLdeg K F) := by
  refine cal_mk T.g__law_degree (fun _ _ _ _ _ _ us hl => match us, hl with | [_], _ => rfl) sc__law_degree (fun vs H Q E h => ?_) (fun f cdv Ar outer s H vs Q E hr h => ?_)
  · obtain ⟨l, f, rfl, _⟩ := h
    rfl
  · obtain ⟨l, g, rfl, ⟨xs, x1, x2⟩, q⟩ := h
    refine ⟨_, (pss_one (ps_ret (pe_callB (cr_max rfl) (by rfl) T.max (by decide +kernel) (pa_cons (pe_op op_cat (pe_lc (own := [("_law_product_here", 1), ("_law_number_here", 2)]) (tt := tYes) rfl sc__law_degree.nd (pi_list (pv 0)) (blkOk_by (N := ["_law_rows", "_law_product_here", "_law_number_here"]) (sc := defScope (topS 74)) (by decide +kernel)) (fun _ _ _ _ _ => (pg_tupB (n := 2) K (by rfl) rfl (pgs_cons (pg_name (i := 1) sc__law_degree.nd rfl (by first | exact Or.inl rfl | exact Or.inr rfl)) (pgs_cons (pg_name (i := 2) sc__law_degree.nd rfl (by first | exact Or.inl rfl | exact Or.inr rfl)) pgs_nil)))) (fun _ _ _ _ _ => pts_nil) (fun _ _ _ _ _ => (pe_callB (call_lenB K (by rfl)) (by rfl) T.len (by decide +kernel) (pa_cons (pv 1) pa_nil)))) (pe_lst (pa_cons pe_int pa_nil))) pa_nil)))), ?_⟩
    refine ⟨_, rfl, l, rfl, ⟨_, SqL.of x1⟩, fun D hD => ?_⟩
    refine lc_list (K := K) (a := l) (xs := xs) (fun i H2 => Same H H2 ∧ H2 D = some (.lst ((((canon g).take i).map fun t => size t.1).map fun (i : Nat) => V.int i))) ⟨same_upd hD, upd_same⟩ (fun i H2 _ ⟨sm, _⟩ => SqL.of (sm _ _ x1)) (fun i y H2 hi ⟨sm, hL⟩ => ?_) (fun H2 ⟨sm, hL⟩ => ?_)
    · obtain ⟨t, ht, rt⟩ := RpL.at_ x2 hi
      obtain ⟨c, u, v, rfl, t1, r1, r2⟩ := rp_term ((Keep.of sm).rp rt)
      obtain ⟨p1, ep1, tp1⟩ := rp_prod r1
      cases ep1
      refine ⟨c, _, rfl, t1.sq, rfl, _, _, rfl, _, _, rfl, rfl, rfl, _, rfl, u, _, rfl, .inr tp1.sq, _, hL, ?_, SB.same sm SB.upd hD, ?_⟩
      · rw [List.length_map, List.length_map, List.length_take]
        have := canon_len g
        exact Nat.lt_of_le_of_lt (by omega : _ ≤ 16) (by decide)
      · rw [upd_same, List.take_add_one, ht, List.map_append, List.map_append, List.length_map]
        rfl
    · have hlen : (canon g).length = xs.length := by
        have := x2.length
        rw [List.length_map] at this
        exact this
      rw [← hlen, List.take_length] at hL
      have hcl := canon_len g
      generalize hz : (canon g).map (fun t => size t.1) = zs at hL
      have hzl : zs.length ≤ 16 := by
        rw [← hz, List.length_map]
        exact hcl
      refine ⟨(by decide : 1 ≤ sizeLine), fun l0 hl0 => ?_⟩
      have s0 := same_upd (o := .lst [.int 0]) hl0
      refine ⟨D, l0, _, _, rfl, rfl, s0 _ _ hL, upd_same, ?_, fun p hp => ?_⟩
      · rw [List.length_map, List.length_singleton]
        exact Nat.le_trans (by omega : _ ≤ 17) (by decide)
      · have sp := same_upd (o := .lst (zs.map (fun (i : Nat) => V.int i) ++ [.int 0])) hp
        refine ⟨p, (zs.map fun (i : Nat) => (i : Int)) ++ [0], rfl, SqL.of ?_, by simp, fun m hm hle => ?_⟩
        · rw [upd_same, List.map_append, List.map_map]
          rfl
        · have e : m = ((zs.foldr max 0 : Nat) : Int) := by
            have h1 : ((zs.foldr max 0 : Nat) : Int) ≤ m := by
              have : zs.foldr max 0 ≤ m.toNat := foldr_max_le fun x hx => by
                have := hle x (List.mem_append_left _ (List.mem_map_of_mem hx))
                omega
              have h0 := hle 0 (List.mem_append_right _ (by simp))
              omega
            have h2 : m ≤ ((zs.foldr max 0 : Nat) : Int) := by
              rcases List.mem_append.mp hm with h | h
              · obtain ⟨x, hx, rfl⟩ := List.mem_map.mp h
                have := le_foldr_max hx
                omega
              · rw [List.mem_singleton.mp h]
                omega
            omega
          have e2 : zs.foldr max 0 = degR g := by rw [← hz, ← deg_sizes]
          rw [e, e2]
          exact q _ ((sm.trans s0).trans sp)
end
end FsR
end
section
/-! The law's lists of products and of fillings: the walks. -/
set_option Elab.async false
set_option linter.all false
set_option maxRecDepth 100000
namespace FsR
open PySem PySem.Spec PyProof.Rows L2 LamX Fs
theorem lprods_succ (i : Nat) (m : Int) : lprods (i + 1) m = lprods i m ++ ((lprods i m).filter fun q => decide ((size q : Int) < m)).map fun q => jn q (Fin.ofNat 16 (2 ^ i)) := by
  unfold lprods
  rw [List.range_succ, List.foldl_append]
  rfl
section
variable {P : Program} {w : World} {K : PySem.W.Frag} {mg : Str → Option Value} {base : Heap} {A : Ad} {F : Type} [Num F]
theorem sc__law_products : FnScope ["_law_many", "_law_most", "_law_found", "_law_place", "_law_product_here"] ["_law_many", "_law_most"] (defScope (topS 73)) := ⟨rfl, rfl, rfl, by decide +kernel, rfl, by decide +kernel, by decide +kernel⟩
def spLprods (K : PySem.W.Frag) : Sp := fun vs H Q _ => ∃ (n : Nat) (m : Int), vs = [.int n, .int m] ∧ n ≤ 4 ∧ m ∈ ([-4, -3, -2, -1, 0, 1, 2, 3, 4] : List Int) ∧ ∀ H' l, Same H H' → H l = none → PrList K H' l (lprods n m) → Q (.ref l) H'
theorem c__law_products (T : Txt K mg A) : Cal P w K mg base CX0 1 "_law_products" ["_law_many", "_law_most"] [] (spLprods K) := by
  refine cal_mk T.g__law_products (fun _ _ _ _ _ _ us hl => match us, hl with | [_, _], _ => rfl) sc__law_products (fun vs H Q E h => ?_) (fun f cdv Ar outer s H vs Q E hr h => ?_)
  · obtain ⟨n, m, rfl, _⟩ := h
    rfl
  · obtain ⟨n, m, rfl, hn, hm, q⟩ := h
    refine ⟨_, (pss_cons (ps_set (i := 2) sc__law_products.nd rfl (by first | exact Or.inl rfl | exact Or.inr rfl) (pe_lst (pa_cons (pe_tup pa_nil) pa_nil)))
      (pss_cons (ps_for PassesOwn.never rfl (pi_range1 rfl T.range (pa_cons (pv 0) pa_nil)) (pg_name (i := 3) sc__law_products.nd rfl (by first | exact Or.inl rfl | exact Or.inr rfl))
      (pss_one (ps_set (i := 2) sc__law_products.nd rfl (by first | exact Or.inl rfl | exact Or.inr rfl) (pe_op op_cat (pv 2) (pe_lc (own := [("_law_product_here", 4)]) (g := gName 4) rfl sc__law_products.nd (pi_list (pv 2)) (blkOk_by (N := ["_law_many", "_law_most", "_law_found", "_law_place", "_law_product_here"]) (sc := defScope (topS 73)) (by decide +kernel)) (fun _ _ _ _ _ => pg_name (i := 4) sc__law_products.nd rfl (by first | exact Or.inl rfl | exact Or.inr rfl)) (fun _ _ _ _ _ => pts_one (pt_cmpR op_lt (pe_callB (call_lenB K (by rfl)) (by rfl) T.len (by decide +kernel) (pa_cons (pv 4) pa_nil)) (pv 1) (nomark _))) (fun _ _ _ _ _ => (pe_op (op_catPB K (by rfl)) (pv 4) (pe_tup (pa_cons (pv 3) pa_nil)))))))))
      (pss_one (ps_ret (pv 2))))), ?_⟩
    refine ⟨Nat.zero_le _, fun t ht => ⟨(by decide : 1 ≤ sizeLine), fun l hl => ?_⟩⟩
    have st := same_upd (o := .tup []) ht
    have sl := st.trans (same_upd (o := .lst [.ref t]) hl)
    refine ⟨_, rfl, _, rfl, by omega, by omega, for_range (lo := 0) (n := ((n : Nat) : Int).toNat) (fun i σ H1 => ∃ (l1 : Addr) (s3 s4 : Option V), σ = [some (.int n), some (.int m), some (.ref l1), s3, s4] ∧ Same H H1 ∧ H l1 = none ∧ PrList K H1 l1 (lprods i m)) ⟨l, none, none, rfl, sl, st.free hl, [.ref t], upd_same, one_empty ((same_upd (o := .lst [.ref t]) hl) _ _ upd_same)⟩ ?_ ?_⟩
    · rintro i σ H1 hi ⟨l1, s3, s4, rfl, sm, hl1, ⟨xs, x1, x2⟩⟩
      have hi4 : i < 4 := by omega
      obtain ⟨dom, len⟩ := lprods_dom i (five (by omega)) m hm
      have hlen : (lprods i m).length = xs.length := by
        have := x2.length
        rw [List.length_map] at this
        exact this
      refine ⟨_, rfl, _, rfl, l1, rfl, ⟨_, SqL.of x1⟩, fun D hD => ?_⟩
      refine lc_list (K := K) (a := l1) (xs := xs) (fun j H2 => ∃ ys, Same H1 H2 ∧ H2 D = some (.lst ys) ∧ RpL K H2 (((((lprods i m).take j).filter fun q => decide ((size q : Int) < m)).map fun q => jn q (Fin.ofNat 16 (2 ^ i))).map pk) ys) ⟨[], same_upd hD, upd_same, by rw [List.take_zero]; exact rpl_nil⟩ (fun j H2 _ ⟨_, sm2, _⟩ => SqL.of (sm2 _ _ x1)) (fun j x H2 hj ⟨ys, sm2, hL, hY⟩ => ?_) (fun H2 ⟨ys, sm2, hL, hY⟩ => ?_)
      · obtain ⟨p, hp, rp⟩ := RpL.at_ x2 hj
        obtain ⟨u, rfl, tu⟩ := rp_prod ((Keep.of sm2).rp rp)
        have etk : (lprods i m).take (j + 1) = (lprods i m).take j ++ [p] := by
          rw [List.take_add_one, hp]
          rfl
        have yl : ys.length ≤ 16 := by
          have h1 := hY.length
          rw [List.length_map, List.length_map] at h1
          have h2 := List.length_filter_le (fun q : Pr => decide ((size q : Int) < m)) ((lprods i m).take j)
          rw [List.length_take] at h2
          omega
        have esz : ((((places p).map fun (i : Nat) => V.int i).length : Nat) : Int) = size p := by
          rw [List.length_map]
          rfl
        refine ⟨rfl, _, rfl, u, _, rfl, .inr tu.sq, _, rfl, _, _, rfl, rfl, _, rfl, it2 (fun hlt => ?_) (fun hlt => ?_)⟩
        · rw [esz] at hlt
          refine ⟨_, rfl, _, rfl, (by decide : 1 ≤ sizeLine), fun t5 ht5 => cat_of (tu.keep (Keep.of (same_upd ht5))) (.inl upd_same) (by rw [List.length_map]; exact Nat.le_trans (show _ + 1 ≤ 4 + 1 from Nat.add_le_add_right (places_le p) 1) (by decide)) fun H6 c6 sm6 hc6 => ?_⟩
          have s6 := (same_upd ht5).trans sm6
          refine ⟨ys, s6 _ _ hL, Nat.lt_of_le_of_lt yl (by decide), ys ++ [.ref c6], SB.same (sm2.trans s6) SB.upd hD, upd_same, ?_⟩
          have kk : Keep H6 (upd H6 D (.lst (ys ++ [V.ref c6]))) := Keep.wr (s6 _ _ hL) fun _ z => by cases z
          rw [etk, List.filter_append, List.map_append, List.map_append, List.filter_cons, if_pos (decide_eq_true hlt), List.filter_nil]
          refine RpL.app (RpL.keep ((Keep.of s6).trans kk) _ hY) (rpl_cons ?_ rpl_nil)
          have e9 := (add_places i (List.mem_range.mpr hi4) p (dom p (List.mem_of_getElem? hp))).1
          refine rp_tup_iff.mpr ⟨c6, _, rfl, hc6.keep kk, ?_⟩
          rw [e9, List.map_append]
          have := rpl_ints (K := K) (H := upd H6 D (.lst (ys ++ [V.ref c6]))) (places p)
          refine RpL.app this (rpl_cons ?_ rpl_nil)
          show Rp K _ (.num ((i : Nat) : Int)) (.int (0 + (i : Nat)))
          rw [Int.zero_add]
          exact rp_num _
        · rw [esz] at hlt
          refine ⟨ys, sm2, hL, ?_⟩
          rw [etk, List.filter_append, List.filter_cons, if_neg (by simpa using hlt), List.filter_nil, List.append_nil]
          exact hY
      · rw [← hlen, List.take_length] at hY
        have yl : ys.length ≤ 16 := by
          have h1 := hY.length
          rw [List.length_map, List.length_map] at h1
          have h2 := List.length_filter_le (fun q : Pr => decide ((size q : Int) < m)) (lprods i m)
          omega
        refine ⟨l1, D, xs, ys, rfl, rfl, sm2 _ _ x1, hL, Nat.le_trans (by omega : _ ≤ 32) (by decide), fun p hp => ?_⟩
        have sp := same_upd (o := .lst (xs ++ ys)) hp
        refine ⟨p, _, _, rfl, (sm.trans sm2).trans sp, (sm.trans sm2).free hp, xs ++ ys, upd_same, ?_⟩
        rw [lprods_succ, List.map_append]
        exact RpL.app (RpL.keep (Keep.of (sm2.trans sp)) _ x2) (RpL.keep (Keep.of sp) _ hY)
    · rintro σ H1 ⟨l1, s3, s4, rfl, sm, hl1, hP⟩
      have : ((n : Nat) : Int).toNat = n := by omega
      rw [this] at hP
      exact ⟨_, rfl, q H1 l1 sm hl1 hP⟩
theorem sc__law_all : FnScope ["_law_many", "_law_found", "_law_place", "_law_wider", "_law_row"] ["_law_many"] (defScope (topS 78)) := ⟨rfl, rfl, rfl, by decide +kernel, rfl, by decide +kernel, by decide +kernel⟩
theorem lfills_succ (i : Nat) : lfills (i + 1) = (lfills i).flatMap fun x => [x, jn x (Fin.ofNat 16 (2 ^ i))] := by
  unfold lfills
  rw [List.range_succ, List.foldl_append]
  rfl
/-- a list of fillings -/
def FlList (K : PySem.W.Frag) (H : Hp) (l : Addr) (n : Nat) (us : List Pr) : Prop := ∃ xs, H l = some (.lst xs) ∧ RpL K H (us.map (fk n)) xs
def spLall (K : PySem.W.Frag) : Sp := fun vs H Q _ => ∃ n : Nat, vs = [.int n] ∧ n ≤ 4 ∧ ∀ H' l, Same H H' → H l = none → FlList K H' l n (lfills n) → Q (.ref l) H'
theorem fk_snoc {K : PySem.W.Frag} {H : Hp} {i : Nat} {x y : Pr} {c : Addr} {b : Nat} (h : Tp K H c ((((List.range i).map (b01 x)).map fun (i : Nat) => V.int i) ++ [.int (b : Nat)])) (e : (List.range (i + 1)).map (b01 y) = (List.range i).map (b01 x) ++ [b]) : Rp K H (fk (i + 1) y) (.ref c) := by
  refine rp_tup_iff.mpr ⟨c, _, rfl, h, ?_⟩
  have e2 : ((List.range (i + 1)).map fun j => NestedKey.num (b01 y j : Nat)) = ((List.range (i + 1)).map (b01 y)).map fun (i : Nat) => NestedKey.num (i : Int) := by rw [List.map_map]; rfl
  rw [e2, e, List.map_append]
  exact RpL.app (rpl_ints _) (rpl_cons (rp_num _) rpl_nil)
theorem c__law_all (T : Txt K mg A) : Cal P w K mg base CX0 1 "_law_all" ["_law_many"] [] (spLall K) := by
  refine cal_mk T.g__law_all (fun _ _ _ _ _ _ us hl => match us, hl with | [_], _ => rfl) sc__law_all (fun vs H Q E h => ?_) (fun f cdv Ar outer s H vs Q E hr h => ?_)
  · obtain ⟨n, rfl, _⟩ := h
    rfl
  · obtain ⟨n, rfl, hn, q⟩ := h
    refine ⟨_, (pss_cons (ps_set (i := 1) sc__law_all.nd rfl (by first | exact Or.inl rfl | exact Or.inr rfl) (pe_lst (pa_cons (pe_tup pa_nil) pa_nil)))
      (pss_cons (ps_for PassesOwn.never rfl (pi_range1 rfl T.range (pa_cons (pv 0) pa_nil)) (pg_name (i := 2) sc__law_all.nd rfl (by first | exact Or.inl rfl | exact Or.inr rfl))
      (pss_cons (ps_set (i := 3) sc__law_all.nd rfl (by first | exact Or.inl rfl | exact Or.inr rfl) (pe_lst pa_nil))
      (pss_cons (ps_for PassesOwn.never rfl (pi_list (pv 1)) (pg_name (i := 4) sc__law_all.nd rfl (by first | exact Or.inl rfl | exact Or.inr rfl))
      (pss_one (ps_set (i := 3) sc__law_all.nd rfl (by first | exact Or.inl rfl | exact Or.inr rfl) (pe_op op_cat (pv 3) (pe_lst (pa_cons (pe_op op_catP (pv 4) (pe_tup (pa_cons pe_int pa_nil))) (pa_cons (pe_op op_catP (pv 4) (pe_tup (pa_cons pe_int pa_nil))) pa_nil)))))))
      (pss_one (ps_set (i := 1) sc__law_all.nd rfl (by first | exact Or.inl rfl | exact Or.inr rfl) (pv 3))))))
      (pss_one (ps_ret (pv 1))))), ?_⟩
    refine ⟨Nat.zero_le _, fun t ht => ⟨(by decide : 1 ≤ sizeLine), fun l hl => ?_⟩⟩
    have st := same_upd (o := .tup []) ht
    have sl := st.trans (same_upd (o := .lst [.ref t]) hl)
    refine ⟨_, rfl, _, rfl, by omega, by omega, for_range (lo := 0) (n := ((n : Nat) : Int).toNat) (fun i σ H1 => ∃ (l1 : Addr) (s2 s3 s4 : Option V), σ = [some (.int n), some (.ref l1), s2, s3, s4] ∧ Same H H1 ∧ H l1 = none ∧ FlList K H1 l1 i (lfills i)) ⟨l, none, none, none, rfl, sl, st.free hl, [.ref t], upd_same, ?_⟩ ?_ ?_⟩
    · exact rpl_cons (rp_tup_iff.mpr ⟨t, [], rfl, .inl ((same_upd (o := .lst [.ref t]) hl) _ _ upd_same), rpl_nil⟩) rpl_nil
    · rintro i σ H1 hi ⟨l1, s2, s3, s4, rfl, sm, hl1, ⟨xs, x1, x2⟩⟩
      have hi4 : i < 4 := by omega
      obtain ⟨dom, len⟩ := lfills_dom i (five (by omega))
      have hlen : (lfills i).length = xs.length := by
        have := x2.length
        rw [List.length_map] at this
        exact this
      refine ⟨Nat.zero_le _, fun lw hlw => ?_⟩
      have sw := same_upd (o := .lst []) hlw
      refine ⟨_, rfl, l1, rfl, ⟨_, SqL.of (sw _ _ x1)⟩, for_list (K := K) (a := l1) (xs := xs) (fun j σ H2 => ∃ (l2 : Addr) (s4 : Option V), σ = [some (.int n), some (.ref l1), some (.int (0 + (i : Nat))), some (.ref l2), s4] ∧ Same H1 H2 ∧ H1 l2 = none ∧ FlList K H2 l2 (i + 1) (((lfills i).take j).flatMap fun x => [x, jn x (Fin.ofNat 16 (2 ^ i))]))
        ⟨lw, _, rfl, sw, hlw, [], upd_same, by rw [List.take_zero]; exact rpl_nil⟩ (fun j σ H2 _ ⟨_, _, _, sm2, _⟩ => SqL.of (sm2 _ _ x1)) ?_ ?_⟩
      · rintro j y σ H2 hj ⟨l2, s4, rfl, sm2, hl2, ⟨ys, y1, y2⟩⟩
        obtain ⟨x, hx, rx⟩ := RpL.at_ x2 hj
        obtain ⟨u, rfl, tu⟩ := rp_fk ((Keep.of sm2).rp rx)
        obtain ⟨f1, f2, f3⟩ := fil_step i (List.mem_range.mpr hi4) x (dom x (List.mem_of_getElem? hx))
        have bl : (((List.range i).map (b01 x)).map fun (i : Nat) => V.int i).length + 1 ≤ sizeLine := by
          rw [List.length_map, List.length_map, List.length_range]
          exact Nat.le_trans (by omega : _ ≤ 5) (by decide)
        have yl : ys.length ≤ 32 := by
          have h1 := y2.length
          rw [List.length_map] at h1
          have h2 : ∀ zs : List Pr, (zs.flatMap fun x => [x, jn x (Fin.ofNat 16 (2 ^ i))]).length = 2 * zs.length := fun zs => by
            induction zs with
            | nil => rfl
            | cons z zs ih =>
              rw [List.flatMap_cons, List.length_append, ih]
              simp only [List.length_cons, List.length_nil]
              omega
          rw [h2, List.length_take] at h1
          omega
        refine ⟨_, rfl, _, rfl, (by decide : 1 ≤ sizeLine), fun t5 ht5 => cat_of (tu.keep (Keep.of (same_upd ht5))) (.inl upd_same) bl fun H6 c6 sm6 hc6 => ?_⟩
        have s6 := (same_upd (o := .tup [.int 0]) ht5).trans sm6
        refine ⟨_, rfl, (by decide : 1 ≤ sizeLine), fun t7 ht7 => cat_of (tu.keep (Keep.of (s6.trans (same_upd ht7)))) (.inl upd_same) bl fun H8 c8 sm8 hc8 => ?_⟩
        have s8 := (same_upd (o := .tup [.int 1]) ht7).trans sm8
        refine ⟨(by decide : 2 ≤ sizeLine), fun l9 hl9 => ?_⟩
        have s9 := same_upd (o := .lst [.ref c6, .ref c8]) hl9
        have sA := (s6.trans s8).trans s9
        refine ⟨l2, l9, ys, _, rfl, rfl, sA _ _ y1, upd_same, Nat.le_trans (show ys.length + 2 ≤ 34 by omega) (by decide), fun p hp => ?_⟩
        have sp := same_upd (o := .lst (ys ++ [.ref c6, .ref c8])) hp
        refine ⟨p, _, rfl, (sm2.trans sA).trans sp, (sm2.trans sA).free hp, _, upd_same, ?_⟩
        have etk : ((lfills i).take (j + 1)).flatMap (fun x => [x, jn x (Fin.ofNat 16 (2 ^ i))]) = (((lfills i).take j).flatMap fun x => [x, jn x (Fin.ofNat 16 (2 ^ i))]) ++ [x, jn x (Fin.ofNat 16 (2 ^ i))] := by
          rw [List.take_add_one, hx, List.flatMap_append]
          simp
        rw [etk, List.map_append]
        have k9 := (Keep.of s9).trans (Keep.of sp)
        exact RpL.app (RpL.keep ((Keep.of sA).trans (Keep.of sp)) _ y2) (rpl_cons (fk_snoc (b := 0) ((hc6.keep (Keep.of s8)).keep k9) f1) (rpl_cons (fk_snoc (b := 1) (hc8.keep k9) f2) rpl_nil))
      · rintro σ H2 ⟨l2, s4, rfl, sm2, hl2, hF⟩
        rw [← hlen, List.take_length, ← lfills_succ] at hF
        exact ⟨_, rfl, l2, _, _, _, rfl, sm.trans sm2, sm.free hl2, hF⟩
    · rintro σ H1 ⟨l1, s2, s3, s4, rfl, sm, hl1, hP⟩
      have : ((n : Nat) : Int).toNat = n := by omega
      rw [this] at hP
      exact ⟨_, rfl, q H1 l1 sm hl1 hP⟩
end
end FsR
end
section
/-! What showings come to: plain mathematics. -/
set_option Elab.async false
set_option linter.all false
set_option maxRecDepth 100000
namespace FsR
open PySem PySem.Spec PyProof.Rows L2 LamX Fs
section
variable {F : Type} [Num F]
theorem sum_canon (f : Row F) (g : Pr → F → F) (h0 : ∀ p, g p 0 = 0) : (sumL (canon f) fun t => g t.1 t.2) = sumL prods fun p => g p (f p) := by
  unfold canon
  rw [sumL_map, sumL_filter]
  refine sumL_congr fun p _ => ?_
  by_cases z : f p = 0
  · rw [if_neg (by simpa using z), z, h0]
  · rw [if_pos (by simpa using z)]
theorem bes_sum (f : Row F) (q k : Pr) : besR f q k = sumL prods fun p => if jn p q = k then f p else 0 := by
  unfold besR gsum besT
  rw [sumL_map]
  exact sum_canon f (fun p x => if jn p q = k then x else 0) fun p => by split <;> rfl
theorem mul_sum (f s : Row F) (k : Pr) : gsum (mulT (canon f) (canon s)) k = sumL prods fun q => s q * besR f q k := by
  unfold gsum mulT
  rw [sumL_flatMap]
  have h1 : (fun t : Pr × F => sumL ((canon s).map fun u => (jn t.1 u.1, t.2 * u.2)) fun v => if v.1 = k then v.2 else 0) = fun t => sumL prods fun q => if jn t.1 q = k then t.2 * s q else 0 := funext fun t => by
    rw [sumL_map]
    exact sum_canon s (fun q x => if jn t.1 q = k then t.2 * x else 0) fun q => by
      split
      · grind
      · rfl
  rw [h1, sum_canon f (fun p x => sumL prods fun q => if jn p q = k then x * s q else 0) fun p => sumL_zero fun q _ => by
    split
    · grind
    · rfl]
  rw [sumL_comm]
  refine sumL_congr fun q _ => ?_
  rw [bes_sum, ← sumL_mul]
  refine sumL_congr fun p _ => ?_
  split
  · grind
  · grind
theorem comb_marks (ws : List (Row F)) (m : MRow F) (k : Pr) : comb (GG ws) m k = sumL [0, 1, 2, 3] fun i : Fin 4 => sumL prods fun q => m (i, q) * GG ws (i, q) k := by
  unfold comb marks
  rw [sumL_flatMap]
  refine sumL_congr fun i _ => ?_
  rw [sumL_map]
/-- what the i-th wish adds -/
def partR (ws : List (Row F)) (m : MRow F) (i : Nat) : Row F := match ws[i]? with
  | some f => gsum (mulT (canon f) (canon fun q => m (Fin.ofNat 4 i, q)))
  | none => fun _ => 0
theorem part_gg {ws : List (Row F)} (m : MRow F) {i : Nat} (hi : i < 4) (k : Pr) : partR ws m i k = sumL prods fun q => m (Fin.ofNat 4 i, q) * GG ws (Fin.ofNat 4 i, q) k := by
  unfold partR
  cases e : ws[i]? with
  | some f =>
    show gsum (mulT (canon f) (canon fun q => m (Fin.ofNat 4 i, q))) k = _
    rw [mul_sum]
    refine sumL_congr fun q _ => ?_
    rw [gg_at e hi]
  | none =>
    show (0 : F) = _
    refine (sumL_zero fun q _ => ?_).symm
    have : GG ws (Fin.ofNat 4 i, q) k = 0 := by
      unfold GG
      have hv : (Fin.ofNat 4 i).val = i := Nat.mod_eq_of_lt hi
      show (match ws[(Fin.ofNat 4 i).val]? with | some f => besR f q | none => fun _ => 0) k = 0
      rw [hv, e]
    rw [this]
    grind
theorem comb_parts {ws : List (Row F)} (m : MRow F) (hw : ws.length ≤ 4) (k : Pr) : comb (GG ws) m k = sumL (List.range ws.length) fun i => partR ws m i k := by
  have h4 : comb (GG ws) m k = sumL (List.range 4) fun i => partR ws m i k := by
    rw [comb_marks]
    have e : ([0, 1, 2, 3] : List (Fin 4)) = (List.range 4).map fun i => Fin.ofNat 4 i := by decide
    rw [e, sumL_map]
    exact sumL_congr fun i hi => (part_gg m (List.mem_range.mp hi) k).symm
  rw [h4]
  refine sumL_sub_of List.nodup_range List.nodup_range (fun i hi => List.mem_range.mpr (by have := List.mem_range.mp hi; omega)) fun i _ hi => ?_
  have : ws[i]? = none := List.getElem?_eq_none (by
    have := mt List.mem_range.mpr hi
    omega)
  unfold partR
  rw [this]
theorem gs_rep {ts : List (Pr × F)} {D : Int} {N : Nat} (hD : D ≠ 0) (h : ∀ t ∈ ts, Num.rep D N t.2) (i : Nat) (k : Pr) : Num.rep D (ts.length * N) (gsum (ts.take i) k) := by
  have h1 := rep_sum (D := D) (N := N) (ts.take i) (fun t => if t.1 = k then t.2 else 0) hD fun t ht => by
    split
    · exact h t ((List.take_sublist _ _).subset ht)
    · exact Num.rep_zero hD
  exact Num.rep_mono h1 (Nat.mul_le_mul_right _ (by rw [List.length_take]; omega))
theorem mul_rep {a b : List (Pr × F)} {D E : Int} {N M : Nat} (ha : ∀ t ∈ a, Num.rep D N t.2) (hb : ∀ t ∈ b, Num.rep E M t.2) : ∀ t ∈ mulT a b, Num.rep (D * E) (N * M) t.2 := fun t ht => by
  unfold mulT at ht
  obtain ⟨s, hs, ht⟩ := List.mem_flatMap.mp ht
  obtain ⟨u, hu, rfl⟩ := List.mem_map.mp ht
  exact Num.rep_mul (ha s hs) (hb u hu)
theorem jn_fix : ∀ p q x : Pr, (jn (jn p q) x = x ↔ jn p x = x ∧ jn q x = x) := by decide +kernel
theorem jn_zero_l : ∀ x : Pr, jn 0 x = x := by decide
/-- a filling that grants all wishes leaves no showing -/
theorem fill_no {ws : List (Row F)} {n d : Nat} {m : MRow F} {x : Pr} (h : ∀ f ∈ ws, evalT (canon f) x = 0) (S : ShowOk ws n d m) : False := by
  refine one_of (W := fun k => if jn k x = x then 1 else 0) (if_pos (jn_zero_l x)) (fun μ hm => ?_) S
  unfold GG
  cases e : ws[μ.1.val]? with
  | none => exact sumL_zero fun k _ => by grind
  | some f =>
    show dot _ (besR f μ.2) = 0
    rw [dot_bes]
    by_cases hq : jn μ.2 x = x
    · refine Eq.trans ?_ (h f (List.mem_of_getElem? e))
      unfold evalT
      rw [sum_canon f (fun p y => if jn p x = x then y else 0) fun p => by split <;> rfl]
      refine sumL_congr fun p _ => ?_
      show (if jn (jn p μ.2) x = x then (1 : F) else 0) * f p = if jn p x = x then f p else 0
      by_cases hp : jn p x = x
      · have e1 : (if jn (jn p μ.2) x = x then (1 : F) else 0) = 1 := if_pos ((jn_fix p μ.2 x).mpr ⟨hp, hq⟩)
        rw [e1, if_pos hp]; grind
      · have e1 : (if jn (jn p μ.2) x = x then (1 : F) else 0) = 0 := if_neg fun z => hp ((jn_fix p μ.2 x).mp z).1
        rw [e1, if_neg hp]; grind
    · exact sumL_zero fun p _ => by
        have e1 : (if jn (jn p μ.2) x = x then (1 : F) else 0) = 0 := if_neg fun z => hq ((jn_fix p μ.2 x).mp z).2
        show (if jn (jn p μ.2) x = x then (1 : F) else 0) * f p = 0
        rw [e1]; grind
end
end FsR
end
section
/-! The law's test of showings. -/
set_option Elab.async false
set_option linter.all false
set_option maxRecDepth 100000
namespace FsR
open PySem PySem.Spec PyProof.Rows L2 LamX Fs
section
variable {F : Type} [Num F]
/-- the terms gathered from the first wishes -/
def fndT (ws : List (Row F)) (m : MRow F) (i : Nat) : List (Pr × F) := (List.range i).flatMap fun j => canon (partR ws m j)
theorem fnd_succ (ws : List (Row F)) (m : MRow F) (i : Nat) : fndT ws m (i + 1) = fndT ws m i ++ canon (partR ws m i) := by
  unfold fndT
  rw [List.range_succ, List.flatMap_append]
  simp
theorem fnd_len (ws : List (Row F)) (m : MRow F) : ∀ i, (fndT ws m i).length ≤ 16 * i
  | 0 => Nat.le_refl _
  | i + 1 => by
    rw [fnd_succ, List.length_append]
    have := fnd_len ws m i
    have := canon_len (partR ws m i)
    omega
theorem fnd_sum (ws : List (Row F)) (m : MRow F) (i : Nat) (k : Pr) : gsum (fndT ws m i) k = sumL (List.range i) fun j => partR ws m j k := by
  unfold gsum fndT
  rw [sumL_flatMap]
  exact sumL_congr fun j _ => gsum_canon (partR ws m j) k
theorem last_facts {n : Nat} (hn : n ∈ ([0, 1, 2, 3, 4] : List Nat)) {q : Pr} (hq : q.val < 2 ^ n) (h0 : q ≠ 0) : ∃ l i, places q = l ++ [i] ∧ i < n := by
  have h1 : ∀ q : Pr, q ≠ 0 → places q ≠ [] := by decide +kernel
  have e := List.dropLast_concat_getLast (h1 q h0)
  refine ⟨_, _, e.symm, places_lt n hn q hq _ (List.getLast_mem _)⟩
/-- the bounds of all that a showing's test meets -/
structure ShSz (ws : List (Row F)) (m : MRow F) : Prop where
  mz : ∀ μ, NSz (m μ)
  tz : ∀ (i : Nat) (f : Row F), ws[i]? = some f → ∀ t ∈ mulT (canon f) (canon fun q => m (Fin.ofNat 4 i, q)), NSz t.2
  sz : ∀ (i : Nat) (f : Row F), ws[i]? = some f → ∀ j k, NSz (gsum ((mulT (canon f) (canon fun q => m (Fin.ofNat 4 i, q))).take j) k)
  az : ∀ t ∈ fndT ws m ws.length, NSz t.2
  bz : ∀ j k, NSz (gsum ((fndT ws m ws.length).take j) k)
theorem p2_nsz {x : F} {D : Int} {N : Nat} (hD : D ≠ 0) (hp : Num.p F = 0 → D.natAbs ≤ 2 ^ 430) (hN : N ≤ 2 ^ 470) (h : Num.rep D N x) : NSz x :=
  nsz_of fun z => ⟨D, N, hD, h, p2_lt hN (by decide), p2_lt (hp z) (by decide)⟩
theorem sh_sz {n d : Nat} {ws : List (Row F)} {m : MRow F} (hW : ∀ f ∈ ws, WRow n f) (hw : ws.length ≤ 4) (S : ShowOk ws n d m) : ShSz ws m := by
  obtain ⟨E, e0, e1, e2⟩ := S.sz
  have hD : (42 * E : Int) ≠ 0 := Int.mul_ne_zero (by decide) e0
  have hDp : Num.p F = 0 → (42 * E : Int).natAbs ≤ 2 ^ 430 := fun z => by
    rw [Int.natAbs_mul]
    exact Nat.le_trans (Nat.mul_le_mul (by decide : Int.natAbs 42 ≤ 2 ^ 6) (e1 z)) (by rw [← Nat.pow_add]; exact Nat.pow_le_pow_right (by decide) (by decide))
  have hmul : ∀ (i : Nat) (f : Row F), ws[i]? = some f → ∀ t ∈ mulT (canon f) (canon fun q => m (Fin.ofNat 4 i, q)), Num.rep (42 * E) (336000 * 2 ^ 424) t.2 := fun i f hf => by
    refine mul_rep (fun t ht => ?_) fun t ht => ?_
    · rw [(canon_mem ht).2]
      exact wrow_rep (hW f (List.mem_of_getElem? hf)) _
    · rw [(canon_mem ht).2]
      exact e2 _
  have hlen : ∀ (i : Nat) (f : Row F), (mulT (canon f) (canon fun q => m (Fin.ofNat 4 i, q))).length ≤ 256 := fun i f => by
    rw [mulT_len]
    exact Nat.mul_le_mul (canon_len _) (canon_len _)
  have hg : ∀ (i : Nat) (f : Row F), ws[i]? = some f → ∀ j k, Num.rep (42 * E) (256 * (336000 * 2 ^ 424)) (gsum ((mulT (canon f) (canon fun q => m (Fin.ofNat 4 i, q))).take j) k) := fun i f hf j k => Num.rep_mono (gs_rep hD (hmul i f hf) j k) (Nat.mul_le_mul_right _ (hlen i f))
  have hpart : ∀ i k, Num.rep (42 * E) (256 * (336000 * 2 ^ 424)) (partR ws m i k) := fun i k => by
    unfold partR
    cases e : ws[i]? with
    | none => exact Num.rep_zero hD
    | some f =>
      have := hg i f e (mulT (canon f) (canon fun q => m (Fin.ofNat 4 i, q))).length k
      rw [List.take_length] at this
      exact this
  have hfnd : ∀ t ∈ fndT ws m ws.length, Num.rep (42 * E) (256 * (336000 * 2 ^ 424)) t.2 := fun t ht => by
    unfold fndT at ht
    obtain ⟨j, _, ht⟩ := List.mem_flatMap.mp ht
    rw [(canon_mem ht).2]
    exact hpart j _
  have b1 : 336000 * 2 ^ 424 ≤ 2 ^ 470 := by
    rw [show 470 = 46 + 424 from rfl, Nat.pow_add]
    exact Nat.mul_le_mul_right _ (by decide)
  have b2 : 256 * (336000 * 2 ^ 424) ≤ 2 ^ 470 := by
    rw [← Nat.mul_assoc, show 470 = 46 + 424 from rfl, Nat.pow_add]
    exact Nat.mul_le_mul_right _ (by decide)
  have b3 : 64 * (256 * (336000 * 2 ^ 424)) ≤ 2 ^ 470 := by
    rw [← Nat.mul_assoc, ← Nat.mul_assoc, show 470 = 46 + 424 from rfl, Nat.pow_add]
    exact Nat.mul_le_mul_right _ (by decide)
  refine ⟨fun μ => nsz_of fun z => ⟨E, _, e0, e2 μ, p2_lt (Nat.le_refl _) (by decide), p2_lt (e1 z) (by decide)⟩, fun i f hf t ht => p2_nsz hD hDp b1 (hmul i f hf t ht), fun i f hf j k => p2_nsz hD hDp b2 (hg i f hf j k), fun t ht => p2_nsz hD hDp b2 (hfnd t ht), fun j k => p2_nsz hD hDp b3 (Num.rep_mono (gs_rep hD hfnd j k) (Nat.mul_le_mul_right _ ?_))⟩
  have := fnd_len ws m ws.length
  omega
end
section
variable {P : Program} {w : World} {K : PySem.W.Frag} {mg : Str → Option Value} {base : Heap} {A : Ad} {F : Type} [Num F]
theorem sc__law_is_showing : FnScope ["_law_prime_here", "_law_many", "_law_degree_here", "_law_noughts", "_law_thing", "_law_found", "_law_rows", "_law_one", "_law_own", "_law_product_here", "_law_number_here"] ["_law_prime_here", "_law_many", "_law_degree_here", "_law_noughts", "_law_thing"] (defScope (topS 75)) := ⟨rfl, rfl, rfl, by decide +kernel, rfl, by decide +kernel, by decide +kernel⟩
def spIsSh (K : PySem.W.Frag) (A : Ad) (F : Type) [Num F] : Sp := fun vs H Q _ => ∃ (n d : Nat) (ln lt : Addr) (ws : List (Row F)) (m : MRow F), vs = [.int (Num.p F), .int n, .int d, .ref ln, .ref lt] ∧ Pok (Num.p F) ∧ n ≤ 4 ∧ RwList K H ln ws ∧ ws.length ≤ 4 ∧ (∀ f ∈ ws, WRow n f) ∧ ShowOk ws n d m ∧ SmList K A H lt (showsOf m ws.length) ∧ ∀ H', Same H H' → Q (.bl true) H'
theorem c__law_is_showing (T : Txt K mg A) : Cal P w K mg base CX0 6 "_law_is_showing" ["_law_prime_here", "_law_many", "_law_degree_here", "_law_noughts", "_law_thing"] [] (spIsSh K A F) := by
  refine cal_mk T.g__law_is_showing (fun _ _ _ _ _ _ us hl => match us, hl with | [_, _, _, _, _], _ => rfl) sc__law_is_showing (fun vs H Q E h => ?_) (fun f cdv Ar outer s H vs Q E hr h => ?_)
  · obtain ⟨n, d, ln, lt, ws, m, rfl, _⟩ := h
    rfl
  · obtain ⟨n, d, ln, lt, ws, m, rfl, hp, hn, hRw, hwl, hW, hS, hSm, q⟩ := h
    obtain ⟨xs, x1, x2, x3⟩ := id hRw
    obtain ⟨ys, y1, y2, y3⟩ := id hSm
    refine ⟨_, (pss_cons (ps_if (PW.pt (pw_or (pt_not (pt_val (pe_callB call_isi (by rfl) T.isinstance (by decide +kernel) (pa_cons (pv 4) (pa_cons (pe_bltn (v := .ty "list") (by rfl) T.list (by decide +kernel) rfl) pa_nil))))) (pw_or1 (pt_cmpR op_ne (pe_callB call_len_seq (by rfl) T.len (by decide +kernel) (pa_cons (pv 4) pa_nil)) (pe_callB call_len_seq (by rfl) T.len (by decide +kernel) (pa_cons (pv 3) pa_nil)) (nomark _))))) (pss_one (ps_ret pe_bl))
      pss_nil)
      (pss_cons (ps_set (i := 5) sc__law_is_showing.nd rfl (by first | exact Or.inl rfl | exact Or.inr rfl) (pe_lst pa_nil))
      (pss_cons (ps_for PassesOwn.never rfl (pi_zip rfl T.zip (pa_cons (pv 3) (pa_cons (pv 4) pa_nil))) ((pg_tup rfl (pgs_cons (pg_name (i := 6) sc__law_is_showing.nd rfl (by first | exact Or.inl rfl | exact Or.inr rfl)) (pgs_cons (pg_name (i := 7) sc__law_is_showing.nd rfl (by first | exact Or.inl rfl | exact Or.inr rfl)) pgs_nil))))
      (pss_cons (ps_if (PW.pt (pw_or (pt_not (pt_val (pe_callB (C8.call_isC T.isS) (by rfl) T.isinstance (by decide +kernel) (pa_cons (pv 7) (pa_cons (pe_glob (v := .ref A.S) rfl T.Sum rfl) pa_nil))))) (pw_or1 (pt_cmpR op_ne (pcm0 (c_Field_prime T) T.clF (hr.mono (by decide)) (pcm0 (c_Sum_field (F := F) T) T.clS (hr.mono (by decide)) (pv 7))) (pv 0) (nomark _))))) (pss_one (ps_ret pe_bl))
      pss_nil)
      (pss_cons (ps_set (i := 8) sc__law_is_showing.nd rfl (by first | exact Or.inl rfl | exact Or.inr rfl) (pcm0 (c_Sum_terms (F := F) T) T.clS (hr.mono (by decide)) (pv 7)))
      (pss_cons (ps_if (pt_cmpR (op_neRL hr.units) (pe_lc (own := [("_law_product_here", 9), ("_law_number_here", 10)]) rfl sc__law_is_showing.nd (pi_list (pv 8)) (blkOk_by (N := ["_law_prime_here", "_law_many", "_law_degree_here", "_law_noughts", "_law_thing", "_law_found", "_law_rows", "_law_one", "_law_own", "_law_product_here", "_law_number_here"]) (sc := defScope (topS 75)) (by decide +kernel)) (fun _ _ _ _ _ => (pg_tupB (n := 2) K (by rfl) rfl (pgs_cons (pg_name (i := 9) sc__law_is_showing.nd rfl (by first | exact Or.inl rfl | exact Or.inr rfl)) (pgs_cons (pg_name (i := 10) sc__law_is_showing.nd rfl (by first | exact Or.inl rfl | exact Or.inr rfl)) pgs_nil)))) (fun _ _ _ _ _ => pts_one (PW.pt (pw_and (pt_cmpR (op_neRB K (by rfl) hr.units) (pv 9) (pe_tup pa_nil) (nomark _)) (pw_and1 (pt_cmpR op_ge (pe_ix (ix_tupB K (by rfl)) (pv 9) (pe_un un_neg pe_int) (fun _ _ => rfl)) (pv 1) (nomark _)))))) (fun _ _ _ _ _ => (pv 9))) (pe_lst pa_nil) (nomark _)) (pss_one (ps_ret pe_bl))
      pss_nil)
      (C8.pss_cut (ps_if (PW.pt (pw_and (pt_cmpR (op_neRL hr.units) (pv 8) (pe_lst pa_nil) (nomark _)) (pw_and1 (pt_cmpR op_gt (pe_op op_add (pc (c__law_degree (F := F) T) (hr.mono (by decide)) (pa_cons (pv 8) pa_nil)) (pc (c__law_degree (F := F) T) (hr.mono (by decide)) (pa_cons (pv 6) pa_nil))) (pv 2) (nomark _))))) (pss_one (ps_ret pe_bl))
      pss_nil)
      (pss_one (ps_set (i := 5) sc__law_is_showing.nd rfl (by first | exact Or.inl rfl | exact Or.inr rfl) (pe_op op_cat (pv 5) (pc (c__law_mult (F := F) T) (hr.mono (by decide)) (pa_cons (pv 0) (pa_cons (pv 6) (pa_cons (pv 8) pa_nil))))))))))))
      (pss_one (ps_ret (pe_cmpR (op_eqRL hr.units) (pc (c__law_gather (F := F) T) (hr.mono (by decide)) (pa_cons (pv 0) (pa_cons (pv 5) pa_nil))) (pe_lst (pa_cons (pe_tup (pa_cons (pe_tup pa_nil) (pa_cons (pe_tup (pa_cons pe_int (pa_cons pe_int pa_nil))) pa_nil))) pa_nil)) (nomark _))))))), ?_⟩
    refine ⟨_, rfl, _, _, .type "list", _, _, rfl, .ty _, .base (.lst y1), kit_ty (by decide +kernel), true, rfl, iteF ?_⟩
    have hsz := sh_sz hW hwl hS
    have hyl : ys.length = ws.length := by
      rw [y2]
      unfold showsOf
      rw [List.length_map, List.length_range]
    refine ⟨_, rfl, lt, _, rfl, .inl (SqL.of y1), _, rfl, ln, _, rfl, .inl (SqL.of x1), rfl, _, rfl, itNF (by rw [List.length_map, List.length_map, hyl, x2]) ?_⟩
    refine ⟨Nat.zero_le _, fun lf hlf => ?_⟩
    have sf := same_upd (o := .lst []) hlf
    refine ⟨_, rfl, _, rfl, ln, lt, _, _, rfl, SqL.of (sf _ _ x1), SqL.of (sf _ _ y1), for_it (walk_zip (n := ws.length) (by rw [List.length_map, List.length_map]; omega)) (fun i σ H1 => ∃ (l5 : Addr) (s6 s7 s8 : Option V), σ = [some (.int (Num.p F)), some (.int n), some (.int d), some (.ref ln), some (.ref lt), some (.ref l5), s6, s7, s8, none, none] ∧ Same H H1 ∧ H l5 = none ∧ TmList K H1 l5 (fndT ws m i))
      ⟨lf, none, none, none, rfl, sf, hlf, [], upd_same, rpl_nil⟩ (fun i σ H1 _ ⟨_, _, _, _, _, sm, _⟩ => ⟨SqL.of (sm _ _ x1), SqL.of (sm _ _ y1)⟩) ?_ ?_⟩
    · rintro i x σ H1 H2 hi ⟨l5, s6, s7, s8, rfl, sm, hl5, hT⟩ ⟨T0, a0, b0, rfl, hT0, rfl, ha0, hb0⟩
      have ha0 : (xs.map V.ref)[i]? = some a0 := ha0
      have hb0 : (ys.map V.ref)[i]? = some b0 := hb0
      rw [List.getElem?_map] at ha0 hb0
      obtain ⟨r, hr, rfl⟩ := Option.map_eq_some_iff.mp ha0
      obtain ⟨s0, hs0, rfl⟩ := Option.map_eq_some_iff.mp hb0
      have hf : ws[i]? = some ws[i] := List.getElem?_eq_getElem hi
      have hg : (showsOf m ws.length)[i]? = some fun q => m (Fin.ofNat 4 i, q) := by
        unfold showsOf
        rw [List.getElem?_map, List.getElem?_range hi]
        rfl
      have hi4 : i < 4 := by omega
      have sT := same_upd (o := .tup [.ref r, .ref s0]) hT0
      have sm2 := sm.trans sT
      have hSum := y3 i s0 _ hs0 hg
      have hTr := x3 i r _ hr hf
      obtain ⟨dx, fb, la, hs1, _, _⟩ := id hSum
      refine ⟨T0, _, rfl, SqT.of upd_same, rfl, _, _, rfl, _, _, rfl, rfl, ?_⟩
      refine ⟨_, rfl, s0, dx, _, rfl, sm2 _ _ hs1, _, rfl, iteF ?_⟩
      refine ⟨_, rfl, s0, dx, _, rfl, sm2 _ _ hs1, rfl, s0, (fun q => m (Fin.ofNat 4 i, q)), rfl, hSum.same sm2, fun fa hF => ?_⟩
      obtain ⟨_, dxf, hfa⟩ := id hF
      refine ⟨fa, dxf, _, rfl, hfa, rfl, fa, _, rfl, hF, _, rfl, rfl, _, rfl, itNF rfl ?_⟩
      refine ⟨_, rfl, s0, dx, _, rfl, sm2 _ _ hs1, rfl, s0, (fun q => m (Fin.ofNat 4 i, q)), rfl, hSum.same sm2, fun H3 lo sm3 hlo hTo => ?_⟩
      have sm23 := sm2.trans sm3
      obtain ⟨zs, z1, z2⟩ := id hTo
      have hfm := hW _ (List.mem_of_getElem? hf)
      have hsup : ∀ q, m (Fin.ofNat 4 i, q) ≠ 0 → q.val < 2 ^ n ∧ degR ws[i] + size q ≤ d := fun q hq => by
        obtain ⟨i2, f2, hi2, hf2, hd2, e1, e2⟩ := mem_pairs.mp (hS.sup _ hq)
        have e1 : Fin.ofNat 4 i = Fin.ofNat 4 i2 := e1
        have e3 : i = i2 := by
          have := congrArg Fin.val e1
          have a1 : (Fin.ofNat 4 i).val = i := Nat.mod_eq_of_lt hi4
          have a2 : (Fin.ofNat 4 i2).val = i2 := Nat.mod_eq_of_lt (by omega)
          omega
        subst e3
        rw [hf] at hf2
        obtain rfl := Option.some.inj hf2
        obtain ⟨u1, u2⟩ := mem_univ.mp e2
        have u2 : size q ≤ d - degR ws[i] := u2
        exact ⟨u1, by omega⟩
      refine ⟨_, rfl, lo, rfl, ⟨_, SqL.of z1⟩, fun D hD => ?_⟩
      refine lc_list (K := K) (a := lo) (xs := zs) (fun j H4 => Same H3 H4 ∧ H4 D = some (.lst [])) ⟨same_upd hD, upd_same⟩ (fun j H4 _ ⟨sm4, _⟩ => SqL.of (sm4 _ _ z1)) (fun j y H4 hj ⟨sm4, hL⟩ => ?_) (fun H4 ⟨sm4, hL⟩ => ?_)
      · obtain ⟨t, ht, rt⟩ := RpL.at_ z2 hj
        obtain ⟨c, u, v, rfl, t1, r1, r2⟩ := rp_term ((Keep.of sm4).rp rt)
        obtain ⟨h0, _⟩ := canon_mem (List.mem_of_getElem? ht)
        obtain ⟨hq, _⟩ := hsup t.1 h0
        obtain ⟨pq, epq, tpq⟩ := rp_prod r1
        cases epq
        refine ⟨c, _, rfl, t1.sq, rfl, _, _, rfl, _, _, rfl, rfl, rfl, _, rfl, Nat.zero_le _, fun t6 ht6 => ?_⟩
        have s6' := same_upd (o := .tup []) ht6
        refine ⟨pk t.1, pk 0, (Keep.of s6').rp r1, rp_tup_iff.mpr ⟨t6, [], rfl, .inl upd_same, rpl_nil⟩, (fine_pk _).1, (fine_pk _).1, _, rfl, itN2 (fun hne => ?_) (fun heq => ?_)⟩
        · obtain ⟨l9, i9, e9, h9⟩ := last_facts (five hn) hq (fun z => hne (by rw [z]))
          have tp9 := (tpq.keep (Keep.of s6')).sq
          rw [e9, List.map_append] at tp9
          refine ⟨_, rfl, _, rfl, _, _, _, .int i9, rfl, rfl, tp9, atI_last _ _, _, rfl, _, _, rfl, rfl, _, rfl, itF (by omega) ?_⟩
          exact ⟨sm4.trans s6', s6' _ _ hL⟩
        · exact ⟨sm4.trans s6', s6' _ _ hL⟩
      · refine ⟨Nat.zero_le _, fun l6 hl6 => ?_⟩
        have s46 := sm4.trans (same_upd (o := .lst []) hl6)
        refine ⟨[], [], ⟨D, [], rfl, SqL.of ((same_upd hl6) _ _ hL), rpl_nil⟩, ⟨l6, [], rfl, SqL.of upd_same, rpl_nil⟩, fineL_nil, fineL_nil, _, rfl, iteF ?_⟩
        have hTo2 : TmList K H3 lo (canon fun q => m (Fin.ofNat 4 i, q)) := ⟨zs, z1, z2⟩
        have hTr3 := hTr.same sm23
        refine ⟨fun σ H9 => σ = [some (.int (Num.p F)), some (.int n), some (.int d), some (.ref ln), some (.ref lt), some (.ref l5), some (.ref r), some (.ref s0), some (.ref lo), none, none] ∧ Same H3 H9, ?_, ?_⟩
        · refine ⟨_, rfl, Nat.zero_le _, fun l7 hl7 => ?_⟩
          have s7 := s46.trans (same_upd (o := .lst []) hl7)
          refine ⟨(canon fun q => m (Fin.ofNat 4 i, q)).map tk, [], ⟨lo, zs, rfl, SqL.of (s7 _ _ z1), RpL.keep (Keep.of s7) _ z2⟩, ⟨l7, [], rfl, SqL.of upd_same, rpl_nil⟩, fineL_tks _, fineL_nil, _, rfl, itN2 (fun hne => ?_) (fun heq => ?_)⟩
          · have hdeg : degR (fun q => m (Fin.ofNat 4 i, q)) + degR ws[i] ≤ d := by
              have hd : degR ws[i] ≤ d := by
                cases hc : canon (fun q => m (Fin.ofNat 4 i, q)) with
                | nil => rw [hc] at hne; exact absurd rfl hne
                | cons t ts =>
                  have := (hsup t.1 (canon_mem (by rw [hc]; exact List.mem_cons_self)).1).2
                  omega
              have := degR_ge (f := fun q => m (Fin.ofNat 4 i, q)) (n := d - degR ws[i]) fun q hq => by
                have := (hsup q hq).2
                omega
              omega
            refine ⟨_, rfl, lo, _, rfl, hTo2.same s7, fun H5 sm5 => ⟨_, rfl, r, ws[i], rfl, hTr3.same (s7.trans sm5), fun H6 sm6 => ⟨_, _, rfl, rfl, _, rfl, _, _, rfl, rfl, _, rfl, itF (by omega) ⟨rfl, (s7.trans sm5).trans sm6⟩⟩⟩⟩
          · exact iteF ⟨rfl, s7⟩
        · rintro σ H9 ⟨rfl, s9⟩
          have s39 := sm23.trans s9
          refine ⟨_, rfl, _, rfl, _, rfl, _, rfl, r, lo, canon ws[i], _, rfl, hp, hTr3.same s9, hTo2.same s9, canon_len _, canon_len _, (wrow_gs hfm).1, fun t ht => by rw [(canon_mem ht).2]; exact hsz.mz _, hsz.tz i _ hf, hsz.sz i _ hf, fun H10 l10 sm10 hl10 hT10 => ?_⟩
          have s310 := s39.trans sm10
          obtain ⟨as, a1, a2⟩ := hT.same (((sT.trans sm3).trans s9).trans sm10)
          obtain ⟨bs, b1, b2⟩ := hT10
          have la : as.length ≤ 64 := by
            have h1 := a2.length
            rw [List.length_map] at h1
            have := fnd_len ws m i
            omega
          have lb : bs.length ≤ 16 := by
            have h1 := b2.length
            rw [List.length_map] at h1
            have := canon_len (gsum (mulT (canon ws[i]) (canon fun q => m (Fin.ofNat 4 i, q))))
            omega
          refine ⟨l5, l10, as, bs, rfl, rfl, a1, b1, Nat.le_trans (by omega : _ ≤ 80) (by decide), fun p hp5 => ?_⟩
          have sp := same_upd (o := .lst (as ++ bs)) hp5
          refine ⟨p, _, _, _, rfl, s310.trans sp, s310.free hp5, as ++ bs, upd_same, ?_⟩
          have ep : partR ws m i = gsum (mulT (canon ws[i]) (canon fun q => m (Fin.ofNat 4 i, q))) := by
            unfold partR
            rw [hf]
          rw [fnd_succ, ep, List.map_append]
          exact RpL.app (RpL.keep (Keep.of sp) _ a2) (RpL.keep (Keep.of sp) _ b2)
    · rintro σ H1 ⟨l5, s6, s7, s8, rfl, sm, hl5, hT⟩
      have hg : gsum (fndT ws m ws.length) = fun k => if k = 0 then 1 else 0 := funext fun k => by
        rw [fnd_sum, ← comb_parts m hwl k, hS.one k]
      have hcan : canon (gsum (fndT ws m ws.length)) = [((0 : Pr), (1 : F))] := by
        rw [hg]
        unfold canon
        have e1 : (prods.filter fun q => decide ((if q = 0 then (1 : F) else 0) ≠ 0)) = [0] := by
          have e2 : (fun q : Pr => decide ((if q = 0 then (1 : F) else 0) ≠ 0)) = fun q => decide (q = 0) := funext fun q => by
            by_cases z : q = 0
            · rw [if_pos z, decide_eq_true z, decide_eq_true one_ne]
            · rw [if_neg z, decide_eq_false z, decide_eq_false (fun y => y rfl)]
          rw [e2]
          decide
        rw [e1]
        rfl
      refine ⟨_, rfl, _, rfl, l5, fndT ws m ws.length, rfl, hp, hT, hsz.az, hsz.bz, fun H2 l2 sm2 hl2 hT2 => ?_⟩
      rw [hcan] at hT2
      refine ⟨Nat.zero_le _, fun t0 ht0 => ⟨(by decide : 2 ≤ sizeLine), fun t1 ht1 => ⟨(by decide : 2 ≤ sizeLine), fun t2 ht2 => ⟨(by decide : 1 ≤ sizeLine), fun l3 hl3 => ?_⟩⟩⟩⟩
      have s0 := same_upd (o := .tup []) ht0
      have s1 := same_upd (o := .tup [.int 1, .int 1]) ht1
      have s2 := same_upd (o := .tup [.ref t0, .ref t1]) ht2
      have s3 := same_upd (o := .lst [.ref t2]) hl3
      have sA := ((s0.trans s1).trans s2).trans s3
      obtain ⟨zs, z1, z2⟩ := hT2
      have r0 : Rp K (upd H2 t0 (.tup [])) (pk 0) (.ref t0) := rp_tup_iff.mpr ⟨t0, [], rfl, .inl upd_same, rpl_nil⟩
      have r1 : Rp K (upd (upd H2 t0 (.tup [])) t1 (.tup [.int 1, .int 1])) (nk (1 : F)) (.ref t1) := rpN_nk (x := (1 : F)) Num.enc_one rp_pair
      have r2 := term_rp (K := K) (t := ((0 : Pr), (1 : F))) (x := t0) (y := t1) (a := t2) (H := upd (upd (upd H2 t0 (.tup [])) t1 (.tup [.int 1, .int 1])) t2 (.tup [.ref t0, .ref t1])) (.inl upd_same) ((Keep.of (s1.trans s2)).rp r0) ((Keep.of s2).rp r1)
      refine ⟨_, _, ⟨l2, zs, rfl, SqL.of (sA _ _ z1), RpL.keep (Keep.of sA) _ z2⟩, ⟨l3, _, rfl, SqL.of upd_same, rpl_cons ((Keep.of s3).rp r2) rpl_nil⟩, fineL_tks _, fineL_tks [((0 : Pr), (1 : F))], ?_⟩
      show Q (.bl (decide (([((0 : Pr), (1 : F))].map tk) = [tk ((0 : Pr), (1 : F))]))) _
      have e9 : decide (([((0 : Pr), (1 : F))].map tk) = [tk ((0 : Pr), (1 : F))]) = true := decide_eq_true rfl
      rw [e9]
      exact q _ ((sm.trans sm2).trans sA)
end
end FsR
end
section
/-! The law's test of worths. -/
set_option Elab.async false
set_option linter.all false
set_option maxRecDepth 100000
namespace FsR
open PySem PySem.Spec PyProof.Rows L2 LamX Fs
theorem nine {m : Int} (h1 : -4 ≤ m) (h2 : m ≤ 4) : m ∈ ([-4, -3, -2, -1, 0, 1, 2, 3, 4] : List Int) := by
  have : m = -4 ∨ m = -3 ∨ m = -2 ∨ m = -1 ∨ m = 0 ∨ m = 1 ∨ m = 2 ∨ m = 3 ∨ m = 4 := by omega
  rcases this with h | h | h | h | h | h | h | h | h <;> rw [h] <;> decide
theorem size_le4 : ∀ q : Pr, size q ≤ 4 := by decide +kernel
section
variable {F : Type} [Num F]
/-- what a row times a product is worth, its first terms -/
def totT (W : Row F) (q : Pr) (ts : List (Pr × F)) : F := sumL ts fun t => t.2 * W (jn t.1 q)
theorem totT_snoc (W : Row F) (q : Pr) {ts : List (Pr × F)} {i : Nat} {t : Pr × F} (h : ts[i]? = some t) : totT W q (ts.take (i + 1)) = totT W q (ts.take i) + t.2 * W (jn t.1 q) := by
  unfold totT
  rw [List.take_add_one, h, sumL_append]
  show _ + sumL [t] _ = _
  rw [sumL_cons, sumL_nil]
  grind
theorem totT_dot (W f : Row F) (q : Pr) : totT W q (canon f) = dot W (besR f q) := by
  rw [dot_bes]
  unfold totT
  rw [sum_canon f (fun p x => x * W (jn p q)) fun p => by grind]
  exact sumL_congr fun p _ => by grind
/-- the bounds of all that a worth's test meets -/
structure WoSz (W f : Row F) : Prop where
  w : ∀ k, NSz (W k)
  t : ∀ q, ∀ t ∈ canon f, NSz (t.2 * W (jn t.1 q))
  s : ∀ q i, NSz (totT W q ((canon f).take i))
theorem wo_sz {n : Nat} {W f : Row F} (hf : WRow n f) (hW : ∃ E : Int, E ≠ 0 ∧ (Num.p F = 0 → E.natAbs ≤ 2 ^ 400) ∧ ∀ k, Num.rep E (2 ^ 400) (W k)) : WoSz W f := by
  obtain ⟨E, e0, e1, e2⟩ := hW
  have hD : (42 * E : Int) ≠ 0 := Int.mul_ne_zero (by decide) e0
  have hDp : Num.p F = 0 → (42 * E : Int).natAbs ≤ 2 ^ 430 := fun z => by
    rw [Int.natAbs_mul]
    exact Nat.le_trans (Nat.mul_le_mul (by decide : Int.natAbs 42 ≤ 2 ^ 6) (e1 z)) (by rw [← Nat.pow_add]; exact Nat.pow_le_pow_right (by decide) (by decide))
  have hp : ∀ q, ∀ t ∈ canon f, Num.rep (42 * E) (336000 * 2 ^ 400) (t.2 * W (jn t.1 q)) := fun q t ht => by
    refine Num.rep_mul ?_ (e2 _)
    rw [(canon_mem ht).2]
    exact wrow_rep hf _
  have b1 : 336000 * 2 ^ 400 ≤ 2 ^ 470 := by
    rw [show 470 = 70 + 400 from rfl, Nat.pow_add]
    exact Nat.mul_le_mul_right _ (by decide)
  have b2 : 16 * (336000 * 2 ^ 400) ≤ 2 ^ 470 := by
    rw [← Nat.mul_assoc, show 470 = 70 + 400 from rfl, Nat.pow_add]
    exact Nat.mul_le_mul_right _ (by decide)
  refine ⟨fun k => nsz_of fun z => ⟨E, _, e0, e2 k, p2_lt (Nat.le_refl _) (by decide), p2_lt (e1 z) (by decide)⟩, fun q t ht => p2_nsz hD hDp b1 (hp q t ht), fun q i => p2_nsz hD hDp b2 (Num.rep_mono (rep_sum ((canon f).take i) (fun t => t.2 * W (jn t.1 q)) hD fun t ht => hp q t ((List.take_sublist _ _).subset ht)) (Nat.mul_le_mul_right _ ?_))⟩
  rw [List.length_take]
  have := canon_len f
  omega
theorem told_len {K : PySem.W.Frag} {H : Hp} {W : Row F} {us : List Pr} (nd : us.Nodup) {xs : List Ent} (e : EG K H pk (nv K H) (toldAt W us) xs) : xs.length = us.length := by
  obtain ⟨ks, k1, k2, k3⟩ := eg_keysOf e
  have hl : xs.length = ks.length := by
    have := congrArg List.length k1
    rwa [List.length_map, List.length_map] at this
  have h1 : ks.length ≤ us.length := nodup_le k2 fun k hk => by
    have := k3 k hk
    unfold toldAt at this
    by_cases z : k ∈ us
    · exact z
    · rw [if_neg z] at this
      cases this
  have h2 : us.length ≤ ks.length := nodup_le nd fun k hk => by
    have := e.to k (W k) (by unfold toldAt; rw [if_pos hk])
    rw [k1] at this
    obtain ⟨j, hj, ej⟩ := List.mem_map.mp this
    rwa [pk_inj ej] at hj
  omega
theorem told_at {W : Row F} {us : List Pr} {q : Pr} (h : q ∈ us) : toldAt W us q = some (W q) := by
  unfold toldAt
  rw [if_pos h]
end
section
variable {P : Program} {w : World} {K : PySem.W.Frag} {mg : Str → Option Value} {base : Heap} {A : Ad} {F : Type} [Num F]
theorem sc__law_is_worths : FnScope ["_law_prime_here", "_law_many", "_law_degree_here", "_law_noughts", "_law_thing", "_law_product_here", "_law_rows", "_law_size", "_law_total", "_law_own", "_law_number_here", "_law_both"] ["_law_prime_here", "_law_many", "_law_degree_here", "_law_noughts", "_law_thing"] (defScope (topS 76)) := ⟨rfl, rfl, rfl, by decide +kernel, rfl, by decide +kernel, by decide +kernel⟩
def spIsWo (K : PySem.W.Frag) (w : World) (F : Type) [Num F] : Sp := fun vs H Q _ => ∃ (n d : Nat) (ln e : Addr) (ws : List (Row F)) (W : Row F), vs = [.int (Num.p F), .int n, .int d, .ref ln, .ref e] ∧ Pok (Num.p F) ∧ n ≤ 4 ∧ d ≤ 4 ∧ RwList K H ln ws ∧ ws.length ≤ 4 ∧ (∀ f ∈ ws, WRow n f) ∧ WorOk ws n d W ∧ DG K w H e pk (toldAt W (univ n d)) ∧ ∀ H', Same H H' → Q (.bl true) H'
set_option maxHeartbeats 4000000 in
theorem c__law_is_worths (T : Txt K mg A) : Cal P w K mg base CX0 4 "_law_is_worths" ["_law_prime_here", "_law_many", "_law_degree_here", "_law_noughts", "_law_thing"] [] (spIsWo K w F) := by
  refine cal_mk T.g__law_is_worths (fun _ _ _ _ _ _ us hl => match us, hl with | [_, _, _, _, _], _ => rfl) sc__law_is_worths (fun vs H Q E h => ?_) (fun f cdv Ar outer s H vs Q E hr h => ?_)
  · obtain ⟨n, d, ln, e, ws, W, rfl, _⟩ := h
    rfl
  · obtain ⟨n, d, ln, e, ws, W, rfl, hp, hn, hd, hRw, hwl, hW, hWo, hDG, q⟩ := h
    obtain ⟨xs, x1, x2, x3⟩ := id hRw
    obtain ⟨es, ep, hE, eg⟩ := id hDG
    obtain ⟨lf1, lf2⟩ := lprods_facts n (five hn) d (five hd)
    have hlen := told_len (univ_nodup n d) eg
    have hd9 := nine (m := (d : Int)) (by omega) (by omega)
    have hwk : ∀ k, NSz (W k) := fun k => by
      obtain ⟨E, e0, e1, e2⟩ := hWo.sz
      exact nsz_of fun z => ⟨E, _, e0, e2 k, p2_lt (Nat.le_refl _) (by decide), p2_lt (e1 z) (by decide)⟩
    -- looking up a product
    have hlook : ∀ {H2 : Hp} {k : Pr} {b : Addr}, Same H H2 → Rp K H2 (pk k) (.ref b) → k ∈ univ n d → ∃ v, Look K w H2 (.ref e) (.ref b) (some v) ∧ Rp K H2 (nk (W k)) (.ref v) := fun {H2 k b} sm rb hk => by
      obtain ⟨es2, ep2, h1, h2⟩ := hDG.same sm
      exact look_some emb_pk h1 h2 rb (told_at hk)
    refine ⟨_, (pss_cons (ps_if (PW.pt (pw_or (pt_not (pt_val (pe_callB call_isDict (by rfl) T.isinstance (by decide +kernel) (pa_cons (pv 4) (pa_cons (pe_bltn (v := .ty "dict") (by rfl) T.dict (by decide +kernel) rfl) pa_nil))))) (pw_or1 (pt_cmpR op_ne (pe_callB call_lenDO (by rfl) T.len (by decide +kernel) (pa_cons (pv 4) pa_nil)) (pe_callB call_len_seq (by rfl) T.len (by decide +kernel) (pa_cons (pc (c__law_products T) (hr.mono (by decide)) (pa_cons (pv 1) (pa_cons (pv 2) pa_nil))) pa_nil)) (nomark _))))) (pss_one (ps_ret pe_bl))
      pss_nil)
      (pss_cons (ps_for PassesOwn.never rfl (pi_list (pc (c__law_products T) (hr.mono (by decide)) (pa_cons (pv 1) (pa_cons (pv 2) pa_nil)))) (pg_name (i := 5) sc__law_is_worths.nd rfl (by first | exact Or.inl rfl | exact Or.inr rfl))
      (pss_one (ps_if (PW.pt (pw_or (pt_cmpR (op_notInD' hr.units) (pv 5) (pv 4) (by rfl)) (pw_or1 (pt_not (pt_val (pc (c__law_is_number (F := F) T) (hr.mono (by decide)) (pa_cons (pv 0) (pa_cons (pe_ix (ix_dic hr.units) (pv 4) (pv 5) (fun _ _ => rfl)) pa_nil)))))))) (pss_one (ps_ret pe_bl))
      pss_nil)))
      (pss_cons (ps_if (pt_cmpR (op_neR hr.units) (pe_ix (ix_dic hr.units) (pv 4) (pe_tup pa_nil) (fun _ _ => rfl)) (pe_tup (pa_cons pe_int (pa_cons pe_int pa_nil))) (nomark _)) (pss_one (ps_ret pe_bl))
      pss_nil)
      (pss_cons (ps_for PassesOwn.never rfl (pi_list (pv 3)) (pg_name (i := 6) sc__law_is_worths.nd rfl (by first | exact Or.inl rfl | exact Or.inr rfl))
      (pss_cons (ps_set (i := 7) sc__law_is_worths.nd rfl (by first | exact Or.inl rfl | exact Or.inr rfl) (pe_op op_sub (pv 2) (pc (c__law_degree (F := F) T) (hr.mono (by decide)) (pa_cons (pv 6) pa_nil))))
      (pss_one (ps_for PassesOwn.never rfl (pi_list (pe_lc (own := [("_law_product_here", 5)]) (g := gName 5) rfl sc__law_is_worths.nd (pi_list (pc (c__law_products T) (hr.mono (by decide)) (pa_cons (pv 1) (pa_cons (pv 7) pa_nil)))) (blkOk_by (N := ["_law_prime_here", "_law_many", "_law_degree_here", "_law_noughts", "_law_thing", "_law_product_here", "_law_rows", "_law_size", "_law_total", "_law_own", "_law_number_here", "_law_both"]) (sc := defScope (topS 76)) (by decide +kernel)) (fun _ _ _ _ _ => pg_name (i := 5) sc__law_is_worths.nd rfl (by first | exact Or.inl rfl | exact Or.inr rfl)) (fun _ _ _ _ _ => pts_one (pt_cmpR op_ge (pv 7) pe_int (nomark _))) (fun _ _ _ _ _ => (pv 5)))) (pg_name (i := 5) sc__law_is_worths.nd rfl (by first | exact Or.inl rfl | exact Or.inr rfl))
      (pss_cons (ps_set (i := 8) sc__law_is_worths.nd rfl (by first | exact Or.inl rfl | exact Or.inr rfl) (pe_tup (pa_cons pe_int (pa_cons pe_int pa_nil))))
      (pss_cons (ps_for PassesOwn.never rfl (pi_list (pv 6)) ((pg_tup rfl (pgs_cons (pg_name (i := 9) sc__law_is_worths.nd rfl (by first | exact Or.inl rfl | exact Or.inr rfl)) (pgs_cons (pg_name (i := 10) sc__law_is_worths.nd rfl (by first | exact Or.inl rfl | exact Or.inr rfl)) pgs_nil))))
      (pss_cons (ps_set (i := 11) sc__law_is_worths.nd rfl (by first | exact Or.inl rfl | exact Or.inr rfl) (pe_callTy call_tuple_of (by rfl) T.tuple (by decide +kernel) (pa_cons (pe_callB (cr_sortedSet rfl) (by rfl) T.sorted (by decide +kernel) (pa_cons (pe_callTy (cr_setT rfl) (by rfl) T.set (by decide +kernel) (pa_cons (pe_op op_catP (pv 9) (pv 5)) pa_nil)) pa_nil)) pa_nil)))
      (pss_one (ps_set (i := 8) sc__law_is_worths.nd rfl (by first | exact Or.inl rfl | exact Or.inr rfl) (pc (c__law_plus (F := F) T) (hr.mono (by decide)) (pa_cons (pv 0) (pa_cons (pv 8) (pa_cons (pc (c__law_times (F := F) T) (hr.mono (by decide)) (pa_cons (pv 0) (pa_cons (pv 10) (pa_cons (pe_ix (ix_dic hr.units) (pv 4) (pv 11) (fun _ _ => rfl)) pa_nil)))) pa_nil))))))))
      (pss_one (ps_if (pt_cmpR (op_neR hr.units) (pv 8) (pe_tup (pa_cons pe_int (pa_cons pe_int pa_nil))) (nomark _)) (pss_one (ps_ret pe_bl))
      pss_nil))))))))
      (pss_one (ps_ret pe_bl)))))), ?_⟩
    refine ⟨_, rfl, e, es, ep, rfl, hE, true, rfl, iteF ?_⟩
    refine ⟨_, rfl, e, es, ep, rfl, hE, ?_⟩
    refine ⟨_, rfl, _, rfl, n, d, rfl, hn, hd9, fun H1 l1 sm1 hl1 hP1 => ?_⟩
    obtain ⟨ps, p1, p2⟩ := hP1
    have hpl : ps.length = (univ n d).length := by
      have h1 := p2.length
      rw [List.length_map] at h1
      omega
    refine ⟨l1, _, rfl, .inl (SqL.of p1), rfl, _, rfl, itNF (by rw [hlen, hpl]) ?_⟩
    -- all products stand in it
    refine ⟨_, rfl, _, rfl, n, d, rfl, hn, hd9, fun H2 l2 sm2 hl2 hP2 => ?_⟩
    obtain ⟨qs, q1, q2⟩ := hP2
    have s02 := sm1.trans sm2
    refine ⟨l2, rfl, ⟨_, SqL.of q1⟩, for_list (K := K) (a := l2) (xs := qs) (fun i σ H3 => ∃ s5 : Option V, σ = [some (.int (Num.p F)), some (.int n), some (.int d), some (.ref ln), some (.ref e), s5, none, none, none, none, none, none] ∧ Same H2 H3) ⟨none, rfl, Same.refl _⟩ (fun i σ H3 _ ⟨_, _, sm3⟩ => SqL.of (sm3 _ _ q1)) ?_ ?_⟩
    · rintro i x σ H3 hi ⟨s5, rfl, sm3⟩
      obtain ⟨k, hk, rk⟩ := RpL.at_ q2 hi
      obtain ⟨b, rfl⟩ := rp_pref rk
      have hku := (lf1 k).mp (List.mem_of_getElem? hk)
      have s03 := s02.trans sm3
      obtain ⟨v, lv, rv⟩ := hlook s03 ((Keep.of sm3).rp rk) hku
      refine ⟨_, rfl, _, rfl, some v, lv, _, rfl, iteF ?_⟩
      refine ⟨_, rfl, _, rfl, _, rfl, v, lv, W k, _, rfl, hp, rv, hwk k, fun H4 sm4 => ⟨true, rfl, iteF ⟨_, rfl, sm3.trans sm4⟩⟩⟩
    · rintro σ H3 ⟨s5, rfl, sm3⟩
      have s03 := s02.trans sm3
      -- the empty one
      refine ⟨_, rfl, Nat.zero_le _, fun t0 ht0 => ?_⟩
      have st0 := same_upd (o := .tup []) ht0
      have s0t := s03.trans st0
      obtain ⟨v0, lv0, rv0⟩ := hlook (k := 0) (b := t0) s0t (rp_tup_iff.mpr ⟨t0, [], rfl, .inl upd_same, rpl_nil⟩) (univ_zero n d)
      rw [hWo.one] at rv0
      refine ⟨v0, lv0, (by decide : 2 ≤ sizeLine), fun t1 ht1 => ?_⟩
      have st1 := same_upd (o := .tup [.int 1, .int 1]) ht1
      refine ⟨nk (1 : F), nk (1 : F), (Keep.of st1).rp rv0, rpN_nk (x := (1 : F)) Num.enc_one rp_pair, fine_nk _, fine_nk _, _, rfl, itNF rfl ?_⟩
      have s04 := s0t.trans st1
      -- each wish, times each product
      refine ⟨_, rfl, ln, rfl, ⟨_, SqL.of (s04 _ _ x1)⟩, for_list (K := K) (a := ln) (xs := xs.map V.ref) (fun i σ H4 => ∃ s5 s6 s7 s8 s9 s10 s11 : Option V, σ = [some (.int (Num.p F)), some (.int n), some (.int d), some (.ref ln), some (.ref e), s5, s6, s7, s8, s9, s10, s11] ∧ Same H H4) ⟨_, none, none, none, none, none, none, rfl, s04⟩ (fun i σ H4 _ ⟨_, _, _, _, _, _, _, _, sm4⟩ => SqL.of (sm4 _ _ x1)) ?_ ?_⟩
      · rintro i x σ H4 hi ⟨s5, s6, s7, s8, s9, s10, s11, rfl, sm4⟩
        rw [List.getElem?_map] at hi
        obtain ⟨r, hr, rfl⟩ := Option.map_eq_some_iff.mp hi
        have hix : i < xs.length := (List.getElem?_eq_some_iff.mp hr).1
        have hf : ws[i]? = some ws[i] := List.getElem?_eq_getElem (by omega)
        have hfm := hW _ (List.mem_of_getElem? hf)
        have hTr := x3 i r _ hr hf
        have hz := wo_sz hfm hWo.sz
        have hdeg : degR ws[i] ≤ 4 := degR_ge fun q _ => size_le4 q
        refine ⟨_, rfl, _, rfl, r, ws[i], rfl, hTr.same sm4, fun H5 sm5 => ?_⟩
        have s05 := sm4.trans sm5
        refine ⟨_, _, rfl, rfl, ?_⟩
        refine ⟨_, rfl, _, rfl, n, (d : Int) - (degR ws[i] : Nat), rfl, hn, nine (by omega) (by omega), fun H6 l6 sm6 hl6 hP6 => ?_⟩
        obtain ⟨us, u1, u2⟩ := hP6
        refine ⟨l6, rfl, ⟨_, SqL.of u1⟩, fun D hD => ?_⟩
        have s06 := s05.trans sm6
        have hsel : ∃ sel : List Pr, (∀ k ∈ sel, degR ws[i] ≤ d ∧ k ∈ univ n (d - degR ws[i])) ∧ (0 ≤ (d : Int) - (degR ws[i] : Nat) → sel = lprods n ((d : Int) - (degR ws[i] : Nat))) ∧ (¬ 0 ≤ (d : Int) - (degR ws[i] : Nat) → sel = []) := by
          by_cases hge : 0 ≤ (d : Int) - (degR ws[i] : Nat)
          · refine ⟨_, fun k hk => ?_, fun _ => rfl, fun z => absurd hge z⟩
            have e9 : (d : Int) - (degR ws[i] : Nat) = ((d - degR ws[i] : Nat) : Int) := by omega
            rw [e9] at hk
            exact ⟨by omega, ((lprods_facts n (five hn) (d - degR ws[i]) (five (by omega))).1 k).mp hk⟩
          · exact ⟨[], fun k hk => absurd hk (by simp), fun z => absurd z hge, fun _ => rfl⟩
        obtain ⟨sel, hs1, hs2, hs3⟩ := hsel
        have hul : us.length ≤ 16 := by
          have h1 := u2.length
          rw [List.length_map] at h1
          have := (lprods_dom n (five hn) ((d : Int) - (degR ws[i] : Nat)) (nine (by omega) (by omega))).2
          omega
        refine lc_list (K := K) (a := l6) (xs := us) (fun j H7 => ∃ ys, Same H6 H7 ∧ H7 D = some (.lst ys) ∧ ys.length ≤ j ∧ RpL K H7 ((sel.take j).map pk) ys) ⟨[], same_upd hD, upd_same, Nat.le_refl _, by rw [List.take_zero]; exact rpl_nil⟩ (fun j H7 _ ⟨_, sm7, _⟩ => SqL.of (sm7 _ _ u1)) (fun j x H7 hj ⟨ys, sm7, hL, hyl, hY⟩ => ?_) (fun H7 ⟨ys, sm7, hL, hyl, hY⟩ => ?_)
        · obtain ⟨k, hk, rk⟩ := RpL.at_ u2 hj
          have hjl : j < us.length := (List.getElem?_eq_some_iff.mp hj).1
          refine ⟨rfl, _, rfl, _, _, rfl, rfl, _, rfl, it2 (fun hge => ?_) (fun hlt => ?_)⟩
          · have esel := hs2 hge
            refine ⟨_, rfl, ys, hL, Nat.lt_of_le_of_lt (by omega : _ ≤ 16) (by decide), ys ++ [x], SB.same sm7 SB.upd hD, upd_same, by rw [List.length_append, List.length_singleton]; omega, ?_⟩
            have kk : Keep H7 (upd H7 D (.lst (ys ++ [x]))) := Keep.wr hL fun _ z => by cases z
            rw [List.take_add_one, esel, hk, List.map_append, ← esel]
            exact RpL.app (RpL.keep kk _ hY) (rpl_cons (((Keep.of sm7).trans kk).rp rk) rpl_nil)
          · have esel := hs3 hlt
            refine ⟨ys, sm7, hL, by omega, ?_⟩
            rw [esel, List.take_nil] at hY ⊢
            exact hY
        · have hY : RpL K H7 (sel.map pk) ys := by
            by_cases hge : 0 ≤ (d : Int) - (degR ws[i] : Nat)
            · have esel := hs2 hge
              have h1 := u2.length
              rw [List.length_map, ← esel] at h1
              rw [← h1, List.take_length] at hY
              exact hY
            · have esel := hs3 hge
              rw [esel, List.take_nil] at hY
              rw [esel]
              exact hY
          have s07 := s06.trans sm7
          obtain ⟨rs, r1, r2⟩ := hTr.same s07
          have hrl : (canon ws[i]).length = rs.length := by
            have := r2.length
            rw [List.length_map] at this
            exact this
          refine ⟨D, rfl, ⟨_, SqL.of hL⟩, for_list (K := K) (a := D) (xs := ys) (fun j σ H8 => ∃ s5 s8 s9 s10 s11 : Option V, σ = [some (.int (Num.p F)), some (.int n), some (.int d), some (.ref ln), some (.ref e), s5, some (.ref r), some (.int ((d : Int) - (degR ws[i] : Nat))), s8, s9, s10, s11] ∧ Same H7 H8) ⟨_, _, _, _, _, rfl, Same.refl _⟩ (fun j σ H8 _ ⟨_, _, _, _, _, _, sm8⟩ => SqL.of (sm8 _ _ hL)) ?_ ?_⟩
          · rintro j x σ H8 hj ⟨s5, s8, s9, s10, s11, rfl, sm8⟩
            obtain ⟨k, hk, rk⟩ := RpL.at_ hY hj
            obtain ⟨b, rfl⟩ := rp_pref rk
            obtain ⟨hdk, hku⟩ := hs1 k (List.mem_of_getElem? hk)
            refine ⟨(by decide : 2 ≤ sizeLine), fun t8 ht8 => ?_⟩
            have st8 := same_upd (o := .tup [.int 0, .int 1]) ht8
            have s78 := sm8.trans st8
            refine ⟨_, rfl, r, rfl, ⟨_, SqL.of (s78 _ _ r1)⟩, for_list (K := K) (a := r) (xs := rs) (fun c σ H9 => ∃ (v8 : Addr) (s9 s10 s11 : Option V), σ = [some (.int (Num.p F)), some (.int n), some (.int d), some (.ref ln), some (.ref e), some (.ref b), some (.ref r), some (.int ((d : Int) - (degR ws[i] : Nat))), some (.ref v8), s9, s10, s11] ∧ Same H7 H9 ∧ Rp K H9 (nk (totT W k ((canon ws[i]).take c))) (.ref v8))
              ⟨t8, _, _, _, rfl, s78, ?_⟩ (fun c σ H9 _ ⟨_, _, _, _, _, sm9, _⟩ => SqL.of (sm9 _ _ r1)) ?_ ?_⟩
            · rw [List.take_zero]
              exact rpN_nk (x := (0 : F)) Num.enc_zero rp_pair
            · rintro c y σ H9 hc ⟨v8, s9, s10, s11, rfl, sm9, rt8⟩
              obtain ⟨t, ht, rt⟩ := RpL.at_ r2 hc
              have htm := List.mem_of_getElem? ht
              obtain ⟨c2, u2', v2, rfl, t2, r3, r4⟩ := rp_term ((Keep.of sm9).rp rt)
              refine ⟨c2, _, rfl, t2.sq, rfl, _, _, rfl, _, _, rfl, rfl, ?_⟩
              obtain ⟨p1', ep1, tp1⟩ := rp_plc r3
              obtain ⟨p2', ep2, tp2⟩ := rp_plc ((Keep.of sm9).rp rk)
              cases ep1
              cases ep2
              have la1 := plc_len t.1
              have lb1 := plc_len k
              refine ⟨_, rfl, _, rfl, cat_of tp1 tp2 (by rw [List.length_map, List.length_map]; exact Nat.le_trans (by omega : _ ≤ 8) (by decide)) fun H3' c3 sm3' hc3 => ?_⟩
              rw [← List.map_append] at hc3
              refine ⟨c3, plc t.1 ++ plc k, rfl, hc3.sq, by rw [List.length_append]; omega, fun a4 m4 hm4 ha4 => ?_⟩
              rw [List.length_append] at hm4
              refine ⟨a4, _, m4, rfl, upd_same, by omega, fun ns p5 h1 h2 h3 hp5 => ?_⟩
              have ej := plc_join h1 h2
              subst ej
              refine ⟨p5, _, rfl, .inl ⟨SqL.of upd_same, fun l9 hl9 => ?_⟩⟩
              have sx := ((sm3'.trans (same_upd ha4)).trans (same_upd hp5)).trans (same_upd (o := .tup ((plc (jn t.1 k)).map V.int)) hl9)
              have s9x := sm9.trans sx
              have s0x := s07.trans s9x
              have hin : jn t.1 k ∈ univ n d := by
                have h0 := (canon_mem htm).1
                have hv := hfm.dom t.1 h0
                have hs := degR_le h0
                obtain ⟨m1, m2⟩ := mem_univ.mp hku
                have h5 := size_jn t.1 k
                exact mem_univ.mpr ⟨jn_val n (five hn) t.1 k hv m1, by omega⟩
              obtain ⟨v9, lv9, rv9⟩ := hlook (k := jn t.1 k) (b := l9) s0x (plc_rp (.inl upd_same)) hin
              refine ⟨_, rfl, _, rfl, _, rfl, _, rfl, _, rfl, _, rfl, v9, lv9, t.2, W (jn t.1 k), _, _, rfl, hp, (Keep.of sx).rp r4, rv9, (wrow_gs hfm).1 t htm, hwk _, fun H10 v10 sm10 r10 => ?_⟩
              refine ⟨totT W k ((canon ws[i]).take c), t.2 * W (jn t.1 k), _, _, rfl, hp, (Keep.of (sx.trans sm10)).rp rt8, r10, hz.s k c, hz.t k t htm, fun H11 v11 sm11 r11 => ?_⟩
              obtain ⟨c11, rfl⟩ := rp_ref r11
              exact ⟨c11, _, _, _, rfl, (s9x.trans sm10).trans sm11, by rw [totT_snoc W k ht]; exact r11⟩
            · rintro σ H9 ⟨v8, s9, s10, s11, rfl, sm9, rt8⟩
              have htot : totT W k ((canon ws[i]).take rs.length) = 0 := by
                rw [← hrl, List.take_length, totT_dot, ← gg_at hf (by omega)]
                exact hWo.nil _ (mem_pairs.mpr ⟨i, ws[i], by omega, hf, hdk, rfl, hku⟩)
              rw [htot] at rt8
              refine ⟨_, rfl, (by decide : 2 ≤ sizeLine), fun t9 ht9 => ?_⟩
              have st9 := same_upd (o := .tup [.int 0, .int 1]) ht9
              exact ⟨nk (0 : F), nk (0 : F), (Keep.of st9).rp rt8, rpN_nk (x := (0 : F)) Num.enc_zero rp_pair, fine_nk _, fine_nk _, _, rfl, itNF rfl ⟨_, _, _, _, _, rfl, sm9.trans st9⟩⟩
          · rintro σ H8 ⟨s5, s8, s9, s10, s11, rfl, sm8⟩
            exact ⟨_, _, _, _, _, _, _, rfl, s07.trans sm8⟩
      · rintro σ H4 ⟨s5, s6, s7, s8, s9, s10, s11, rfl, sm4⟩
        exact q _ sm4
end
end FsR
end
section
/-! The law's word. -/
set_option Elab.async false
set_option linter.all false
set_option maxRecDepth 100000
namespace FsR
open PySem PySem.Spec PyProof.Rows L2 LamX Fs
section
variable {P : Program} {w : World} {K : PySem.W.Frag} {mg : Str → Option Value} {base : Heap} {A : Ad} {F : Type} [Num F]
theorem sc__law_word : FnScope ["_law_system_here", "_law_prime_here", "_law_many", "_law_degree_here", "_law_noughts", "_law_found"] ["_law_system_here", "_law_prime_here", "_law_many", "_law_degree_here", "_law_noughts"] (defScope (topS 80)) := ⟨rfl, rfl, rfl, by decide +kernel, rfl, by decide +kernel, by decide +kernel⟩
def spLword (K : PySem.W.Frag) (A : Ad) (F : Type) [Num F] : Sp := fun vs H Q _ => ∃ (a : Addr) (n d : Nat) (ln : Addr) (ws : List (Row F)), vs = [.ref a, .int (Num.p F), .int n, .int d, .ref ln] ∧ Pok (Num.p F) ∧ SysAt K A H a n ws ∧ n ≤ 4 ∧ d ≤ 4 ∧ RwList K H ln ws ∧ ws.length ≤ 4 ∧ (∀ f ∈ ws, WRow n f) ∧ Tabs A.tabs H ∧
  (∀ H' m, Grw A.tabs H H' → ShowOk ws n d m → Q (.str "showing") H') ∧ (∀ H' W, Grw A.tabs H H' → WorOk ws n d W → Q (.str "worths") H')
theorem c__law_word (T : Txt K mg A) (X0 : TX base mg A) : Cal P w K mg base CX0 9 "_law_word" ["_law_system_here", "_law_prime_here", "_law_many", "_law_degree_here", "_law_noughts"] [] (spLword K A F) := by
  refine cal_mk T.g__law_word (fun _ _ _ _ _ _ us hl => match us, hl with | [_, _, _, _, _], _ => rfl) sc__law_word (fun vs H Q E h => ?_) (fun f cdv Ar outer s H vs Q E hr h => ?_)
  · obtain ⟨a, n, d, ln, ws, rfl, _⟩ := h
    rfl
  · obtain ⟨a, n, d, ln, ws, rfl, hp, hY, hn, hd, hRw, hwl, hW, hT, q1, q2⟩ := h
    refine ⟨_, (pss_cons (ps_set (i := 5) sc__law_word.nd rfl (by first | exact Or.inl rfl | exact Or.inr rfl) (pc (c_told (F := F) T X0) (hr.mono (by decide)) (pa_cons (pv 0) (pa_cons (pv 3) pa_nil))))
      (pss_cons (ps_if (PW.pt (pw_or (pt_not (pt_val (pe_callB call_isi (by rfl) T.isinstance (by decide +kernel) (pa_cons (pv 5) (pa_cons (pe_bltn (v := .ty "tuple") (by rfl) T.tuple (by decide +kernel) rfl) pa_nil))))) (pw_or1 (pt_cmpR op_ne (pe_callB call_len_seq (by rfl) T.len (by decide +kernel) (pa_cons (pv 5) pa_nil)) pe_int (nomark _))))) (pss_one (ps_ret pe_non))
      pss_nil)
      (pss_cons (ps_if (PW.pt (pw_and (pt_cmpR op_eq (pe_ix ix_tup (pv 5) pe_int (fun _ _ => rfl)) pe_str (nomark _)) (pw_and1 (pt_val (pc (c__law_is_showing (F := F) T) (hr.mono (by decide)) (pa_cons (pv 1) (pa_cons (pv 2) (pa_cons (pv 3) (pa_cons (pv 4) (pa_cons (pe_ix ix_tup (pv 5) pe_int (fun _ _ => rfl)) pa_nil)))))))))) (pss_one (ps_ret pe_str))
      pss_nil)
      (pss_cons (ps_if (PW.pt (pw_and (pt_cmpR op_eq (pe_ix ix_tup (pv 5) pe_int (fun _ _ => rfl)) pe_str (nomark _)) (pw_and1 (pt_val (pc (c__law_is_worths (F := F) T) (hr.mono (by decide)) (pa_cons (pv 1) (pa_cons (pv 2) (pa_cons (pv 3) (pa_cons (pv 4) (pa_cons (pe_ix ix_tup (pv 5) pe_int (fun _ _ => rfl)) pa_nil)))))))))) (pss_one (ps_ret pe_str))
      pss_nil)
      (pss_one (ps_ret pe_non)))))), ?_⟩
    refine ⟨_, rfl, _, rfl, a, n, d, ws, rfl, hY, hn, hwl, hd, wsz_of hW, fun f hf => (hW f hf).dom, hT, fun H1 t l m g1 hl hS ht hSm => ?_, fun H1 t e W g1 he hWo ht hDG => ?_⟩
    · refine ⟨_, rfl, _, _, .type "tuple", _, _, rfl, .ty _, tp_ty ht, kit_ty (by decide +kernel), true, rfl, iteF ?_⟩
      refine ⟨_, rfl, t, _, rfl, .inr ht.sq, rfl, _, rfl, itNF rfl ?_⟩
      refine ⟨_, rfl, _, _, _, .str _, rfl, rfl, ht.sq, at_of (j := 0) rfl rfl, rfl, _, rfl, itT (by decide +kernel) ?_⟩
      exact ⟨_, rfl, _, rfl, _, rfl, _, rfl, _, rfl, _, _, _, .ref l, rfl, rfl, ht.sq, at_of (j := 1) rfl rfl, n, d, ln, l, ws, m, rfl, hp, hn, hRw.grw g1, hwl, hW, hS, hSm, fun H2 sm2 => ⟨true, rfl, iteBT rfl (q1 _ m (g1.trans (.of sm2)) hS)⟩⟩
    · refine ⟨_, rfl, _, _, .type "tuple", _, _, rfl, .ty _, tp_ty ht, kit_ty (by decide +kernel), true, rfl, iteF ?_⟩
      refine ⟨_, rfl, t, _, rfl, .inr ht.sq, rfl, _, rfl, itNF rfl ?_⟩
      refine ⟨_, rfl, _, _, _, .str _, rfl, rfl, ht.sq, at_of (j := 0) rfl rfl, rfl, _, rfl, itF (by decide +kernel) ?_⟩
      refine iteF ?_
      refine ⟨_, rfl, _, _, _, .str _, rfl, rfl, ht.sq, at_of (j := 0) rfl rfl, rfl, _, rfl, itT (by decide +kernel) ?_⟩
      exact ⟨_, rfl, _, rfl, _, rfl, _, rfl, _, rfl, _, _, _, .ref e, rfl, rfl, ht.sq, at_of (j := 1) rfl rfl, n, d, ln, e, ws, W, rfl, hp, hn, hd, hRw.grw g1, hwl, hW, hWo, hDG, fun H2 sm2 => ⟨true, rfl, iteBT rfl (q2 _ W (g1.trans (.of sm2)) hWo)⟩⟩
end
end FsR
end
section
/-! What the law asks of a system's words. -/
set_option Elab.async false
set_option linter.all false
set_option maxRecDepth 100000
namespace FsR
open PySem PySem.Spec PyProof.Rows L2 LamX Fs
/-- a list of rows as data -/
def rowD {F : Type} [Num F] (f : Row F) : PyData := .list (NestedKey.datas ((canon f).map tk))
theorem row_shape {F : Type} [Num F] (f : Row F) : (rowD f).canLay0 = true ∧ (rowD f).depth ≤ 20 := by
  have h1 : numsB ((canon f).map tk) = true := numsB_all fun d hd => by
    obtain ⟨t, _, rfl⟩ := List.mem_map.mp hd
    exact numB_tk t
  have h2 : PyData.depthAll (NestedKey.datas ((canon f).map tk)) ≤ 9 := depthAll_le fun d hd => by
    obtain ⟨t, _, rfl⟩ := List.mem_map.mp hd
    exact dep_tk t
  unfold rowD
  refine ⟨?_, ?_⟩
  · simp only [PyData.canLay0]
    exact lay_ofs _ h1
  · simp only [PyData.depth]
    omega
theorem rows_shape {F : Type} [Num F] (fs : List (Row F)) : SeqAt.shaped (.list (fs.map rowD)) = true := by
  have h1 : PyData.canLayAll0 (fs.map rowD) = true := by
    induction fs with
    | nil => simp [PyData.canLayAll0]
    | cons f fs ih => simp [PyData.canLayAll0, (row_shape f).1, ih]
  have h2 : PyData.depthAll (fs.map rowD) ≤ 20 := by
    induction fs with
    | nil => simp [PyData.depthAll]
    | cons f fs ih =>
      have ih := ih (by simp only [List.map_cons, PyData.canLayAll0, Bool.and_eq_true] at h1; exact h1.2)
      have := (row_shape f).2
      simp only [List.map_cons, PyData.depthAll]
      omega
  show ((PyData.list (fs.map rowD)).canLay0 && decide ((PyData.list (fs.map rowD)).depth ≤ 64)) = true
  have e : (PyData.list (fs.map rowD)).canLay0 = true := by
    simp only [PyData.canLay0]
    exact h1
  rw [e, decide_eq_true (by simp only [PyData.depth]; omega)]
  rfl
theorem rows_dp {K : PySem.W.Frag} {F : Type} [Num F] {H : Hp} : ∀ (sel : List (Addr × Row F)), (∀ p ∈ sel, TmList K H p.1 (canon p.2)) → DpAll K H (sel.map fun p => V.ref p.1) (sel.map fun p => rowD p.2)
  | [], _ => .nil
  | p :: sel, h => by
    refine .cons ?_ (rows_dp sel fun q hq => h q (List.mem_cons_of_mem _ hq))
    obtain ⟨xs, h1, h2⟩ := h p List.mem_cons_self
    exact RpList.dp ⟨p.1, xs, rfl, SqL.of h1, h2⟩
/-- all but a list stands -/
theorem SB.keepL {p : Addr} {H H' : Hp} {xs : List V} (s : SB p H H') (h : H p = some (.lst xs)) : Keep H H' := fun b ys e => s b _ (fun z => by
  rw [z, h] at e
  cases e) e
theorem fk_shape : ∀ n ∈ ([0, 1, 2, 3, 4] : List Nat), ∀ x : Pr, numB (fk n x) = true ∧ decide ((fk n x).data.depth ≤ 8) = true := by decide +kernel
theorem fineL_fks {n : Nat} (hn : n ≤ 4) (us : List Pr) : FineL (us.map (fk n)) := by
  refine fineL_of (numsB_all fun d hd => ?_) (Nat.le_trans (depthAll_le (n := 8) fun d hd => ?_) (by decide))
  · obtain ⟨x, _, rfl⟩ := List.mem_map.mp hd
    exact (fk_shape n (five hn) x).1
  · obtain ⟨x, _, rfl⟩ := List.mem_map.mp hd
    exact of_decide_eq_true (fk_shape n (five hn) x).2
section
variable {P : Program} {w : World} {K : PySem.W.Frag} {mg : Str → Option Value} {base : Heap} {A : Ad} {F : Type} [Num F]
theorem sc__law_right : FnScope ["_law_system_here", "_law_prime_here", "_law_many", "_law_noughts", "_law_filled", "_law_row", "_law_rows", "_law_ahead", "_law_degree_here", "_law_word_here"] ["_law_system_here", "_law_prime_here", "_law_many", "_law_noughts"] (defScope (topS 81)) := ⟨rfl, rfl, rfl, by decide +kernel, rfl, by decide +kernel, by decide +kernel⟩
def spLright (K : PySem.W.Frag) (A : Ad) (F : Type) [Num F] : Sp := fun vs H Q _ => ∃ (a : Addr) (n : Nat) (ln : Addr) (ws : List (Row F)), vs = [.ref a, .int (Num.p F), .int n, .ref ln] ∧ Pok (Num.p F) ∧ SysAt K A H a n ws ∧ n ≤ 4 ∧ RwList K H ln ws ∧ ws.length ≤ 4 ∧ (∀ f ∈ ws, WRow n f) ∧ Tabs A.tabs H ∧
  (∀ H', Grw A.tabs H H' → Q (.bl true) H')
theorem c__law_right (T : Txt K mg A) (X0 : TX base mg A) : Cal P w K mg base CX0 10 "_law_right" ["_law_system_here", "_law_prime_here", "_law_many", "_law_noughts"] [] (spLright K A F) := by
  refine cal_mk T.g__law_right (fun _ _ _ _ _ _ us hl => match us, hl with | [_, _, _, _], _ => rfl) sc__law_right (fun vs H Q E h => ?_) (fun f cdv Ar outer s H vs Q E hr h => ?_)
  · obtain ⟨a, n, ln, ws, rfl, _⟩ := h
    rfl
  · obtain ⟨a, n, ln, ws, rfl, hp, hY, hn, hRw, hwl, hW, hT, q⟩ := h
    obtain ⟨xs, x1, x2, x3⟩ := id hRw
    refine ⟨_, (pss_cons (ps_set (i := 4) sc__law_right.nd rfl (by first | exact Or.inl rfl | exact Or.inr rfl) (pe_lst pa_nil))
      (pss_cons (ps_for PassesOwn.never rfl (pi_list (pc (c__law_all T) (hr.mono (by decide)) (pa_cons (pv 2) pa_nil))) (pg_name (i := 5) sc__law_right.nd rfl (by first | exact Or.inl rfl | exact Or.inr rfl))
      (pss_one (ps_if (pt_cmpR (op_eqD hr.units) (pe_lc (own := [("_law_rows", 6)]) (g := gName 6) rfl sc__law_right.nd (pi_list (pv 3)) (blkOk_by (N := ["_law_system_here", "_law_prime_here", "_law_many", "_law_noughts", "_law_filled", "_law_row", "_law_rows", "_law_ahead", "_law_degree_here", "_law_word_here"]) (sc := defScope (topS 81)) (by decide +kernel)) (fun _ _ _ _ _ => pg_name (i := 6) sc__law_right.nd rfl (by first | exact Or.inl rfl | exact Or.inr rfl)) (fun _ _ _ _ _ => pts_one (pt_cmpR (op_neRB K (by rfl) hr.units) (pc (c__law_worth (F := F) T) (hr.mono (by decide)) (pa_cons (pv 1) (pa_cons (pv 6) (pa_cons (pv 5) pa_nil)))) (pe_tup (pa_cons pe_int (pa_cons pe_int pa_nil))) (nomark _))) (fun _ _ _ _ _ => (pv 6))) (pe_lst pa_nil) (nomark _)) (pss_one (ps_expr (pe_bm PySem.F.plainAttrs_list PySem.F.slot_list_append PySem.F.type_list_append mt_append (pv 4) (pa_cons (pv 5) pa_nil))))
      pss_nil)))
      (pss_cons (ps_set (i := 7) sc__law_right.nd rfl (by first | exact Or.inl rfl | exact Or.inr rfl) pe_str)
      (pss_cons (ps_for PassesOwn.never rfl (pi_range1 rfl T.range (pa_cons pe_int pa_nil)) (pg_name (i := 8) sc__law_right.nd rfl (by first | exact Or.inl rfl | exact Or.inr rfl))
      (pss_cons (ps_set (i := 9) sc__law_right.nd rfl (by first | exact Or.inl rfl | exact Or.inr rfl) (pc (c__law_word (F := F) T X0) (hr.mono (by decide)) (pa_cons (pv 0) (pa_cons (pv 1) (pa_cons (pv 2) (pa_cons (pv 8) (pa_cons (pv 3) pa_nil)))))))
      (pss_cons (ps_if (PW.pt (pw_or (pt_cmpR op_isN (pv 9) pe_non (nomark _)) (pw_or (PW.pt (pw_and (pt_cmpR op_eq (pv 7) pe_str (nomark _)) (pw_and1 (pt_cmpR op_ne (pv 9) pe_str (nomark _))))) (pw_or1 (PW.pt (pw_and (pt_cmpR (op_neRL hr.units) (pv 4) (pe_lst pa_nil) (nomark _)) (pw_and1 (pt_cmpR op_eq (pv 9) pe_str (nomark _))))))))) (pss_one (ps_ret pe_bl))
      pss_nil)
      (pss_one (ps_set (i := 7) sc__law_right.nd rfl (by first | exact Or.inl rfl | exact Or.inr rfl) (pv 9))))))
      (pss_one (ps_ret pe_bl)))))), ?_⟩
    refine ⟨Nat.zero_le _, fun lf hlf => ?_⟩
    have sf := same_upd (o := .lst []) hlf
    refine ⟨_, rfl, n, rfl, hn, fun H1 la sm1 hla hFl => ?_⟩
    obtain ⟨fs, f1, f2⟩ := hFl
    obtain ⟨dom, flen⟩ := lfills_dom n (five hn)
    have s01 := sf.trans sm1
    have hla' : la ≠ lf := fun z => by
      have := upd_same (H := H) (a := lf) (o := .lst [])
      subst z
      rw [this] at hla
      cases hla
    refine ⟨la, rfl, ⟨_, SqL.of f1⟩, for_list (K := K) (a := la) (xs := fs) (fun i σ H2 => ∃ (s5 s6 s7 s8 s9 : Option V) (us : List Pr) (ys : List V), σ = [some (.ref a), some (.int (Num.p F)), some (.int n), some (.ref ln), some (.ref lf), s5, s6, s7, s8, s9] ∧ Same H H2 ∧ SB lf H1 H2 ∧ H2 lf = some (.lst ys) ∧ ys.length ≤ i ∧ RpL K H2 (us.map (fk n)) ys ∧ ∀ x ∈ us, ∀ f ∈ ws, evalT (canon f) x = 0) ⟨none, none, none, none, none, [], [], rfl, s01, SB.refl _ _, sm1 _ _ upd_same, Nat.le_refl _, rpl_nil, fun x h => absurd h (by simp)⟩ ?_ ?_ ?_⟩
    · exact fun i σ H2 _ ⟨_, _, _, _, _, _, _, _, _, sb, _⟩ => SqL.of (sb _ _ hla' f1)
    · rintro i x σ H2 hi ⟨s5, s6, s7, s8, s9, us, ys, rfl, sm2, sb, hL, hyl, hYl, hU⟩
      obtain ⟨x9, hx9, rx9⟩ := RpL.at_ f2 hi
      have sb0 : Keep H1 H2 := sb.keepL (sm1 _ _ upd_same)
      have rx := sb0.rp rx9
      obtain ⟨u, rfl, tu⟩ := rp_fk rx
      refine ⟨_, rfl, ln, rfl, ⟨_, SqL.of (sm2 _ _ x1)⟩, fun D hD => ?_⟩
      refine lc_list (K := K) (a := ln) (xs := xs.map V.ref) (fun j H5 => ∃ sel : List (Addr × Row F), Same H2 H5 ∧ H5 D = some (.lst (sel.map fun p => V.ref p.1)) ∧ sel.length ≤ j ∧ (∀ p ∈ sel, TmList K H p.1 (canon p.2)) ∧ (sel = [] → ∀ f ∈ ws.take j, evalT (canon f) x9 = 0)) ⟨[], same_upd hD, upd_same, Nat.le_refl _, fun p hp => absurd hp (by simp), fun _ f hf => absurd hf (by simp)⟩ (fun j H5 _ ⟨_, sm5, _⟩ => SqL.of (sm5 _ _ (sm2 _ _ x1))) (fun j y H5 hj ⟨sel, sm5, hD5, hsl, hsel, hz⟩ => ?_) (fun H5 ⟨sel, sm5, hD5, hsl, hsel, hz⟩ => ?_)
      · rw [List.getElem?_map] at hj
        obtain ⟨r, hr, rfl⟩ := Option.map_eq_some_iff.mp hj
        have hjx : j < xs.length := (List.getElem?_eq_some_iff.mp hr).1
        have hf : ws[j]? = some ws[j] := List.getElem?_eq_getElem (by omega)
        have hfm := hW _ (List.mem_of_getElem? hf)
        have hTr := x3 j r _ hr hf
        have hcz := canon_nsz fun k => wrow_rep hfm k
        refine ⟨rfl, _, rfl, _, rfl, _, rfl, r, canon ws[j], n, x9, _, rfl, hp, hTr.same (sm2.trans sm5), canon_dom hfm.dom, (Keep.of sm5).rp rx, hn, hcz.1, fun i => hcz.2 x9 i, fun H6 v6 sm6 r6 => ?_⟩
        obtain ⟨c6, rfl⟩ := rp_ref r6
        refine ⟨(by decide : 2 ≤ sizeLine), fun t7 ht7 => ?_⟩
        have s7 := same_upd (o := .tup [.int 0, .int 1]) ht7
        have s57 := sm6.trans s7
        refine ⟨nk (evalT (canon ws[j]) x9), nk (0 : F), (Keep.of s7).rp r6, rpN_nk (x := (0 : F)) Num.enc_zero rp_pair, fine_nk _, fine_nk _, _, rfl, itN2 (fun hne => ?_) (fun heq => ?_)⟩
        · refine ⟨_, rfl, _, s57 _ _ hD5, ?_, sel ++ [(r, ws[j])], SB.same (sm5.trans s57) SB.upd hD, ?_, ?_, fun p hp => ?_, fun z => absurd z (by simp)⟩
          · rw [List.length_map]
            exact Nat.lt_of_le_of_lt (by omega : _ ≤ 4) (by decide)
          · rw [upd_same, List.map_append]
            rfl
          · rw [List.length_append, List.length_singleton]
            omega
          · rcases List.mem_append.mp hp with h | h
            · exact hsel p h
            · rw [List.mem_singleton.mp h]
              exact hTr
        · refine ⟨sel, sm5.trans s57, s57 _ _ hD5, by omega, hsel, fun z f hf2 => ?_⟩
          rw [List.take_add_one, hf] at hf2
          rcases List.mem_append.mp hf2 with h | h
          · exact hz z f h
          · have : f = ws[j] := by simpa using h
            rw [this]
            exact nk_inj heq
      · rw [List.length_map, x2, List.take_length] at hz
        refine ⟨Nat.zero_le _, fun l6 hl6 => ?_⟩
        have s6' := same_upd (o := .lst []) hl6
        have s56 := sm5.trans s6'
        have s06 := sm2.trans s56
        refine ⟨.list (sel.map fun p : Addr × Row F => rowD p.2), .list [], .lst (SqL.of (s6' _ _ hD5)) (rows_dp sel fun p hp => (hsel p hp).same s06), .lst (SqL.of upd_same) .nil, ?_, by decide +kernel, _, rfl, ?_⟩
        · have := rows_shape (sel.map fun p => p.2)
          rw [List.map_map] at this
          exact this
        · cases sel with
          | nil =>
            refine iteBT (by simp [PyData.eqv, PyData.eqvAll]) ?_
            have hL6 := s56 _ _ hL
            have kk : Keep (upd H5 l6 (.lst [])) (upd (upd H5 l6 (.lst [])) lf (.lst (ys ++ [.ref u]))) := Keep.wr hL6 fun _ z => by cases z
            refine ⟨_, rfl, .inl ⟨rfl, _, SqL.of hL6⟩, _, rfl, lf, ys, _, rfl, rfl, hL6, ?_, _, _, _, _, _, us ++ [x9], ys ++ [.ref u], rfl, SB.same s06 SB.upd hlf, (sb.trans (.of s56)).trans SB.upd, upd_same, ?_, ?_, fun y hy f hf => ?_⟩
            · have : i < fs.length := (List.getElem?_eq_some_iff.mp hi).1
              have h9 := f2.length
              rw [List.length_map] at h9
              exact Nat.lt_of_le_of_lt (by omega : _ ≤ 16) (by decide)
            · rw [List.length_append, List.length_singleton]
              omega
            · rw [List.map_append]
              exact RpL.app (RpL.keep ((Keep.of s56).trans kk) _ hYl) (rpl_cons (((Keep.of s56).trans kk).rp rx) rpl_nil)
            · rcases List.mem_append.mp hy with h | h
              · exact hU y h f hf
              · rw [List.mem_singleton.mp h]
                exact hz rfl f hf
          | cons p sel => exact iteBF (by simp [PyData.eqv, PyData.eqvAll]) ⟨_, _, _, _, _, us, ys, rfl, s06, sb.trans (.of s56), s56 _ _ hL, by omega, RpL.keep (Keep.of s56) _ hYl, hU⟩
    · rintro σ H2 ⟨s5, s6, s7, s8, s9, us, ys, rfl, sm2, sb, hL, hyl, hYl, hU⟩
      refine ⟨_, rfl, by decide, by decide, for_range (lo := 0) (n := 5) (fun i σ H3 => ∃ (s5 s6 s8 s9 : Option V) (z : Str), σ = [some (.ref a), some (.int (Num.p F)), some (.int n), some (.ref ln), some (.ref lf), s5, s6, some (.str z), s8, s9] ∧ Grw A.tabs H2 H3 ∧ (z = "worths" ∨ (z = "showing" ∧ ∃ d m, d < i ∧ ShowOk ws n d m))) ⟨_, _, _, _, "worths", rfl, .refl _, .inl rfl⟩ ?_ ?_⟩
      · rintro i σ H3 hi ⟨s5, s6, s8, s9, z, rfl, g3, hz⟩
        have g03 := (Grw.of sm2).trans g3
        refine ⟨_, rfl, _, rfl, _, rfl, _, rfl, _, rfl, a, n, i, ln, ws, congrArg (fun z : Int => [V.ref a, V.int (Num.p F), V.int n, V.int z, V.ref ln]) (Int.zero_add (i : Int)), hp, hY.grw g03, hn, by omega, hRw.grw g03, hwl, hW, g03.tabs hT, fun H4 m g4 hS => ?_, fun H4 W g4 hWo => ?_⟩
        · have g24 := g3.trans g4
          have hL4 := g24.ext _ _ hL fun _ z => by cases z
          have hY4 := RpL.keep g24.keep _ hYl
          refine ⟨_, rfl, rfl, _, rfl, itF (fun z => by cases z) ?_⟩
          have fin : ∀ H5, Same H4 H5 → ∃ (s5' s6' s8' s9' : Option V) (z : Str), ([some (.ref a), some (.int (Num.p F)), some (.int n), some (.ref ln), some (.ref lf), s5, s6, some (.str "showing"), some (.int (0 + (i : Nat))), some (.str "showing")] : List (Option V)) = [some (.ref a), some (.int (Num.p F)), some (.int n), some (.ref ln), some (.ref lf), s5', s6', some (.str z), s8', s9'] ∧ Grw A.tabs H2 H5 ∧ (z = "worths" ∨ (z = "showing" ∧ ∃ d m, d < i + 1 ∧ ShowOk ws n d m)) := fun H5 s5 => ⟨_, _, _, _, "showing", rfl, g24.trans (.of s5), .inr ⟨rfl, i, m, by omega, hS⟩⟩
          have rest : ∀ H5, Same H4 H5 → ∀ (hne : us ≠ []), False := fun H5 _ hne => by
            cases us with
            | nil => exact hne rfl
            | cons x us => exact fill_no (hU x List.mem_cons_self) hS
          have us0 : us = [] := Classical.byContradiction fun z => rest H4 (Same.refl _) z
          subst us0
          have hz2 : z = "worths" ∨ z = "showing" := hz.imp id fun h => h.1
          rcases hz2 with rfl | rfl
          · refine ⟨_, rfl, rfl, _, rfl, itF (by decide +kernel) (iteF ?_)⟩
            refine ⟨_, rfl, Nat.zero_le _, fun l9 hl9 => ⟨[], [], ⟨lf, ys, rfl, SqL.of ((same_upd hl9) _ _ hL4), RpL.keep (Keep.of (same_upd hl9)) _ hY4⟩, ⟨l9, [], rfl, SqL.of upd_same, rpl_nil⟩, fineL_nil, fineL_nil, _, rfl, iteF (iteF ?_)⟩⟩
            exact ⟨_, rfl, fin _ (same_upd hl9)⟩
          · refine ⟨_, rfl, rfl, _, rfl, itT (by decide +kernel) ⟨_, rfl, rfl, _, rfl, itNF rfl ?_⟩⟩
            refine ⟨_, rfl, Nat.zero_le _, fun l9 hl9 => ⟨[], [], ⟨lf, ys, rfl, SqL.of ((same_upd hl9) _ _ hL4), RpL.keep (Keep.of (same_upd hl9)) _ hY4⟩, ⟨l9, [], rfl, SqL.of upd_same, rpl_nil⟩, fineL_nil, fineL_nil, _, rfl, iteF (iteF ?_)⟩⟩
            exact ⟨_, rfl, fin _ (same_upd hl9)⟩
        · have g24 := g3.trans g4
          have hL4 := g24.ext _ _ hL fun _ z => by cases z
          have hY4 := RpL.keep g24.keep _ hYl
          refine ⟨_, rfl, rfl, _, rfl, itF (fun z => by cases z) ?_⟩
          have hz2 : z = "worths" := hz.elim id fun ⟨_, d, m, hd, hS⟩ => (show_up (by omega) hS hWo).elim
          subst hz2
          refine ⟨_, rfl, rfl, _, rfl, itF (by decide +kernel) (iteF ?_)⟩
          have fin : ∀ H5, Same H4 H5 → ∃ (s5' s6' s8' s9' : Option V) (z : Str), ([some (.ref a), some (.int (Num.p F)), some (.int n), some (.ref ln), some (.ref lf), s5, s6, some (.str "worths"), some (.int (0 + (i : Nat))), some (.str "worths")] : List (Option V)) = [some (.ref a), some (.int (Num.p F)), some (.int n), some (.ref ln), some (.ref lf), s5', s6', some (.str z), s8', s9'] ∧ Grw A.tabs H2 H5 ∧ (z = "worths" ∨ (z = "showing" ∧ ∃ d m, d < i + 1 ∧ ShowOk ws n d m)) := fun H5 s5 => ⟨_, _, _, _, "worths", rfl, g24.trans (.of s5), .inl rfl⟩
          refine ⟨_, rfl, Nat.zero_le _, fun l9 hl9 => ⟨us.map (fk n), [], ⟨lf, ys, rfl, SqL.of ((same_upd hl9) _ _ hL4), RpL.keep (Keep.of (same_upd hl9)) _ hY4⟩, ⟨l9, [], rfl, SqL.of upd_same, rpl_nil⟩, fineL_fks hn us, fineL_nil, _, rfl, itN2 (fun hne => ?_) (fun heq => ?_)⟩⟩
          · exact ⟨_, rfl, rfl, _, rfl, itF (by decide +kernel) ⟨_, rfl, fin _ (same_upd hl9)⟩⟩
          · exact iteF ⟨_, rfl, fin _ (same_upd hl9)⟩
      · rintro σ H3 ⟨s5, s6, s8, s9, z, rfl, g3, hz⟩
        exact q _ ((Grw.of sm2).trans g3)
end
end FsR
end
section
/-! Told again. -/
set_option Elab.async false
set_option linter.all false
set_option maxRecDepth 100000
namespace FsR
open PySem PySem.Spec PyProof.Rows L2 LamX Fs
section
variable {P : Program} {w : World} {K : PySem.W.Frag} {mg : Str → Option Value} {base : Heap} {A : Ad} {F : Type} [Num F]
/-- a list or a dict is emptied -/
theorem pe_two {X : Cx} {e : Expr} {t u : TE} (h1 : PE X e t) (h2 : PE X e u) : PE X e (fun σ H Q => t σ H Q ∨ u σ H Q) := ⟨fun pn st sg H Q I q => q.elim (h1.run pn st sg H Q I) (h2.run pn st sg H Q I)⟩
theorem dO_code (w : World) (a : Addr) (xs : List Ent) (ep : Nat) (q : Str) : dO w a xs ep ≠ CodeO a q := fun z => by
  obtain ⟨ob, hob⟩ : ∃ ob : Obj, ob = { cls := .none, data := .fields #[.none, .str q default] } := ⟨_, rfl⟩
  have hg : (⟨Array.replicate (a + 1) ob, {}⟩ : Heap).get? a = some ob := by
    unfold Heap.get?
    simp only [Array.getElem?_replicate]
    rw [if_pos (Nat.lt_succ_self a), hob]
  unfold dO CodeO at z
  have e := congrFun (HO.ext.inj z) ⟨Array.replicate (a + 1) ob, {}⟩
  obtain ⟨_, _, o, es, h1, _, h3, _⟩ := e.mpr ⟨ob, #[.none, .str q default], default, hg, by rw [hob], rfl⟩
  rw [hg] at h1
  cases h1
  rw [hob] at h3
  cases h3
/-- a dict that is new is emptied -/
theorem Grw.wrD {T : List (Addr × Str)} {w : World} {H0 H : Hp} {x : Addr} {xs : List Ent} {ep : Nat} {u : HO} (g : Grw T H0 H) (h0 : H0 x = none) (hx : H x = some (dO w x xs ep)) : Grw T H0 (upd H x u) := by
  refine ⟨fun b v e n => by rw [upd_ne (ne_of_none e h0)]; exact g.ext b v e n, fun t p hp => ?_⟩
  obtain ⟨ps, h1, h2, h3⟩ := g.tabs t p hp
  have np : p.1 ≠ x := fun z => by
    rw [z, hx] at h1
    unfold dO at h1
    cases h1
  refine ⟨ps, by rw [upd_ne np]; exact h1, h2, fun pos cv hc => ?_⟩
  obtain ⟨c, e1, e2⟩ := h3 pos cv hc
  have nc : c ≠ x := fun z => by
    rw [z, hx] at e2
    exact dO_code w x xs ep _ (Option.some.inj e2)
  exact ⟨c, e1, by rw [upd_ne nc]; exact e2⟩
theorem sc__law_told_anew : FnScope ["_law_system_here", "_law_prime_here", "_law_many", "_law_degree_here", "_law_noughts", "_law_found", "_law_word_here"] ["_law_system_here", "_law_prime_here", "_law_many", "_law_degree_here", "_law_noughts"] (defScope (topS 82)) := ⟨rfl, rfl, rfl, by decide +kernel, rfl, by decide +kernel, by decide +kernel⟩
def spLanew (K : PySem.W.Frag) (A : Ad) (F : Type) [Num F] : Sp := fun vs H Q _ => ∃ (a : Addr) (n d : Nat) (ln : Addr) (ws : List (Row F)), vs = [.ref a, .int (Num.p F), .int n, .int d, .ref ln] ∧ Pok (Num.p F) ∧ SysAt K A H a n ws ∧ n ≤ 4 ∧ d ≤ 4 ∧ RwList K H ln ws ∧ ws.length ≤ 4 ∧ (∀ f ∈ ws, WRow n f) ∧ Tabs A.tabs H ∧
  (∀ H', Grw A.tabs H H' → Q (.bl true) H')
theorem c__law_told_anew (T : Txt K mg A) (X0 : TX base mg A) : Cal P w K mg base CX0 10 "_law_told_anew" ["_law_system_here", "_law_prime_here", "_law_many", "_law_degree_here", "_law_noughts"] [] (spLanew K A F) := by
  refine cal_mk T.g__law_told_anew (fun _ _ _ _ _ _ us hl => match us, hl with | [_, _, _, _, _], _ => rfl) sc__law_told_anew (fun vs H Q E h => ?_) (fun f cdv Ar outer s H vs Q E hr h => ?_)
  · obtain ⟨a, n, d, ln, ws, rfl, _⟩ := h
    rfl
  · obtain ⟨a, n, d, ln, ws, rfl, hp, hY, hn, hd, hRw, hwl, hW, hT, q⟩ := h
    refine ⟨_, (pss_cons (ps_set (i := 5) sc__law_told_anew.nd rfl (by first | exact Or.inl rfl | exact Or.inr rfl) (pc (c_told (F := F) T X0) (hr.mono (by decide)) (pa_cons (pv 0) (pa_cons (pv 3) pa_nil))))
      (pss_cons (ps_set (i := 6) sc__law_told_anew.nd rfl (by first | exact Or.inl rfl | exact Or.inr rfl) (pe_ix ix_tup (pv 5) pe_int (fun _ _ => rfl)))
      (pss_cons (ps_expr (pe_two (pe_bm0 PySem.F.plainAttrs_list PySem.F.slot_list_clear PySem.F.type_list_clear mt_clear (pe_ix ix_tup (pv 5) pe_int (fun _ _ => rfl))) (pe_dm0 PySem.F.slot_dict_clear PySem.F.type_dict_clear mt_clrD (pe_ix ix_tup (pv 5) pe_int (fun _ _ => rfl)))))
      (pss_one (ps_ret (pe_cmpR op_eq (pc (c__law_word (F := F) T X0) (hr.mono (by decide)) (pa_cons (pv 0) (pa_cons (pv 1) (pa_cons (pv 2) (pa_cons (pv 3) (pa_cons (pv 4) pa_nil)))))) (pv 6) (nomark _))))))), ?_⟩
    refine ⟨_, rfl, _, rfl, a, n, d, ws, rfl, hY, hn, hwl, hd, wsz_of hW, fun f hf => (hW f hf).dom, hT, fun H1 t l m g1 hl hS ht hSm => ?_, fun H1 t e W g1 he hWo ht hDG => ?_⟩
    · obtain ⟨xs, x1, x2, x3⟩ := id hSm
      refine ⟨_, rfl, _, _, _, .str _, rfl, rfl, ht.sq, at_of (j := 0) rfl rfl, ?_⟩
      refine .inl ⟨_, rfl, _, _, _, .ref l, rfl, rfl, ht.sq, at_of (j := 1) rfl rfl, .inl ⟨rfl, _, SqL.of x1⟩, l, _, rfl, rfl, x1, ?_⟩
      have g2 : Grw A.tabs H (upd H1 l (.lst [])) := g1.wr hl x1 (fun _ z => by cases z) fun _ z => by cases z
      refine ⟨_, rfl, _, rfl, _, rfl, _, rfl, _, rfl, a, n, d, ln, ws, rfl, hp, hY.grw g2, hn, hd, hRw.grw g2, hwl, hW, g2.tabs hT, fun H3 m3 g3 hS3 => ⟨_, rfl, rfl, ?_⟩, fun H3 W3 g3 hW3 => (show_up (Nat.le_refl _) hS hW3).elim⟩
      exact q _ (g2.trans g3)
    · obtain ⟨es, ep, e1, e2⟩ := id hDG
      refine ⟨_, rfl, _, _, _, .str _, rfl, rfl, ht.sq, at_of (j := 0) rfl rfl, ?_⟩
      refine .inr ⟨_, rfl, _, _, _, .ref e, rfl, rfl, ht.sq, at_of (j := 1) rfl rfl, ⟨e, es, ep, rfl, e1⟩, e, es, ep, rfl, rfl, e1, fun ep2 => ?_⟩
      have g2 : Grw A.tabs H (upd H1 e (dO w e [] ep2)) := g1.wrD he e1
      refine ⟨_, rfl, _, rfl, _, rfl, _, rfl, _, rfl, a, n, d, ln, ws, rfl, hp, hY.grw g2, hn, hd, hRw.grw g2, hwl, hW, g2.tabs hT, fun H3 m3 g3 hS3 => (show_up (Nat.le_refl _) hS3 hWo).elim, fun H3 W3 g3 hW3 => ⟨_, rfl, rfl, ?_⟩⟩
      exact q _ (g2.trans g3)
end
end FsR
end
section
/-! A caught exception that a name keeps behind its suite. -/
set_option Elab.async false
set_option linter.all false
set_option maxRecDepth 100000
namespace FsR
open PySem PySem.Spec PyProof.Rows L2
/-- at a an exception of the class cls, held -/
def ExK (cls : Value) (a : Addr) : HO := .ext fun h => ∃ (oe : Obj) (vs : Array Value), h.get? a = some oe ∧ oe.cls = cls ∧ oe.dict = none ∧ oe.data = .fields vs
section
variable {X : Cx} {pins : List (Addr × Obj)} {σ : L2.St} {H : Hp} {s : Shared} {a : Addr} {oe : Obj} {vs : Array Value} {cls : Value}
/-- a pinned object that the entry did not know may stand among the pins -/
theorem Inv.plus (I : L2.Inv X pins σ H s) (he : s.heap.get? a = some oe) (hd : oe.data = .fields vs) (na : H a = none) (nL : a ≠ X.env.locals) (nF : a ∉ X.fs) : L2.Inv X ((a, oe) :: pins) σ H s where
  ok := I.ok
  os := I.os
  bare := I.bare
  base := I.base
  loc := I.loc
  cell := I.cell
  free := I.free
  freeC := I.freeC
  hok := I.hok
  len := I.len
  pin := fun p hp => by
    rcases List.mem_append.mp hp with h | h
    · exact I.pin p (List.mem_append_left _ h)
    · rcases List.mem_cons.mp h with e | h
      · subst e
        refine ⟨he, na, nL, nF, fun v z => ?_⟩
        have z2 : oe.data = .cell v := z
        rw [hd] at z2
        cases z2
      · exact I.pin p (List.mem_append_right _ h)
/-- it is known from now on -/
theorem Inv.hold (I : L2.Inv X ((a, oe) :: pins) σ H s) (n0 : X.s_0.heap.get? a = none) (np : ∀ p ∈ X.pn ++ pins, p.1 ≠ a) (hc : oe.cls = cls) (hdt : oe.dict = none) (hd : oe.data = .fields vs) : L2.Inv X pins σ (upd H a (ExK cls a)) s := by
  obtain ⟨he, na, nL, nF, _⟩ := I.pin (a, oe) (List.mem_append_right _ List.mem_cons_self)
  have he : s.heap.get? a = some oe := he
  have na : H a = none := na
  have nb : ∀ {b : Addr} {o : Obj}, X.s_0.heap.get? b = some o → b ≠ a := fun e z => by
    rw [z, n0] at e
    cases e
  refine ⟨I.ok, I.os, I.bare, ⟨I.base.keep, I.base.slot, fun b o e1 e2 e3 => ?_, I.base.there, fun b xs e => ?_, fun b o u e => ?_, fun b ps e => ?_⟩, I.loc, I.cell, ?_, fun x c e => ?_, fun p hp => ?_, fun b u e => ?_, I.len⟩
  · rw [upd_ne (nb e1)]
    exact I.base.free b o e1 e2 e3
  · have := I.base.tups b xs e
    rw [upd_ne (ne_of_none this na)]
    exact this
  · have := I.base.frzs b o u e
    rw [upd_ne (ne_of_none this na)]
    exact this
  · obtain ⟨more, this⟩ := I.base.tbls b ps e
    exact ⟨more, by rw [upd_ne (ne_of_none this na)]; exact this⟩
  · rw [upd_ne (fun z => nL z.symm)]
    exact I.free
  · have hne : c ≠ a := fun z => by
      obtain ⟨v, o, ho, hv⟩ := I.cell x c e
      rw [z, he] at ho
      cases ho
      rw [hd] at hv
      cases hv
    rw [upd_ne hne]
    exact I.freeC x c e
  · have hp2 : p ∈ X.pn ++ (a, oe) :: pins := by
      rcases List.mem_append.mp hp with h | h
      · exact List.mem_append_left _ h
      · exact List.mem_append_right _ (List.mem_cons_of_mem _ h)
    obtain ⟨h1, h2, h3⟩ := I.pin p hp2
    exact ⟨h1, by rw [upd_ne (np p hp)]; exact h2, h3⟩
  · by_cases hb : b = a
    · subst hb
      rw [upd_same] at e
      cases e
      exact ⟨⟨oe, vs, he, hc, hdt, hd⟩, ⟨oe, he⟩, fun h1 h2 ⟨o, v, q, r⟩ k => ⟨o, v, k o q, r⟩⟩
    · rw [upd_ne hb] at e
      exact (I.hok b u e).stay (fun c v _ q => q) (fun c q => by rw [upd_ne (ne_of_none q na)]; exact q) fun c xs q => by rw [upd_ne (ne_of_none q na)]; exact q
end
/-- what is wished of the try's body, that raises an exception that is caught: behind the suite it is held -/
def wHold (K : PySem.W.Frag) (m : Nat) (c : Value) (i : Nat) (ts : Addr → TS) (D : Ends) : WX := fun cls d σ H =>
  PySem.W.exmOne K cls c = some true ∧ d = none ∧ (σ.length = m → ∀ a, H a = none → ts a { nx := fun σ' H' => H' a = none → D.nx (σ'.set i none) (upd H' a (ExK cls a)), rt := fun _ _ => False, bk := fun _ _ => False, ct := fun _ _ => False } (σ.set i (some (.ref a))) H)
section
variable {X : Cx} {x n : Str} {c : Value} {i : Nat} {body suite : List Stmt} {b₀ : Stmt} {np pos pos' : Pos} {tb : WX → TS} {ts : Addr → TS}
theorem ps_try_hold (hs : X.stack = X.env :: X.outer) (hf : X.env.frame = some X.env.locals) (hex : X.ex = []) (hN : X.N.Nodup) (hi : X.N[i]? = some n) (hln : X.env.kindOf n = some .local) (hc : Names X x c)
    (hb : ∀ (W : WX) (pn : List (Addr × Obj)) (xe : Value → Shared → Prop), Takes (X.tr pn xe) W → PSs (X.tr pn xe) body (tb W))
    (hsu : ∀ (a : Addr) (oe : Obj) (pn : List (Addr × Obj)), PSs (X.suite a ((a, oe) :: pn)) (b₀ :: suite) (ts a)) :
    PS X (.Try body [.ExceptHandler (some (.Name x np)) (some n) (b₀ :: suite) pos'] [] [] pos) (fun D σ H => tb (wHold X.K X.N.length c i ts D) D σ H) := by
  refine ⟨fun pins s0 σ0 H0 D I0 want => wpAny_Try_except ?_⟩
  have ok := I0.ok
  have frames : X.A.frames = some (X.env :: X.outer) := ok.frames.trans (congrArg some hs)
  have run := (hb (wHold X.K X.N.length c i ts D) (X.pn ++ pins) (fun e t1 => wpAny (model X.prog X.w) X.A (noteFrame e X.env) (fun _ t2 => wpAny (model X.prog X.w) X.A (setFlight e none) (fun _ t3 => wpAny (model X.prog X.w) X.A (handleBy e X.env [.ExceptHandler (some (.Name x np)) (some n) (b₀ :: suite) pos']) (SP X pins D) X.xe t3) X.xe t2) X.xe t1) ?caught).run [] s0 σ0 H0 D (I0.toTry _) want
  case caught =>
    rintro u t ⟨a, B, tI, pins2, σ1, H1, cls, d, rfl, I1, ground, up, sky, na, os, ag, exm, rfl, go⟩
    have J1 : L2.Inv X pins σ1 H1 tI := L2.Inv.ofTry I1 ok
    rw [show (X.tr (X.pn ++ pins) _).stack = X.env :: X.outer from hs] at sky
    refine Sky.land Zc.steady frames hf sky fun hA flA upA => ?_
    have JA : L2.Inv X pins σ1 H1 { t with heap := hA } := J1.landed ground flA.1 (up.trans upA) os ag
    obtain ⟨oA, vA, getA, zA, dA⟩ := flA.there
    have outA : a ∉ frs (X.env :: X.outer) := fun hm => by
      obtain ⟨_, o, e, nf⟩ := flA.2.2.1.mem hm
      rw [getA] at e
      cases e
      exact nf _ dA
    have aL : a ≠ X.env.locals := fun z => outA (List.mem_filterMap.mpr ⟨X.env, List.mem_cons_self, z ▸ hf⟩)
    have aF : a ∉ X.fs := fun hm => by
      obtain ⟨e, he, q⟩ := List.mem_filterMap.mp hm
      exact outA (List.mem_filterMap.mpr ⟨e, List.mem_cons_of_mem _ he, q⟩)
    have notB : B.get? a = none := flA.2.1
    have n0 : X.s_0.heap.get? a = none := by
      cases e : X.s_0.heap.get? a with
      | none => rfl
      | some o =>
        obtain ⟨o2, e2⟩ := J1.base.there a o e (by rw [hex]; exact fun z => nomatch z)
        have := ground a o2 e2 (by rw [show (X.tr (X.pn ++ pins) _).stack = X.env :: X.outer from hs]; exact outA)
        rw [notB] at this
        cases this
    have notPin : ∀ p ∈ X.pn ++ pins, p.1 ≠ a := fun p hp z => by
      obtain ⟨e, _, h1, h2, _⟩ := J1.pin p hp
      have hout : p.1 ∉ frs (X.env :: X.outer) := by rw [z]; exact outA
      have := ground p.1 p.2 e (by rw [show (X.tr (X.pn ++ pins) _).stack = X.env :: X.outer from hs]; exact hout)
      rw [z, notB] at this
      cases this
    have SA := JA.suite getA dA na aL aF
    refine wpAny_handleBy_cons (codeAny_handlers_test ?_) (by intro q; cases q)
    have LTy : PySem.W.Looks (model X.prog X.w) hA (typeOf (.ref a)) cls := fun A Q E s k q => wpAny_typeOf_ref (k _ _ getA) (by rw [zA.1]; exact q)
    have LMt := PySem.W.exm_one (M := model X.prog X.w) JA.kIn LTy exm
    have named : ∀ {Q : Value → Shared → Prop} {E : Value → Shared → Prop}, Q c { t with heap := hA } → wpAny (model X.prog X.w) (X.A.mark (some (.ref a))) (eval (.Name x np) X.env) Q E { t with heap := hA } := fun {Q E} q => by
      rcases hc with ⟨h1, h2, h3 | ⟨h3, h4, h5⟩⟩
      · exact ld_glob SA h1 h3 q h2
      · exact ld_blt SA h1 h3 h4 q h5 h2
    refine named (LMt.here (codeAny_handlers_suite_as (HandSPX.lands_againZ flA fun hB flB upB => ?_)))
    have JB : L2.Inv X pins σ1 H1 { t with heap := hB } := J1.landed ground flB.1 ((up.trans upA).trans upB) os ag
    obtain ⟨oB, vB, getB, zB, dB⟩ := flB.there
    have SB := (Inv.plus JB getB dB na aL aF).suite getB dB na aL aF
    refine store_ok (X := X.suite a ((a, oB) :: (X.pn ++ ((a, oB) :: pins)))) (v := .ref a) SB hN hi (.inl hln) rfl (fun t5 S5 => ?_) (.inr hln)
    refine wpAny_mono ((hsu a oB (X.pn ++ ((a, oB) :: pins))).run [] t5 _ H1 _ S5 (go JB.len a na)) (fun f t6 hsp => ?_) (fun _ _ z => False.elim z)
    cases f with
    | next =>
      obtain ⟨σ6, H6, S6, q6⟩ := hsp
      refine gone_ok (L2.Inv.unsuite S6 ok) hN hi hln fun t7 J7 => ?_
      have n6 : H6 a = none := (J7.pin (a, oB) (List.mem_append_right _ List.mem_cons_self)).2.1
      exact ⟨_, _, Inv.hold J7 n0 notPin zB.1 zB.2 dB, q6 n6⟩
    | brk =>
      obtain ⟨_, _, _, q⟩ := hsp
      exact False.elim q
    | cont =>
      obtain ⟨_, _, _, q⟩ := hsp
      exact False.elim q
    | ret u =>
      obtain ⟨_, _, _, _, _, q⟩ := hsp
      exact False.elim q
  refine wpAny_mono run (fun f t1 hsp => ?_) fun e t1 h => h
  cases f with
  | next =>
    obtain ⟨σ', H', J, q⟩ := hsp
    exact wpAny_execs_nil ⟨σ', H', L2.Inv.ofTry J ok, q⟩
  | brk =>
    obtain ⟨σ', H', J, q⟩ := hsp
    exact ⟨σ', H', L2.Inv.ofTry J ok, q⟩
  | cont =>
    obtain ⟨σ', H', J, q⟩ := hsp
    exact ⟨σ', H', L2.Inv.ofTry J ok, q⟩
  | ret u =>
    obtain ⟨v, σ', H', J, r, q⟩ := hsp
    exact ⟨v, σ', H', L2.Inv.ofTry J ok, r, q⟩
end
/-- isinstance of a held exception -/
def rIsK (K : PySem.W.Frag) : List V → Hp → VK → Prop := fun xs H Q => ∃ (a D : Addr) (c : V) (cv : Value) (b : Bool), xs = [.ref a, c] ∧ H a = some (ExK (.ref D) a) ∧ ExcC K D ∧ (∀ u, RelV c u → u = cv) ∧ PySem.W.kitOne K (.ref D) cv = some b ∧ Q (.bl b) H
theorem call_isK {X : Cx} : CallR X (.builtin "isinstance") (rIsK X.K) := by
  intro pins s σ H xs us Q I r h
  obtain ⟨a, D, c, cv, b, rfl, hH, C, hcv, e, q⟩ := h
  cases r with
  | cons rx rr =>
    cases rr with
    | cons rt rr =>
      cases rr
      cases rx
      have ec := hcv _ rt
      subst ec
      obtain ⟨⟨oe, vs, hget, h1, h2, h3⟩, _⟩ := I.hok a _ hH
      have J : PySem.W.InstAt s.heap a oe D none := by
        obtain ⟨oc, od, oda, osl⟩ := oe
        dsimp only at h1 h2 h3
        subst h1 h2 h3
        exact ⟨hget, rfl, rfl, trivial⟩
      exact PySem.W.kia_one (PySem.W.handS_kitx_exc C.hg C.hk C.hs C.hd C.ha C.hn C.ht C.hm) I.kIn J e (fun z => nomatch z) fun tk => ⟨.bl b, H, I.kept (t' := tk) fun _ _ z => z, rfl, q⟩
end FsR
end
section
/-! Degrees that are none: refused. -/
set_option Elab.async false
set_option linter.all false
set_option maxRecDepth 100000
namespace FsR
open PySem PySem.Spec PyProof.Rows L2 LamX Fs
/-- where the refusals' classes stand -/
structure Be where
  FE : Addr
  ND : Addr
  NF : Addr
  TM : Addr
/-- the classes above an own error -/
abbrev veUp : List Value := [.type "ValueError", .type "Exception", .type "BaseException", .type "object"]
/-- what the top has left of the refusals -/
structure TY (K : PySem.W.Frag) (mg : Str → Option Value) (B : Be) : Prop where
  FalseError : mg "FalseError" = some (.ref B.FE)
  NoDegree : mg "NoDegree" = some (.ref B.ND)
  NoFilling : mg "NoFilling" = some (.ref B.NF)
  TooMany : mg "TooMany" = some (.ref B.TM)
  ValueError : mg "ValueError" = none
  exc : PySem.W.excIn K B.ND veUp "ValueError.__new__" = true
  keep : PySem.W.keepIn K (.ref B.ND) = true
  base : PySem.W.subIn K (.ref B.ND) (.type "BaseException") = some true
  type : PySem.W.typeIn K (.ref B.ND) = some (.type "type")
  caught : PySem.W.exmOne K (.ref B.ND) (.ref B.FE) = some true
  cls : ExcC K B.ND
  isND : PySem.W.kitOne K (.ref B.ND) (.ref B.ND) = some true
  isNF : PySem.W.kitOne K (.ref B.ND) (.ref B.NF) = some false
  isTM : PySem.W.kitOne K (.ref B.ND) (.ref B.TM) = some false
  isVE : PySem.W.kitOne K (.ref B.ND) (.type "ValueError") = some true
/-- the law's odd degrees -/
def Odd (v : V) : Prop := v = .non ∨ v = .bl true ∨ v = .str "1" ∨ v = .int (-1) ∨ v = .int 301
section
variable {P : Program} {w : World} {K : PySem.W.Frag} {mg : Str → Option Value} {base : Heap} {A : Ad} {B : Be}
/-- a def that may raise is called -/
theorem pcX {X : Cx} {k : Nat} {x : Str} {ps : List Str} {ds : List V} {sp : Sp} {E : XK} {W : WX} {p pos : Pos} {e : Expr} {es : List Expr} {t : TA} (c : Cal X.prog X.w X.K X.mg X.base (L2.CX X.prog X.w) k x ps ds sp) (hr : Room k X.A) (tk : Takes X W) (hW : ∀ cls d σ H, E cls d H → W cls d σ H) (ha : PA X (e :: es) t) (hg : Gl X x := by rfl) (hdb : (x == ("__debug__" : Str)) = false := by decide)
    (he : starEach (e :: es) X.env = (false, eval e X.env) :: starEach es X.env := by rfl) (hpl : (backTo pos (starEach es X.env)).any (·.1) = false := by rfl) : PE X (.Call (.Name x p) (e :: es) [] pos) (tCall sp ds E t) := by
  obtain ⟨f, fd, us, F, hm, hk, hb, hd⟩ := c.ex
  exact pe_call F hr hg hm hk hb hd (passes_call tk hW) ha hdb he hpl
def spOddD (B : Be) : Sp := fun vs H _ E => ∃ v, vs = [v] ∧ Odd v ∧ E (.ref B.ND) none H
theorem x_look_at_degree (T : Txt K mg A) (Y : TY K mg B) : Cal P w K mg base (L2.CX P w) 2 "look_at_degree" ["degree"] [] (spOddD B) := by
  refine cal_mkX T.g_look_at_degree (fun _ _ _ _ _ _ us hl => match us, hl with | [_], _ => rfl) sc_look_at_degree (fun vs H Q E h => ?_) (fun f cdv Ar outer s H vs Q E hr h => ?_)
  · obtain ⟨v, rfl, _⟩ := h
    rfl
  · obtain ⟨v, rfl, hv, q⟩ := h
    refine ⟨_, (pss_one (ps_if (PW.pt (pw_or (pt_not (pt_val (pc (c_is_whole T) (hr.mono (by decide)) (pa_cons (pv 0) pa_nil)))) (pw_or1 (pt_not (pt_chain op_le op_le pe_int (pv 0) (pe_const T.MOST_DEGREE)))))) (pss_one (ps_raise rfl (takes_of rfl rfl rfl rfl) (pmk_own PySem.F.excBase_ValueError Y.exc Y.NoDegree Y.keep (raises_own Y.base Y.type) rfl))) pss_nil)), ?_⟩
    rcases hv with rfl | rfl | rfl | rfl | rfl
    · exact ⟨_, rfl, .non, rfl, .inr ⟨.inl rfl, false, rfl, iteT q⟩⟩
    · exact ⟨_, rfl, .bl true, rfl, .inr ⟨.inr (.inr ⟨_, rfl⟩), false, rfl, iteT q⟩⟩
    · exact ⟨_, rfl, .str "1", rfl, .inr ⟨.inr (.inl ⟨_, rfl⟩), false, rfl, iteT q⟩⟩
    · exact ⟨_, rfl, .int (-1), rfl, .inl ⟨_, rfl, true, rfl, iteF ⟨_, rfl, _, _, rfl, rfl, _, rfl, itF (by decide) ⟨false, rfl, iteT q⟩⟩⟩⟩
    · refine ⟨_, rfl, .int 301, rfl, .inl ⟨_, rfl, true, rfl, iteF ⟨_, rfl, _, _, rfl, rfl, _, rfl, itT (by decide) ⟨_, _, rfl, rfl, _, rfl, ?_⟩⟩⟩⟩
      exact (show if (!decide ((301 : Int) ≤ 300)) = true then _ else _ from itNT (by decide) q)
def spOddT (B : Be) : Sp := fun vs H _ E => ∃ (a : Addr) (v : V), vs = [.ref a, v] ∧ Odd v ∧ E (.ref B.ND) none H
theorem x_told (T : Txt K mg A) (Y : TY K mg B) : Cal P w K mg base (L2.CX P w) 3 "told" ["system", "degree"] [] (spOddT B) := by
  refine cal_mkX T.g_told (fun _ _ _ _ _ _ us hl => match us, hl with | [_, _], _ => rfl) sc_told (fun vs H Q E h => ?_) (fun f cdv Ar outer s H vs Q E hr h => ?_)
  · obtain ⟨a, v, rfl, _⟩ := h
    rfl
  · obtain ⟨a, v, rfl, hv, q⟩ := h
    refine ⟨_, pss_cons (ps_expr (pcX (E := E) (x_look_at_degree T Y) (hr.mono (by decide)) (takes_of rfl rfl rfl rfl) (fun _ _ _ _ h => h) (pa_cons (pv 1) pa_nil))) pss_never, ?_⟩
    exact ⟨_, rfl, v, rfl, hv, q⟩
end
end FsR
end
section
/-! The kind of a refusal. -/
set_option Elab.async false
set_option linter.all false
set_option maxRecDepth 100000
namespace FsR
open PySem PySem.Spec PyProof.Rows L2 LamX Fs
theorem sc__law_kind : FnScope ["_law_call", "_law_kept", "e", "_law_kinds"] ["_law_call"] (defScope (topS 79)) := ⟨rfl, rfl, rfl, by decide +kernel, rfl, by decide +kernel, by decide +kernel⟩
/-- what _law_kind makes of a call that is refused with NoDegree -/
def TTkind (B : Be) : (XK → Hp → VK → Prop) → Hp → VK → Prop := fun tl H Q => ∀ R : VK, tl (fun cls d H' => cls = .ref B.ND ∧ d = none ∧ ∀ H2, Same H' H2 → Q (.str "degree") H2) H R
def tbKind (c' f : Addr) (q : Str) (tl : XK → Hp → VK → Prop) : WX → TS := fun W D σ H => ∃ Ech : XK, (∀ cls d σ' H', Ech cls d H' → W cls d σ' H') ∧ σ[0]? = some (some (.ref f)) ∧ H c' = some (CodeO c' q) ∧ tl Ech H fun _ H' => D.nx σ H'
theorem kind_gives {X : Cx} {A : Ad} {B : Be} {g : Addr} {cdg : Value} {q : Str} (T : Txt X.K X.mg A) (Y : TY X.K X.mg B) : GivesTo X ["_law_call", "_law_kept", "e", "_law_kinds"] "_law_kind" (defScope (topS 79)) g cdg (defBody (topS 79)) "_law_call" q (TTkind B) := by
  intro f c' s H Q tl act hc h
  refine ⟨_, (pss_cons (ps_set (i := 1) sc__law_kind.nd rfl (by first | exact Or.inl rfl | exact Or.inr rfl) pe_non)
      (pss_cons (ps_try_hold (X := (cxOf C8.CX0 X.prog X.w X.K X.mg X.base ["_law_call", "_law_kept", "e", "_law_kinds"] "_law_kind" (defScope (topS 79)) g cdg X.A X.stack s H C8.E0).nox) (i := 2) (tb := tbKind c' f q tl) rfl rfl rfl sc__law_kind.nd rfl rfl ⟨rfl, by decide, .inl Y.FalseError⟩ (fun W pn xe tk => ?_) (fun a oe pn => pss_one (ps_set (i := 1) sc__law_kind.nd rfl (Or.inl rfl) (pv 2))))
      (pss_cons (ps_if (pt_cmpR op_isN (pv 1) pe_non (nomark _)) (pss_one (ps_ret pe_str))
      pss_nil)
      (pss_cons (ps_set (i := 3) sc__law_kind.nd rfl (by first | exact Or.inl rfl | exact Or.inr rfl) (pe_lst (pa_cons (pe_callB call_isK (by rfl) T.isinstance (by decide +kernel) (pa_cons (pv 1) (pa_cons (pe_glob (v := .ref B.ND) rfl Y.NoDegree rfl) pa_nil))) (pa_cons (pe_callB call_isK (by rfl) T.isinstance (by decide +kernel) (pa_cons (pv 1) (pa_cons (pe_glob (v := .ref B.NF) rfl Y.NoFilling rfl) pa_nil))) (pa_cons (pe_callB call_isK (by rfl) T.isinstance (by decide +kernel) (pa_cons (pv 1) (pa_cons (pe_glob (v := .ref B.TM) rfl Y.TooMany rfl) pa_nil))) pa_nil)))))
      (pss_cons (ps_if (PW.pt (pw_or (pt_cmpR op_ne (pe_bm PySem.F.plainAttrs_list PySem.F.slot_list_count PySem.F.type_list_count mt_lcountF (pv 3) (pa_cons pe_bl pa_nil)) pe_int (nomark _)) (pw_or1 (pt_not (pt_val (pe_callB call_isK (by rfl) T.isinstance (by decide +kernel) (pa_cons (pv 1) (pa_cons (pe_bltn (v := .ty "ValueError") (by rfl) Y.ValueError (by decide +kernel) rfl) pa_nil)))))))) (pss_one (ps_ret pe_str))
      pss_nil)
      (pss_one (ps_ret (pe_ix ix_list (pe_lst (pa_cons pe_str (pa_cons pe_str (pa_cons pe_str pa_nil)))) (pe_bm PySem.F.plainAttrs_list PySem.F.slot_list_index PySem.F.type_list_index mt_index (pv 3) (pa_cons pe_bl pa_nil)) (fun _ _ => rfl))))))))), ?_⟩
  · refine ⟨fun pins s' σ H' D I h' => ?_⟩
    obtain ⟨Ech, hW, h1, h2, h3⟩ := h'
    exact (pss_one (ps_expr (act W pn xe Ech _ _ tk hW))).run pins s' σ H' D I ⟨h1, h2, h3⟩
  · refine ⟨fun cls d H' => cls = .ref B.ND ∧ d = none ∧ ∀ H2, Same H' H2 → Q (.str "degree") H2, ?_, rfl, hc, h _⟩
    rintro cls d σ' H' ⟨rfl, rfl, hq⟩
    refine ⟨Y.caught, rfl, fun hlen a na => ?_⟩
    match σ', hlen with
    | [s0, s1, s2, s3], _ =>
      refine ⟨_, rfl, fun _ => ?_⟩
      refine ⟨_, rfl, rfl, _, rfl, itF (fun z => by cases z) ?_⟩
      have isr : ∀ {b : Addr} (u : Value), RelV (.ref b) u → u = .ref b := fun u h => h
      refine ⟨_, rfl, a, B.ND, .ref B.ND, .ref B.ND, true, rfl, upd_same, Y.cls, isr, Y.isND, ?_⟩
      refine ⟨_, rfl, a, B.ND, .ref B.NF, .ref B.NF, false, rfl, upd_same, Y.cls, isr, Y.isNF, ?_⟩
      refine ⟨_, rfl, a, B.ND, .ref B.TM, .ref B.TM, false, rfl, upd_same, Y.cls, isr, Y.isTM, ?_⟩
      refine ⟨(by decide : 3 ≤ sizeLine), fun l hl => ?_⟩
      have nl : a ≠ l := fun z => by
        rw [← z, upd_same] at hl
        cases hl
      refine ⟨_, rfl, .inl ⟨rfl, _, SqL.of upd_same⟩, l, _, .bl true, rfl, rfl, SqL.of upd_same, rfl, rfl, rfl, _, rfl, itNF rfl ?_⟩
      refine ⟨_, rfl, a, B.ND, .ty "ValueError", .type "ValueError", true, rfl, by rw [upd_ne nl]; exact upd_same, Y.cls, fun u h => h, Y.isVE, true, rfl, iteF ?_⟩
      refine ⟨(by decide : 3 ≤ sizeLine), fun l2 hl2 => ?_⟩
      have nl2 : l ≠ l2 := fun z => by
        rw [← z, upd_same] at hl2
        cases hl2
      have hL : upd (upd (upd H' a (ExK (.ref B.ND) a)) l (.lst [.bl true, .bl false, .bl false])) l2 (.lst [.str "degree", .str "filling", .str "toomany"]) l = some (.lst [.bl true, .bl false, .bl false]) := by rw [upd_ne nl2]; exact upd_same
      refine ⟨_, rfl, .inl ⟨rfl, _, SqL.of hL⟩, l, _, .bl true, 0, .bl true, rfl, rfl, SqL.of hL, rfl, rfl, rfl, by decide +kernel, fun m z' hm => absurd hm (Nat.not_lt_zero m), ?_⟩
      refine ⟨_, _, _, .str "degree", rfl, rfl, SqL.of upd_same, at_of (j := 0) rfl rfl, ?_⟩
      exact hq _ (((same_upd na).trans (same_upd hl)).trans (same_upd hl2))
end FsR
end
section
/-! The law. -/
set_option Elab.async false
set_option linter.all false
set_option maxRecDepth 100000
namespace FsR
open PySem PySem.Spec PyProof.Rows L2 LamX Fs
/-! ### a field for each prime -/
theorem fits_rat : Fits Rat := fun t b ht hb => by
  show repQ 42 42000 (Rat.divInt t b)
  rw [Rat.divInt_eq_div]
  refine ⟨by decide, t * (42 / b), ?_, ?_⟩
  · have h1 : (42 / b : Int).natAbs ≤ 42 := by
      rcases List.mem_cons.mp hb with rfl | hb
      · decide
      rcases List.mem_cons.mp hb with rfl | hb
      · decide
      rcases List.mem_cons.mp hb with rfl | hb
      · decide
      rw [List.mem_singleton.mp hb]
      decide
    rw [Int.natAbs_mul]
    exact Nat.mul_le_mul ht h1
  · have key : ∀ b c : Int, b * c = 42 → b ≠ 0 → (t : Rat) / (b : Rat) * ((42 : Int) : Rat) = ((t * c : Int) : Rat) := fun b c e hb => by
      have hb' := castZ hb
      rw [← e, Rat.intCast_mul, Rat.intCast_mul]
      have := mul_inv hb'
      rw [div_eq]
      grind
    rcases List.mem_cons.mp hb with rfl | hb
    · exact key _ _ (by decide) (by decide)
    rcases List.mem_cons.mp hb with rfl | hb
    · exact key _ _ (by decide) (by decide)
    rcases List.mem_cons.mp hb with rfl | hb
    · exact key _ _ (by decide) (by decide)
    rw [List.mem_singleton.mp hb]
    exact key _ _ (by decide) (by decide)
theorem field_of {p : Int} (h : Pok p) : ∃ (F : Type) (i : Num F), @Num.p F i = p ∧ @Fits F i := by
  rcases h with rfl | ⟨n, hn, rfl⟩
  · exact ⟨Rat, numRat, rfl, fits_rat⟩
  · have hok : PrimeOk n = true := List.all_eq_true.mp primes_ok n hn
    exact ⟨Zn n, numZn n hok, rfl, fun t b _ _ => trivial⟩
/-- a block whose reading may be told over any field -/
theorem pss_anyF {X : Cx} {sts : List Stmt} {t : ∀ (F : Type), Num F → TS} (h : ∀ (F : Type) (i : Num F), PSs X sts (t F i)) : PSs X sts (fun D σ H => ∃ (F : Type) (i : Num F), t F i D σ H) := ⟨fun pn st sg H D I q => let ⟨F, i, q⟩ := q; (h F i).run pn st sg H D I q⟩
section
variable {X : Cx} {A : Ad} {B : Be}
/-- _law_kind(lambda: told(system, odd)) -/
theorem pe_kind {params : Arguments} {body : Expr} {scope : Scope} {t : XK → TE} {p lpos pos : Pos} (T : Txt X.K X.mg A) (Y : TY X.K X.mg B) (TB : TabB X.base X.mg A.lc A.lP) (hg : Gl X "_law_kind") (hcode : X.env.code = .ref A.lc) (hmT : (A.lP, X.env.qual ++ "<lambda>") ∈ A.tabs) (hu : ∀ q ∈ A.tabs, q.1 = A.lP → q.2 = X.env.qual ++ "<lambda>") (hr : Room 5 X.A) (L : LamS X.env.scope scope) (hdef : defaultsOf params X.env = ([], []))
    (hbind : ∀ (q : Str) (cl : List (Str × Addr)) (pm cv ctv : Value), bindArgs (PySem.W.kla_fn "<lambda>" q params body scope cl pm cv ctv) ⟨[], []⟩ = pure [])
    (hbody : ∀ (A : Around) (outer : List Env) (s : Shared) (H : Hp) (E : XK) (f c' : Addr), Room 3 (A.deeper (lamEnv X scope s.heap.objs.size f c')) → PE (lamCx X A outer s H E scope f c') body (t E)) :
    PE X (.Call (.Name "_law_kind" p) [.Lambda params body scope lpos] [] pos) (tLam A.tabs (TTkind B) t) := by
  obtain ⟨f, fd, F, hm⟩ := T.g__law_kind.ex
  have F0 := F
  obtain ⟨oc, od, dV, kV, doc, pm, an, cdv, ct, osl, rfl, lk, hcd, _, _⟩ := F.ex
  exact pe_lamcall hg hm F0.kp lk hcd (F0.bindsN (fun _ _ _ _ _ _ us hl => match us, hl with | [_], _ => rfl)) sc__law_kind rfl (.inl rfl) (kind_gives T Y) TB hcode hmT hu hr L hdef hbind hbody
end
section
variable {K : PySem.W.Frag} {A : Ad} {F : Type} [Num F] {H H' : Hp} {r : Addr}
/-- a room is drawn from: all else stays -/
theorem Grw.sb {T : List (Addr × Str)} {H0 : Hp} (g : Grw T H0 H) (h0 : H0 r = none) (hR : RoomAt H r) (s : SB r H H') : Grw T H0 H' := by
  obtain ⟨x, y, hr, _⟩ := hR
  refine ⟨fun b v e n => s b v (ne_of_none e h0) (g.ext b v e n), fun t p hp => ?_⟩
  obtain ⟨ps, h1, h2, h3⟩ := g.tabs t p hp
  have np : p.1 ≠ r := fun z => by
    rw [z, hr] at h1
    cases h1
  refine ⟨ps, s _ _ np h1, h2, fun pos cv hc => ?_⟩
  obtain ⟨c, e1, e2⟩ := h3 pos cv hc
  have nc : c ≠ r := fun z => by
    rw [z, hr] at e2
    unfold CodeO at e2
    cases e2
  exact ⟨c, e1, s _ _ nc e2⟩
theorem RoomAt.grw {T : List (Addr × Str)} (h : RoomAt H r) (g : Grw T H H') : RoomAt H' r := by
  obtain ⟨x, y, e, hy⟩ := h
  exact ⟨x, y, g.ext _ _ e (fun _ z => by cases z), hy⟩
theorem three (i : Nat) : (3 + (if decide (V.int (0 + (i : Int)) = V.int 0) = true then (1 : Int) else 0)) = ((if i = 0 then 4 else 3 : Nat) : Int) := by
  by_cases h : i = 0
  · subst h
    rw [if_pos rfl, if_pos (decide_eq_true (by rw [Int.zero_add]; rfl))]
    rfl
  · rw [if_neg h, if_neg (by rw [decide_eq_false (fun z => h (by have := V.int.inj z; omega))]; decide)]
    rfl
theorem ins_ne {a C dx : Addr} {fs : List (Str × V)} (h : H a = some (.ins C dx fs)) (hR : RoomAt H r) : a ≠ r := fun z => by
  obtain ⟨x, y, hr, _⟩ := hR
  rw [z, hr] at h
  cases h
theorem Fld.sb {a : Addr} {p : Int} (h : Fld A H a p) (hR : RoomAt H r) (s : SB r H H') : Fld A H' a p := by
  obtain ⟨h1, dx, h2⟩ := h
  exact ⟨h1, dx, s _ _ (ins_ne h2 hR) h2⟩
theorem SumAt.sb {a : Addr} {f : Row F} (h : SumAt K A H a f) (hR : RoomAt H r) (s : SB r H H') : SumAt K A H' a f := by
  obtain ⟨dx, fa, la, h1, h2, h3⟩ := h
  exact ⟨dx, fa, la, s _ _ (ins_ne h1 hR) h1, h2.sb hR s, h3.sb (tm_ne h3 hR) s (hR.keep s)⟩
theorem SysAt.sb {a : Addr} {n : Nat} {ws : List (Row F)} (h : SysAt K A H a n ws) (hR : RoomAt H r) (s : SB r H H') : SysAt K A H' a n ws := by
  obtain ⟨dx, fa, l1, l2, h1, h2, ⟨xs, h3, h4, h5⟩, h6⟩ := h
  obtain ⟨x, y, hr, _⟩ := id hR
  have n1 : l1 ≠ r := fun z => by
    rw [z, hr] at h3
    have e := HO.lst.inj (Option.some.inj h3)
    cases xs with
    | nil => cases e
    | cons b xs =>
      rw [List.map_cons] at e
      injection e with e1 _
      cases e1
  have n2 : l2 ≠ r := fun z => by
    rw [z, hr] at h6
    cases h6
  exact ⟨dx, fa, l1, l2, s _ _ (ins_ne h1 hR) h1, h2.sb hR s, ⟨xs, s _ _ n1 h3, h4, fun i b f e1 e2 => (h5 i b f e1 e2).sb hR s⟩, s _ _ n2 h6⟩
end
section
variable {P : Program} {w : World} {K : PySem.W.Frag} {mg : Str → Option Value} {base : Heap} {A : Ad} {B : Be}
theorem sc_law : FnScope ["_law_script", "_law_k", "_law_room_here", "_law_prime_here", "_law_many", "_law_noughts", "_law_system_here", "_law_odd"] ["_law_script"] (defScope (topS 83)) := ⟨rfl, rfl, rfl, by decide +kernel, rfl, by decide +kernel, by decide +kernel⟩
def spLaw (K : PySem.W.Frag) (A : Ad) : Sp := fun vs H Q _ => ∃ (a : Addr) (ns : List Int), vs = [.ref a] ∧ SqL K H a (ns.map V.int) ∧ Tabs A.tabs H ∧ ∀ H', Q (.bl true) H'
/-- a def at f, its code object known -/
theorem fn_mkC {k : Nat} {x : Str} {st : Stmt} {N ps : List Str} {sp : Sp} {cdv : Value} {f : Addr} {fd : FuncData} (F : FunD K x x (defArgs st) (defBody st) (defScope st) [] [] f fd) (hc : fd.code = cdv) (S : FnScope N ps (defScope st)) (len : ∀ vs H Q E, sp vs H Q E → vs.length = ps.length)
    (body : ∀ (f : Addr) (A : Around) (outer : List Env) (s : Shared) (H : Hp) (vs : List V) (Q : VK) (E : XK), Room k (A.deeper (envOfC x (defScope st) s.heap.objs.size f cdv)) → sp vs H Q E →
      ∃ t, PSs (cxOf CX0 P w K mg base N x (defScope st) f cdv A outer s H E).nox (defBody st) t ∧ t { nx := fun _ H' => Q .non H', rt := Q } (start N vs) H) : FnOk P w K mg base CX0 (k + 1) f fd ps sp := by
  obtain ⟨oc, od, dV, kV, doc, pm, an, cdv', ct, osl, rfl, lk, hcd, _, _⟩ := F.ex
  obtain rfl : cdv' = cdv := hc
  exact fn_of lk hcd S len fun A outer s H vs Q E hr hsp => let ⟨t, a, b⟩ := body f A outer s H vs Q E hr hsp; ⟨t, a.nox, b⟩
theorem ok_law (T : Txt K mg A) (Y : TY K mg B) (X0 : TX base mg A) {f0 : Addr} {fd0 : FuncData} (F0 : FunD K "law" "law" (defArgs (topS 83)) (defBody (topS 83)) (defScope (topS 83)) [] [] f0 fd0) (hc : fd0.code = .ref A.lc) : FnOk P w K mg base CX0 11 f0 fd0 ["_law_script"] (spLaw K A) := by
  refine fn_mkC F0 hc sc_law (fun vs H Q E h => ?_) (fun f Ar outer s H vs Q E hr h => ?_)
  · obtain ⟨a, ns, rfl, _⟩ := h
    rfl
  · obtain ⟨a, ns, rfl, hS, hT, q⟩ := h
    have hq : ("law" ++ ".<locals>." ++ "<lambda>" : Str) = "law.<locals>.<lambda>" := by decide +kernel
    have hm1 : (A.lP, ("law" ++ ".<locals>." ++ "<lambda>" : Str)) ∈ A.tabs := by
      rw [hq]
      simp [Ad.tabs]
    have hu1 : ∀ p ∈ A.tabs, p.1 = A.lP → p.2 = ("law" ++ ".<locals>." ++ "<lambda>" : Str) := fun p hp e => by
      rw [hq]
      simp only [Ad.tabs, List.mem_cons, List.not_mem_nil, or_false] at hp
      rcases hp with rfl | rfl
      · exact absurd e X0.ne
      · rfl
    refine ⟨_, (pss_cons (ps_for PassesOwn.never rfl (pi_range1 rfl T.range (pa_cons (pe_callB (call_max2 rfl) (by rfl) T.max (by decide +kernel) (pa_cons pe_int (pa_cons (pe_callB (call_min2 rfl) (by rfl) T.min (by decide +kernel) (pa_cons (pe_callB call_len_seq (by rfl) T.len (by decide +kernel) (pa_cons (pv 0) pa_nil)) (pa_cons pe_int pa_nil))) pa_nil))) pa_nil)) (pg_name (i := 1) sc_law.nd rfl (by first | exact Or.inl rfl | exact Or.inr rfl))
      (pss_cons (ps_set (i := 2) sc_law.nd rfl (by first | exact Or.inl rfl | exact Or.inr rfl) (pc (c__law_room T) (hr.mono (by decide)) (pa_cons (pv 0) (pa_cons (pv 1) pa_nil))))
      (pss_cons (ps_set (i := 3) sc_law.nd rfl (by first | exact Or.inl rfl | exact Or.inr rfl) (pc (c__law_prime T) (hr.mono (by decide)) (pa_cons (pv 2) pa_nil)))
      (pss_anyF fun F _ => pss_cons (ps_set (i := 4) sc_law.nd rfl (by first | exact Or.inl rfl | exact Or.inr rfl) (pe_op op_add pe_int (pc (c__law_take T) (hr.mono (by decide)) (pa_cons (pv 2) (pa_cons (pe_op op_add pe_int (pe_callTy call_int1 (by rfl) T.int (by decide +kernel) (pa_cons (pe_cmpR op_eq (pv 1) pe_int (nomark _)) pa_nil))) pa_nil)))))
      (pss_cons (ps_set (i := 5) sc_law.nd rfl (by first | exact Or.inl rfl | exact Or.inr rfl) (pe_ix ix_tup (pc (c__law_wishes (F := F) T) (hr.mono (by decide)) (pa_cons (pv 2) (pa_cons (pv 3) (pa_cons (pv 4) (pa_cons pe_int pa_nil))))) pe_int (fun _ _ => rfl)))
      (pss_cons (ps_set (i := 6) sc_law.nd rfl (by first | exact Or.inl rfl | exact Or.inr rfl) (pc (c__law_system (F := F) T X0) (hr.mono (by decide)) (pa_cons (pv 3) (pa_cons (pv 4) (pa_cons (pv 5) pa_nil)))))
      (pss_cons (ps_if (pt_not (pt_val (pc (c__law_right (F := F) T X0) (hr.mono (by decide)) (pa_cons (pv 6) (pa_cons (pv 3) (pa_cons (pv 4) (pa_cons (pv 5) pa_nil))))))) (pss_one (ps_ret pe_bl))
      pss_nil)
      (pss_cons (ps_if (pt_not (pt_val (pc (c__law_told_anew (F := F) T X0) (hr.mono (by decide)) (pa_cons (pv 6) (pa_cons (pv 3) (pa_cons (pv 4) (pa_cons (pc (c__law_take T) (hr.mono (by decide)) (pa_cons (pv 2) (pa_cons pe_int pa_nil))) (pa_cons (pv 5) pa_nil)))))))) (pss_one (ps_ret pe_bl))
      pss_nil)
      (pss_cons (ps_if (pt_cmpR (op_neG (neM (c_System_eq (F := F) T) T.neY) (hr.mono (by decide))) (pv 6) (pc (c__law_system (F := F) T X0) (hr.mono (by decide)) (pa_cons (pv 3) (pa_cons (pv 4) (pa_cons (pv 5) pa_nil)))) (nomark _)) (pss_one (ps_ret pe_bl))
      pss_nil)
      (pss_one (ps_for PassesOwn.never rfl (pi_list (pe_lst (pa_cons pe_non (pa_cons pe_bl (pa_cons (pe_op op_sub pe_int pe_int) (pa_cons pe_int (pa_cons pe_str pa_nil))))))) (pg_name (i := 7) sc_law.nd rfl (by first | exact Or.inl rfl | exact Or.inr rfl))
      (pss_one (ps_if (pt_cmpR op_ne (pe_kind T Y X0.law rfl rfl hm1 hu1 (hr.mono (by decide)) (lamS_by (sc := defScope (topS 83)) (by decide +kernel)) rfl (fun _ _ _ _ _ => rfl) (fun A2 outer2 s2 H2 E2 f2 c2 hr2 => pcX (E := E2) (x_told T Y) hr2 (takes_of rfl rfl rfl rfl) (fun _ _ _ _ h => h) (pa_cons (pv 6) (pa_cons (pv 7) pa_nil)))) pe_str (nomark _)) (pss_one (ps_ret pe_bl))
      pss_nil)))))))))))))
      (pss_one (ps_ret pe_bl))), ?_⟩
    refine ⟨_, rfl, a, _, rfl, .inl hS, _, _, rfl, _, _, rfl, _, rfl, by split <;> split <;> omega, by split <;> split <;> omega, for_range (lo := 0) (n := Int.toNat _) (fun i σ H1 => ∃ s1 s2 s3 s4 s5 s6 s7 : Option V, σ = [some (.ref a), s1, s2, s3, s4, s5, s6, s7] ∧ SqL K H1 a (ns.map V.int) ∧ Tabs A.tabs H1) ⟨none, none, none, none, none, none, none, rfl, hS, hT⟩ ?_ ?_⟩
    · rintro i σ H1 hi ⟨s1, s2, s3, s4, s5, s6, s7, rfl, hS1, hT1⟩
      have hi4 : i < 4 := by
        revert hi
        split <;> split <;> omega
      refine ⟨_, rfl, _, rfl, a, ns, i, congrArg (fun z : Int => [V.ref a, V.int z]) (Int.zero_add (i : Int)), hS1, by omega, fun H2 r sm2 hr2 hR2 => ?_⟩
      have g2 : Grw A.tabs H1 H2 := .of sm2
      refine ⟨_, rfl, r, rfl, hR2, fun H3 p sb3 hR3 hp => ?_⟩
      have g3 := g2.sb hr2 hR2 sb3
      obtain ⟨F, inst, hF, hfit⟩ := field_of hp
      subst hF
      refine ⟨F, inst, ?_⟩
      have hm1' : 1 ≤ (if i = 0 then 4 else 3) ∧ (if i = 0 then 4 else 3) ≤ 4 := by split <;> omega
      refine ⟨_, rfl, _, rfl, rfl, .inr ⟨_, rfl, _, _, rfl, rfl, r, (if i = 0 then 4 else 3), congrArg (fun z : Int => [V.ref r, V.int z]) (three i), hR3, hm1'.1, by omega, fun H4 v sb4 hR4 hv => ⟨_, _, rfl, rfl, ?_⟩⟩⟩
      have g4 := g3.sb hr2 hR3 sb4
      have ev : (1 + (v : Int)) = ((1 + v : Nat) : Int) := by omega
      have hn4 : 1 + v ≤ 4 := by omega
      refine ⟨_, rfl, _, rfl, _, rfl, r, 1 + v, congrArg (fun z : Int => [V.ref r, V.int (Num.p F), V.int z, V.int 4]) ev, hR4, hp, hfit, hn4, fun H5 t l l2 ws sb5 hR5 ht hRw hwl hW => ?_⟩
      have g5 := g4.sb hr2 hR4 sb5
      refine ⟨_, _, _, .ref l, rfl, rfl, ht.sq, at_of (j := 0) rfl rfl, ?_⟩
      refine ⟨_, rfl, _, rfl, _, rfl, 1 + v, l, ws, congrArg (fun z : Int => [V.int (Num.p F), V.int z, V.ref l]) ev, hp, by omega, hn4, hRw, hwl, hW, g5.tabs hT1, fun H6 y g6 hY => ?_⟩
      have g16 := g5.trans g6
      refine ⟨_, rfl, _, rfl, _, rfl, _, rfl, y, 1 + v, l, ws, congrArg (fun z : Int => [V.ref y, V.int (Num.p F), V.int z, V.ref l]) ev, hp, hY, hn4, hRw.grw g6, hwl, hW, g16.tabs hT1, fun H7 g7 => ⟨true, rfl, iteF ?_⟩⟩
      have g17 := g16.trans g7
      have hR7 := (hR5.grw g6).grw g7
      have hRw7 := (hRw.grw g6).grw g7
      refine ⟨_, rfl, _, rfl, _, rfl, _, rfl, r, 5, rfl, hR7, by omega, by omega, fun H8 v8 sb8 hR8 hv8 => ?_⟩
      have g18 := g17.sb hr2 hR7 sb8
      have hY8 := (hY.grw g7).sb hR7 sb8
      have hRw8 := hRw7.sb hR7 sb8
      refine ⟨_, rfl, y, 1 + v, v8, l, ws, congrArg (fun z : Int => [V.ref y, V.int (Num.p F), V.int z, V.int v8, V.ref l]) ev, hp, hY8, hn4, by omega, hRw8, hwl, hW, g18.tabs hT1, fun H9 g9 => ⟨true, rfl, iteF ?_⟩⟩
      have g19 := g18.trans g9
      refine ⟨_, rfl, _, rfl, _, rfl, _, rfl, 1 + v, l, ws, congrArg (fun z : Int => [V.int (Num.p F), V.int z, V.ref l]) ev, hp, by omega, hn4, hRw8.grw g9, hwl, hW, g19.tabs hT1, fun H10 y2 g10 hY2 => ?_⟩
      have hY10 := (hY8.grw g9).grw g10
      obtain ⟨dx1, fa1, l11, l12, e1, _⟩ := id hY10
      obtain ⟨dx2, fa2, l21, l22, e2, _⟩ := id hY2
      refine ⟨⟨y, y2, dx1, dx2, _, _, rfl, rfl, e1, e2, 1 + v, ws, hY10, hY2⟩, fun H11 x11 => ⟨_, rfl, iteF ?_⟩⟩
      have g111 := (g19.trans g10).trans (.of x11)
      refine ⟨_, _, rfl, rfl, (by decide : 5 ≤ sizeLine), fun lo hlo => ?_⟩
      have so := same_upd (o := .lst [.non, .bl true, .int (0 - 1), .int 301, .str "1"]) hlo
      have g112 := g111.trans (.of so)
      refine ⟨lo, rfl, ⟨_, SqL.of upd_same⟩, for_list (K := K) (a := lo) (xs := [.non, .bl true, .int (0 - 1), .int 301, .str "1"]) (fun j σ H12 => ∃ s7 : Option V, σ = [some (.ref a), some (.int (0 + (i : Nat))), some (.ref r), some (.int (Num.p F)), some (.int (1 + (v : Nat))), some (.ref l), some (.ref y), s7] ∧ Grw A.tabs (upd H11 lo (.lst [.non, .bl true, .int (0 - 1), .int 301, .str "1"])) H12) ⟨_, rfl, .refl _⟩ (fun j σ H12 _ ⟨_, _, g12⟩ => SqL.of (g12.ext _ _ upd_same fun _ z => by cases z)) ?_ ?_⟩
      · rintro j x σ H12 hj ⟨s7, rfl, g12⟩
        have hodd : Odd x := by
          have := List.mem_of_getElem? hj
          rcases List.mem_cons.mp this with h | this
          · exact .inl h
          rcases List.mem_cons.mp this with h | this
          · exact .inr (.inl h)
          rcases List.mem_cons.mp this with h | this
          · exact .inr (.inr (.inr (.inl h)))
          rcases List.mem_cons.mp this with h | this
          · exact .inr (.inr (.inr (.inr h)))
          · exact .inr (.inr (.inl (List.mem_singleton.mp this)))
        refine ⟨(g112.trans g12).tabs hT1, fun H13 eN hT13 R => ⟨_, rfl, _, rfl, y, x, rfl, hodd, rfl, rfl, fun H14 sm14 => ⟨rfl, _, rfl, itNF rfl ?_⟩⟩⟩
        exact ⟨_, rfl, (g12.trans ⟨eN, fun _ => hT13⟩).trans (.of sm14)⟩
      · rintro σ H12 ⟨s7, rfl, g12⟩
        have gA := g112.trans g12
        exact ⟨_, _, _, _, _, _, _, rfl, SqL.grw hS1 gA, gA.tabs hT1⟩
    · rintro σ H1 ⟨s1, s2, s3, s4, s5, s6, s7, rfl, _, _⟩
      exact q H1
end
end FsR
end
section
/-! Which facts of the top are looked at. -/
set_option Elab.async false
set_option linter.all false
set_option maxRecDepth 100000
namespace FsR
open PySem PySem.Spec PyProof.Rows L2 LamX
def zfa0 : List He.Fa := [.free "len", .free "abs", .free "min", .free "max", .free "isinstance", .free "range", .free "list", .free "tuple", .free "sorted", .free "set", .free "dict", .free "int", .free "bool", .free "enumerate", .free "zip", .free "ValueError", .int "MOST_PRIME" 97, .int "MOST_PLACES" 60, .int "MOST_WISHES" 200, .int "MOST_DEGREE" 300]
def zfa1 : List He.Fa := [.int "MOST_PRODUCTS" 600, .int "MOST_PAIRS" 2000, .glo "ZERO", .glo "ONE", .glo "Field", .glo "Lines", .glo "Sum", .glo "System", .glo "FalseError", .glo "NoDegree", .glo "NoFilling", .glo "TooMany", .cls "Field", .mkr "Field", .noat "Field" "own_prime", .cls "Lines", .mkr "Lines", .noat "Lines" "line_field", .noat "Lines" "by_head", .cls "Sum"]
def zfa2 : List He.Fa := [.mkr "Sum", .noat "Sum" "own_field", .noat "Sum" "row", .cls "System", .mkr "System", .noat "System" "own_field", .noat "System" "many_places", .noat "System" "nought_sums", .noat "System" "upper_sums", .glo "is_whole", .glo "is_prime", .glo "lowest", .glo "order_of", .glo "is_place", .glo "is_product", .glo "joined_product", .glo "look_at_terms", .glo "gathered", .glo "is_wish", .glo "look_at_wishes"]
def zfa3 : List He.Fa := [.glo "look_at_degree", .glo "products_many", .glo "products_of", .glo "pairs_of", .glo "look_at_many", .glo "beside", .glo "lines_of", .glo "showing_by", .glo "told", .glo "_law_room", .glo "_law_take", .glo "_law_lowest", .glo "_law_make", .glo "_law_plus", .glo "_law_times", .glo "_law_prime", .glo "_law_number", .glo "_law_product", .glo "_law_terms", .glo "_law_gather"]
def zfa4 : List He.Fa := [.glo "_law_worth", .glo "_law_filling", .glo "_law_whole", .glo "_law_is_number", .glo "_law_wish", .glo "_law_upper", .glo "_law_wishes", .glo "_law_mult", .glo "_law_products", .glo "_law_degree", .glo "_law_is_showing", .glo "_law_is_worths", .glo "_law_system", .glo "_law_all", .glo "_law_kind", .glo "_law_word", .glo "_law_right", .glo "_law_told_anew", .glo "law", .meth "Field" "__init__"]
def zfa5 : List He.Fa := [.meth "Field" "__eq__", .meth "Field" "prime", .meth "Field" "made", .meth "Field" "plus", .meth "Field" "minus", .meth "Field" "times", .meth "Field" "over", .meth "Field" "is_number", .meth "Lines" "__init__", .meth "Lines" "less", .meth "Lines" "put", .meth "Lines" "made_of", .meth "Lines" "nought_on_all", .meth "Sum" "__init__", .meth "Sum" "__eq__", .meth "Sum" "field", .meth "Sum" "terms", .meth "Sum" "degree", .meth "Sum" "reach", .meth "System" "__init__"]
def zfa6 : List He.Fa := [.meth "System" "__eq__", .meth "System" "field", .meth "System" "places", .meth "System" "noughts", .exc "NoDegree", .exm "NoDegree" "FalseError" true]
def zfa : List He.Fa := zfa0 ++ zfa1 ++ zfa2 ++ zfa3 ++ zfa4 ++ zfa5 ++ zfa6
def zfn0 : List He.DefD := [⟨("is_whole", none), "is_whole", "is_whole", defArgs (topS 15), defBody (topS 15), defScope (topS 15), [], []⟩, ⟨("is_prime", none), "is_prime", "is_prime", defArgs (topS 16), defBody (topS 16), defScope (topS 16), [], []⟩, ⟨("lowest", none), "lowest", "lowest", defArgs (topS 17), defBody (topS 17), defScope (topS 17), [], []⟩, ⟨("order_of", none), "order_of", "order_of", defArgs (topS 20), defBody (topS 20), defScope (topS 20), [], []⟩, ⟨("is_place", none), "is_place", "is_place", defArgs (topS 24), defBody (topS 24), defScope (topS 24), [], []⟩, ⟨("is_product", none), "is_product", "is_product", defArgs (topS 25), defBody (topS 25), defScope (topS 25), [], []⟩, ⟨("joined_product", none), "joined_product", "joined_product", defArgs (topS 26), defBody (topS 26), defScope (topS 26), [], []⟩, ⟨("look_at_terms", none), "look_at_terms", "look_at_terms", defArgs (topS 31), defBody (topS 31), defScope (topS 31), [], []⟩, ⟨("gathered", none), "gathered", "gathered", defArgs (topS 32), defBody (topS 32), defScope (topS 32), [], []⟩, ⟨("is_wish", none), "is_wish", "is_wish", defArgs (topS 36), defBody (topS 36), defScope (topS 36), [], []⟩, ⟨("look_at_wishes", none), "look_at_wishes", "look_at_wishes", defArgs (topS 37), defBody (topS 37), defScope (topS 37), [], []⟩, ⟨("look_at_degree", none), "look_at_degree", "look_at_degree", defArgs (topS 41), defBody (topS 41), defScope (topS 41), [], []⟩, ⟨("products_many", none), "products_many", "products_many", defArgs (topS 42), defBody (topS 42), defScope (topS 42), [], []⟩, ⟨("products_of", none), "products_of", "products_of", defArgs (topS 43), defBody (topS 43), defScope (topS 43), [], []⟩, ⟨("pairs_of", none), "pairs_of", "pairs_of", defArgs (topS 47), defBody (topS 47), defScope (topS 47), [], []⟩, ⟨("look_at_many", none), "look_at_many", "look_at_many", defArgs (topS 48), defBody (topS 48), defScope (topS 48), [], []⟩, ⟨("beside", none), "beside", "beside", defArgs (topS 49), defBody (topS 49), defScope (topS 49), [], []⟩, ⟨("lines_of", none), "lines_of", "lines_of", defArgs (topS 50), defBody (topS 50), defScope (topS 50), [], []⟩, ⟨("showing_by", none), "showing_by", "showing_by", defArgs (topS 51), defBody (topS 51), defScope (topS 51), [], []⟩, ⟨("told", none), "told", "told", defArgs (topS 52), defBody (topS 52), defScope (topS 52), [], []⟩]
def zfn1 : List He.DefD := [⟨("_law_room", none), "_law_room", "_law_room", defArgs (topS 54), defBody (topS 54), defScope (topS 54), [], []⟩, ⟨("_law_take", none), "_law_take", "_law_take", defArgs (topS 55), defBody (topS 55), defScope (topS 55), [], []⟩, ⟨("_law_lowest", none), "_law_lowest", "_law_lowest", defArgs (topS 56), defBody (topS 56), defScope (topS 56), [], []⟩, ⟨("_law_make", none), "_law_make", "_law_make", defArgs (topS 57), defBody (topS 57), defScope (topS 57), [], []⟩, ⟨("_law_plus", none), "_law_plus", "_law_plus", defArgs (topS 58), defBody (topS 58), defScope (topS 58), [], []⟩, ⟨("_law_times", none), "_law_times", "_law_times", defArgs (topS 59), defBody (topS 59), defScope (topS 59), [], []⟩, ⟨("_law_prime", none), "_law_prime", "_law_prime", defArgs (topS 60), defBody (topS 60), defScope (topS 60), [], []⟩, ⟨("_law_number", none), "_law_number", "_law_number", defArgs (topS 61), defBody (topS 61), defScope (topS 61), [], []⟩, ⟨("_law_product", none), "_law_product", "_law_product", defArgs (topS 62), defBody (topS 62), defScope (topS 62), [], []⟩, ⟨("_law_terms", none), "_law_terms", "_law_terms", defArgs (topS 63), defBody (topS 63), defScope (topS 63), [], []⟩, ⟨("_law_gather", none), "_law_gather", "_law_gather", defArgs (topS 64), defBody (topS 64), defScope (topS 64), [], []⟩, ⟨("_law_worth", none), "_law_worth", "_law_worth", defArgs (topS 65), defBody (topS 65), defScope (topS 65), [], []⟩, ⟨("_law_filling", none), "_law_filling", "_law_filling", defArgs (topS 66), defBody (topS 66), defScope (topS 66), [], []⟩, ⟨("_law_whole", none), "_law_whole", "_law_whole", defArgs (topS 67), defBody (topS 67), defScope (topS 67), [], []⟩, ⟨("_law_is_number", none), "_law_is_number", "_law_is_number", defArgs (topS 68), defBody (topS 68), defScope (topS 68), [], []⟩, ⟨("_law_wish", none), "_law_wish", "_law_wish", defArgs (topS 69), defBody (topS 69), defScope (topS 69), [], []⟩, ⟨("_law_upper", none), "_law_upper", "_law_upper", defArgs (topS 70), defBody (topS 70), defScope (topS 70), [], []⟩, ⟨("_law_wishes", none), "_law_wishes", "_law_wishes", defArgs (topS 71), defBody (topS 71), defScope (topS 71), [], []⟩, ⟨("_law_mult", none), "_law_mult", "_law_mult", defArgs (topS 72), defBody (topS 72), defScope (topS 72), [], []⟩, ⟨("_law_products", none), "_law_products", "_law_products", defArgs (topS 73), defBody (topS 73), defScope (topS 73), [], []⟩]
def zfn2 : List He.DefD := [⟨("_law_degree", none), "_law_degree", "_law_degree", defArgs (topS 74), defBody (topS 74), defScope (topS 74), [], []⟩, ⟨("_law_is_showing", none), "_law_is_showing", "_law_is_showing", defArgs (topS 75), defBody (topS 75), defScope (topS 75), [], []⟩, ⟨("_law_is_worths", none), "_law_is_worths", "_law_is_worths", defArgs (topS 76), defBody (topS 76), defScope (topS 76), [], []⟩, ⟨("_law_system", none), "_law_system", "_law_system", defArgs (topS 77), defBody (topS 77), defScope (topS 77), [], []⟩, ⟨("_law_all", none), "_law_all", "_law_all", defArgs (topS 78), defBody (topS 78), defScope (topS 78), [], []⟩, ⟨("_law_kind", none), "_law_kind", "_law_kind", defArgs (topS 79), defBody (topS 79), defScope (topS 79), [], []⟩, ⟨("_law_word", none), "_law_word", "_law_word", defArgs (topS 80), defBody (topS 80), defScope (topS 80), [], []⟩, ⟨("_law_right", none), "_law_right", "_law_right", defArgs (topS 81), defBody (topS 81), defScope (topS 81), [], []⟩, ⟨("_law_told_anew", none), "_law_told_anew", "_law_told_anew", defArgs (topS 82), defBody (topS 82), defScope (topS 82), [], []⟩, ⟨("law", none), "law", "law", defArgs (topS 83), defBody (topS 83), defScope (topS 83), [], []⟩, ⟨("Field", some "__init__"), "__init__", "Field.__init__", defArgs (inClass (topS 18) 0), defBody (inClass (topS 18) 0), defScope (inClass (topS 18) 0), [.int 0], []⟩, ⟨("Field", some "__eq__"), "__eq__", "Field.__eq__", defArgs (inClass (topS 18) 1), defBody (inClass (topS 18) 1), defScope (inClass (topS 18) 1), [], []⟩, ⟨("Field", some "prime"), "prime", "Field.prime", defArgs (inClass (topS 18) 3), defBody (inClass (topS 18) 3), defScope (inClass (topS 18) 3), [], []⟩, ⟨("Field", some "made"), "made", "Field.made", defArgs (inClass (topS 18) 4), defBody (inClass (topS 18) 4), defScope (inClass (topS 18) 4), [.int 1], []⟩, ⟨("Field", some "plus"), "plus", "Field.plus", defArgs (inClass (topS 18) 5), defBody (inClass (topS 18) 5), defScope (inClass (topS 18) 5), [], []⟩, ⟨("Field", some "minus"), "minus", "Field.minus", defArgs (inClass (topS 18) 6), defBody (inClass (topS 18) 6), defScope (inClass (topS 18) 6), [], []⟩, ⟨("Field", some "times"), "times", "Field.times", defArgs (inClass (topS 18) 7), defBody (inClass (topS 18) 7), defScope (inClass (topS 18) 7), [], []⟩, ⟨("Field", some "over"), "over", "Field.over", defArgs (inClass (topS 18) 8), defBody (inClass (topS 18) 8), defScope (inClass (topS 18) 8), [], []⟩, ⟨("Field", some "is_number"), "is_number", "Field.is_number", defArgs (inClass (topS 18) 9), defBody (inClass (topS 18) 9), defScope (inClass (topS 18) 9), [], []⟩, ⟨("Lines", some "__init__"), "__init__", "Lines.__init__", defArgs (inClass (topS 21) 0), defBody (inClass (topS 21) 0), defScope (inClass (topS 21) 0), [], []⟩]
def zfn3 : List He.DefD := [⟨("Lines", some "less"), "less", "Lines.less", defArgs (inClass (topS 21) 1), defBody (inClass (topS 21) 1), defScope (inClass (topS 21) 1), [], []⟩, ⟨("Lines", some "put"), "put", "Lines.put", defArgs (inClass (topS 21) 2), defBody (inClass (topS 21) 2), defScope (inClass (topS 21) 2), [], []⟩, ⟨("Lines", some "made_of"), "made_of", "Lines.made_of", defArgs (inClass (topS 21) 3), defBody (inClass (topS 21) 3), defScope (inClass (topS 21) 3), [], []⟩, ⟨("Lines", some "nought_on_all"), "nought_on_all", "Lines.nought_on_all", defArgs (inClass (topS 21) 5), defBody (inClass (topS 21) 5), defScope (inClass (topS 21) 5), [], []⟩, ⟨("Sum", some "__init__"), "__init__", "Sum.__init__", defArgs (inClass (topS 33) 0), defBody (inClass (topS 33) 0), defScope (inClass (topS 33) 0), [.non], []⟩, ⟨("Sum", some "__eq__"), "__eq__", "Sum.__eq__", defArgs (inClass (topS 33) 1), defBody (inClass (topS 33) 1), defScope (inClass (topS 33) 1), [], []⟩, ⟨("Sum", some "field"), "field", "Sum.field", defArgs (inClass (topS 33) 5), defBody (inClass (topS 33) 5), defScope (inClass (topS 33) 5), [], []⟩, ⟨("Sum", some "terms"), "terms", "Sum.terms", defArgs (inClass (topS 33) 6), defBody (inClass (topS 33) 6), defScope (inClass (topS 33) 6), [], []⟩, ⟨("Sum", some "degree"), "degree", "Sum.degree", defArgs (inClass (topS 33) 7), defBody (inClass (topS 33) 7), defScope (inClass (topS 33) 7), [], []⟩, ⟨("Sum", some "reach"), "reach", "Sum.reach", defArgs (inClass (topS 33) 8), defBody (inClass (topS 33) 8), defScope (inClass (topS 33) 8), [], []⟩, ⟨("System", some "__init__"), "__init__", "System.__init__", defArgs (inClass (topS 38) 0), defBody (inClass (topS 38) 0), defScope (inClass (topS 38) 0), [.non], []⟩, ⟨("System", some "__eq__"), "__eq__", "System.__eq__", defArgs (inClass (topS 38) 1), defBody (inClass (topS 38) 1), defScope (inClass (topS 38) 1), [], []⟩, ⟨("System", some "field"), "field", "System.field", defArgs (inClass (topS 38) 3), defBody (inClass (topS 38) 3), defScope (inClass (topS 38) 3), [], []⟩, ⟨("System", some "places"), "places", "System.places", defArgs (inClass (topS 38) 4), defBody (inClass (topS 38) 4), defScope (inClass (topS 38) 4), [], []⟩, ⟨("System", some "noughts"), "noughts", "System.noughts", defArgs (inClass (topS 38) 5), defBody (inClass (topS 38) 5), defScope (inClass (topS 38) 5), [], []⟩]
def zfn : List He.DefD := zfn0 ++ zfn1 ++ zfn2 ++ zfn3
def zas0 : List Addr := [3, 30, 31, 80, 91, 92, 104, 145, 146, 152, 153, 157, 158, 164, 165, 173, 179, 180, 186, 187]
def zas1 : List Addr := [200, 201, 202, 206, 207, 213, 214, 220, 221, 227, 228, 234, 235, 241, 242, 244, 245, 255, 256, 269]
def zas2 : List Addr := [270, 276, 277, 283, 284, 290, 291, 304, 305, 307, 308, 318, 319, 325, 326, 332, 333, 363, 364, 368]
def zas3 : List Addr := [369, 377, 383, 384, 390, 391, 418, 419, 425, 426, 430, 431, 435, 436, 487, 488, 498, 499, 505, 506]
def zas4 : List Addr := [514, 520, 521, 527, 528, 541, 542, 548, 549, 555, 556, 577, 578, 588, 589, 595, 596, 600, 601, 605]
def zas5 : List Addr := [606, 612, 613, 617, 618, 624, 625, 629, 630, 636, 637, 643, 644, 650, 651, 657, 658, 662, 663, 669]
def zas6 : List Addr := [670, 676, 677, 683, 684, 690, 691, 695, 696, 702, 703, 707, 708, 712, 713, 717, 718, 724, 725, 731]
def zas7 : List Addr := [732, 738, 739, 743, 744, 748, 749, 755, 756, 760, 761, 765, 766, 770, 771, 775, 776, 780, 781, 787]
def zas8 : List Addr := [788, 794, 795, 801, 802, 806, 807, 813, 814, 820, 821]
def zas : List Addr := zas0 ++ zas1 ++ zas2 ++ zas3 ++ zas4 ++ zas5 ++ zas6 ++ zas7 ++ zas8

abbrev zgat : He.Defn := ("gathered", none)
abbrev zlaw : He.Defn := ("law", none)
def insB (K : PySem.W.Frag) (C : Addr) : Bool := He.eqO (PySem.W.findIn K (.ref C) "__class__") (some (some (.builtin "object.__class__"))) && (decide (PySem.W.mroIn K C (.type "object") = some true) && decide (PySem.W.kitOne K (.ref C) (.ref C) = some true))
def neB (K : PySem.W.Frag) (C : Addr) : Bool := He.eqO (PySem.W.findIn K (.ref C) "__ne__") (some (some (.builtin "object.__ne__"))) && decide (PySem.W.subIn K (.ref C) (.type "object") = some true)
def pairB (K : PySem.W.Frag) (a : Addr) (i j : Int) : Bool := match K.lookup a with
  | some ⟨.type c, _, .seq its _, _⟩ => decide (c = "tuple") && (match its.toList with
    | [.int x _, .int y _] => decide (x = i) && decide (y = j)
    | _ => false)
  | _ => false
def excB (K : PySem.W.Frag) (D : Addr) : Bool := He.eqO (PySem.W.findIn K (.ref D) "__getattribute__") (some (some (.builtin "BaseException.__getattribute__"))) && (He.eqO (PySem.W.findIn K (.ref D) "__getattr__") (some none) && (PySem.W.hasDictIn K D && (He.eqO (PySem.W.findIn K (.ref D) "__class__") (some (some (.builtin "object.__class__"))) && decide (PySem.W.mroIn K D (.type "object") = some true))))
def kitB (K : PySem.W.Frag) (x : Str) (c : Value) (b : Bool) : Bool := decide (PySem.W.kitOne K (.ref (He.ga K x)) c = some b)
def getB (K : PySem.W.Frag) : Bool := He.eqO (PySem.W.specialIn K (.builtin "object.__class__") "__get__") (some (some (.builtin "getset_descriptor.__get__"))) && decide (PySem.W.takesIn K (.builtin "object.__class__") = some true)
/-- the rest, by one Bool -/
def zex (K : PySem.W.Frag) : List Bool := [insB K (He.ga K "Field"), insB K (He.ga K "Sum"), insB K (He.ga K "System"), neB K (He.ga K "Field"), neB K (He.ga K "Sum"), neB K (He.ga K "System"), pairB K (He.ga K "ZERO") 0 1, pairB K (He.ga K "ONE") 1 1,
  excB K (He.ga K "NoDegree"), kitB K "NoDegree" (.ref (He.ga K "NoDegree")) true, kitB K "NoDegree" (.ref (He.ga K "NoFilling")) false, kitB K "NoDegree" (.ref (He.ga K "TooMany")) false, kitB K "NoDegree" (.type "ValueError") true, getB K, !decide ((He.cT K zgat).2 = (He.cT K zlaw).2)]
def ztb (g : Addr → Option Obj) (K : PySem.W.Frag) (p : He.Defn) : Bool := PySem.W.codeHdIn K (He.cT K p).1 (He.cT K p).2 && ((K.lookup (He.cT K p).2).isNone && (match g (He.cT K p).2 with
  | some o => He.emptyTab o
  | none => false))
abbrev ZAl : Type := He.AlD × List Bool × Bool × Bool
def zobs (g : Addr → Option Obj) (K : PySem.W.Frag) : ZAl := (He.obsD zfa zfn K, zex K, ztb g K zgat, ztb g K zlaw)
def zval : ZAl := (He.valD zfn, [true, true, true, true, true, true, true, true, true, true, true, true, true, true, true], true, true)
end FsR
end
section
/-! The top, run once. -/
set_option Elab.async false
set_option linter.all false
set_option maxRecDepth 100000
set_option maxHeartbeats 0
namespace FsR
open PySem PySem.Spec PyProof.Rows L2 LamX
/-- what is told of the heap that the top leaves -/
structure ZSays (h : Heap) (K : PySem.W.Frag) : Prop where
  d : He.SaysD zfa zfn K
  ex : zex K = [true, true, true, true, true, true, true, true, true, true, true, true, true, true, true]
  hd : ∀ p ∈ [zgat, zlaw], PySem.W.codeHdIn K (He.cT K p).1 (He.cT K p).2 = true
  out : ∀ p ∈ [zgat, zlaw], K.lookup (He.cT K p).2 = none
  empty : ∀ p ∈ [zgat, zlaw], h.get? (He.cT K p).2 = some { cls := .none, data := .fields #[] }
theorem ztb_ok {g : Addr → Option Obj} {K : PySem.W.Frag} {p : He.Defn} (h : ztb g K p = true) : PySem.W.codeHdIn K (He.cT K p).1 (He.cT K p).2 = true ∧ K.lookup (He.cT K p).2 = none ∧ g (He.cT K p).2 = some { cls := .none, data := .fields #[] } := by
  unfold ztb at h
  obtain ⟨h1, h2⟩ := He.ba h
  obtain ⟨h3, h4⟩ := He.ba h2
  refine ⟨h1, Option.isNone_iff_eq_none.mp h3, ?_⟩
  cases e : g (He.cT K p).2 with
  | none =>
    rw [e] at h4
    cases h4
  | some o =>
    rw [e] at h4
    rw [He.emptyTab_eq h4]
theorem zsays_of {h : Heap} {K : PySem.W.Frag} (e : zobs h.get? K = zval) : ZSays h K := by
  have e1 : He.obsD zfa zfn K = He.valD zfn := congrArg (fun z : ZAl => z.1) e
  have e2 : zex K = [true, true, true, true, true, true, true, true, true, true, true, true, true, true, true] := congrArg (fun z : ZAl => z.2.1) e
  have e3 := ztb_ok (show ztb h.get? K zgat = true from congrArg (fun z : ZAl => z.2.2.1) e)
  have e4 := ztb_ok (show ztb h.get? K zlaw = true from congrArg (fun z : ZAl => z.2.2.2) e)
  have key : ∀ p ∈ [zgat, zlaw], PySem.W.codeHdIn K (He.cT K p).1 (He.cT K p).2 = true ∧ K.lookup (He.cT K p).2 = none ∧ h.get? (He.cT K p).2 = some { cls := .none, data := .fields #[] } := fun p hp => by
    rcases List.mem_cons.mp hp with rfl | hp
    · exact e3
    · rw [List.mem_singleton.mp hp]
      exact e4
  exact ⟨e1, e2, fun p hp => (key p hp).1, fun p hp => (key p hp).2.1, fun p hp => (key p hp).2.2⟩
def zhook : PySem.W.Hook where
  α := ZAl
  obs := fun s => zobs s.heap.get? (He.frG s.heap.get? zas)
  val := fun _ => zval
  says := fun _ h => ∃ K : PySem.W.Frag, K.In h ∧ ZSays h K
  of := fun _ _ e => ⟨_, He.frG_in, zsays_of e⟩
  keeps := fun _ _ _ ⟨K, hK, c⟩ k => ⟨K, PySem.W.Frag.In.keeps hK k, ⟨c.d, c.ex, c.hd, c.out, fun p hp => k _ _ (c.empty p hp)⟩⟩
def zob (s : PySem.W.SharedT) : ZAl := zobs (HandSHeadRun.getT s) (He.frG (HandSHeadRun.getT s) zas)
theorem zob_eq (s : PySem.W.SharedT) : zob s = zhook.obs s.abs := by
  have e : HandSHeadRun.getT s = s.abs.heap.get? := funext (HandSHeadRun.getT_eq s)
  show zobs (HandSHeadRun.getT s) (He.frG (HandSHeadRun.getT s) zas) = zobs s.abs.heap.get? (He.frG s.abs.heap.get? zas)
  rw [e]
abbrev ZR : PySem.W.OpenRow := PySem.W.OpenLaw.row PySem.Challenge.rw_falsesums_k30_whole_one_of_the_two
abbrev zv : Program := PySem.W.view ZR.prog [83]
def znames0 : List Str := ["_wall", "FalseError", "NoField", "NoNumber", "Unlike", "NoFilling", "NoDegree", "TooMany", "NoSum", "NoSystem", "MOST_PRIME", "ZERO", "ONE", "is_whole", "is_prime", "lowest", "Field", "order_of", "Lines", "MOST_PLACES"]
def znames1 : List Str := ["is_place", "is_product", "joined_product", "number_text", "term_text", "written", "plain_names", "look_at_terms", "gathered", "Sum", "MOST_WISHES", "is_wish", "look_at_wishes", "System", "MOST_DEGREE", "look_at_degree", "products_many", "products_of", "MOST_PRODUCTS", "MOST_PAIRS"]
def znames2 : List Str := ["pairs_of", "look_at_many", "beside", "lines_of", "showing_by", "told", "_law_room", "_law_take", "_law_lowest", "_law_make", "_law_plus", "_law_times", "_law_prime", "_law_number", "_law_product", "_law_terms", "_law_gather", "_law_worth", "_law_filling", "_law_whole"]
def znames3 : List Str := ["_law_is_number", "_law_wish", "_law_upper", "_law_wishes", "_law_mult", "_law_products", "_law_degree", "_law_is_showing", "_law_is_worths", "_law_system", "_law_all", "_law_kind", "_law_word", "_law_right", "_law_told_anew"]
def znames : List Str := znames0 ++ znames1 ++ znames2 ++ znames3
theorem zrun (w : World) : HandSHeadRun.RunEq ZR zv zhook zob 20000 znames w := by
  intro os
  kernel_rfl
end FsR
end
section
/-! What the walks ask of the top, out of the facts; the law holds. -/
set_option Elab.async false
set_option linter.all false
set_option maxRecDepth 100000
namespace FsR
open PySem PySem.Spec PyProof.Rows L2 LamX
section
variable {K : PySem.W.Frag} {h : Heap} {mg : Str → Option Value}
theorem zint {x : Str} {i : Int} (h : ∃ t, mg x = some (.int i t)) : ∃ u, mg x = some u ∧ RelV (.int i) u := by
  obtain ⟨t, e⟩ := h
  exact ⟨_, e, t, rfl⟩
theorem zx (c : ZSays h K) (i : Nat) {b : Bool} (e : (zex K)[i]? = some b) : b = true := by
  have hb := List.mem_of_getElem? e
  rw [c.ex] at hb
  simpa using hb
theorem zpair {a : Addr} {i j : Int} (h : pairB K a i j = true) : KTup K a [.int i, .int j] := by
  unfold pairB at h
  cases q : K.lookup a with
  | none =>
    rw [q] at h
    cases h
  | some o =>
    obtain ⟨oc, od, dt, osl⟩ := o
    rw [q] at h
    cases oc with
    | type c =>
      cases dt with
      | seq its n =>
        obtain ⟨h1, h2⟩ := He.ba h
        obtain ⟨l⟩ := its
        cases l with
        | nil => cases h2
        | cons u l =>
          cases l with
          | nil => cases u <;> cases h2
          | cons v l =>
            cases l with
            | cons w l => cases u <;> cases v <;> cases h2
            | nil =>
              cases u with
              | int x t =>
                cases v with
                | int y t2 =>
                  obtain ⟨h3, h4⟩ := He.ba h2
                  rw [of_decide_eq_true h1] at q
                  rw [← of_decide_eq_true h3, ← of_decide_eq_true h4]
                  exact ⟨_, _, n, q, rfl, rfl, (by decide : 2 ≤ sizeLine), .cons ⟨t, rfl⟩ (.cons ⟨t2, rfl⟩ .nil)⟩
                | _ => cases h2
              | _ => cases v <;> cases h2
      | _ => cases h
    | _ => cases dt <;> cases h
theorem zmk {x : Str} (c : (He.Fa.mkr x).ok K = true) (m : mg x = some (.ref (He.ga K x))) : MkC K mg (He.ga K x) x := by
  have M := He.mkr_ok c
  exact ⟨M.makes, M.kp, m⟩
theorem zins {C : Addr} (c : Cls K C) (h : insB K C = true) (hg : getB K = true) : C8.InsC K C := by
  obtain ⟨h1, h2⟩ := He.ba h
  obtain ⟨h3, h4⟩ := He.ba h2
  obtain ⟨g1, g2⟩ := He.ba hg
  exact ⟨c, He.eqO_ok h1, He.eqO_ok g1, of_decide_eq_true g2, of_decide_eq_true h3, of_decide_eq_true h4⟩
theorem zne {C : Addr} (h : neB K C = true) : NoNe K C := by
  obtain ⟨h1, h2⟩ := He.ba h
  exact ⟨He.eqO_ok h1, of_decide_eq_true h2⟩
theorem zexc {D : Addr} (h : excB K D = true) (hg : getB K = true) (hs : PySem.W.subIn K (.ref D) (.type "BaseException") = some true) : ExcC K D := by
  obtain ⟨h1, h⟩ := He.ba h
  obtain ⟨h2, h⟩ := He.ba h
  obtain ⟨h3, h⟩ := He.ba h
  obtain ⟨h4, h5⟩ := He.ba h
  obtain ⟨g1, g2⟩ := He.ba hg
  exact ⟨He.eqO_ok h1, He.eqO_ok h2, hs, h3, He.eqO_ok h4, He.eqO_ok g1, of_decide_eq_true g2, of_decide_eq_true h5⟩
theorem zgd {x : Str} {st : Stmt} {dvs : List V} (h : ∃ fd, FunD K x x (defArgs st) (defBody st) (defScope st) dvs [] (He.ga K x) fd) (m : mg x = some (.ref (He.ga K x))) : Gd K mg x st dvs := let ⟨fd, F⟩ := h; ⟨_, fd, F, m⟩
theorem zgdC {x : Str} {st : Stmt} {dvs : List V} (h : ∃ fd, FunD K x x (defArgs st) (defBody st) (defScope st) dvs [] (He.ga K x) fd) (m : mg x = some (.ref (He.ga K x))) : GdC K mg x st dvs (.ref (He.codeOf K (x, none))) := by
  obtain ⟨fd, F⟩ := h
  have F0 := F
  obtain ⟨oc, od, dV, kV, doc, pm, an, cdv, ct, osl, rfl, lk, hcd, _, _⟩ := F.ex
  obtain ⟨c, rfl⟩ := He.codeIn_ref hcd
  exact ⟨_, _, F0, m, by rw [He.codeOf_eq (p := (x, none)) lk rfl]⟩
theorem zmd {x m q : Str} {st : Stmt} {dvs : List V} (h : ∃ fd, FunD K m q (defArgs st) (defBody st) (defScope st) dvs [] (He.ma K (He.ga K x) m) fd) (M : Meth K (He.ga K x) m (He.ma K (He.ga K x) m)) : Md K (He.ga K x) m q st dvs := let ⟨fd, F⟩ := h; ⟨_, fd, F, M.at_, M.fn⟩
def zA (K : PySem.W.Frag) : Ad := ⟨He.ga K "Field", He.ga K "Lines", He.ga K "Sum", He.ga K "System", He.ga K "ZERO", He.ga K "ONE", (He.cT K zgat).1, (He.cT K zgat).2, (He.cT K zlaw).1, (He.cT K zlaw).2⟩
def zB (K : PySem.W.Frag) : Be := ⟨He.ga K "FalseError", He.ga K "NoDegree", He.ga K "NoFilling", He.ga K "TooMany"⟩
theorem ztxt (X : K.In h) (G : h.Ns mainGlobals mg) (c : ZSays h K) : Txt K mg (zA K) where
  len := (He.free_ok X G (c.d.fact 0 (f := .free "len") rfl))
  abs := (He.free_ok X G (c.d.fact 1 (f := .free "abs") rfl))
  min := (He.free_ok X G (c.d.fact 2 (f := .free "min") rfl))
  max := (He.free_ok X G (c.d.fact 3 (f := .free "max") rfl))
  isinstance := (He.free_ok X G (c.d.fact 4 (f := .free "isinstance") rfl))
  range := (He.free_ok X G (c.d.fact 5 (f := .free "range") rfl))
  list := (He.free_ok X G (c.d.fact 6 (f := .free "list") rfl))
  tuple := (He.free_ok X G (c.d.fact 7 (f := .free "tuple") rfl))
  sorted := (He.free_ok X G (c.d.fact 8 (f := .free "sorted") rfl))
  set := (He.free_ok X G (c.d.fact 9 (f := .free "set") rfl))
  dict := (He.free_ok X G (c.d.fact 10 (f := .free "dict") rfl))
  int := (He.free_ok X G (c.d.fact 11 (f := .free "int") rfl))
  bool := (He.free_ok X G (c.d.fact 12 (f := .free "bool") rfl))
  enumerate := (He.free_ok X G (c.d.fact 13 (f := .free "enumerate") rfl))
  zip := (He.free_ok X G (c.d.fact 14 (f := .free "zip") rfl))
  MOST_PRIME := (zint (He.int_ok X G (c.d.fact 16 (f := .int "MOST_PRIME" 97) rfl)))
  MOST_PLACES := (zint (He.int_ok X G (c.d.fact 17 (f := .int "MOST_PLACES" 60) rfl)))
  MOST_WISHES := (zint (He.int_ok X G (c.d.fact 18 (f := .int "MOST_WISHES" 200) rfl)))
  MOST_DEGREE := (zint (He.int_ok X G (c.d.fact 19 (f := .int "MOST_DEGREE" 300) rfl)))
  MOST_PRODUCTS := (zint (He.int_ok X G (c.d.fact 20 (f := .int "MOST_PRODUCTS" 600) rfl)))
  MOST_PAIRS := (zint (He.int_ok X G (c.d.fact 21 (f := .int "MOST_PAIRS" 2000) rfl)))
  ZERO := (He.glo_ok X G (c.d.fact 22 (f := .glo "ZERO") rfl))
  ONE := (He.glo_ok X G (c.d.fact 23 (f := .glo "ONE") rfl))
  zero := (zpair (zx c 6 rfl))
  one := (zpair (zx c 7 rfl))
  Field := (He.glo_ok X G (c.d.fact 24 (f := .glo "Field") rfl))
  clF := (He.cls_ok (c.d.fact 32 (f := .cls "Field") rfl))
  mkF := (zmk (id (c.d.fact 33 (f := .mkr "Field") rfl)) (He.glo_ok X G (c.d.fact 24 (f := .glo "Field") rfl)))
  nF_own_prime := (He.noat_ok (c.d.fact 34 (f := .noat "Field" "own_prime") rfl))
  Lines := (He.glo_ok X G (c.d.fact 25 (f := .glo "Lines") rfl))
  clL := (He.cls_ok (c.d.fact 35 (f := .cls "Lines") rfl))
  mkL := (zmk (id (c.d.fact 36 (f := .mkr "Lines") rfl)) (He.glo_ok X G (c.d.fact 25 (f := .glo "Lines") rfl)))
  nL_line_field := (He.noat_ok (c.d.fact 37 (f := .noat "Lines" "line_field") rfl))
  nL_by_head := (He.noat_ok (c.d.fact 38 (f := .noat "Lines" "by_head") rfl))
  Sum := (He.glo_ok X G (c.d.fact 26 (f := .glo "Sum") rfl))
  clS := (He.cls_ok (c.d.fact 39 (f := .cls "Sum") rfl))
  mkS := (zmk (id (c.d.fact 40 (f := .mkr "Sum") rfl)) (He.glo_ok X G (c.d.fact 26 (f := .glo "Sum") rfl)))
  nS_own_field := (He.noat_ok (c.d.fact 41 (f := .noat "Sum" "own_field") rfl))
  nS_row := (He.noat_ok (c.d.fact 42 (f := .noat "Sum" "row") rfl))
  System := (He.glo_ok X G (c.d.fact 27 (f := .glo "System") rfl))
  clY := (He.cls_ok (c.d.fact 43 (f := .cls "System") rfl))
  mkY := (zmk (id (c.d.fact 44 (f := .mkr "System") rfl)) (He.glo_ok X G (c.d.fact 27 (f := .glo "System") rfl)))
  nY_own_field := (He.noat_ok (c.d.fact 45 (f := .noat "System" "own_field") rfl))
  nY_many_places := (He.noat_ok (c.d.fact 46 (f := .noat "System" "many_places") rfl))
  nY_nought_sums := (He.noat_ok (c.d.fact 47 (f := .noat "System" "nought_sums") rfl))
  nY_upper_sums := (He.noat_ok (c.d.fact 48 (f := .noat "System" "upper_sums") rfl))
  isF := (zins (He.cls_ok (c.d.fact 32 (f := .cls "Field") rfl)) (zx c 0 rfl) (zx c 13 rfl))
  neF := (zne (zx c 3 rfl))
  isS := (zins (He.cls_ok (c.d.fact 39 (f := .cls "Sum") rfl)) (zx c 1 rfl) (zx c 13 rfl))
  neS := (zne (zx c 4 rfl))
  isY := (zins (He.cls_ok (c.d.fact 43 (f := .cls "System") rfl)) (zx c 2 rfl) (zx c 13 rfl))
  neY := (zne (zx c 5 rfl))
  g_is_whole := (zgd (c.d.def_ 0 (d := ⟨("is_whole", none), "is_whole", "is_whole", defArgs (topS 15), defBody (topS 15), defScope (topS 15), [], []⟩) rfl) (He.glo_ok X G (c.d.fact 49 (f := .glo "is_whole") rfl)))
  g_is_prime := (zgd (c.d.def_ 1 (d := ⟨("is_prime", none), "is_prime", "is_prime", defArgs (topS 16), defBody (topS 16), defScope (topS 16), [], []⟩) rfl) (He.glo_ok X G (c.d.fact 50 (f := .glo "is_prime") rfl)))
  g_lowest := (zgd (c.d.def_ 2 (d := ⟨("lowest", none), "lowest", "lowest", defArgs (topS 17), defBody (topS 17), defScope (topS 17), [], []⟩) rfl) (He.glo_ok X G (c.d.fact 51 (f := .glo "lowest") rfl)))
  g_order_of := (zgd (c.d.def_ 3 (d := ⟨("order_of", none), "order_of", "order_of", defArgs (topS 20), defBody (topS 20), defScope (topS 20), [], []⟩) rfl) (He.glo_ok X G (c.d.fact 52 (f := .glo "order_of") rfl)))
  g_is_place := (zgd (c.d.def_ 4 (d := ⟨("is_place", none), "is_place", "is_place", defArgs (topS 24), defBody (topS 24), defScope (topS 24), [], []⟩) rfl) (He.glo_ok X G (c.d.fact 53 (f := .glo "is_place") rfl)))
  g_is_product := (zgd (c.d.def_ 5 (d := ⟨("is_product", none), "is_product", "is_product", defArgs (topS 25), defBody (topS 25), defScope (topS 25), [], []⟩) rfl) (He.glo_ok X G (c.d.fact 54 (f := .glo "is_product") rfl)))
  g_joined_product := (zgd (c.d.def_ 6 (d := ⟨("joined_product", none), "joined_product", "joined_product", defArgs (topS 26), defBody (topS 26), defScope (topS 26), [], []⟩) rfl) (He.glo_ok X G (c.d.fact 55 (f := .glo "joined_product") rfl)))
  g_look_at_terms := (zgd (c.d.def_ 7 (d := ⟨("look_at_terms", none), "look_at_terms", "look_at_terms", defArgs (topS 31), defBody (topS 31), defScope (topS 31), [], []⟩) rfl) (He.glo_ok X G (c.d.fact 56 (f := .glo "look_at_terms") rfl)))
  g_gathered := (zgdC (c.d.def_ 8 (d := ⟨("gathered", none), "gathered", "gathered", defArgs (topS 32), defBody (topS 32), defScope (topS 32), [], []⟩) rfl) (He.glo_ok X G (c.d.fact 57 (f := .glo "gathered") rfl)))
  g_is_wish := (zgd (c.d.def_ 9 (d := ⟨("is_wish", none), "is_wish", "is_wish", defArgs (topS 36), defBody (topS 36), defScope (topS 36), [], []⟩) rfl) (He.glo_ok X G (c.d.fact 58 (f := .glo "is_wish") rfl)))
  g_look_at_wishes := (zgd (c.d.def_ 10 (d := ⟨("look_at_wishes", none), "look_at_wishes", "look_at_wishes", defArgs (topS 37), defBody (topS 37), defScope (topS 37), [], []⟩) rfl) (He.glo_ok X G (c.d.fact 59 (f := .glo "look_at_wishes") rfl)))
  g_look_at_degree := (zgd (c.d.def_ 11 (d := ⟨("look_at_degree", none), "look_at_degree", "look_at_degree", defArgs (topS 41), defBody (topS 41), defScope (topS 41), [], []⟩) rfl) (He.glo_ok X G (c.d.fact 60 (f := .glo "look_at_degree") rfl)))
  g_products_many := (zgd (c.d.def_ 12 (d := ⟨("products_many", none), "products_many", "products_many", defArgs (topS 42), defBody (topS 42), defScope (topS 42), [], []⟩) rfl) (He.glo_ok X G (c.d.fact 61 (f := .glo "products_many") rfl)))
  g_products_of := (zgd (c.d.def_ 13 (d := ⟨("products_of", none), "products_of", "products_of", defArgs (topS 43), defBody (topS 43), defScope (topS 43), [], []⟩) rfl) (He.glo_ok X G (c.d.fact 62 (f := .glo "products_of") rfl)))
  g_pairs_of := (zgd (c.d.def_ 14 (d := ⟨("pairs_of", none), "pairs_of", "pairs_of", defArgs (topS 47), defBody (topS 47), defScope (topS 47), [], []⟩) rfl) (He.glo_ok X G (c.d.fact 63 (f := .glo "pairs_of") rfl)))
  g_look_at_many := (zgd (c.d.def_ 15 (d := ⟨("look_at_many", none), "look_at_many", "look_at_many", defArgs (topS 48), defBody (topS 48), defScope (topS 48), [], []⟩) rfl) (He.glo_ok X G (c.d.fact 64 (f := .glo "look_at_many") rfl)))
  g_beside := (zgd (c.d.def_ 16 (d := ⟨("beside", none), "beside", "beside", defArgs (topS 49), defBody (topS 49), defScope (topS 49), [], []⟩) rfl) (He.glo_ok X G (c.d.fact 65 (f := .glo "beside") rfl)))
  g_lines_of := (zgd (c.d.def_ 17 (d := ⟨("lines_of", none), "lines_of", "lines_of", defArgs (topS 50), defBody (topS 50), defScope (topS 50), [], []⟩) rfl) (He.glo_ok X G (c.d.fact 66 (f := .glo "lines_of") rfl)))
  g_showing_by := (zgd (c.d.def_ 18 (d := ⟨("showing_by", none), "showing_by", "showing_by", defArgs (topS 51), defBody (topS 51), defScope (topS 51), [], []⟩) rfl) (He.glo_ok X G (c.d.fact 67 (f := .glo "showing_by") rfl)))
  g_told := (zgd (c.d.def_ 19 (d := ⟨("told", none), "told", "told", defArgs (topS 52), defBody (topS 52), defScope (topS 52), [], []⟩) rfl) (He.glo_ok X G (c.d.fact 68 (f := .glo "told") rfl)))
  g__law_room := (zgd (c.d.def_ 20 (d := ⟨("_law_room", none), "_law_room", "_law_room", defArgs (topS 54), defBody (topS 54), defScope (topS 54), [], []⟩) rfl) (He.glo_ok X G (c.d.fact 69 (f := .glo "_law_room") rfl)))
  g__law_take := (zgd (c.d.def_ 21 (d := ⟨("_law_take", none), "_law_take", "_law_take", defArgs (topS 55), defBody (topS 55), defScope (topS 55), [], []⟩) rfl) (He.glo_ok X G (c.d.fact 70 (f := .glo "_law_take") rfl)))
  g__law_lowest := (zgd (c.d.def_ 22 (d := ⟨("_law_lowest", none), "_law_lowest", "_law_lowest", defArgs (topS 56), defBody (topS 56), defScope (topS 56), [], []⟩) rfl) (He.glo_ok X G (c.d.fact 71 (f := .glo "_law_lowest") rfl)))
  g__law_make := (zgd (c.d.def_ 23 (d := ⟨("_law_make", none), "_law_make", "_law_make", defArgs (topS 57), defBody (topS 57), defScope (topS 57), [], []⟩) rfl) (He.glo_ok X G (c.d.fact 72 (f := .glo "_law_make") rfl)))
  g__law_plus := (zgd (c.d.def_ 24 (d := ⟨("_law_plus", none), "_law_plus", "_law_plus", defArgs (topS 58), defBody (topS 58), defScope (topS 58), [], []⟩) rfl) (He.glo_ok X G (c.d.fact 73 (f := .glo "_law_plus") rfl)))
  g__law_times := (zgd (c.d.def_ 25 (d := ⟨("_law_times", none), "_law_times", "_law_times", defArgs (topS 59), defBody (topS 59), defScope (topS 59), [], []⟩) rfl) (He.glo_ok X G (c.d.fact 74 (f := .glo "_law_times") rfl)))
  g__law_prime := (zgd (c.d.def_ 26 (d := ⟨("_law_prime", none), "_law_prime", "_law_prime", defArgs (topS 60), defBody (topS 60), defScope (topS 60), [], []⟩) rfl) (He.glo_ok X G (c.d.fact 75 (f := .glo "_law_prime") rfl)))
  g__law_number := (zgd (c.d.def_ 27 (d := ⟨("_law_number", none), "_law_number", "_law_number", defArgs (topS 61), defBody (topS 61), defScope (topS 61), [], []⟩) rfl) (He.glo_ok X G (c.d.fact 76 (f := .glo "_law_number") rfl)))
  g__law_product := (zgd (c.d.def_ 28 (d := ⟨("_law_product", none), "_law_product", "_law_product", defArgs (topS 62), defBody (topS 62), defScope (topS 62), [], []⟩) rfl) (He.glo_ok X G (c.d.fact 77 (f := .glo "_law_product") rfl)))
  g__law_terms := (zgd (c.d.def_ 29 (d := ⟨("_law_terms", none), "_law_terms", "_law_terms", defArgs (topS 63), defBody (topS 63), defScope (topS 63), [], []⟩) rfl) (He.glo_ok X G (c.d.fact 78 (f := .glo "_law_terms") rfl)))
  g__law_gather := (zgd (c.d.def_ 30 (d := ⟨("_law_gather", none), "_law_gather", "_law_gather", defArgs (topS 64), defBody (topS 64), defScope (topS 64), [], []⟩) rfl) (He.glo_ok X G (c.d.fact 79 (f := .glo "_law_gather") rfl)))
  g__law_worth := (zgd (c.d.def_ 31 (d := ⟨("_law_worth", none), "_law_worth", "_law_worth", defArgs (topS 65), defBody (topS 65), defScope (topS 65), [], []⟩) rfl) (He.glo_ok X G (c.d.fact 80 (f := .glo "_law_worth") rfl)))
  g__law_filling := (zgd (c.d.def_ 32 (d := ⟨("_law_filling", none), "_law_filling", "_law_filling", defArgs (topS 66), defBody (topS 66), defScope (topS 66), [], []⟩) rfl) (He.glo_ok X G (c.d.fact 81 (f := .glo "_law_filling") rfl)))
  g__law_whole := (zgd (c.d.def_ 33 (d := ⟨("_law_whole", none), "_law_whole", "_law_whole", defArgs (topS 67), defBody (topS 67), defScope (topS 67), [], []⟩) rfl) (He.glo_ok X G (c.d.fact 82 (f := .glo "_law_whole") rfl)))
  g__law_is_number := (zgd (c.d.def_ 34 (d := ⟨("_law_is_number", none), "_law_is_number", "_law_is_number", defArgs (topS 68), defBody (topS 68), defScope (topS 68), [], []⟩) rfl) (He.glo_ok X G (c.d.fact 83 (f := .glo "_law_is_number") rfl)))
  g__law_wish := (zgd (c.d.def_ 35 (d := ⟨("_law_wish", none), "_law_wish", "_law_wish", defArgs (topS 69), defBody (topS 69), defScope (topS 69), [], []⟩) rfl) (He.glo_ok X G (c.d.fact 84 (f := .glo "_law_wish") rfl)))
  g__law_upper := (zgd (c.d.def_ 36 (d := ⟨("_law_upper", none), "_law_upper", "_law_upper", defArgs (topS 70), defBody (topS 70), defScope (topS 70), [], []⟩) rfl) (He.glo_ok X G (c.d.fact 85 (f := .glo "_law_upper") rfl)))
  g__law_wishes := (zgd (c.d.def_ 37 (d := ⟨("_law_wishes", none), "_law_wishes", "_law_wishes", defArgs (topS 71), defBody (topS 71), defScope (topS 71), [], []⟩) rfl) (He.glo_ok X G (c.d.fact 86 (f := .glo "_law_wishes") rfl)))
  g__law_mult := (zgd (c.d.def_ 38 (d := ⟨("_law_mult", none), "_law_mult", "_law_mult", defArgs (topS 72), defBody (topS 72), defScope (topS 72), [], []⟩) rfl) (He.glo_ok X G (c.d.fact 87 (f := .glo "_law_mult") rfl)))
  g__law_products := (zgd (c.d.def_ 39 (d := ⟨("_law_products", none), "_law_products", "_law_products", defArgs (topS 73), defBody (topS 73), defScope (topS 73), [], []⟩) rfl) (He.glo_ok X G (c.d.fact 88 (f := .glo "_law_products") rfl)))
  g__law_degree := (zgd (c.d.def_ 40 (d := ⟨("_law_degree", none), "_law_degree", "_law_degree", defArgs (topS 74), defBody (topS 74), defScope (topS 74), [], []⟩) rfl) (He.glo_ok X G (c.d.fact 89 (f := .glo "_law_degree") rfl)))
  g__law_is_showing := (zgd (c.d.def_ 41 (d := ⟨("_law_is_showing", none), "_law_is_showing", "_law_is_showing", defArgs (topS 75), defBody (topS 75), defScope (topS 75), [], []⟩) rfl) (He.glo_ok X G (c.d.fact 90 (f := .glo "_law_is_showing") rfl)))
  g__law_is_worths := (zgd (c.d.def_ 42 (d := ⟨("_law_is_worths", none), "_law_is_worths", "_law_is_worths", defArgs (topS 76), defBody (topS 76), defScope (topS 76), [], []⟩) rfl) (He.glo_ok X G (c.d.fact 91 (f := .glo "_law_is_worths") rfl)))
  g__law_system := (zgd (c.d.def_ 43 (d := ⟨("_law_system", none), "_law_system", "_law_system", defArgs (topS 77), defBody (topS 77), defScope (topS 77), [], []⟩) rfl) (He.glo_ok X G (c.d.fact 92 (f := .glo "_law_system") rfl)))
  g__law_all := (zgd (c.d.def_ 44 (d := ⟨("_law_all", none), "_law_all", "_law_all", defArgs (topS 78), defBody (topS 78), defScope (topS 78), [], []⟩) rfl) (He.glo_ok X G (c.d.fact 93 (f := .glo "_law_all") rfl)))
  g__law_kind := (zgd (c.d.def_ 45 (d := ⟨("_law_kind", none), "_law_kind", "_law_kind", defArgs (topS 79), defBody (topS 79), defScope (topS 79), [], []⟩) rfl) (He.glo_ok X G (c.d.fact 94 (f := .glo "_law_kind") rfl)))
  g__law_word := (zgd (c.d.def_ 46 (d := ⟨("_law_word", none), "_law_word", "_law_word", defArgs (topS 80), defBody (topS 80), defScope (topS 80), [], []⟩) rfl) (He.glo_ok X G (c.d.fact 95 (f := .glo "_law_word") rfl)))
  g__law_right := (zgd (c.d.def_ 47 (d := ⟨("_law_right", none), "_law_right", "_law_right", defArgs (topS 81), defBody (topS 81), defScope (topS 81), [], []⟩) rfl) (He.glo_ok X G (c.d.fact 96 (f := .glo "_law_right") rfl)))
  g__law_told_anew := (zgd (c.d.def_ 48 (d := ⟨("_law_told_anew", none), "_law_told_anew", "_law_told_anew", defArgs (topS 82), defBody (topS 82), defScope (topS 82), [], []⟩) rfl) (He.glo_ok X G (c.d.fact 97 (f := .glo "_law_told_anew") rfl)))
  m_Field_init := (zmd (c.d.def_ 50 (d := ⟨("Field", some "__init__"), "__init__", "Field.__init__", defArgs (inClass (topS 18) 0), defBody (inClass (topS 18) 0), defScope (inClass (topS 18) 0), [.int 0], []⟩) rfl) (He.meth_ok (c.d.fact 99 (f := .meth "Field" "__init__") rfl)))
  m_Field_eq := (zmd (c.d.def_ 51 (d := ⟨("Field", some "__eq__"), "__eq__", "Field.__eq__", defArgs (inClass (topS 18) 1), defBody (inClass (topS 18) 1), defScope (inClass (topS 18) 1), [], []⟩) rfl) (He.meth_ok (c.d.fact 100 (f := .meth "Field" "__eq__") rfl)))
  m_Field_prime := (zmd (c.d.def_ 52 (d := ⟨("Field", some "prime"), "prime", "Field.prime", defArgs (inClass (topS 18) 3), defBody (inClass (topS 18) 3), defScope (inClass (topS 18) 3), [], []⟩) rfl) (He.meth_ok (c.d.fact 101 (f := .meth "Field" "prime") rfl)))
  m_Field_made := (zmd (c.d.def_ 53 (d := ⟨("Field", some "made"), "made", "Field.made", defArgs (inClass (topS 18) 4), defBody (inClass (topS 18) 4), defScope (inClass (topS 18) 4), [.int 1], []⟩) rfl) (He.meth_ok (c.d.fact 102 (f := .meth "Field" "made") rfl)))
  m_Field_plus := (zmd (c.d.def_ 54 (d := ⟨("Field", some "plus"), "plus", "Field.plus", defArgs (inClass (topS 18) 5), defBody (inClass (topS 18) 5), defScope (inClass (topS 18) 5), [], []⟩) rfl) (He.meth_ok (c.d.fact 103 (f := .meth "Field" "plus") rfl)))
  m_Field_minus := (zmd (c.d.def_ 55 (d := ⟨("Field", some "minus"), "minus", "Field.minus", defArgs (inClass (topS 18) 6), defBody (inClass (topS 18) 6), defScope (inClass (topS 18) 6), [], []⟩) rfl) (He.meth_ok (c.d.fact 104 (f := .meth "Field" "minus") rfl)))
  m_Field_times := (zmd (c.d.def_ 56 (d := ⟨("Field", some "times"), "times", "Field.times", defArgs (inClass (topS 18) 7), defBody (inClass (topS 18) 7), defScope (inClass (topS 18) 7), [], []⟩) rfl) (He.meth_ok (c.d.fact 105 (f := .meth "Field" "times") rfl)))
  m_Field_over := (zmd (c.d.def_ 57 (d := ⟨("Field", some "over"), "over", "Field.over", defArgs (inClass (topS 18) 8), defBody (inClass (topS 18) 8), defScope (inClass (topS 18) 8), [], []⟩) rfl) (He.meth_ok (c.d.fact 106 (f := .meth "Field" "over") rfl)))
  m_Field_is_number := (zmd (c.d.def_ 58 (d := ⟨("Field", some "is_number"), "is_number", "Field.is_number", defArgs (inClass (topS 18) 9), defBody (inClass (topS 18) 9), defScope (inClass (topS 18) 9), [], []⟩) rfl) (He.meth_ok (c.d.fact 107 (f := .meth "Field" "is_number") rfl)))
  m_Lines_init := (zmd (c.d.def_ 59 (d := ⟨("Lines", some "__init__"), "__init__", "Lines.__init__", defArgs (inClass (topS 21) 0), defBody (inClass (topS 21) 0), defScope (inClass (topS 21) 0), [], []⟩) rfl) (He.meth_ok (c.d.fact 108 (f := .meth "Lines" "__init__") rfl)))
  m_Lines_less := (zmd (c.d.def_ 60 (d := ⟨("Lines", some "less"), "less", "Lines.less", defArgs (inClass (topS 21) 1), defBody (inClass (topS 21) 1), defScope (inClass (topS 21) 1), [], []⟩) rfl) (He.meth_ok (c.d.fact 109 (f := .meth "Lines" "less") rfl)))
  m_Lines_put := (zmd (c.d.def_ 61 (d := ⟨("Lines", some "put"), "put", "Lines.put", defArgs (inClass (topS 21) 2), defBody (inClass (topS 21) 2), defScope (inClass (topS 21) 2), [], []⟩) rfl) (He.meth_ok (c.d.fact 110 (f := .meth "Lines" "put") rfl)))
  m_Lines_made_of := (zmd (c.d.def_ 62 (d := ⟨("Lines", some "made_of"), "made_of", "Lines.made_of", defArgs (inClass (topS 21) 3), defBody (inClass (topS 21) 3), defScope (inClass (topS 21) 3), [], []⟩) rfl) (He.meth_ok (c.d.fact 111 (f := .meth "Lines" "made_of") rfl)))
  m_Lines_nought_on_all := (zmd (c.d.def_ 63 (d := ⟨("Lines", some "nought_on_all"), "nought_on_all", "Lines.nought_on_all", defArgs (inClass (topS 21) 5), defBody (inClass (topS 21) 5), defScope (inClass (topS 21) 5), [], []⟩) rfl) (He.meth_ok (c.d.fact 112 (f := .meth "Lines" "nought_on_all") rfl)))
  m_Sum_init := (zmd (c.d.def_ 64 (d := ⟨("Sum", some "__init__"), "__init__", "Sum.__init__", defArgs (inClass (topS 33) 0), defBody (inClass (topS 33) 0), defScope (inClass (topS 33) 0), [.non], []⟩) rfl) (He.meth_ok (c.d.fact 113 (f := .meth "Sum" "__init__") rfl)))
  m_Sum_eq := (zmd (c.d.def_ 65 (d := ⟨("Sum", some "__eq__"), "__eq__", "Sum.__eq__", defArgs (inClass (topS 33) 1), defBody (inClass (topS 33) 1), defScope (inClass (topS 33) 1), [], []⟩) rfl) (He.meth_ok (c.d.fact 114 (f := .meth "Sum" "__eq__") rfl)))
  m_Sum_field := (zmd (c.d.def_ 66 (d := ⟨("Sum", some "field"), "field", "Sum.field", defArgs (inClass (topS 33) 5), defBody (inClass (topS 33) 5), defScope (inClass (topS 33) 5), [], []⟩) rfl) (He.meth_ok (c.d.fact 115 (f := .meth "Sum" "field") rfl)))
  m_Sum_terms := (zmd (c.d.def_ 67 (d := ⟨("Sum", some "terms"), "terms", "Sum.terms", defArgs (inClass (topS 33) 6), defBody (inClass (topS 33) 6), defScope (inClass (topS 33) 6), [], []⟩) rfl) (He.meth_ok (c.d.fact 116 (f := .meth "Sum" "terms") rfl)))
  m_Sum_degree := (zmd (c.d.def_ 68 (d := ⟨("Sum", some "degree"), "degree", "Sum.degree", defArgs (inClass (topS 33) 7), defBody (inClass (topS 33) 7), defScope (inClass (topS 33) 7), [], []⟩) rfl) (He.meth_ok (c.d.fact 117 (f := .meth "Sum" "degree") rfl)))
  m_Sum_reach := (zmd (c.d.def_ 69 (d := ⟨("Sum", some "reach"), "reach", "Sum.reach", defArgs (inClass (topS 33) 8), defBody (inClass (topS 33) 8), defScope (inClass (topS 33) 8), [], []⟩) rfl) (He.meth_ok (c.d.fact 118 (f := .meth "Sum" "reach") rfl)))
  m_System_init := (zmd (c.d.def_ 70 (d := ⟨("System", some "__init__"), "__init__", "System.__init__", defArgs (inClass (topS 38) 0), defBody (inClass (topS 38) 0), defScope (inClass (topS 38) 0), [.non], []⟩) rfl) (He.meth_ok (c.d.fact 119 (f := .meth "System" "__init__") rfl)))
  m_System_eq := (zmd (c.d.def_ 71 (d := ⟨("System", some "__eq__"), "__eq__", "System.__eq__", defArgs (inClass (topS 38) 1), defBody (inClass (topS 38) 1), defScope (inClass (topS 38) 1), [], []⟩) rfl) (He.meth_ok (c.d.fact 120 (f := .meth "System" "__eq__") rfl)))
  m_System_field := (zmd (c.d.def_ 72 (d := ⟨("System", some "field"), "field", "System.field", defArgs (inClass (topS 38) 3), defBody (inClass (topS 38) 3), defScope (inClass (topS 38) 3), [], []⟩) rfl) (He.meth_ok (c.d.fact 121 (f := .meth "System" "field") rfl)))
  m_System_places := (zmd (c.d.def_ 73 (d := ⟨("System", some "places"), "places", "System.places", defArgs (inClass (topS 38) 4), defBody (inClass (topS 38) 4), defScope (inClass (topS 38) 4), [], []⟩) rfl) (He.meth_ok (c.d.fact 122 (f := .meth "System" "places") rfl)))
  m_System_noughts := (zmd (c.d.def_ 74 (d := ⟨("System", some "noughts"), "noughts", "System.noughts", defArgs (inClass (topS 38) 5), defBody (inClass (topS 38) 5), defScope (inClass (topS 38) 5), [], []⟩) rfl) (He.meth_ok (c.d.fact 123 (f := .meth "System" "noughts") rfl)))
theorem zty (X : K.In h) (G : h.Ns mainGlobals mg) (c : ZSays h K) : TY K mg (zB K) where
  FalseError := (He.glo_ok X G (c.d.fact 28 (f := .glo "FalseError") rfl))
  NoDegree := (He.glo_ok X G (c.d.fact 29 (f := .glo "NoDegree") rfl))
  NoFilling := (He.glo_ok X G (c.d.fact 30 (f := .glo "NoFilling") rfl))
  TooMany := (He.glo_ok X G (c.d.fact 31 (f := .glo "TooMany") rfl))
  ValueError := (He.free_ok X G (c.d.fact 15 (f := .free "ValueError") rfl))
  exc := (He.exc_ok (c.d.fact 124 (f := .exc "NoDegree") rfl)).1
  keep := (He.exc_ok (c.d.fact 124 (f := .exc "NoDegree") rfl)).2.1
  base := (He.exc_ok (c.d.fact 124 (f := .exc "NoDegree") rfl)).2.2.1
  type := (He.exc_ok (c.d.fact 124 (f := .exc "NoDegree") rfl)).2.2.2
  caught := (He.exm_ok (c.d.fact 125 (f := .exm "NoDegree" "FalseError" true) rfl))
  cls := zexc (zx c 8 rfl) (zx c 13 rfl) (He.exc_ok (c.d.fact 124 (f := .exc "NoDegree") rfl)).2.2.1
  isND := of_decide_eq_true (zx c 9 rfl)
  isNF := of_decide_eq_true (zx c 10 rfl)
  isTM := of_decide_eq_true (zx c 11 rfl)
  isVE := of_decide_eq_true (zx c 12 rfl)
theorem zlawD (c : ZSays h K) : ∃ fd, FunD K "law" "law" (defArgs (topS 83)) (defBody (topS 83)) (defScope (topS 83)) [] [] (He.ga K "law") fd ∧ fd.code = .ref (He.cT K zlaw).1 := by
  obtain ⟨fd, F⟩ := c.d.def_ 49 (d := ⟨("law", none), "law", "law", defArgs (topS 83), defBody (topS 83), defScope (topS 83), [], []⟩) rfl
  have F : FunD K "law" "law" (defArgs (topS 83)) (defBody (topS 83)) (defScope (topS 83)) [] [] (He.ga K "law") fd := F
  have F0 := F
  obtain ⟨oc, od, dV, kV, doc, pm, an, cdv, ct, osl, rfl, lk, hcd, _, _⟩ := F.ex
  obtain ⟨c, rfl⟩ := He.codeIn_ref hcd
  exact ⟨_, F0, by rw [show (He.cT K zlaw).1 = c from He.codeOf_eq (p := zlaw) lk rfl]⟩
theorem zlawG (X : K.In h) (G : h.Ns mainGlobals mg) (c : ZSays h K) : mg "law" = some (.ref (He.ga K "law")) := (He.glo_ok X G (c.d.fact 98 (f := .glo "law") rfl))
end
end FsR
end
section
/-! The law holds. -/
set_option Elab.async false
set_option linter.all false
set_option maxRecDepth 100000
set_option maxHeartbeats 0
namespace FsR
open PySem PySem.Spec PyProof.Rows L2 LamX
/-- the end of a law with tables, over a head by facts -/
theorem walk_ofZ {l : PySem.W.OpenLaw} {n k : Nat} {q : Program} {loose : List Str} {XP : (Str → Option Value) → Heap → Prop} {YP : World → Heap → Prop} {d : DefRec} {CX : World → CXT} {x : Str}
    (hn : l.most = some n) (hn2 : n ≤ sizeLine) (hdf : d.params.defaults = []) (hr : Room k callerA)
    (F : ∀ (w : World) (mg : Str → Option Value) (fa : Addr) (h : Heap), YP w h → h.Ns mainGlobals mg → mg d.name = some (.ref fa) → ∃ K : PySem.W.Frag, K.In h ∧ LawAtS l w K (CX w) k n x mg fa h)
    (hCX : ∀ (w : World) (H : Hp) (s : Shared) (e : Value) (s' : Shared), CX w [] H s (fun _ _ _ => False) e s' → False) :
    PySem.W.WalkO q loose XP YP l.row.toRowW d [] (fun f vs => PySem.call f vs) := by
  refine Att.attach_callB hn hdf fun w s₀ s₁ mg mb fa o pm cd doc a vs ns G Y ho hd hcd hmg hobj hints hlen hbits hg => ?_
  obtain ⟨K, KX, fd, cs, sp, hT, nT, C, hb, hsp, hF⟩ := F w mg fa _ Y G.T.g hmg
  exact law_callTs KX G.T.g G.T.b G.T.builtins G.T.nolimit hg hT nT C G.T.bmain hobj hints (Nat.le_trans hlen hn2) hr hF hb (fun H hH hS => hsp H a ns hlen hbits hH hS) fun H e s' => hCX w H s₁ e s'
theorem zfacts {P : Program} {K : PySem.W.Frag} {w : World} {h : Heap} {mg : Str → Option Value} {fa : Addr} (X : K.In h) (G : h.Ns mainGlobals mg) (c : ZSays h K) (hfa : mg ("law" : Str) = some (.ref fa)) :
    ∃ fd : FuncData, (∀ (s : Shared) (u : Value), BindsTo s fd ⟨[u], []⟩ [("_law_script", u)]) ∧ ∀ base : Heap, (∀ p ∈ [((zA K).gc, (zA K).gP), ((zA K).lc, (zA K).lP)], TabB base mg p.1 p.2) → FnOk P w K mg base CX0 11 fa fd ["_law_script"] (spLaw K (zA K)) := by
  obtain ⟨fd, F, hc⟩ := zlawD c
  have e := hfa.symm.trans (zlawG X G c)
  cases e
  have b := FunD.bindsA (ps := ["_law_script"]) F fun _ _ _ _ _ _ us hl => match us, hl with | [_], _ => rfl
  refine ⟨fd, fun s u => b s [u] rfl, fun base TB => ok_law (ztxt X G c) (zty X G c) ⟨TB _ List.mem_cons_self, TB _ (List.mem_cons_of_mem _ List.mem_cons_self), ?_⟩ F hc⟩
  have := zx c 14 rfl
  intro z
  rw [show decide ((He.cT K zgat).2 = (He.cT K zlaw).2) = true from decide_eq_true z] at this
  cases this
theorem zwalk {q : Program} {loose : List Str} {XP : (Str → Option Value) → Heap → Prop} : PySem.W.WalkO q loose XP zhook.says PySem.Challenge.rw_falsesums_k30_whole_one_of_the_two.row.toRowW (HandSHeadRun.topDef ZR.prog 83) [] (fun f vs => PySem.call f vs) := by
  refine walk_ofZ (l := PySem.Challenge.rw_falsesums_k30_whole_one_of_the_two) (n := 63) (k := 11) (x := "_law_script") (CX := fun _ => CX0) rfl (by decide) (by kernel_rfl) ⟨rfl, by decide, by decide⟩ ?F (fun _ _ _ _ _ z => z)
  intro w mg fa h ⟨K, KX, c⟩ G hmg0
  have hmg : mg ("law" : Str) = some (.ref fa) := by
    have e : (HandSHeadRun.topDef ZR.prog 83).name = ("law" : Str) := by kernel_rfl
    rw [← e]
    exact hmg0
  obtain ⟨fd, hb, hF⟩ := zfacts (P := (PySem.Challenge.rw_falsesums_k30_whole_one_of_the_two).prog) (w := w) KX G c hmg
  have two : ∀ (R : Addr × Addr → Prop), R ((zA K).gc, (zA K).gP) → R ((zA K).lc, (zA K).lP) → ∀ p ∈ [((zA K).gc, (zA K).gP), ((zA K).lc, (zA K).lP)], R p := fun R h1 h2 p hp => by
    rcases List.mem_cons.mp hp with rfl | hp
    · exact h1
    · rw [List.mem_singleton.mp hp]
      exact h2
  have g0 : zgat ∈ [zgat, zlaw] := List.mem_cons_self
  have l0 : zlaw ∈ [zgat, zlaw] := List.mem_cons_of_mem _ List.mem_cons_self
  refine ⟨K, KX, fd, [((zA K).gc, (zA K).gP), ((zA K).lc, (zA K).lP)], spLaw K (zA K), two _ (c.empty _ g0) (c.empty _ l0), two _ (c.out _ g0) (c.out _ l0), two _ (PySem.W.codeHd_of_K KX (c.hd _ g0)) (PySem.W.codeHd_of_K KX (c.hd _ l0)), hb, fun H a ns _ _ hH hS => ⟨a, ns, rfl, hS, fun p hp => ?_, fun _ => rfl⟩, fun base _ _ TB => hF base TB⟩
  simp only [Ad.tabs, List.mem_cons, List.not_mem_nil, or_false] at hp
  rcases hp with rfl | rfl
  · exact TabS.nil (hH _ List.mem_cons_self)
  · exact TabS.nil (hH _ (List.mem_cons_of_mem _ List.mem_cons_self))
end FsR
end
set_option maxHeartbeats 0
open PySem PySem.W PySem.Calls PyProof.Rows
theorem PySem.Challenge.cw_falsesums_k30_whole_one_of_the_two_holds : PySem.Challenge.rw_falsesums_k30_whole_one_of_the_two.Holds := by
  w_on; o_law
  refine HandSHeadRun.head_any (r := FsR.ZR) (q := FsR.zv) (H := FsR.zhook) (ob := FsR.zob) (M := 20000) (loose := FsR.znames) (d := HandSHeadRun.topDef FsR.ZR.prog 83) (kwd := []) FsR.zob_eq
    (by kernel_rfl) (fun s => by kernel_rfl) FsR.zrun (by kernel_rfl) (by kernel_rfl) (by kernel_rfl) (by rfl) (by first | assumption | decide +kernel) (by decide +kernel) ⟨rfl, rfl, rfl, rfl, rfl, by decide +kernel⟩ ?hw ?hc
  case hw => w_witness2
  case hc => exact FsR.zwalk
